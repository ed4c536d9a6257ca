import PyProof.Rows.All
import Wide.All
import OpenK.AllK
import Wide.FinOn
import PyProof.EqAt
import PyProof.EqKinds
import PyProof.P3Eq
import PyProof.TupleCall
import HandS.ForMost
import HandS.Style
import HandS.TupMul
import HandS.Conv
import HandS.EndBits
import HandS.IsInst
import HandS.Walk
import HandS.Wide
import HandS.Flow
import HandS.CallLocal
import HandS.Nested
import HandS.Lambda
import HandS.EndTab
import KE.GoesEnumKw
import KE.GoesNew
import KE.KExcIs
import HandS.ExcInit
import HandS.ExcField
import HandS.ExcOwn
import HandS.ExcIs
import HandS.WordsExc
import PyProof.SeqIndex
import KE.KDictPairs
import HandS.ListItems
import HandS.MakeKw
import HandS.MakeKwOnly
import HandS.More
import HandS.TupAny
import KE.KSortKeySt
import PyProof.CollectIter
import PyProof.WalksMore
import HandS.DeepEq
import PyProof.StrOps2
import HandS.NoneIn
import HandS.Replace
import HandS.DictComp
import HandS.Zip
import HandS.Wide
import KE.KNestM
import PySem.Challenge.RW_thingwires_k21_plain_things_turned
set_option Elab.async false
set_option linter.all false
set_option maxRecDepth 100000
set_option maxHeartbeats 4000000
/-! Kb: joined rules (one rule a construct, whatever the kind of value), what a def of the text promises (Cal), heaps that keep all but some places -/
namespace Kb
open PySem PySem.Spec PyProof.Rows L2

/-! ### joined operators: each reading is opened by its own lemmas alone -/
/-- list + list, of any lists that are read -/
def rCatS (K : PySem.W.Frag) : R2 := fun x y H Q => ∃ l b xs zs, x = .ref l ∧ y = .ref b ∧ SqL K H l xs ∧ SqL K H b zs ∧ xs.length + zs.length ≤ sizeLine ∧ ∀ p, H p = none → Q (.ref p) (upd H p (.lst (xs ++ zs)))
theorem op_catS {X : Cx} : OpR X (binaryOp .Add) (rCatS X.K) := by
  intro pins s σ H x y v u Q I rx ry h
  obtain ⟨l, b, xs, zs, rfl, rfl, hH, hB, hz, q⟩ := h
  cases rx
  cases ry
  obtain ⟨its, r, ⟨⟨cls, dd, data, sl⟩, n, ho, hc, hd, hs⟩, hl⟩ := I.list hH
  obtain ⟨its2, r2, ⟨⟨cls2, dd2, data2, sl2⟩, n2, ho2, hc2, hd2, hs2⟩, hl2⟩ := I.list hB
  simp only at hc hs hc2 hs2
  subst hc hs hc2 hs2
  have e1 := r.length
  have e2 := r2.length
  have ea : its.toArray ++ its2.toArray = (its ++ its2).toArray := by simp
  refine concat_meets ⟨_, ho, rfl⟩ ⟨_, ho2, rfl⟩ noFill_list_add seq_list_add PySem.F.slot_list_add PySem.F.entry_list_add (PySem.F.args_list_add_2 _ _) (list_addW l b its.toArray its2.toArray n n2 dd dd2 sl sl2 (by simp only [List.size_toArray]; omega)) ⟨ho, ho2, ?_⟩
  rw [ea]
  exact ⟨.ref _, _, I.lnew (t' := s.toks) (r.append r2) (by rw [List.length_append]; omega), rfl, q _ I.fresh⟩
@[irreducible] def rAddU (K : PySem.W.Frag) : R2 := fun x y H Q => rI0 (fun i j => .int (i + j)) x y H Q ∨ (∃ i j, x = .str i ∧ y = .str j ∧ i.length + j.length ≤ sizeLine ∧ Q (.str (i ++ j)) H) ∨ rCatS K x y H Q ∨ rCatT K x y H Q
@[irreducible] def rSubU : R2 := rI0 fun i j => .int (i - j)
@[irreducible] def rMulU (K : PySem.W.Frag) : R2 := fun x y H Q => rI CMul (fun i j => .int (i * j)) x y H Q ∨ rRep x y H Q ∨ rRepT K x y H Q
@[irreducible] def rDivU : R2 := rI CDiv fun i j => .int (i / j)
@[irreducible] def rDivW : R2 := rI CDivW fun i j => .int (i / j)
@[irreducible] def rModU : R2 := rI (fun _ j => 0 < j) fun i j => .int (i % j)
@[irreducible] def rPowU : R2 := rI CPow fun i j => .int (i ^ j.toNat)
@[irreducible] def rEqU (K : PySem.W.Frag) : R2 := fun x y H Q => rEq x y H Q ∨ rEqD K x y H Q
@[irreducible] def rNeU (K : PySem.W.Frag) : R2 := fun x y H Q => rNe x y H Q ∨ rNeD K x y H Q
@[irreducible] def rLtU : R2 := fun x y H Q => rI0 (fun i j => .bl (decide (i < j))) x y H Q ∨ ∃ i j, x = .str i ∧ y = .str j ∧ Q (.bl (decide (i.cps.toList < j.cps.toList))) H
@[irreducible] def rLeU : R2 := rI0 fun i j => .bl (decide (i ≤ j))
@[irreducible] def rGtU : R2 := fun x y H Q => rI0 (fun i j => .bl (decide (j < i))) x y H Q ∨ ∃ i j, x = .str i ∧ y = .str j ∧ Q (.bl (decide (j.cps.toList < i.cps.toList))) H
@[irreducible] def rGeU : R2 := rI0 fun i j => .bl (decide (j ≤ i))
@[irreducible] def rIsNU : R2 := fun x y H Q => y = .non ∧ Q (.bl (decide (x = .non))) H
@[irreducible] def rNotNU : R2 := fun x y H Q => y = .non ∧ Q (.bl (!decide (x = .non))) H
@[irreducible] def rInU (K : PySem.W.Frag) : R2 := fun x y H Q => (∃ (c : Nat) (z : Str), x = .str ⟨#[c]⟩ ∧ y = .str z ∧ Q (.bl (decide (c ∈ z.cps.toList))) H) ∨ rIn K false x y H Q
@[irreducible] def rNotInU (K : PySem.W.Frag) : R2 := fun x y H Q => (∃ (c : Nat) (z : Str), x = .str ⟨#[c]⟩ ∧ y = .str z ∧ Q (.bl (!decide (c ∈ z.cps.toList))) H) ∨ rIn K true x y H Q
@[irreducible] def rIxU (K : PySem.W.Frag) : R2 := rIx K
@[irreducible] def rSetU : V → V → V → Hp → (Hp → Prop) → Prop := rSetL
@[irreducible] def rIAddU : R2 := fun x y H Q => rI0 (fun i j => .int (i + j)) x y H Q ∨ (∃ i j, x = .str i ∧ y = .str j ∧ i.length + j.length ≤ sizeLine ∧ Q (.str (i ++ j)) H) ∨ rExt2 x y H Q
@[irreducible] def rISubU : R2 := rI0 fun i j => .int (i - j)
@[irreducible] def rIModU : R2 := rI (fun _ j => 0 < j) fun i j => .int (i % j)
@[irreducible] def rNegU : V → Hp → VK → Prop := rU fun i => .int (-i)
section
variable {X : Cx}
theorem u_add : OpR X (binaryOp .Add) (rAddU X.K) := by unfold rAddU; exact op_add.or (op_add_str.or (op_catS.or op_catT))
theorem u_sub : OpR X (binaryOp .Sub) rSubU := by unfold rSubU; exact op_sub
theorem u_mul : OpR X (binaryOp .Mult) (rMulU X.K) := by unfold rMulU; exact op_mul.or (op_rep.or op_repT)
theorem u_div : OpR X (binaryOp .FloorDiv) rDivU := by unfold rDivU; exact op_fdiv
theorem u_mod : OpR X (binaryOp .Mod) rModU := by unfold rModU; exact op_mod
theorem u_pow : OpR X (binaryOp .Pow) rPowU := by unfold rPowU; exact op_pow
theorem u_eq (hu : X.A.units + 64 < cLine) : OpR X (compareOp .Eq) (rEqU X.K) := by unfold rEqU; exact op_eq.or (op_eqD hu)
theorem u_ne (hu : X.A.units + 64 < cLine) : OpR X (compareOp .NotEq) (rNeU X.K) := by unfold rNeU; exact op_ne.or (op_neD hu)
theorem u_lt : OpR X (compareOp .Lt) rLtU := by unfold rLtU; exact op_lt.or op_lt_str
theorem u_le : OpR X (compareOp .LtE) rLeU := by unfold rLeU; exact op_le
theorem u_gt : OpR X (compareOp .Gt) rGtU := by unfold rGtU; exact op_gt.or op_gt_str
theorem u_ge : OpR X (compareOp .GtE) rGeU := by unfold rGeU; exact op_ge
theorem u_isN : OpR X (compareOp .Is) rIsNU := by unfold rIsNU; exact op_isN
theorem u_notN : OpR X (compareOp .IsNot) rNotNU := by unfold rNotNU; exact op_notN
theorem u_in : OpR X (compareOp .In) (rInU X.K) := by unfold rInU; exact op_in_sign.or op_in_seq
theorem u_notIn : OpR X (compareOp .NotIn) (rNotInU X.K) := by unfold rNotInU; exact op_notIn_sign.or op_notIn_seq
theorem u_ix : IxR X (rIxU X.K) := by unfold rIxU; exact ix_seq
theorem u_set : PSet X rSetU := by unfold rSetU; exact set_list
theorem u_iadd : PIp X .Add rIAddU := by unfold rIAddU; exact iop_add.or (iop_add_str.or iop_ext)
theorem u_isub : PIp X .Sub rISubU := by unfold rISubU; exact iop_sub
theorem u_imod : PIp X .Mod rIModU := by unfold rIModU; exact iop_mod
theorem u_neg : UnR X (unaryOp .USub) rNegU := by unfold rNegU; exact un_neg
end
theorem sz_of' {n : Nat} (h : n ≤ 16777216) : n ≤ sizeLine := Nat.le_trans h (by decide)
theorem szlt_of {n : Nat} (h : n < 16777216) : n < sizeLine := Nat.lt_of_lt_of_le h (by decide)
theorem cmul_l {i j : Int} (a : -18446744073709551616 < i) (b : i < 18446744073709551616) : CMul i j := .inl ⟨a, b⟩
theorem cmul_r {i j : Int} (a : -18446744073709551616 < j) (b : j < 18446744073709551616) : CMul i j := .inr ⟨a, b⟩
section
variable {K : PySem.W.Frag} {H : Hp} {Q : VK} {i j : Int} {x y : V} {a b : Addr} {xs ys : List V}
theorem add_go (q : Q (.int (i + j)) H) : rAddU K (.int i) (.int j) H Q := by unfold rAddU; exact .inl ⟨_, _, rfl, rfl, q⟩
theorem addS_go {u v : Str} (h : u.length + v.length ≤ 16777216) (q : Q (.str (u ++ v)) H) : rAddU K (.str u) (.str v) H Q := by unfold rAddU; exact .inr (.inl ⟨_, _, rfl, rfl, sz_of' h, q⟩)
theorem addLS_go (ha : SqL K H a xs) (hb : SqL K H b ys) (h : xs.length + ys.length ≤ 16777216) (q : ∀ p, H p = none → Q (.ref p) (upd H p (.lst (xs ++ ys)))) : rAddU K (.ref a) (.ref b) H Q := by
  unfold rAddU; exact .inr (.inr (.inl ⟨_, _, _, _, rfl, rfl, ha, hb, sz_of' h, q⟩))
theorem addL_go (ha : H a = some (.lst xs)) (hb : H b = some (.lst ys)) (h : xs.length + ys.length ≤ 16777216) (q : ∀ p, H p = none → Q (.ref p) (upd H p (.lst (xs ++ ys)))) : rAddU K (.ref a) (.ref b) H Q := addLS_go (SqL.of ha) (SqL.of hb) h q
theorem addT_go (ha : SqT K H a xs) (hb : SqT K H b ys) (h0 : xs ≠ []) (h : xs.length + ys.length ≤ 16777216) (q0 : ys = [] → Q (.ref a) H) (q : ys ≠ [] → ∀ p, H p = none → Q (.ref p) (upd H p (.tup (xs ++ ys)))) : rAddU K (.ref a) (.ref b) H Q := by
  unfold rAddU; exact .inr (.inr (.inr ⟨_, _, _, _, rfl, rfl, ha, hb, h0, sz_of' h, q0, q⟩))
theorem sub_go (q : Q (.int (i - j)) H) : rSubU (.int i) (.int j) H Q := by unfold rSubU; exact ⟨_, _, rfl, rfl, q⟩
theorem mul_goL (a : -18446744073709551616 < i) (b : i < 18446744073709551616) (q : Q (.int (i * j)) H) : rMulU K (.int i) (.int j) H Q := by unfold rMulU; exact .inl ⟨_, _, rfl, rfl, cmul_l a b, q⟩
theorem mul_goR (a : -18446744073709551616 < j) (b : j < 18446744073709551616) (q : Q (.int (i * j)) H) : rMulU K (.int i) (.int j) H Q := by unfold rMulU; exact .inl ⟨_, _, rfl, rfl, cmul_r a b, q⟩
theorem rep_go (ha : H a = some (.lst xs)) (h0 : -9223372036854775808 ≤ i) (h1 : i < 9223372036854775808) (h : xs.length * i.toNat ≤ 16777216) (q : ∀ p, H p = none → Q (.ref p) (upd H p (.lst (List.replicate i.toNat xs).flatten))) : rMulU K (.ref a) (.int i) H Q := by
  unfold rMulU; exact .inr (.inl ⟨_, _, _, rfl, rfl, ha, h0, h1, sz_of' h, q⟩)
theorem div_go (a : 0 < j) (b : j < 1073741824) (q : Q (.int (i / j)) H) : rDivU (.int i) (.int j) H Q := by unfold rDivU; exact ⟨_, _, rfl, rfl, ⟨a, b⟩, q⟩
theorem divW_go (h : CDivW i j) (q : Q (.int (i / j)) H) : rDivW (.int i) (.int j) H Q := by unfold rDivW; exact ⟨_, _, rfl, rfl, h, q⟩
theorem mod_go (a : 0 < j) (q : Q (.int (i % j)) H) : rModU (.int i) (.int j) H Q := by unfold rModU; exact ⟨_, _, rfl, rfl, a, q⟩
theorem pow_go (a : 0 ≤ j) (b : j ≤ 1000000) (c : i.natAbs < 2 ^ 64) (q : Q (.int (i ^ j.toNat)) H) : rPowU (.int i) (.int j) H Q := by unfold rPowU; exact ⟨_, _, rfl, rfl, ⟨a, b, c⟩, q⟩
theorem neg_go (q : Q (.int (-i)) H) : rNegU (.int i) H Q := by unfold rNegU; exact ⟨_, rfl, q⟩
theorem dInt : decide (V.int i = V.int j) = decide (i = j) := by simp
theorem dStr {u v : Str} : decide (V.str u = V.str v) = decide (u = v) := by simp
theorem dBl {u v : Bool} : decide (V.bl u = V.bl v) = decide (u = v) := by simp
theorem eq_go (q : Q (.bl (decide (i = j))) H) : rEqU K (.int i) (.int j) H Q := by unfold rEqU; exact .inl ⟨rfl, by rw [dInt]; exact q⟩
theorem eqS_go {u v : Str} (q : Q (.bl (decide (u = v))) H) : rEqU K (.str u) (.str v) H Q := by unfold rEqU; exact .inl ⟨rfl, by rw [dStr]; exact q⟩
theorem eqB_go {u v : Bool} (q : Q (.bl (decide (u = v))) H) : rEqU K (.bl u) (.bl v) H Q := by unfold rEqU; exact .inl ⟨rfl, by rw [dBl]; exact q⟩
theorem eqN_go (q : Q (.bl true) H) : rEqU K .non .non H Q := by unfold rEqU; exact .inl ⟨rfl, q⟩
theorem eqD_go {d e : PyData} (hx : Dp K H x d) (hy : Dp K H y e) (sx : SeqAt.shaped d = true) (sy : SeqAt.shaped e = true) (q : Q (.bl (PyData.eqv d e)) H) : rEqU K x y H Q := by unfold rEqU; exact .inr ⟨d, e, hx, hy, sx, sy, q⟩
theorem ne_go (q : Q (.bl (!decide (i = j))) H) : rNeU K (.int i) (.int j) H Q := by unfold rNeU; exact .inl ⟨rfl, by rw [dInt]; exact q⟩
theorem neS_go {u v : Str} (q : Q (.bl (!decide (u = v))) H) : rNeU K (.str u) (.str v) H Q := by unfold rNeU; exact .inl ⟨rfl, by rw [dStr]; exact q⟩
theorem neB_go {u v : Bool} (q : Q (.bl (!decide (u = v))) H) : rNeU K (.bl u) (.bl v) H Q := by unfold rNeU; exact .inl ⟨rfl, by rw [dBl]; exact q⟩
theorem neD_go {d e : PyData} (hx : Dp K H x d) (hy : Dp K H y e) (sx : SeqAt.shaped d = true) (sy : SeqAt.shaped e = true) (q : Q (.bl (!PyData.eqv d e)) H) : rNeU K x y H Q := by unfold rNeU; exact .inr ⟨d, e, hx, hy, sx, sy, q⟩
theorem lt_go (q : Q (.bl (decide (i < j))) H) : rLtU (.int i) (.int j) H Q := by unfold rLtU; exact .inl ⟨_, _, rfl, rfl, q⟩
theorem ltS_go {u v : Str} (q : Q (.bl (decide (u.cps.toList < v.cps.toList))) H) : rLtU (.str u) (.str v) H Q := by unfold rLtU; exact .inr ⟨_, _, rfl, rfl, q⟩
theorem le_go (q : Q (.bl (decide (i ≤ j))) H) : rLeU (.int i) (.int j) H Q := by unfold rLeU; exact ⟨_, _, rfl, rfl, q⟩
theorem gt_go (q : Q (.bl (decide (j < i))) H) : rGtU (.int i) (.int j) H Q := by unfold rGtU; exact .inl ⟨_, _, rfl, rfl, q⟩
theorem gtS_go {u v : Str} (q : Q (.bl (decide (v.cps.toList < u.cps.toList))) H) : rGtU (.str u) (.str v) H Q := by unfold rGtU; exact .inr ⟨_, _, rfl, rfl, q⟩
theorem ge_go (q : Q (.bl (decide (j ≤ i))) H) : rGeU (.int i) (.int j) H Q := by unfold rGeU; exact ⟨_, _, rfl, rfl, q⟩
theorem isN_go (q : Q (.bl (decide (x = .non))) H) : rIsNU x .non H Q := by unfold rIsNU; exact ⟨rfl, q⟩
theorem notN_go (q : Q (.bl (!decide (x = .non))) H) : rNotNU x .non H Q := by unfold rNotNU; exact ⟨rfl, q⟩
theorem inC_go {c : Nat} {z : Str} (q : Q (.bl (decide (c ∈ z.cps.toList))) H) : rInU K (.str ⟨#[c]⟩) (.str z) H Q := by unfold rInU; exact .inl ⟨_, _, rfl, rfl, q⟩
theorem inL_go (h : SqL K H a xs) (fx : flatV x = true) (fs : xs.all flatV = true) (q : Q (.bl (inV x xs)) H) : rInU K x (.ref a) H Q := by unfold rInU; exact .inr ⟨_, _, rfl, .inl h, fx, fs, q⟩
theorem inT_go (h : SqT K H a xs) (fx : flatV x = true) (fs : xs.all flatV = true) (q : Q (.bl (inV x xs)) H) : rInU K x (.ref a) H Q := by unfold rInU; exact .inr ⟨_, _, rfl, .inr h, fx, fs, q⟩
theorem notInC_go {c : Nat} {z : Str} (q : Q (.bl (!decide (c ∈ z.cps.toList))) H) : rNotInU K (.str ⟨#[c]⟩) (.str z) H Q := by unfold rNotInU; exact .inl ⟨_, _, rfl, rfl, q⟩
theorem notInL_go (h : SqL K H a xs) (fx : flatV x = true) (fs : xs.all flatV = true) (q : Q (.bl (!inV x xs)) H) : rNotInU K x (.ref a) H Q := by unfold rNotInU; exact .inr ⟨_, _, rfl, .inl h, fx, fs, q⟩
theorem ixL_go (h : SqL K H a xs) (e : atI xs i = some x) (q : Q x H) : rIxU K (.ref a) (.int i) H Q := by unfold rIxU; exact .inl ⟨_, _, _, _, rfl, rfl, h, e, q⟩
theorem ixT_go (h : SqT K H a xs) (e : atI xs i = some x) (q : Q x H) : rIxU K (.ref a) (.int i) H Q := by unfold rIxU; exact .inr (.inl ⟨_, _, _, _, rfl, rfl, h, e, q⟩)
theorem ixS_go {z : Str} {c : Nat} (h : z.length ≤ 16777216) (e : atI z.cps.toList i = some c) (q : Q (.str ⟨#[c]⟩) H) : rIxU K (.str z) (.int i) H Q := by unfold rIxU; exact .inr (.inr ⟨_, _, _, rfl, rfl, sz_of' h, e, q⟩)
theorem set_go {k : Nat} {Q : Hp → Prop} (h : H a = some (.lst xs)) (e : ixN xs.length i = some k) (q : Q (upd H a (.lst (xs.set k x)))) : rSetU (.ref a) (.int i) x H Q := by unfold rSetU; exact ⟨_, _, _, _, rfl, rfl, h, e, q⟩
theorem iadd_go (q : Q (.int (i + j)) H) : rIAddU (.int i) (.int j) H Q := by unfold rIAddU; exact .inl ⟨_, _, rfl, rfl, q⟩
theorem iaddS_go {u v : Str} (h : u.length + v.length ≤ 16777216) (q : Q (.str (u ++ v)) H) : rIAddU (.str u) (.str v) H Q := by unfold rIAddU; exact .inr (.inl ⟨_, _, rfl, rfl, sz_of' h, q⟩)
theorem iaddL_go (ha : H a = some (.lst xs)) (hb : H b = some (.lst ys)) (h : xs.length + ys.length ≤ 16777216) (q : Q (.ref a) (upd H a (.lst (xs ++ ys)))) : rIAddU (.ref a) (.ref b) H Q := by
  unfold rIAddU; exact .inr (.inr ⟨_, _, _, _, rfl, rfl, ha, hb, sz_of' h, q⟩)
theorem isub_go (q : Q (.int (i - j)) H) : rISubU (.int i) (.int j) H Q := by unfold rISubU; exact ⟨_, _, rfl, rfl, q⟩
theorem imod_go (a : 0 < j) (q : Q (.int (i % j)) H) : rIModU (.int i) (.int j) H Q := by unfold rIModU; exact ⟨_, _, rfl, rfl, a, q⟩
end

/-! ### names of the module -/
section
variable {X : Cx} {x : Str} {pos : Pos}
theorem pe_gint {i : Int} (hg : Gl X x) (hm : ∃ t, X.mg x = some (.int i t)) (hd : (x == ("__debug__" : Str)) = false := by decide) : PE X (.Name x pos) (tC (.int i)) := by
  obtain ⟨t, hm⟩ := hm
  exact pe_glob hg hm ⟨t, rfl⟩ hd
theorem pe_gstr {i : Str} (hg : Gl X x) (hm : ∃ t, X.mg x = some (.str i t)) (hd : (x == ("__debug__" : Str)) = false := by decide) : PE X (.Name x pos) (tC (.str i)) := by
  obtain ⟨t, hm⟩ := hm
  exact pe_glob hg hm ⟨t, rfl⟩ hd
end

/-! ### defs of the text -/
def Def (K : PySem.W.Frag) (mg : Str → Option Value) (st : Stmt) (x : Str) : Prop := ∃ f fd, mg x = some (.ref f) ∧ Fun K x x st f fd
def FdAt (K : PySem.W.Frag) (f : Addr) (fd : FuncData) : Prop := ∃ oc od osl, K.lookup f = some ⟨oc, od, .func fd, osl⟩
theorem FdAt.eq {K : PySem.W.Frag} {f : Addr} {fd fd' : FuncData} (a : FdAt K f fd) (b : FdAt K f fd') : fd = fd' := by
  obtain ⟨_, _, _, a⟩ := a
  obtain ⟨_, _, _, b⟩ := b
  rw [a] at b
  cases b
  rfl
theorem Fun.at_ {K : PySem.W.Frag} {x qual : Str} {st : Stmt} {f : Addr} {fd : FuncData} (F : Fun K x qual st f fd) : FdAt K f fd := by
  obtain ⟨oc, od, kV, doc, pm, an, cdv, ct, osl, rfl, lk, hcd⟩ := F.ex
  exact ⟨oc, od, osl, lk⟩
/-- the def x of the module keeps the promise sp -/
structure Cal (P : Program) (w : World) (K : PySem.W.Frag) (mg : Str → Option Value) (base : Heap) (CX : CXT) (k : Nat) (x : Str) (ps : List Str) (sp : Sp) : Prop where
  ex : ∃ f fd, mg x = some (.ref f) ∧ FnOk P w K mg base CX k f fd ps sp ∧ PySem.W.keepIn K (.ref f) = true ∧ (∀ us : List Value, us.length = ps.length → bindArgs fd ⟨us, []⟩ = pure (ps.zip us)) ∧ FdAt K f fd
section
variable {P : Program} {w : World} {K : PySem.W.Frag} {mg : Str → Option Value} {base : Heap}
theorem Cal.of {x : Str} {st : Stmt} {N ps : List Str} {k : Nat} {sp : Sp} (D : Def K mg st x) (S : FnScope N ps (defScope st))
    (hb : ∀ (kV doc pm : Value) (an : Option Addr) (cdv ct : Value) (us : List Value), us.length = ps.length → bindArgs (PySem.W.fnOf x x (defArgs st) (defBody st) (defScope st) .none kV doc pm an cdv ct) ⟨us, []⟩ = pure (ps.zip us))
    (len : ∀ vs H Q E, sp vs H Q E → vs.length = ps.length)
    (hbody : ∀ (f : Addr) (cdv : Value) (A : Around) (outer : List Env) (s : Shared) (H : Hp) (vs : List V) (Q : VK) (E : XK), Room k (A.deeper (envOfC x (defScope st) s.heap.objs.size f cdv)) → sp vs H Q E →
      ∃ t, PSs (cxOf CX0 P w K mg base N x (defScope st) f cdv A outer s H E).nox (defBody st) t ∧ t { nx := fun _ H' => Q .non H', rt := Q } (start N vs) H) : Cal P w K mg base CX0 (k + 1) x ps sp := by
  obtain ⟨f, fd, hm, F⟩ := D
  refine ⟨f, fd, hm, F.ok S len (hbody f), F.kp, ?_, Fun.at_ F⟩
  obtain ⟨oc, od, kV, doc, pm, an, cdv, ct, osl, rfl, lk, hcd⟩ := F.ex
  exact hb kV doc pm an cdv ct
theorem Cal.bound {CX : CXT} {k : Nat} {x : Str} {ps : List Str} {sp : Sp} (C : Cal P w K mg base CX k x ps sp) : ∃ f fd, mg x = some (.ref f) ∧ FnOk P w K mg base CX k f fd ps sp ∧ PySem.W.keepIn K (.ref f) = true ∧ Binds K fd ps [] := by
  obtain ⟨f, fd, a, b, c, d, _⟩ := C.ex
  exact ⟨f, fd, a, b, c, .all d⟩
theorem Cal.end_ {x y : Str} {st : Stmt} {k : Nat} {sp : Sp} {fa : Addr} (D : Def K mg st x) (C : ∀ base : Heap, Cal P w K mg base CX0 k x [y] sp) (h : mg x = some (.ref fa)) :
    ∃ fd : FuncData, (∀ (s : Shared) (v : Value), BindsTo s fd ⟨[v], []⟩ [(y, v)]) ∧ ∀ base : Heap, K.In base → base.Ns mainGlobals mg → FnOk P w K mg base CX0 k fa fd [y] sp := by
  obtain ⟨f, fd, hm, F⟩ := D
  have e := h.symm.trans hm
  cases e
  have key : ∀ base : Heap, FnOk P w K mg base CX0 k fa fd [y] sp ∧ ∀ us : List Value, us.length = [y].length → bindArgs fd ⟨us, []⟩ = pure ([y].zip us) := fun base => by
    obtain ⟨f', fd', hm', G, _, hb, hA⟩ := (C base).ex
    have e := hm'.symm.trans hm
    cases e
    have e2 := hA.eq (Fun.at_ F)
    subst e2
    exact ⟨G, hb⟩
  exact ⟨fd, fun s v => .of_eq ((key default).2 [v] rfl), fun base _ _ => (key base).1⟩
end
section
variable {X : Cx} {CX : CXT} {k : Nat} {x : Str} {ps : List Str} {sp : Sp} {E : XK} {e : Expr} {es : List Expr} {t : TA} {p pos : Pos}
theorem pe_callC (C : Cal X.prog X.w X.K X.mg X.base CX k x ps sp) (hr : Room k X.A) (hg : Gl X x) (hx : Passes CX X E)
    (ha : PA X (e :: es) t) (hdb : (x == ("__debug__" : Str)) = false := by decide) (he : starEach (e :: es) X.env = (false, eval e X.env) :: starEach es X.env := by rfl) (hpl : (backTo pos (starEach es X.env)).any (·.1) = false := by rfl) :
    PE X (.Call (.Name x p) (e :: es) [] pos) (tCall sp [] E t) := by
  obtain ⟨f, fd, hm, F, hk, hb⟩ := C.bound
  exact pe_call F hr hg hm hk hb .nil hx ha hdb he hpl
theorem pe_callC0 (C : Cal X.prog X.w X.K X.mg X.base CX k x ps sp) (hr : Room k X.A) (hg : Gl X x) (hx : Passes CX X E)
    (hdb : (x == ("__debug__" : Str)) = false := by decide) : PE X (.Call (.Name x p) [] [] pos) (tCall sp [] E tNil) := by
  obtain ⟨f, fd, hm, F, hk, hb⟩ := C.bound
  exact pe_call0 F hr hg hm hk hb .nil hx hdb
/-- f(k = v): all by names -/
theorem pe_callK0 {f : Addr} {fd : FuncData} {ks : List Str} {g : List Value → List Value → List Value} {gV : List V → List V → List V} {kws : List Keyword} {tk : TA} (F : FnOk X.prog X.w X.K X.mg X.base CX k f fd ps sp) (hr : Room k X.A) (hg : Gl X x) (hm : X.mg x = some (.ref f)) (hk : PySem.W.keepIn X.K (.ref f) = true) (hb : KBinds X.K fd ps ks g gV) (hx : Passes CX X E)
    (hkw : PK X kws tk) (hall : (backToKw pos (keywordEach kws X.env)).all (·.1.isSome) = true := by rfl) (hks : (backToKw pos (keywordEach kws X.env)).filterMap (·.1) = ks := by rfl)
    (hdb : (x == ("__debug__" : Str)) = false := by decide)
    (hpl : ((backTo pos (starEach [] X.env)).any (·.1) || (backToKw pos (keywordEach kws X.env)).any (·.1.isNone)) = false := by rfl) :
    PE X (.Call (.Name x p) [] kws pos) (tCallK sp gV E tNil tk) := by
  refine ⟨fun pins s σ H Q I h => ?_⟩
  refine wpAny_Call_Name_kw (ld_glob I hg hm ?_ hdb)
  refine PySem.W.callWith_KW0 (h₀ := X.base) I.ok.mod.kin hk hall ?_ hpl
  have h : tk σ H fun zs H2 => sp (gV [] zs) H2 Q E := h
  refine thn (hkw.run pos pins s σ H _ I h) fun ws s2 ⟨zs, H2, I2, rz, q2⟩ => ⟨I2.kIn, ?_⟩
  rw [hks]
  exact run_fnk (us := []) (vs := []) F hr hb hx I2 .nil rz q2
end

/-! ### joined calls of built-ins -/
@[irreducible] def rLenU (K : PySem.W.Frag) : List V → Hp → VK → Prop := fun xs H Q => (∃ x n, xs = [x] ∧ LenV K x H n ∧ Q (.int n) H) ∨ ∃ a kvs, xs = [V.ref a] ∧ H a = some (.dK kvs) ∧ Q (.int kvs.length) H
@[irreducible] def rIsiU (K : PySem.W.Frag) : List V → Hp → VK → Prop := fun xs H Q => rIsi K xs H Q ∨ rIsiT K xs H Q
@[irreducible] def rIntU : List V → Hp → VK → Prop := fun xs H Q => (∃ i, xs = [.int i] ∧ Q (.int i) H) ∨ ∃ k, xs = [.bl k] ∧ Q (.int (if k then 1 else 0)) H
@[irreducible] def rBoolU : List V → Hp → VK → Prop := fun xs H Q => (∃ i, xs = [.int i] ∧ Q (.bl (i != 0)) H) ∨ ∃ k, xs = [.bl k] ∧ Q (.bl k) H
@[irreducible] def rAbsU : List V → Hp → VK → Prop := fun xs H Q => ∃ i, xs = [.int i] ∧ Q (.int (if i < 0 then -i else i)) H
@[irreducible] def rOrdU : List V → Hp → VK → Prop := fun xs H Q => ∃ x, xs = [.str x] ∧ x.length = 1 ∧ Q (.int (x.cps.getD 0 0 : Nat)) H
@[irreducible] def rListU (K : PySem.W.Frag) : List V → Hp → VK → Prop := fun xs H Q => ∃ p ys, xs = [.ref p] ∧ (SqL K H p ys ∨ SqT K H p ys) ∧ ∀ l, H l = none → Q (.ref l) (upd H l (.lst ys))
@[irreducible] def rTupleU (K : PySem.W.Frag) : List V → Hp → VK → Prop := fun xs H Q => ∃ p ys, xs = [.ref p] ∧ ((SqL K H p ys ∧ ∀ l, H l = none → Q (.ref l) (upd H l (.tup ys))) ∨ (SqT K H p ys ∧ Q (.ref p) H))
@[irreducible] def rAllU (K : PySem.W.Frag) : List V → Hp → VK → Prop := rAll K
@[irreducible] def rAnyU (K : PySem.W.Frag) : List V → Hp → VK → Prop := rAny K
@[irreducible] def rSumU (K : PySem.W.Frag) : List V → Hp → VK → Prop := rSum K
@[irreducible] def rAppU : V → List V → Hp → VK → Prop := rAppend
@[irreducible] def rPopU : V → List V → Hp → VK → Prop := fun x vs H Q => rPop x vs H Q ∨ rPopAt x vs H Q
@[irreducible] def rExtU : V → List V → Hp → VK → Prop := rExtend
@[irreducible] def rSlLU (K : PySem.W.Frag) : V → Option Int → Option Int → Hp → VK → Prop := rSlL K
@[irreducible] def rSlSU : V → Option Int → Option Int → Hp → VK → Prop := rSlS
@[irreducible] def rSlTU (K : PySem.W.Frag) : V → Option Int → Option Int → Hp → VK → Prop := rSlT K
section
variable {X : Cx}
theorem CallR.or {f : Value} {r r' : List V → Hp → VK → Prop} (h : CallR X f r) (h' : CallR X f r') : CallR X f (fun xs H Q => r xs H Q ∨ r' xs H Q) := by
  intro pins s σ H xs us Q I r q
  rcases q with q | q
  · exact h pins s σ H xs us Q I r q
  · exact h' pins s σ H xs us Q I r q
theorem MtR.or {id : String} {r r' : V → List V → Hp → VK → Prop} (h : MtR X id r) (h' : MtR X id r') : MtR X id (fun x xs H Q => r x xs H Q ∨ r' x xs H Q) := by
  intro pins s σ H x xs v us Q I rx rs q
  rcases q with q | q
  · exact h pins s σ H x xs v us Q I rx rs q
  · exact h' pins s σ H x xs v us Q I rx rs q
theorem u_len : CallR X (.builtin "len") (rLenU X.K) := by unfold rLenU; exact CallR.or call_len call_lenD
theorem u_isi : CallR X (.builtin "isinstance") (rIsiU X.K) := by unfold rIsiU; exact CallR.or call_isi call_isiT
theorem u_int : CallR X (.type "int") rIntU := by unfold rIntU; exact call_int1
theorem u_bool : CallR X (.type "bool") rBoolU := by unfold rBoolU; exact call_bool1
theorem u_abs : CallR X (.builtin "abs") rAbsU := by unfold rAbsU; exact call_abs
theorem u_ord : CallR X (.builtin "ord") rOrdU := by unfold rOrdU; exact call_ord
theorem u_list : CallR X (.type "list") (rListU X.K) := by unfold rListU; exact call_list_of
theorem u_tuple : CallR X (.type "tuple") (rTupleU X.K) := by unfold rTupleU; exact call_tuple_of
theorem u_all (hc : X.calm = true) : CallR X (.builtin "all") (rAllU X.K) := by unfold rAllU; exact cr_all hc
theorem u_any (hc : X.calm = true) : CallR X (.builtin "any") (rAnyU X.K) := by unfold rAnyU; exact cr_any hc
theorem u_sum (hc : X.calm = true) : CallR X (.builtin "sum") (rSumU X.K) := by unfold rSumU; exact cr_sum hc
theorem u_append : MtR X "list.append" rAppU := by unfold rAppU; exact mt_append
theorem u_pop : MtR X "list.pop" rPopU := by unfold rPopU; exact MtR.or mt_pop mt_popAt
theorem u_extend : MtR X "list.extend" rExtU := by unfold rExtU; exact mt_extend
theorem u_slL : SlR X (rSlLU X.K) := by unfold rSlLU; exact sl_list
theorem u_slS : SlR X rSlSU := by unfold rSlSU; exact sl_str
theorem u_slT : SlR X (rSlTU X.K) := by unfold rSlTU; exact sl_tup
end
def tTru (K : PySem.W.Frag) (ta : TE) : TT := fun σ H Q => ta σ H fun x H' => ∃ k, TruV K x H' k ∧ Q k H'
def rJoin (K : PySem.W.Frag) : V → List V → Hp → VK → Prop := fun x xs H Q => ∃ a p, ∃ ys : List Str, x = .str a ∧ xs = [.ref p] ∧ (SqL K H p (ys.map V.str) ∨ SqT K H p (ys.map V.str)) ∧ (ys.map (·.length)).sum + ys.length * a.length ≤ 16777216 ∧ Q (.str (Txt.join a ys)) H
def rUpper : V → List V → Hp → VK → Prop := fun x xs H Q => ∃ a, x = .str a ∧ xs = [] ∧ a.length ≤ 5592405 ∧ Q (.str (Txt.upper a)) H
section
variable {K : PySem.W.Frag} {H : Hp} {Q : VK} {i j : Int} {x y : V} {a b : Addr} {xs ys : List V}
theorem len_str {z : Str} (h : z.length ≤ 16777216) (q : Q (.int z.length) H) : rLenU K [.str z] H Q := by unfold rLenU; exact .inl ⟨_, _, rfl, ⟨sz_of' h, rfl⟩, q⟩
theorem len_lst (h : SqL K H a xs) (q : Q (.int xs.length) H) : rLenU K [.ref a] H Q := by unfold rLenU; exact .inl ⟨_, _, rfl, .inl ⟨xs, h, rfl⟩, q⟩
theorem len_tup (h : SqT K H a xs) (q : Q (.int xs.length) H) : rLenU K [.ref a] H Q := by unfold rLenU; exact .inl ⟨_, _, rfl, .inr ⟨xs, h, rfl⟩, q⟩
theorem len_dK {kvs : List (Key × V)} (h : H a = some (.dK kvs)) (q : Q (.int kvs.length) H) : rLenU K [.ref a] H Q := by unfold rLenU; exact .inr ⟨_, _, rfl, h, q⟩
theorem isi_go {t n : String} {b : Bool} (ty : TyX K H x (.type t)) (k : PySem.W.kitOne K (.type t) (.type n) = some b) (q : Q (.bl b) H) : rIsiU K [x, .ty n] H Q := by unfold rIsiU; exact .inl ⟨x, .ty n, .type t, .type n, b, rfl, .ty n, ty, k, q⟩
theorem isi2_go {t m n : String} {b c : Bool} (hp : H a = some (.tup [.ty m, .ty n])) (ty : TyX K H x (.type t)) (k1 : PySem.W.kitOne K (.type t) (.type m) = some b) (k2 : PySem.W.kitOne K (.type t) (.type n) = some c) (q : Q (.bl (b || c)) H) : rIsiU K [x, .ref a] H Q := by
  unfold rIsiU
  refine .inr ⟨x, a, _, .type t, _, b || c, rfl, hp, .cons (.ty m) (.cons (.ty n) .nil), ty, ?_, q⟩
  refine kitAny_cons k1 (fun e => ?_) (fun e => by rw [e]; rfl)
  refine kitAny_cons k2 (fun e2 => ?_) (fun e2 => by rw [e2]; exact Bool.or_true _)
  rw [e, e2]
  exact kitAny_nil
theorem int_go (q : Q (.int i) H) : rIntU [.int i] H Q := by unfold rIntU; exact .inl ⟨_, rfl, q⟩
theorem intB_go {k : Bool} (q : Q (.int (if k then 1 else 0)) H) : rIntU [.bl k] H Q := by unfold rIntU; exact .inr ⟨_, rfl, q⟩
theorem abs_go (q : Q (.int (if i < 0 then -i else i)) H) : rAbsU [.int i] H Q := by unfold rAbsU; exact ⟨_, rfl, q⟩
theorem ord_go {c : Nat} (q : Q (.int c) H) : rOrdU [.str ⟨#[c]⟩] H Q := by unfold rOrdU; exact ⟨_, rfl, rfl, q⟩
theorem list_goL (h : SqL K H a xs) (q : ∀ l, H l = none → Q (.ref l) (upd H l (.lst xs))) : rListU K [.ref a] H Q := by unfold rListU; exact ⟨_, _, rfl, .inl h, q⟩
theorem list_goT (h : SqT K H a xs) (q : ∀ l, H l = none → Q (.ref l) (upd H l (.lst xs))) : rListU K [.ref a] H Q := by unfold rListU; exact ⟨_, _, rfl, .inr h, q⟩
theorem tuple_goL (h : SqL K H a xs) (q : ∀ l, H l = none → Q (.ref l) (upd H l (.tup xs))) : rTupleU K [.ref a] H Q := by unfold rTupleU; exact ⟨_, _, rfl, .inl ⟨h, q⟩⟩
theorem tuple_goT (h : SqT K H a xs) (q : Q (.ref a) H) : rTupleU K [.ref a] H Q := by unfold rTupleU; exact ⟨_, _, rfl, .inr ⟨h, q⟩⟩
theorem all_go {bs : List Bool} (h : SqL K H a (bs.map V.bl)) (q : Q (.bl (bs.all id)) H) : rAllU K [.ref a] H Q := by unfold rAllU; exact ⟨_, _, rfl, h, q⟩
theorem any_go {bs : List Bool} (h : SqL K H a (bs.map V.bl)) (q : Q (.bl (bs.any id)) H) : rAnyU K [.ref a] H Q := by unfold rAnyU; exact ⟨_, _, rfl, h, q⟩
theorem sum_go {ns : List Int} (h : SqL K H a (ns.map V.int)) (q : Q (.int ns.sum) H) : rSumU K [.ref a] H Q := by unfold rSumU; exact ⟨_, _, rfl, h, q⟩
theorem app_go (h : H a = some (.lst xs)) (hl : xs.length < 16777216) (q : Q .non (upd H a (.lst (xs ++ [x])))) : rAppU (.ref a) [x] H Q := by unfold rAppU; exact ⟨_, _, _, rfl, rfl, h, szlt_of hl, q⟩
theorem ext_go (h : H a = some (.lst xs)) (h2 : H b = some (.lst ys)) (hl : xs.length + ys.length ≤ 16777216) (q : Q .non (upd H a (.lst (xs ++ ys)))) : rExtU (.ref a) [.ref b] H Q := by unfold rExtU; exact ⟨_, _, _, _, rfl, rfl, h, h2, sz_of' hl, q⟩
theorem pop0_go (h : H a = some (.lst (x :: xs))) (q : Q x (upd H a (.lst xs))) : rPopU (.ref a) [.int 0] H Q := by
  unfold rPopU
  exact .inr ⟨_, _, _, 0, x, rfl, rfl, h, by decide, by decide, by
    unfold seqIndex?
    have e : (0 : Int) < ((x :: xs).length : Int) := by
      show (0 : Int) < ((xs.length + 1 : Nat) : Int)
      omega
    simp [e], rfl, q⟩
theorem popE_go (h : H a = some (.lst (xs ++ [x]))) (q : Q x (upd H a (.lst xs))) : rPopU (.ref a) [] H Q := by
  unfold rPopU
  refine .inl ⟨_, _, x, rfl, rfl, h, by simp, ?_⟩
  rw [List.dropLast_concat]
  exact q
theorem ty_lst (h : SqL K H a xs) : tyV K "list" (.ref a) H := .inl ⟨rfl, _, h⟩
theorem ty_dK {kvs : List (Key × V)} (h : H a = some (.dK kvs)) : tyV K "dict" (.ref a) H := .inr (.inr (.inl ⟨rfl, .inl ⟨_, h⟩⟩))
theorem slL_go {lo hi : Option Int} (h : SqL K H a xs) (q : ∀ p, H p = none → Q (.ref p) (upd H p (.lst (cutV xs lo hi)))) : rSlLU K (.ref a) lo hi H Q := by unfold rSlLU; exact ⟨_, _, rfl, h, q⟩
theorem slS_go {lo hi : Option Int} {z : Str} (h : z.length ≤ 16777216) (q : Q (.str (cutS z lo hi)) H) : rSlSU (.str z) lo hi H Q := by unfold rSlSU; exact ⟨_, rfl, sz_of' h, q⟩
end

/-! ### heaps -/
/-- all but the places of M is kept -/
def Kp (M : List Addr) (H H' : Hp) : Prop := ∀ a o, a ∉ M → H a = some o → H' a = some o
theorem Kp.refl {M : List Addr} {H : Hp} : Kp M H H := fun _ _ _ h => h
theorem Kp.trans {M : List Addr} {H H1 H2 : Hp} (a : Kp M H H1) (b : Kp M H1 H2) : Kp M H H2 := fun x o n h => b x o n (a x o n h)
theorem Kp.at_ {M : List Addr} {H H' : Hp} {a : Addr} {o : HO} (k : Kp M H H') (n : a ∉ M) (h : H a = some o) : H' a = some o := k a o n h
theorem Same.at_ {H H' : Hp} {a : Addr} {o : HO} (k : Same H H') (h : H a = some o) : H' a = some o := k a o h
theorem Kp.sqL {M : List Addr} {K : PySem.W.Frag} {H H' : Hp} {a : Addr} {xs : List V} (k : Kp M H H') (n : a ∉ M) (h : SqL K H a xs) : SqL K H' a xs := by
  rcases h with (h | ⟨o, h⟩) | h
  · exact .inl (.inl (k _ _ n h))
  · exact .inl (.inr ⟨o, k _ _ n h⟩)
  · exact .inr h
theorem Kp.upd_in {M : List Addr} {H H' : Hp} {a : Addr} {o : HO} (k : Kp M H H') (h : a ∈ M) : Kp M H (upd H' a o) := fun x u n e => by
  rw [upd_ne (fun z => n (by rw [z]; exact h))]
  exact k x u n e
theorem Kp.upd_new {M : List Addr} {H H' : Hp} {a : Addr} {o : HO} (k : Kp M H H') (h : H a = none) : Kp M H (upd H' a o) := fun x u n e => by
  rw [upd_ne (ne_of_none e h)]
  exact k x u n e
theorem Kp.upd_new' {M : List Addr} {H H' : Hp} {a : Addr} {o : HO} (k : Kp M H H') (h : H' a = none) : Kp M H (upd H' a o) := fun x u n e => by
  rw [upd_ne (ne_of_none (k x u n e) h)]
  exact k x u n e
theorem Kp.mono {M N : List Addr} {H H' : Hp} (k : Kp M H H') (h : ∀ a, a ∈ M → a ∈ N) : Kp N H H' := fun x u n e => k x u (fun z => n (h x z)) e
/-- what is changed was not there at first -/
theorem Kp.drop {M N : List Addr} {H H1 H2 : Hp} (k : Kp M H H1) (k2 : Kp N H1 H2) (h : ∀ a, a ∈ N → a ∈ M ∨ H a = none) : Kp M H H2 := fun x u n e => by
  refine k2 x u (fun z => ?_) (k x u n e)
  rcases h x z with q | q
  · exact n q
  · rw [e] at q
    cases q
theorem Kp.none_of {M : List Addr} {H H' : Hp} {p : Addr} (k : Kp M H H') (n : p ∉ M) (h : H' p = none) : H p = none := by
  cases q : H p with
  | none => rfl
  | some o =>
    rw [k p o n q] at h
    cases h
theorem nm_cons {a b : Addr} {M : List Addr} (h : a ≠ b) (t : a ∉ M) : a ∉ b :: M := fun z => by
  rcases List.mem_cons.mp z with e | e
  · exact h e
  · exact t e
theorem st_nx {D : Ends} {σ : L2.St} {H : Hp} (q : D.nx σ H) : tNext D σ H := q
theorem iteD {c A B : Prop} [Decidable c] (h1 : c → A) (h2 : ¬ c → B) : if decide c = true then A else B := by
  by_cases h : c
  · rw [decide_eq_true h]
    exact iteT (h1 h)
  · rw [decide_eq_false h]
    exact iteF (h2 h)
theorem Kp.of_same {M : List Addr} {H H' : Hp} (a : Same H H') : Kp M H H' := fun x o _ h => a x o h

/-! ### comprehensions: what is made so far is told -/
def Acc (D : Addr) (Pv : Nat → List V → Hp → Prop) (i : Nat) (H : Hp) : Prop := ∃ acc, acc.length ≤ i ∧ H D = some (.lst acc) ∧ Pv i acc H
theorem lc_acc {J : It} {n : Nat} {G : Hp → Prop} {Y : Nat → Hp → V → Hp → Prop} (w : Walk J n G Y) {g : TG} {tt : TT} {te : TE} {vs : List Nat} {σ : L2.St} {H1 : Hp} {D : Addr} {Qd : Hp → Prop} (Pv : Nat → List V → Hp → Prop)
    (h0 : Pv 0 [] (upd H1 D (.lst []))) (hG : ∀ i acc H, i ≤ n → Pv i acc H → G H)
    (hs : ∀ i x acc H H', i < n → acc.length ≤ i → H D = some (.lst acc) → Pv i acc H → Y i H x H' → g x (wipe σ vs) H' fun σ2 H2 => wipe σ2 vs = wipe σ vs ∧ tt σ2 H2 fun b H3 =>
      if b = true then te σ2 H3 fun y H4 => ∃ acc, H4 D = some (.lst acc) ∧ acc.length < sizeLine ∧ Acc D Pv (i + 1) (upd H4 D (.lst (acc ++ [y]))) else Acc D Pv (i + 1) H3)
    (hd : ∀ acc H, acc.length ≤ n → H D = some (.lst acc) → Pv n acc H → Qd H) :
    ∃ W : Nat → Nat → Hp → Prop, (∃ m, W 0 m (upd H1 D (.lst []))) ∧ ∀ i m H, W i m H →
      (J.stop i H ∧ Qd H) ∨ (J.go i H ∧ ∃ Nx : Hp → Prop, (∀ H', Nx H' → ∃ m', m' < m ∧ W (i + 1) m' H') ∧ ∀ x H', J.yld i H x H' → g x (wipe σ vs) H' fun σ2 H2 => wipe σ2 vs = wipe σ vs ∧ tt σ2 H2 fun b H3 =>
        if b = true then te σ2 H3 fun y H4 => ∃ acc, H4 D = some (.lst acc) ∧ acc.length < sizeLine ∧ Nx (upd H4 D (.lst (acc ++ [y]))) else Nx H3) :=
  lc_it w (Acc D Pv) ⟨[], Nat.zero_le _, upd_same, h0⟩ (fun i H hi ⟨acc, _, _, p⟩ => hG i acc H hi p) (fun i x H H' hi ⟨acc, hl, hD, p⟩ y => hs i x acc H H' hi hl hD p y) (fun H ⟨acc, hl, hD, p⟩ => hd acc H hl hD p)
theorem acc_go {D : Addr} {Pv : Nat → List V → Hp → Prop} {i : Nat} {H : Hp} {acc : List V} {y : V} (hl : acc.length ≤ i) (hi : i < 16777215) (hD : H D = some (.lst acc)) (p : Pv (i + 1) (acc ++ [y]) (upd H D (.lst (acc ++ [y])))) :
    ∃ acc, H D = some (.lst acc) ∧ acc.length < sizeLine ∧ Acc D Pv (i + 1) (upd H D (.lst (acc ++ [y]))) := by
  refine ⟨acc, hD, Nat.lt_of_le_of_lt (show acc.length ≤ 16777215 by omega) (by decide), acc ++ [y], ?_, upd_same, p⟩
  rw [List.length_append]
  show acc.length + 1 ≤ i + 1
  omega
theorem acc_skip {D : Addr} {Pv : Nat → List V → Hp → Prop} {i : Nat} {H : Hp} {acc : List V} (hl : acc.length ≤ i) (hD : H D = some (.lst acc)) (p : Pv (i + 1) acc H) : Acc D Pv (i + 1) H := ⟨acc, Nat.le_succ_of_le hl, hD, p⟩
/-! ### isinstance of built-in kinds -/
theorem ki_NoneType_str {K : PySem.W.Frag} : PySem.W.kitOne K (.type "NoneType") (.type "str") = some false := kit_ty (by decide +kernel)
theorem ki_NoneType_int {K : PySem.W.Frag} : PySem.W.kitOne K (.type "NoneType") (.type "int") = some false := kit_ty (by decide +kernel)
theorem ki_NoneType_bool {K : PySem.W.Frag} : PySem.W.kitOne K (.type "NoneType") (.type "bool") = some false := kit_ty (by decide +kernel)
theorem ki_NoneType_list {K : PySem.W.Frag} : PySem.W.kitOne K (.type "NoneType") (.type "list") = some false := kit_ty (by decide +kernel)
theorem ki_NoneType_tuple {K : PySem.W.Frag} : PySem.W.kitOne K (.type "NoneType") (.type "tuple") = some false := kit_ty (by decide +kernel)
theorem ki_NoneType_dict {K : PySem.W.Frag} : PySem.W.kitOne K (.type "NoneType") (.type "dict") = some false := kit_ty (by decide +kernel)
theorem ki_bool_str {K : PySem.W.Frag} : PySem.W.kitOne K (.type "bool") (.type "str") = some false := kit_ty (by decide +kernel)
theorem ki_bool_int {K : PySem.W.Frag} : PySem.W.kitOne K (.type "bool") (.type "int") = some true := kit_ty (by decide +kernel)
theorem ki_bool_bool {K : PySem.W.Frag} : PySem.W.kitOne K (.type "bool") (.type "bool") = some true := kit_ty (by decide +kernel)
theorem ki_bool_list {K : PySem.W.Frag} : PySem.W.kitOne K (.type "bool") (.type "list") = some false := kit_ty (by decide +kernel)
theorem ki_bool_tuple {K : PySem.W.Frag} : PySem.W.kitOne K (.type "bool") (.type "tuple") = some false := kit_ty (by decide +kernel)
theorem ki_bool_dict {K : PySem.W.Frag} : PySem.W.kitOne K (.type "bool") (.type "dict") = some false := kit_ty (by decide +kernel)
theorem ki_int_str {K : PySem.W.Frag} : PySem.W.kitOne K (.type "int") (.type "str") = some false := kit_ty (by decide +kernel)
theorem ki_int_int {K : PySem.W.Frag} : PySem.W.kitOne K (.type "int") (.type "int") = some true := kit_ty (by decide +kernel)
theorem ki_int_bool {K : PySem.W.Frag} : PySem.W.kitOne K (.type "int") (.type "bool") = some false := kit_ty (by decide +kernel)
theorem ki_int_list {K : PySem.W.Frag} : PySem.W.kitOne K (.type "int") (.type "list") = some false := kit_ty (by decide +kernel)
theorem ki_int_tuple {K : PySem.W.Frag} : PySem.W.kitOne K (.type "int") (.type "tuple") = some false := kit_ty (by decide +kernel)
theorem ki_int_dict {K : PySem.W.Frag} : PySem.W.kitOne K (.type "int") (.type "dict") = some false := kit_ty (by decide +kernel)
theorem ki_str_str {K : PySem.W.Frag} : PySem.W.kitOne K (.type "str") (.type "str") = some true := kit_ty (by decide +kernel)
theorem ki_str_int {K : PySem.W.Frag} : PySem.W.kitOne K (.type "str") (.type "int") = some false := kit_ty (by decide +kernel)
theorem ki_str_bool {K : PySem.W.Frag} : PySem.W.kitOne K (.type "str") (.type "bool") = some false := kit_ty (by decide +kernel)
theorem ki_str_list {K : PySem.W.Frag} : PySem.W.kitOne K (.type "str") (.type "list") = some false := kit_ty (by decide +kernel)
theorem ki_str_tuple {K : PySem.W.Frag} : PySem.W.kitOne K (.type "str") (.type "tuple") = some false := kit_ty (by decide +kernel)
theorem ki_str_dict {K : PySem.W.Frag} : PySem.W.kitOne K (.type "str") (.type "dict") = some false := kit_ty (by decide +kernel)
theorem ki_list_str {K : PySem.W.Frag} : PySem.W.kitOne K (.type "list") (.type "str") = some false := kit_ty (by decide +kernel)
theorem ki_list_int {K : PySem.W.Frag} : PySem.W.kitOne K (.type "list") (.type "int") = some false := kit_ty (by decide +kernel)
theorem ki_list_bool {K : PySem.W.Frag} : PySem.W.kitOne K (.type "list") (.type "bool") = some false := kit_ty (by decide +kernel)
theorem ki_list_list {K : PySem.W.Frag} : PySem.W.kitOne K (.type "list") (.type "list") = some true := kit_ty (by decide +kernel)
theorem ki_list_tuple {K : PySem.W.Frag} : PySem.W.kitOne K (.type "list") (.type "tuple") = some false := kit_ty (by decide +kernel)
theorem ki_list_dict {K : PySem.W.Frag} : PySem.W.kitOne K (.type "list") (.type "dict") = some false := kit_ty (by decide +kernel)
theorem ki_tuple_str {K : PySem.W.Frag} : PySem.W.kitOne K (.type "tuple") (.type "str") = some false := kit_ty (by decide +kernel)
theorem ki_tuple_int {K : PySem.W.Frag} : PySem.W.kitOne K (.type "tuple") (.type "int") = some false := kit_ty (by decide +kernel)
theorem ki_tuple_bool {K : PySem.W.Frag} : PySem.W.kitOne K (.type "tuple") (.type "bool") = some false := kit_ty (by decide +kernel)
theorem ki_tuple_list {K : PySem.W.Frag} : PySem.W.kitOne K (.type "tuple") (.type "list") = some false := kit_ty (by decide +kernel)
theorem ki_tuple_tuple {K : PySem.W.Frag} : PySem.W.kitOne K (.type "tuple") (.type "tuple") = some true := kit_ty (by decide +kernel)
theorem ki_tuple_dict {K : PySem.W.Frag} : PySem.W.kitOne K (.type "tuple") (.type "dict") = some false := kit_ty (by decide +kernel)
theorem ki_dict_str {K : PySem.W.Frag} : PySem.W.kitOne K (.type "dict") (.type "str") = some false := kit_ty (by decide +kernel)
theorem ki_dict_int {K : PySem.W.Frag} : PySem.W.kitOne K (.type "dict") (.type "int") = some false := kit_ty (by decide +kernel)
theorem ki_dict_bool {K : PySem.W.Frag} : PySem.W.kitOne K (.type "dict") (.type "bool") = some false := kit_ty (by decide +kernel)
theorem ki_dict_list {K : PySem.W.Frag} : PySem.W.kitOne K (.type "dict") (.type "list") = some false := kit_ty (by decide +kernel)
theorem ki_dict_tuple {K : PySem.W.Frag} : PySem.W.kitOne K (.type "dict") (.type "tuple") = some false := kit_ty (by decide +kernel)
theorem ki_dict_dict {K : PySem.W.Frag} : PySem.W.kitOne K (.type "dict") (.type "dict") = some true := kit_ty (by decide +kernel)
theorem Kp.sqT {M : List Addr} {K : PySem.W.Frag} {H H' : Hp} {a : Addr} {xs : List V} (k : Kp M H H') (n : a ∉ M) (h : SqT K H a xs) : SqT K H' a xs := by
  rcases h with (h | ⟨o, h⟩) | h
  · exact .inl (.inl (k _ _ n h))
  · exact .inl (.inr ⟨o, k _ _ n h⟩)
  · exact .inr h
theorem iteN {c A B : Prop} [Decidable c] (h1 : ¬ c → A) (h2 : c → B) : if (!decide c) = true then A else B := by
  by_cases h : c
  · rw [decide_eq_true h]
    exact iteF (h2 h)
  · rw [decide_eq_false h]
    exact iteT (h1 h)
theorem iteB {b : Bool} {A B : Prop} (h1 : b = true → A) (h2 : b = false → B) : if b = true then A else B := by
  cases b with
  | true => exact iteT (h1 rfl)
  | false => exact iteF (h2 rfl)
theorem tyX_same {K : PySem.W.Frag} {H H' : Hp} {x : V} {t : Value} (s : Same H H') (h : TyX K H x t) : TyX K H' x t := by
  cases h with
  | base b =>
    refine .base ?_
    cases b with
    | non => exact .non
    | bl y => exact .bl y
    | int i => exact .int i
    | str y => exact .str y
    | flt y => exact .flt y
    | lst e => exact .lst (s _ _ e)
    | frz e => exact .frz (s _ _ e)
    | tup e => exact .tup (s _ _ e)
    | dK e => exact .dK (s _ _ e)
    | dT e => exact .dT (s _ _ e)
    | ins e a b c d f => exact .ins (s _ _ e) a b c d f
  | byt b => exact .byt b
  | set e => exact .set (s _ _ e)
  | kList e c => exact .kList e c
  | kTuple e c => exact .kTuple e c
  | kDict e c => exact .kDict e c
  | fTuple e => exact .fTuple (s _ _ e)
  | fDict e => exact .fDict (s _ _ e)
theorem Kp.same {H H' : Hp} (k : Kp [] H H') : Same H H' := fun a o e => k a o List.not_mem_nil e
theorem str_size (z : Str) : z.cps.size = z.length := rfl
end Kb
/-! ### data: what == asks -/
namespace Kb
open PySem PySem.Spec PyProof.Rows L2
/-- small data: no deeper than n, its texts of signs that there are -/
def Sh (n : Nat) (d : PyData) : Prop := d.canLay0 = true ∧ d.depth ≤ n
theorem Sh.ok {n : Nat} {d : PyData} (h : Sh n d) (hn : n ≤ 64) : SeqAt.shaped d = true := by
  unfold SeqAt.shaped
  rw [h.1, Bool.true_and]
  exact decide_eq_true (Nat.le_trans h.2 hn)
theorem sh_non {n : Nat} : Sh n .none := ⟨by simp [PyData.canLay0], by simp [PyData.depth]⟩
theorem sh_bl {n : Nat} {b : Bool} : Sh n (.bool b) := ⟨by simp [PyData.canLay0], by simp [PyData.depth]⟩
theorem sh_int {n : Nat} {i : Int} : Sh n (.int i) := ⟨by simp [PyData.canLay0], by simp [PyData.depth]⟩
theorem sh_str {n : Nat} {x : Str} (h : ∀ c ∈ x.cps.toList, c < 1114112) : Sh n (.str x) := by
  refine ⟨?_, by simp [PyData.depth]⟩
  simp only [PyData.canLay0, PyData.strOk]
  exact Array.all_eq_true'.mpr fun c hc => decide_eq_true (h c (Array.mem_toList_iff.mpr hc))
theorem sh_all {n : Nat} : ∀ {ds : List PyData}, (∀ d ∈ ds, Sh n d) → PyData.canLayAll0 ds = true ∧ PyData.depthAll ds ≤ n
  | [], _ => ⟨by simp [PyData.canLayAll0], by simp [PyData.depthAll]⟩
  | d :: ds, h => by
    obtain ⟨a, b⟩ := h d (by simp)
    obtain ⟨c, e⟩ := sh_all fun x hx => h x (List.mem_cons_of_mem _ hx)
    exact ⟨by simp only [PyData.canLayAll0, a, c, Bool.and_self], by simp only [PyData.depthAll]; omega⟩
theorem sh_lst {n : Nat} {ds : List PyData} (h : ∀ d ∈ ds, Sh n d) : Sh (n + 1) (.list ds) := by
  obtain ⟨a, b⟩ := sh_all h
  exact ⟨by simp only [PyData.canLay0, a], by simp only [PyData.depth]; omega⟩
theorem sh_tup {n : Nat} {ds : List PyData} (h : ∀ d ∈ ds, Sh n d) : Sh (n + 1) (.tuple ds) := by
  obtain ⟨a, b⟩ := sh_all h
  exact ⟨by simp only [PyData.canLay0, a], by simp only [PyData.depth]; omega⟩
theorem sh_nil {n : Nat} : Sh (n + 1) (.list []) := sh_lst fun d h => nomatch h
theorem eqv_lnil : ∀ ds : List PyData, PyData.eqv (.list ds) (.list []) = ds.isEmpty
  | [] => by simp [PyData.eqv, PyData.eqvAll]
  | d :: ds => by simp [PyData.eqv, PyData.eqvAll]
/-- a list of ints as data -/
theorem dp_ints {K : PySem.W.Frag} {H : Hp} : ∀ ns : List Int, DpAll K H (ns.map V.int) (ns.map PyData.int)
  | [] => .nil
  | n :: ns => .cons (.int n) (dp_ints ns)
theorem sh_ints {ns : List Int} : Sh 1 (.list (ns.map PyData.int)) := sh_lst (n := 0) fun d h => by
  obtain ⟨i, _, rfl⟩ := List.mem_map.mp h
  exact sh_int
theorem eqvAll_ints : ∀ xs ys : List Int, PyData.eqvAll (xs.map PyData.int) (ys.map PyData.int) = decide (xs = ys)
  | [], [] => by simp [PyData.eqvAll]
  | [], y :: ys => by simp [PyData.eqvAll]
  | x :: xs, [] => by simp [PyData.eqvAll]
  | x :: xs, y :: ys => by
    have ih := eqvAll_ints xs ys
    simp only [List.map_cons, PyData.eqvAll, PyData.eqv, ih]
    by_cases h : x = y
    · subst h
      simp
    · simp [h]
theorem eqv_ints (xs ys : List Int) : PyData.eqv (.list (xs.map PyData.int)) (.list (ys.map PyData.int)) = decide (xs = ys) := by
  simp only [PyData.eqv]
  exact eqvAll_ints xs ys
end Kb
/-! ### slices -/
namespace Kb
open PySem PySem.Spec PyProof.Rows L2
def cutI {α : Type} (xs : List α) (lo hi : Option Int) : List α := (xs.drop (HT.sIx xs.length 0 lo)).take (HT.sIx xs.length xs.length hi - HT.sIx xs.length 0 lo)
theorem cutV_map {α : Type} (f : α → V) (xs : List α) (lo hi : Option Int) : cutV (xs.map f) lo hi = (cutI xs lo hi).map f := by
  unfold cutV cutI
  rw [List.length_map, List.map_take, List.map_drop]
theorem cutI_len {α : Type} (xs : List α) (lo hi : Option Int) : (cutI xs lo hi).length ≤ xs.length := by
  unfold cutI
  rw [List.length_take, List.length_drop]
  omega
theorem cutI_mem {α : Type} {xs : List α} {lo hi : Option Int} {x : α} (h : x ∈ cutI xs lo hi) : x ∈ xs := List.mem_of_mem_drop (List.mem_of_mem_take h)
end Kb
/-! ### calls by names alone -/
namespace Kb
open PySem PySem.Spec PyProof.Rows L2
theorem pe_callKw {X : Cx} {CX : CXT} {k : Nat} {x : Str} {st : Stmt} {ps ks : List Str} {sp : Sp} {E : XK} {kws : List Keyword} {tk : TA} {p pos : Pos} (D : Def X.K X.mg st x) (C : Cal X.prog X.w X.K X.mg X.base CX k x ps sp)
    (kb : ∀ (kV doc pm : Value) (an : Option Addr) (cdv ct : Value) (us ws : List Value), (us ++ (ws ++ [])).length = ps.length → bindArgs (PySem.W.fnOf x x (defArgs st) (defBody st) (defScope st) .none kV doc pm an cdv ct) ⟨us, ks.zip ws⟩ = pure (ps.zip (us ++ (ws ++ []))))
    (hr : Room k X.A) (hg : Gl X x) (hx : Passes CX X E) (hkw : PK X kws tk) (hall : (backToKw pos (keywordEach kws X.env)).all (·.1.isSome) = true := by rfl) (hks : (backToKw pos (keywordEach kws X.env)).filterMap (·.1) = ks := by rfl)
    (hdb : (x == ("__debug__" : Str)) = false := by decide)
    (hpl : ((backTo pos (starEach [] X.env)).any (·.1) || (backToKw pos (keywordEach kws X.env)).any (·.1.isNone)) = false := by rfl) :
    PE X (.Call (.Name x p) [] kws pos) (tCall sp [] E tk) := by
  obtain ⟨f, fd, hm, F, hk, _, hA⟩ := C.ex
  obtain ⟨f', fd', hm', F'⟩ := D
  have e := hm'.symm.trans hm
  cases e
  have e2 := hA.eq (Fun.at_ F')
  subst e2
  have K1 : KBinds X.K fd ps ks (fun us ws => us ++ (ws ++ [])) (fun vs zs => vs ++ (zs ++ [])) := by
    obtain ⟨oc, od, kV, doc, pm, an, cdv, ct, osl, rfl, lk, hcd⟩ := F'.ex
    exact ⟨fun s us ws _ hl => .of_eq (kb kV doc pm an cdv ct us ws hl), fun r r' => r.append (r'.append .nil)⟩
  exact pe_callK0 F hr hg hm hk K1 hx hkw hall hks hdb hpl
end Kb
/-! ### enumerate(v, start=k): v a list or a tuple that stands still -/
namespace Kb
open PySem PySem.Spec PyProof.Rows L2
/-- a thing at a that is walked by an iterator of its own: St H xs tells that it holds xs, Ar h its that the machine's object does, At h it i that the iterator stands at i -/
structure Src (K : PySem.W.Frag) (a : Addr) (S : Hp → List V → Prop) (Ar : Heap → Array Value → Prop) (At : Heap → Addr → Nat → Prop) (ob : Obj) : Prop where
  get : ∀ {X : Cx} {pins : List (Addr × Obj)} {σ : L2.St} {H : Hp} {s : Shared} {xs : List V}, X.K = K → Inv X pins σ H s → S H xs → ∃ its : List Value, Vals xs its ∧ Ar s.heap its.toArray
  inj : ∀ {X : Cx} {pins : List (Addr × Obj)} {σ : L2.St} {H : Hp} {s : Shared} {xs ys : List V}, X.K = K → Inv X pins σ H s → S H xs → S H ys → xs = ys
  lives : ∀ {h : Heap} {its : Array Value}, Ar h its → ∃ o, h.get? a = some o
  iobj : ∀ {h : Heap} {it : Addr} {i : Nat}, At h it i → ∃ o, h.get? it = some o ∧ ∀ v, o.data ≠ .cell v
  ikeep : ∀ {h h' : Heap} {it : Addr} {i : Nat}, At h it i → (∀ o, h.get? it = some o → h'.get? it = some o) → At h' it i
  draw : ∀ (prog : Program) (w : World) (A : Around) (it : Addr) (its : Array Value), A.handled = none → a ≠ it → Draws prog w A it [it, a] its.size (fun i v => its[i]? = some v) (fun i h => At h it i ∧ Ar h its)
  begin : ∀ its, Begins (.ref a) ob fun h => Ar h its
  first : ∀ {h : Heap} {it : Addr}, h.get? it = some ob → At h it 0
theorem src_list (K : PySem.W.Frag) (a : Addr) : Src K a (fun H xs => SqL K H a xs) (fun h its => h.IsList a its) (fun h it i => h.IsListIter it a i) { cls := .type "list_iterator", data := .fields #[.ref a, .int 0 0] } where
  get := fun hK I h => by
    subst hK
    obtain ⟨its, r, p, _⟩ := I.list h
    exact ⟨its, r, p.isList⟩
  inj := fun hK I h h' => by
    subst hK
    exact I.list_inj h h'
  lives := fun ⟨o, e, _⟩ => ⟨o, e⟩
  iobj := fun ⟨o, e, _, d⟩ => ⟨o, e, fun v z => by rw [d] at z; cases z⟩
  ikeep := fun st k => st.at k
  draw := fun prog w A it its hh ne => Draws.list hh it a ne its
  begin := fun its => begins_list a its
  first := fun e => ⟨_, e, rfl, rfl⟩
theorem src_tup (K : PySem.W.Frag) (a : Addr) : Src K a (fun H xs => SqT K H a xs) (fun h its => h.IsTuple a its) (fun h it i => h.IsTupleIter it a i) { cls := .type "tuple_iterator", data := .fields #[.ref a, .int 0 0] } where
  get := fun hK I h => by
    subst hK
    obtain ⟨its, r, p, _⟩ := I.tuple h
    exact ⟨its, r, p⟩
  inj := fun hK I h h' => by
    subst hK
    exact I.tuple_inj h h'
  lives := fun ⟨o, e, _⟩ => ⟨o, e⟩
  iobj := fun ⟨o, e, _, d⟩ => ⟨o, e, fun v z => by rw [d] at z; cases z⟩
  ikeep := fun st k => st.at k
  draw := fun prog w A it its hh ne => Draws.tuple hh it a ne its
  begin := fun its => begins_tuple a its
  first := fun e => ⟨_, e, rfl, rfl⟩
def ItS (S : Hp → List V → Prop) (k : Int) : It :=
  ⟨fun i H => ∃ xs x, S H xs ∧ xs[i]? = some x, fun i H v H' => ∃ T x, v = .ref T ∧ H T = none ∧ H' = upd H T (.tup [.int (k + (i : Nat)), x]) ∧ ∀ xs, S H xs → xs[i]? = some x, fun i H => ∃ xs : List V, S H xs ∧ xs.length = i⟩
section
variable {K : PySem.W.Frag} {a : Addr} {S : Hp → List V → Prop} {Ar : Heap → Array Value → Prop} {At : Heap → Addr → Nat → Prop} {ob : Obj}
theorem turn_enumS (sr : Src K a S Ar At ob) {P : Program} {w : World} {elts : List Expr} {kk : Nat} {tpos : Pos} (k : Int) (e it : Addr) (hai : a ≠ it) (hei : e ≠ it) (hea : e ≠ a) :
    Turn P w K (.Tuple elts kk tpos) (ItS S k) [e, it] e (fun i h => (∃ old, IsEnum h e it (k + (i : Nat)) old) ∧ At h it i) where
  mem := List.mem_cons_self
  obj := fun i h ⟨⟨old, he⟩, hi⟩ b hb => by
    rcases List.mem_cons.mp hb with z | z
    · subst z
      exact ⟨_, he, fun v q => nomatch q⟩
    · rw [List.mem_singleton.mp z]
      exact sr.iobj hi
  keep := fun i h h' ⟨⟨old, he⟩, hi⟩ kp => ⟨⟨old, kp e List.mem_cons_self _ he⟩, sr.ikeep hi fun o q => kp it (List.mem_cons_of_mem _ (List.mem_singleton.mpr rfl)) o q⟩
  item := fun X hP hw hK hc i pins s σ H E I hf st hg => by
    subst hP hw
    obtain ⟨xs, x, hS, hx⟩ := hg
    obtain ⟨its, rv, hA⟩ := sr.get hK I hS
    have hlen := rv.length
    have hil : i < its.toArray.size := by
      have := (List.getElem?_eq_some_iff.mp hx).1
      simp only [List.size_toArray]
      omega
    have D := sr.draw X.prog X.w X.A.in1 it its.toArray (I.ok.hd hc) hai
    have hef : e ∉ [it, a] := fun z => by
      rcases List.mem_cons.mp z with q | q
      · exact hei q
      · exact hea (List.mem_singleton.mp q)
    refine (GoesN.enumFrom (elts := elts) (x1 := kk) (pos := tpos) k D e hei hef List.mem_cons_self).goes i s _ E hil ⟨st.1, st.2, hA⟩ fun v h' tk hY st' hk _ => ?_
    obtain ⟨T, t, u, rfl, hT, hu, hTup⟩ := hY
    have hx2 : its[i]? = some u := by simpa using hu
    obtain ⟨u', hu', ru⟩ := rv.get hx
    rw [hx2] at hu'
    cases hu'
    have hk' : ∀ b o, b ∉ [e, it] → s.heap.get? b = some o → h'.get? b = some o := hk
    have new : ObjOk X.prog X.w (upd H T (.tup [.int (k + (i : Nat)), x])) h' T (.tup [.int (k + (i : Nat)), x]) := ⟨by show 2 ≤ sizeLine; decide, _, .cons ⟨_, rfl⟩ (.cons ru .nil), hTup⟩
    refine ⟨.ref T, _, I.turnedNew (t' := tk) hk' hf hT new, rfl, ⟨T, x, rfl, I.hok.fresh hT, rfl, fun ys hy => by rw [sr.inj hK I hy hS]; exact hx⟩, ⟨st'.1, st'.2.1⟩, fun b hb => ?_⟩
    obtain ⟨o, hbo⟩ : ∃ o, s.heap.get? b = some o := by
      rcases List.mem_cons.mp hb with z | z
      · rw [z]
        obtain ⟨old, q⟩ := st.1
        exact ⟨_, q⟩
      · rw [List.mem_singleton.mp z]
        obtain ⟨o, q, _⟩ := sr.iobj st.2
        exact ⟨o, q⟩
    rw [upd_ne (Nat.ne_of_lt (Nat.lt_of_lt_of_le (Heap.lt_size hbo) hT))]
    exact (hf b hb).1
  done := fun X hP hw hK hc i pins s σ H E I hf st hg => by
    subst hP hw
    obtain ⟨xs, hS, hx⟩ := hg
    obtain ⟨its, rv, hA⟩ := sr.get hK I hS
    have hlen := rv.length
    have D := sr.draw X.prog X.w X.A.in1 it its.toArray (I.ok.hd hc) hai
    have ei : i = its.toArray.size := by
      simp only [List.size_toArray]
      omega
    subst ei
    obtain ⟨f0, f1, f2, f3, f4, f5⟩ := hf it (List.mem_cons_of_mem _ (List.mem_singleton.mpr rfl))
    obtain ⟨old, he⟩ := st.1
    exact wpAny_pyNext_enum_endD D he ⟨st.2, hA⟩ fun h' eb => ⟨rfl, I.turned (t' := s.toks) (fun b o hb q => eb b o hb q) f0 f1 f3 f4 f5⟩
  self := fun A i s Q E st h => let ⟨⟨_, he⟩, _⟩ := st; wpAny_pyIter_enum he h
end
/-- enumerate(v, start=k) -/
@[irreducible] def iEnumS (K : PySem.W.Frag) (ta : TA) (tk : TE) : TI := fun σ H R => ta σ H fun vs H1 => tk σ H1 fun z H2 => ∃ a k, vs = [.ref a] ∧ z = .int k ∧ (-9223372036854775808 ≤ k ∧ k < 9223372036854775808) ∧
  ((∃ xs, SqL K H2 a xs ∧ R (ItS (fun H xs => SqL K H a xs) k) H2) ∨ ∃ xs, SqT K H2 a xs ∧ R (ItS (fun H xs => SqT K H a xs) k) H2)
section
variable {X : Cx} {e ke : Expr} {ta : TA} {tk : TE} {p pos kpos tpos : Pos} {elts : List Expr} {kk : Nat}
theorem enumS_go {K : PySem.W.Frag} {a : Addr} {S : Hp → List V → Prop} {Ar : Heap → Array Value → Prop} {At : Heap → Addr → Nat → Prop} {ob : Obj} (hK : X.K = K) (sr : Src K a S Ar At ob) {pins : List (Addr × Obj)} {s : Shared} {σ : L2.St} {H : Hp} {R : It → Hp → Prop} {xs : List V} {k : Int} {t : Tok}
    (I : Inv X pins σ H s) (hS : S H xs) (h0 : -9223372036854775808 ≤ k) (h1 : k < 9223372036854775808) (q : R (ItS S k) H) :
    wpAny (model X.prog X.w) X.A (PySem.call (.type "enumerate") [.ref a] [(Str.ofString "start", .int k t)]) (fun v s1 => wpAny (model X.prog X.w) X.A (pyIter v) (PIE X pins σ (.Tuple elts kk tpos) R) X.xe s1) X.xe s := by
  obtain ⟨its, rv, hA⟩ := sr.get hK I hS
  subst hK
  refine enum_begins_start (sr.begin its.toArray) hA (by omega) (by omega) fun h' he hit hsz hk => wpAny_pyIter_enum he ?_
  have I2 : Inv X pins σ H { s with heap := h' } := I.kept (t' := s.toks) hk
  obtain ⟨o, ho⟩ := sr.lives hA
  have hlt := Heap.lt_size ho
  refine ⟨s.heap.objs.size + 1, [s.heap.objs.size + 1, s.heap.objs.size], _, _, H, rfl, I2, turn_enumS sr k (s.heap.objs.size + 1) s.heap.objs.size (Nat.ne_of_lt hlt) (Nat.succ_ne_self _) (Nat.ne_of_gt (Nat.lt_succ_of_lt hlt)), ⟨⟨.none, ?_⟩, sr.first hit⟩, fun b hb => ?_, q⟩
  · have e0 : k + ((0 : Nat) : Int) = k := by omega
    rw [e0]
    exact he
  · have hle : s.heap.objs.size ≤ b := by
      rcases List.mem_cons.mp hb with z | z
      · rw [z]
        exact Nat.le_succ _
      · rw [List.mem_singleton.mp z]
        exact Nat.le_refl _
    exact I.fpOk hle (I.hok.fresh hle)
/-- a built-in class called with names -/
theorem callTy_kw {M : Model} {A : Around} {E : Value → Shared → Prop} {s : Shared} {env : Env} {T : String} {kws : List Keyword} {Q : Value → Shared → Prop}
    (h : wpAny M A (spliced (backTo pos (starEach [e] env))) (fun vs s1 => wpAny M A (evalAll ((backToKw pos (keywordEach kws env)).map (·.2)))
      (fun ks s2 => wpAny M A (PySem.call (.type T) vs (((backToKw pos (keywordEach kws env)).filterMap (·.1)).zip ks)) Q E s2) E s1) E s)
    (he : backTo pos (starEach [e] env) = (false, eval e env) :: backTo pos (starEach [] env)) (hp : ((backTo pos (starEach [e] env)).any (·.1) || (backToKw pos (keywordEach kws env)).any (·.1.isNone)) = false)
    (ha : (backToKw pos (keywordEach kws env)).all (·.1.isSome) = true) :
    wpAny M A (callWith pos (.type T) [] (backTo pos (starEach [e] env)) (backToKw pos (keywordEach kws env))) Q E s := by
  refine PySem.W.callWith_of (P := fun _ => True) hp (fun _ _ => ⟨.machine, .inr (.inl rfl), .now⟩) ?_
  rw [he] at h ⊢
  exact evalArgs_kwB ha (thn h fun vs s1 h1 => thn h1 fun ks s2 h2 => ⟨trivial, h2⟩)
theorem pi_enumS (hg : Gl X "enumerate") (hm : X.mg "enumerate" = none) (ha : PA X [e] ta) (hk : PE X ke tk)
    (he : backTo pos (starEach [e] X.env) = (false, eval e X.env) :: backTo pos (starEach [] X.env) := by rfl)
    (hp : ((backTo pos (starEach [e] X.env)).any (·.1) || (backToKw pos (keywordEach [⟨some "start", ke, kpos⟩] X.env)).any (·.1.isNone)) = false := by rfl)
    (hall : (backToKw pos (keywordEach [⟨some "start", ke, kpos⟩] X.env)).all (·.1.isSome) = true := by rfl) (hks : (backToKw pos (keywordEach [⟨some "start", ke, kpos⟩] X.env)).filterMap (·.1) = [Str.ofString "start"] := by rfl) :
    PI X (.Tuple elts kk tpos) (.Call (.Name "enumerate" p) [e] [⟨some "start", ke, kpos⟩] pos) (iEnumS X.K ta tk) := by
  unfold iEnumS
  refine ⟨fun pins s σ H R I h => ?_⟩
  refine wpAny_Call_Name_kw (ld_blt I hg hm boot_enumerate ?_ (by decide) (by decide))
  have hkw : PK X [⟨some "start", ke, kpos⟩] (tCons tk tNil) := pk_cons hk pk_nil
  refine callTy_kw (thn (ha.run pos pins s σ H _ I h) fun us s1 hh => ?_) he hp hall
  obtain ⟨vs, H1, I1, r1, q1⟩ := hh
  refine thn (hkw.run pos pins s1 σ H1 (fun zs H2 => match zs with
    | [z] => ∃ a k, vs = [.ref a] ∧ z = .int k ∧ (-9223372036854775808 ≤ k ∧ k < 9223372036854775808) ∧
      ((∃ xs, SqL X.K H2 a xs ∧ R (ItS (fun H xs => SqL X.K H a xs) k) H2) ∨ ∃ xs, SqT X.K H2 a xs ∧ R (ItS (fun H xs => SqT X.K H a xs) k) H2)
    | _ => False) I1 q1) fun ws s2 hh => ?_
  obtain ⟨zs, H2, I2, r2, q2⟩ := hh
  obtain ⟨z, rfl⟩ : ∃ z, zs = [z] := by
    match zs, q2 with
    | [z], _ => exact ⟨z, rfl⟩
  obtain ⟨a, k, rfl, rfl, ⟨h0, h1⟩, q2⟩ := q2
  rw [hks]
  obtain ⟨u, rfl, ru⟩ := vals1 r1
  obtain ⟨v, rfl, rv⟩ := vals1 r2
  cases ru
  obtain ⟨t, rfl⟩ := rv
  rcases q2 with ⟨xs, hS, q⟩ | ⟨xs, hS, q⟩
  · exact enumS_go rfl (src_list X.K a) I2 hS h0 h1 q
  · exact enumS_go rfl (src_tup X.K a) I2 hS h0 h1 q
end
theorem walk_enumS {S : Hp → List V → Prop} {k : Int} {xs : List V} : Walk (ItS S k) xs.length (fun H => S H xs) (fun i H v H' => ∃ T x, v = .ref T ∧ H T = none ∧ H' = upd H T (.tup [.int (k + (i : Nat)), x]) ∧ xs[i]? = some x) :=
  ⟨fun i _ hi q => ⟨xs, xs[i], q, by simp [hi]⟩, fun _ q => ⟨xs, q, rfl⟩, fun _ _ _ _ _ q ⟨T, x, a, b, c, d⟩ => ⟨T, x, a, b, c, d xs q⟩⟩
/-! ### a list or a tuple walked -/
def SqS (K : PySem.W.Frag) (H : Hp) (a : Addr) (xs : List V) : Prop := SqL K H a xs ∨ SqT K H a xs
@[irreducible] def iSeq (K : PySem.W.Frag) (te : TE) : TI := fun σ H R => te σ H fun x H1 => ∃ a, x = .ref a ∧ ((∃ xs, SqL K H1 a xs ∧ R (Itl K a) H1) ∨ ∃ xs, SqT K H1 a xs ∧ R (Itt K a) H1)
theorem pi_seq {X : Cx} {tg e : Expr} {te : TE} (he : PE X e te) : PI X tg e (iSeq X.K te) := by
  unfold iSeq
  refine ⟨fun pins s σ H R I h => ?_⟩
  refine thn (he.run pins s σ H _ I h) fun v s1 hh => ?_
  obtain ⟨x, H1, I1, r1, a, e, q⟩ := hh
  subst e
  cases r1
  rcases q with ⟨xs, hq, q⟩ | ⟨xs, hq, q⟩
  · obtain ⟨its, rv, p, hz⟩ := I1.list hq
    refine wpAny_pyIter_list p.isList ⟨s1.heap.objs.size, [s1.heap.objs.size], _, _, H1, rfl, ?_, turn_list a _, ⟨_, Heap.get?_push_size _ rfl, rfl, rfl⟩, fun b hb => ?_, q⟩
    · exact I1.kept (t' := s1.toks) fun b o e => Heap.get?_push_of_some _ e
    · rw [List.mem_singleton.mp hb]
      exact I1.fpOk (Nat.le_refl _) (I1.hok.fresh (Nat.le_refl _))
  · obtain ⟨its, rv, p, hz⟩ := I1.tuple hq
    refine wpAny_pyIter_tuple (show s1.heap.IsTuple a its.toArray from p) ⟨s1.heap.objs.size, [s1.heap.objs.size], _, _, H1, rfl, ?_, turn_tuple a _, ⟨_, Heap.get?_push_size _ rfl, rfl, rfl⟩, fun b hb => ?_, q⟩
    · exact I1.kept (t' := s1.toks) fun b o e => Heap.get?_push_of_some _ e
    · rw [List.mem_singleton.mp hb]
      exact I1.fpOk (Nat.le_refl _) (I1.hok.fresh (Nat.le_refl _))
end Kb
/-! ### == of lists of ints -/
namespace Kb
open PySem PySem.Spec PyProof.Rows L2
section
variable {K : PySem.W.Frag} {H : Hp} {Q : VK} {a b : Addr} {xs ys : List Int}
theorem eqI_go (hx : SqL K H a (xs.map V.int)) (hy : SqL K H b (ys.map V.int)) (q : Q (.bl (decide (xs = ys))) H) : rEqU K (.ref a) (.ref b) H Q :=
  eqD_go (.lst hx (dp_ints xs)) (.lst hy (dp_ints ys)) (sh_ints.ok (by decide)) (sh_ints.ok (by decide)) (by rw [eqv_ints]; exact q)
theorem neI_go (hx : SqL K H a (xs.map V.int)) (hy : SqL K H b (ys.map V.int)) (q : Q (.bl (!decide (xs = ys))) H) : rNeU K (.ref a) (.ref b) H Q :=
  neD_go (.lst hx (dp_ints xs)) (.lst hy (dp_ints ys)) (sh_ints.ok (by decide)) (sh_ints.ok (by decide)) (by rw [eqv_ints]; exact q)
theorem eqI0_go (hx : SqL K H a (xs.map V.int)) (hy : SqL K H b []) (q : Q (.bl (decide (xs = []))) H) : rEqU K (.ref a) (.ref b) H Q := eqI_go (ys := []) hx hy q
theorem neI0_go (hx : SqL K H a (xs.map V.int)) (hy : SqL K H b []) (q : Q (.bl (!decide (xs = []))) H) : rNeU K (.ref a) (.ref b) H Q := neI_go (ys := []) hx hy q
end
theorem none_of {H H' : Hp} {p : Addr} (k : Kp [] H H') (h : H' p = none) : H p = none := k.none_of List.not_mem_nil h
theorem Kp.new {H H' : Hp} {p : Addr} {o : HO} (k : Kp [] H H') (h : H' p = none) : Kp [] H (upd H' p o) := Kp.upd_new' k h
end Kb
/-! ### a list or a tuple, whichever -/
namespace Kb
open PySem PySem.Spec PyProof.Rows L2
def Inn (H : Hp) (a : Addr) (xs : List V) : Prop := H a = some (.lst xs) ∨ H a = some (.tup xs)
theorem Inn.kp {H H' : Hp} {a : Addr} {xs : List V} (h : Inn H a xs) (k : Kp [] H H') : Inn H' a xs :=
  h.elim (fun e => .inl (k.at_ List.not_mem_nil e)) fun e => .inr (k.at_ List.not_mem_nil e)
theorem Inn.kpX {L : List Addr} {H H' : Hp} {a : Addr} {xs : List V} (h : Inn H a xs) (k : Kp L H H') (n : a ∉ L) : Inn H' a xs :=
  h.elim (fun e => .inl (k.at_ n e)) fun e => .inr (k.at_ n e)
section
variable {K : PySem.W.Frag} {H : Hp} {Q : VK} {a : Addr} {xs : List V}
theorem list_goI (h : Inn H a xs) (q : ∀ p, H p = none → Q (.ref p) (upd H p (.lst xs))) : rListU K [.ref a] H Q :=
  h.elim (fun e => list_goL (SqL.of e) q) fun e => list_goT (SqT.of e) q
theorem tuple_goI (h : Inn H a xs) (q1 : H a = some (.lst xs) → rTupleU K [.ref a] H Q) (q2 : H a = some (.tup xs) → rTupleU K [.ref a] H Q) : rTupleU K [.ref a] H Q := h.elim q1 q2
theorem seq_go {te : TE} {σ : L2.St} {R : It → Hp → Prop} (q : te σ H fun x H1 => ∃ a xs, x = .ref a ∧ Inn H1 a xs ∧ ∀ J G, Walk J xs.length G (YAt xs) → (∀ H', (H1 a = H' a) → G H') → R J H1) (m : ∀ {H} {p q : V → Hp → Prop}, (∀ x H, p x H → q x H) → te σ H p → te σ H q) : iSeq K te σ H R := by
  unfold iSeq
  refine m ?_ q
  rintro x H1 ⟨a, xs, rfl, e | e, k⟩
  · exact ⟨a, rfl, .inl ⟨xs, SqL.of e, k _ _ walk_list fun H' hh => SqL.of (hh ▸ e)⟩⟩
  · exact ⟨a, rfl, .inr ⟨xs, SqT.of e, k _ _ walk_tup fun H' hh => SqT.of (hh ▸ e)⟩⟩
theorem seqV_go {n : Nat} {σ : L2.St} {R : It → Hp → Prop} (e : σ[n]? = some (some (.ref a))) (h : Inn H a xs) (q : ∀ J G, Walk J xs.length G (YAt xs) → (∀ H', (H a = H' a) → G H') → R J H) : iSeq K (tVar n) σ H R :=
  seq_go ⟨_, e, a, xs, rfl, h, q⟩ fun {H p q} hh => fun ⟨x, e, z⟩ => ⟨x, e, hh _ _ z⟩
theorem enSV_go {n : Nat} {σ : L2.St} {k : Int} {R : It → Hp → Prop} (e : σ[n]? = some (some (.ref a))) (hk : -9223372036854775808 ≤ k ∧ k < 9223372036854775808) (h : Inn H a xs)
    (q : ∀ J G, Walk J xs.length G (fun i H v H' => ∃ T x, v = .ref T ∧ H T = none ∧ H' = upd H T (.tup [.int (k + (i : Nat)), x]) ∧ xs[i]? = some x) → (∀ H', (H a = H' a) → G H') → R J H) : iEnumS K (tCons (tVar n) tNil) (tC (.int k)) σ H R := by
  unfold iEnumS
  refine ⟨_, e, a, k, rfl, rfl, hk, ?_⟩
  rcases h with e | e
  · exact .inl ⟨xs, SqL.of e, q _ _ walk_enumS fun H' hh => SqL.of (hh ▸ e)⟩
  · exact .inr ⟨xs, SqT.of e, q _ _ walk_enumS fun H' hh => SqT.of (hh ▸ e)⟩
end
theorem gTup_go {K : PySem.W.Frag} {H : Hp} {a : Addr} {xs : List V} {n : Nat} {t : TGs} {σ : L2.St} {Q : L2.St → Hp → Prop} (h : SqT K H a xs) (hl : xs.length = n) (q : t xs σ H Q) : gTup K n t (.ref a) σ H Q := ⟨a, xs, rfl, h, hl, q⟩
theorem Inn.upd {H : Hp} {a p : Addr} {xs : List V} {o : HO} (h : Inn H a xs) (n : H p = none) : Inn (upd H p o) a xs := h.kp (Kp.refl.new n)
theorem Inn.same {H H' : Hp} {a : Addr} {xs : List V} (h : Inn H a xs) (k : Kp [] H H') : H a = H' a :=
  h.elim (fun e => e.trans (k.at_ List.not_mem_nil e).symm) fun e => e.trans (k.at_ List.not_mem_nil e).symm
theorem Inn.newNe {H : Hp} {a p : Addr} {xs : List V} (h : Inn H a xs) (n : H p = none) : a ≠ p := by
  rintro rfl
  rcases h with e | e <;> rw [e] at n <;> cases n
end Kb
/-! ### lists of lists of ints -/
namespace Kb
open PySem PySem.Spec PyProof.Rows L2
def LL (H : Hp) (us : List V) (pss : List (List Int)) : Prop := us.length = pss.length ∧
  ∀ (i : Nat) (v : V), us[i]? = some v → ∃ a ps, pss[i]? = some ps ∧ v = V.ref a ∧ H a = some (.lst (ps.map V.int))
theorem LL.dp {K : PySem.W.Frag} {H : Hp} : ∀ {us : List V} {pss : List (List Int)}, LL H us pss → DpAll K H us (pss.map fun ps => PyData.list (ps.map PyData.int))
  | [], [], _ => .nil
  | [], p :: pss, h => by cases h.1
  | u :: us, [], h => by cases h.1
  | u :: us, p :: pss, h => by
    obtain ⟨a, ps, h1, rfl, h3⟩ := h.2 0 u rfl
    cases h1
    refine .cons (.lst (SqL.of h3) (dp_ints p)) (LL.dp ⟨by have := h.1; simp at this; exact this, fun i v e => ?_⟩)
    obtain ⟨a, ps, h1, h2, h3⟩ := h.2 (i + 1) v (by simpa using e)
    exact ⟨a, ps, by simpa using h1, h2, h3⟩
theorem sh_ll {pss : List (List Int)} : Sh 2 (.list (pss.map fun ps => PyData.list (ps.map PyData.int))) := sh_lst (n := 1) fun d h => by
  obtain ⟨i, _, rfl⟩ := List.mem_map.mp h
  exact sh_ints
theorem LL.kp {M : List Addr} {H H' : Hp} {us : List V} {pss : List (List Int)} (h : LL H us pss) (k : Kp M H H') (m : ∀ a ∈ M, H a = none) : LL H' us pss := ⟨h.1, fun i v e => by
  obtain ⟨a, ps, h1, h2, h3⟩ := h.2 i v e
  exact ⟨a, ps, h1, h2, k.at_ (fun z => by rw [m a z] at h3; cases h3) h3⟩⟩
theorem LL.kp0 {H H' : Hp} {us : List V} {pss : List (List Int)} (h : LL H us pss) (k : Kp [] H H') : LL H' us pss := h.kp k fun a z => nomatch z
/-- two lists of lists that hold alike are not unlike -/
theorem neLL_go {K : PySem.W.Frag} {H : Hp} {Q : VK} {a b : Addr} {us vs : List V} {pss : List (List Int)} (ha : SqL K H a us) (hb : SqL K H b vs) (hu : LL H us pss) (hv : LL H vs pss) (q : Q (.bl false) H) : rNeU K (.ref a) (.ref b) H Q :=
  neD_go (.lst ha hu.dp) (.lst hb hv.dp) (sh_ll.ok (by decide)) (sh_ll.ok (by decide)) (by rw [SeqAt.eqv_refl _ sh_ll.1]; exact q)
end Kb
/-! ### a comprehension within a comprehension -/
namespace Kb
open PySem PySem.Spec PyProof.Rows L2
theorem lookup_rel {c : Str → NameKind → Bool} : ∀ (l : List (Str × NameKind)) (x : Str), (l.lookup x = some .cell ∨ l.lookup x = some .free) →
    ((l.map fun (n, k) => if c n k then (n, NameKind.cell) else (n, k)).lookup x = some .cell ∨ (l.map fun (n, k) => if c n k then (n, NameKind.cell) else (n, k)).lookup x = some .free)
  | [], x, h => by rcases h with h | h <;> cases h
  | (n, k) :: l, x, h => by
    rw [List.lookup_cons] at h
    rw [List.map_cons]
    by_cases e : (x == n) = true
    · rw [e] at h
      dsimp only at h ⊢
      by_cases hc : c n k = true
      · rw [if_pos hc, List.lookup_cons, e]
        exact .inl rfl
      · rw [if_neg hc, List.lookup_cons, e]
        exact h
    · have e : (x == n) = false := by simpa using e
      rw [e] at h
      have ih := lookup_rel (c := c) l x h
      dsimp only
      by_cases hc : c n k = true
      · rw [if_pos hc, List.lookup_cons, e]
        exact ih
      · rw [if_neg hc, List.lookup_cons, e]
        exact ih
theorem blkOk_in {N : List Str} {scope0 scope : Scope} {env : Env} {own : List (Str × Nat)} (h : blkC N scope0 scope own = true) : BlkOk N (relabel scope0 env) scope own := by
  have b := blkOk_by h
  exact ⟨b.kind, b.uniq, b.ix, fun y hy e => lookup_rel (c := fun n k => k == .free && env.scope.kind == .function && env.kindOf n == some .cell) scope0.names y.1 (b.free y hy e), b.own⟩
end Kb
/-! ### objects of an own class: attributes, methods, making -/
namespace Kb
open PySem PySem.Spec PyProof.Rows L2
@[irreducible] def rFldU (K : PySem.W.Frag) (f : Str) : V → Hp → VK → Prop := fun x H Q => ∃ a C dx fs v, x = .ref a ∧ H a = some (.ins C dx fs) ∧ Cls K C ∧ NoAttr K C f ∧ fs.lookup f = some v ∧ Q v H
@[irreducible] def rPutU (K : PySem.W.Frag) (f : Str) : V → V → Hp → (Hp → Prop) → Prop := fun x y H Q => ∃ a C dx fs, x = .ref a ∧ H a = some (.ins C dx fs) ∧ Cls K C ∧ NoAttr K C f ∧ fs.length < 1000 ∧ Q (upd H a (.ins C dx (putF f y fs)))
@[irreducible] def rAugU (K : PySem.W.Frag) (tv : TE) (rd : V → V → Hp → VK → Prop) (f : Str) : V → L2.St → Hp → (Hp → Prop) → Prop := fun x σ H Q => ∃ a C dx fs v, x = .ref a ∧ H a = some (.ins C dx fs) ∧ Cls K C ∧ NoAttr K C f ∧ fs.lookup f = some v ∧
  tv σ H fun y H2 => rd v y H2 fun z H3 => ∃ dx' fs', H3 a = some (.ins C dx' fs') ∧ fs'.length < 1000 ∧ Q (upd H3 a (.ins C dx' (putF f z fs')))
@[irreducible] def rRcvU (C : Addr) (m : Str) : V → Hp → Prop → Prop := fun x H Z => ∃ a dx fs, x = .ref a ∧ H a = some (.ins C dx fs) ∧ fs.lookup m = none ∧ Z
def sFldU (K : PySem.W.Frag) (ta tv : TE) (f : Str) : TS := fun D σ H => tv σ H fun y H1 => ta σ H1 fun x H2 => rPutU K f x y H2 fun H3 => D.nx σ H3
def sFldAugU (K : PySem.W.Frag) (ta tv : TE) (rd : V → V → Hp → VK → Prop) (f : Str) : TS := fun D σ H => ta σ H fun x H1 => rAugU K tv rd f x σ H1 fun H4 => D.nx σ H4
def tMethU (C : Addr) (m : Str) (sp : Sp) (E : XK) (ta : TE) (t : TA) : TE := fun σ H Q => ta σ H fun x H1 => rRcvU C m x H1 (t σ H1 fun vs H2 => sp (x :: vs) H2 Q E)
section
variable {X : Cx} {o e value : Expr} {f : Str} {pos pos' tpos : Pos} {ta tv : TE}
theorem pe_fldU (he : PE X e ta) (hb : attributeBase e f X.env (eval e X.env) = eval e X.env) : PE X (.Attribute e f pos) (tUn (rFldU X.K f) ta) := by
  unfold tUn rFldU
  exact pe_fld he hb
theorem ps_fldU (ha : PE X o ta) (hv : PE X value tv) (hs : swapsWith value (some (.Attribute o f pos')) pos.line X.env = pure false) : PS X (.Assign [.Attribute o f pos'] value pos) (sFldU X.K ta tv f) := by
  unfold sFldU rPutU
  exact ps_fld ha hv hs
theorem ps_fldaugU {op : Operator} {rd : V → V → Hp → VK → Prop} (ha : PE X o ta) (hv : PE X value tv) (hop : PIp X op rd) : PS X (.AugAssign (.Attribute o f tpos) op value pos) (sFldAugU X.K ta tv rd f) := by
  unfold sFldAugU rAugU
  exact ps_fldaug ha hv hop
end
section
variable {K : PySem.W.Frag} {H : Hp} {Q : VK} {a C dx : Addr} {fs fs' : List (Str × V)} {f m : Str} {v y : V}
theorem fld_go (h : H a = some (.ins C dx fs)) (c : Cls K C) (n : NoAttr K C f) (l : fs.lookup f = some v) (q : Q v H) : rFldU K f (.ref a) H Q := by
  unfold rFldU
  exact ⟨a, C, dx, fs, v, rfl, h, c, n, l, q⟩
theorem put_go {Q : Hp → Prop} (h : H a = some (.ins C dx fs)) (c : Cls K C) (n : NoAttr K C f) (hl : fs.length < 1000) (e : putF f y fs = fs') (q : Q (upd H a (.ins C dx fs'))) : rPutU K f (.ref a) y H Q := by
  subst e
  unfold rPutU
  exact ⟨a, C, dx, fs, rfl, h, c, n, hl, q⟩
theorem aug_go {Q : Hp → Prop} {tv : TE} {rd : V → V → Hp → VK → Prop} {σ : L2.St} (h : H a = some (.ins C dx fs)) (c : Cls K C) (n : NoAttr K C f) (l : fs.lookup f = some v)
    (q : tv σ H fun y H2 => rd v y H2 fun z H3 => ∃ dx' fs', H3 a = some (.ins C dx' fs') ∧ fs'.length < 1000 ∧ Q (upd H3 a (.ins C dx' (putF f z fs')))) : rAugU K tv rd f (.ref a) σ H Q := by
  unfold rAugU
  exact ⟨a, C, dx, fs, v, rfl, h, c, n, l, q⟩
theorem augE_go {Q : Hp → Prop} {z : V} (h : H a = some (.ins C dx fs)) (hl : fs.length < 1000) (e : putF f z fs = fs') (q : Q (upd H a (.ins C dx fs'))) : ∃ dx' fs', H a = some (.ins C dx' fs') ∧ fs'.length < 1000 ∧ Q (upd H a (.ins C dx' (putF f z fs'))) := by
  subst e
  exact ⟨dx, fs, h, hl, q⟩
theorem rcv_go {Z : Prop} (h : H a = some (.ins C dx fs)) (l : fs.lookup m = none) (z : Z) : rRcvU C m (.ref a) H Z := by
  unfold rRcvU
  exact ⟨a, dx, fs, rfl, h, l, z⟩
theorem lk_here {k : Str} {v : V} {r : List (Str × V)} : List.lookup k ((k, v) :: r) = some v := by
  have e : (k == k) = true := beq_self_eq_true k
  simp only [List.lookup, e]
theorem lk_past {k g : Str} {v : V} {r : List (Str × V)} {o : Option V} (h : (k == g) = false) (q : List.lookup k r = o) : List.lookup k ((g, v) :: r) = o := by
  simp only [List.lookup, h]
  exact q
theorem put_here {f : Str} {v x : V} {r : List (Str × V)} : putF f v ((f, x) :: r) = (f, v) :: r := if_pos rfl
theorem put_past {f g : Str} {v x : V} {r r' : List (Str × V)} (h : ¬ g = f) (q : putF f v r = r') : putF f v ((g, x) :: r) = (g, x) :: r' := by
  subst q
  exact if_neg h
theorem put_nil {f : Str} {v : V} : putF f v [] = [(f, v)] := rfl
end
/-- the method m of the class at C -/
def DefM (K : PySem.W.Frag) (C : Addr) (st : Stmt) (m qual : Str) : Prop := ∃ f fd, Meth K C m f ∧ Fun K m qual st f fd
structure CalM (P : Program) (w : World) (K : PySem.W.Frag) (mg : Str → Option Value) (base : Heap) (CX : CXT) (k : Nat) (C : Addr) (m : Str) (ps : List Str) (sp : Sp) : Prop where
  ex : ∃ f fd, Meth K C m f ∧ FnOk P w K mg base CX k f fd ps sp ∧ Binds K fd ps []
section
variable {P : Program} {w : World} {K : PySem.W.Frag} {mg : Str → Option Value} {base : Heap}
theorem CalM.of {C : Addr} {m qual : Str} {st : Stmt} {N ps : List Str} {k : Nat} {sp : Sp} (D : DefM K C st m qual) (S : FnScope N ps (defScope st))
    (hb : ∀ (kV doc pm : Value) (an : Option Addr) (cdv ct : Value) (us : List Value), us.length = ps.length → bindArgs (PySem.W.fnOf m qual (defArgs st) (defBody st) (defScope st) .none kV doc pm an cdv ct) ⟨us, []⟩ = pure (ps.zip us))
    (len : ∀ vs H Q E, sp vs H Q E → vs.length = ps.length)
    (hbody : ∀ (f : Addr) (cdv : Value) (A : Around) (outer : List Env) (s : Shared) (H : Hp) (vs : List V) (Q : VK) (E : XK), Room k (A.deeper (envOfC qual (defScope st) s.heap.objs.size f cdv)) → sp vs H Q E →
      ∃ t, PSs (cxOf CX0 P w K mg base N qual (defScope st) f cdv A outer s H E).nox (defBody st) t ∧ t { nx := fun _ H' => Q .non H', rt := Q } (start N vs) H) : CalM P w K mg base CX0 (k + 1) C m ps sp := by
  obtain ⟨f, fd, hm, F⟩ := D
  refine ⟨f, fd, hm, F.ok S len (hbody f), .all ?_⟩
  obtain ⟨oc, od, kV, doc, pm, an, cdv, ct, osl, rfl, lk, hcd⟩ := F.ex
  exact hb kV doc pm an cdv ct
end
section
variable {X : Cx} {CX : CXT} {k : Nat} {C : Addr} {ps : List Str} {sp : Sp} {E : XK} {x m : Str} {p pos apos : Pos} {e o : Expr} {es : List Expr} {ta : TE} {t : TA}
theorem pe_methM {pl : Sem Bool} (he : PE X o ta) (c : Cls X.K C) (M : CalM X.prog X.w X.K X.mg X.base CX k C m ps sp) (hr : Room k X.A) (hx : Passes CX X E) (ha : PA X (e :: es) t)
    (hst : starEach (e :: es) X.env = (false, eval e X.env) :: starEach es X.env := by rfl) (hpl : (backTo pos (starEach es X.env)).any (·.1) = false := by rfl)
    (ht : eval (.Call (.Attribute o m apos) (e :: es) [] pos) X.env = (do
      let ov ← eval o X.env
      standAt apos.atName
      let (f, first) ← holding [ov] (getMethod ov m pl)
      callWith pos f first (backTo pos (starEach (e :: es) X.env)) (backToKw pos (keywordEach [] X.env))) := by rfl) :
    PE X (.Call (.Attribute o m apos) (e :: es) [] pos) (tMethU C m sp E ta t) := by
  obtain ⟨f, fd, hm, F, hb⟩ := M.ex
  have := pe_meth (pos := pos) (apos := apos) (dvs := []) (E := E) he c hm F hr hb .nil hx ha hst hpl ht
  unfold tMethU rRcvU
  unfold tMeth at this
  simpa only [List.append_nil] using this
theorem pe_methM0 {pl : Sem Bool} (he : PE X o ta) (c : Cls X.K C) (M : CalM X.prog X.w X.K X.mg X.base CX k C m ps sp) (hr : Room k X.A) (hx : Passes CX X E)
    (ht : eval (.Call (.Attribute o m apos) [] [] pos) X.env = (do
      let ov ← eval o X.env
      standAt apos.atName
      let (f, first) ← holding [ov] (getMethod ov m pl)
      callWith pos f first (backTo pos (starEach [] X.env)) (backToKw pos (keywordEach [] X.env))) := by rfl) :
    PE X (.Call (.Attribute o m apos) [] [] pos) (tMethU C m sp E ta tNil) := by
  obtain ⟨f, fd, hm, F, hb⟩ := M.ex
  have := pe_meth0 (pos := pos) (apos := apos) (dvs := []) (E := E) he c hm F hr hb .nil hx ht
  unfold tMethU rRcvU
  unfold tMeth at this
  simpa only [List.append_nil] using this
theorem pe_makeM0 (hmk : PySem.W.makesIn X.K C = true) (hkc : PySem.W.keepIn X.K (.ref C) = true) (M : CalM X.prog X.w X.K X.mg X.base CX k C "__init__" ps sp) (hr : Room (k + 1) X.A) (hg : Gl X x) (hm : X.mg x = some (.ref C)) (hx : Passes CX X E)
    (hdb : (x == ("__debug__" : Str)) = false := by decide) : PE X (.Call (.Name x p) [] [] pos) (tMake C sp [] E tNil) := by
  obtain ⟨f, fd, hme, F, hb⟩ := M.ex
  exact pe_make0 ⟨hmk, hme.at_, hme.fn, hkc⟩ F hr hg hm hb .nil hx hdb
theorem pe_makeM (hmk : PySem.W.makesIn X.K C = true) (hkc : PySem.W.keepIn X.K (.ref C) = true) (M : CalM X.prog X.w X.K X.mg X.base CX k C "__init__" ps sp) (hr : Room (k + 1) X.A) (hg : Gl X x) (hm : X.mg x = some (.ref C)) (hx : Passes CX X E) (ha : PA X (e :: es) t)
    (hdb : (x == ("__debug__" : Str)) = false := by decide) (he : starEach (e :: es) X.env = (false, eval e X.env) :: starEach es X.env := by rfl) (hpl : (backTo pos (starEach es X.env)).any (·.1) = false := by rfl) :
    PE X (.Call (.Name x p) (e :: es) [] pos) (tMake C sp [] E t) := by
  obtain ⟨f, fd, hme, F, hb⟩ := M.ex
  exact pe_make ⟨hmk, hme.at_, hme.fn, hkc⟩ F hr hg hm hb .nil hx ha hdb he hpl
end
end Kb

open L2 Kb PySem
/-! steps by name: "ne" a ≠ b, "h" H a = some o, "c" a side condition, "l" a list that is read, "s" one step of a reading -/
local macro_rules | `(tactic| walk_at "ne") => `(tactic| first
  | assumption
  | (apply Ne.symm; assumption)
  | (refine' ne_of_none ?kh ?kn; (case kn => assumption); (case kh => walk_at "h"))
  | (refine' Ne.symm (ne_of_none ?kh ?kn); (case kn => assumption); (case kh => walk_at "h"))
  | fail)
local macro_rules | `(tactic| walk_at "nm") => `(tactic| first
  | exact List.not_mem_nil
  | (refine' nm_cons ?kn ?km; (case kn => walk_at "ne"); (case km => walk_at "nm"))
  | fail)
local macro_rules | `(tactic| walk_at "h") => `(tactic| first
  | assumption
  | exact upd_same
  | (refine' (upd_ne ?kn).trans ?kh; (case kn => walk_at "ne"); (case kh => walk_at "h"))
  | (refine' Kp.at_ ?kk ?kn ?kh; (case kk => assumption); (case kn => walk_at "nm"); (case kh => walk_at "h"))
  | (refine' Same.at_ ?kk ?kh; (case kk => assumption); (case kh => walk_at "h"))
  | fail)
local macro_rules | `(tactic| walk_at "c") => `(tactic| first
  | assumption
  | rfl
  | omega
  | decide
  | (simp only [List.length_cons, List.length_nil, List.length_map, List.length_append, List.length_range, List.length_replicate]; omega)
  | fail)
local macro_rules | `(tactic| walk_at "l") => `(tactic| first
  | assumption
  | exact SqL.of (by walk_at "h")
  | (refine Kp.sqL (by assumption) ?_ ?_ <;> first | assumption | walk_at "nm" | walk_at "l")
  | fail)
local macro_rules | `(tactic| walk_at "t") => `(tactic| first
  | assumption
  | exact SqT.of (by walk_at "h")
  | (refine Kp.sqT (by assumption) ?_ ?_ <;> first | assumption | walk_at "nm" | walk_at "t")
  | fail)
local macro_rules | `(tactic| walk_at "i") => `(tactic| first
  | assumption
  | exact .inl (by walk_at "h")
  | exact .inr (by walk_at "h")
  | (refine' Inn.kp (H := ?_) ?k1 ?k2; (case k2 => assumption); (case k1 => walk_at "i"))
  | (refine' Inn.upd ?k1 ?k2; (case k2 => assumption); (case k1 => walk_at "i"))
  | fail)
local macro_rules | `(tactic| walk_at "mem") => `(tactic| first
  | exact List.mem_cons_self
  | (refine' List.mem_cons_of_mem _ ?k1; (case k1 => walk_at "mem"))
  | fail)
local macro_rules | `(tactic| walk_at "kp") => `(tactic| first
  | assumption
  | exact Kp.refl
  | (refine' Kp.upd_in ?k1 ?k2; (case k2 => walk_at "mem"); (case k1 => walk_at "kp"))
  | (refine' Kp.upd_new ?k1 ?k2; (case k2 => assumption); (case k1 => walk_at "kp"))
  | (refine' Kp.upd_new' ?k1 ?k2; (case k2 => assumption); (case k1 => walk_at "kp"))
  | (refine' Kp.upd_new ?k1 ?k2; (case k2 => walk_at "no"); (case k1 => walk_at "kp"))
  | fail)
local macro_rules | `(tactic| walk_at "no") => `(tactic| first
  | assumption
  | (refine' none_of ?k1 ?k2; (case k2 => assumption); (case k1 => walk_at "kp"))
  | fail)
local macro_rules | `(tactic| walk_at "ki") => `(tactic| first
  | exact ki_NoneType_str
  | exact ki_NoneType_int
  | exact ki_NoneType_bool
  | exact ki_NoneType_list
  | exact ki_NoneType_tuple
  | exact ki_NoneType_dict
  | exact ki_bool_str
  | exact ki_bool_int
  | exact ki_bool_bool
  | exact ki_bool_list
  | exact ki_bool_tuple
  | exact ki_bool_dict
  | exact ki_int_str
  | exact ki_int_int
  | exact ki_int_bool
  | exact ki_int_list
  | exact ki_int_tuple
  | exact ki_int_dict
  | exact ki_str_str
  | exact ki_str_int
  | exact ki_str_bool
  | exact ki_str_list
  | exact ki_str_tuple
  | exact ki_str_dict
  | exact ki_list_str
  | exact ki_list_int
  | exact ki_list_bool
  | exact ki_list_list
  | exact ki_list_tuple
  | exact ki_list_dict
  | exact ki_tuple_str
  | exact ki_tuple_int
  | exact ki_tuple_bool
  | exact ki_tuple_list
  | exact ki_tuple_tuple
  | exact ki_tuple_dict
  | exact ki_dict_str
  | exact ki_dict_int
  | exact ki_dict_bool
  | exact ki_dict_list
  | exact ki_dict_tuple
  | exact ki_dict_dict
  | fail)
local macro_rules | `(tactic| walk_at "ty") => `(tactic| first
  | assumption
  | exact .base (.int _)
  | exact .base (.str _)
  | exact .base (.bl _)
  | exact .base .non
  | (refine' .base (.lst ?k1); (case k1 => walk_at "h"))
  | (refine' .base (.tup ?k1); (case k1 => walk_at "h"))
  | (refine' .base (.dK ?k1); (case k1 => walk_at "h"))
  | fail)
local macro_rules | `(tactic| walk_at "lk") => `(tactic| first
  | exact lk_here
  | (refine' lk_past ?k1 ?k2; (case k1 => decide +kernel); (case k2 => walk_at "lk"))
  | rfl
  | fail)
local macro_rules | `(tactic| walk_at "pf") => `(tactic| first
  | exact put_here
  | exact put_nil
  | (refine' put_past ?k1 ?k2; (case k1 => decide +kernel); (case k2 => walk_at "pf"))
  | fail)
local macro_rules | `(tactic| walk_at "s1") => `(tactic| first
  | (refine' add_go  ?kq)
  | (refine' sub_go  ?kq)
  | (refine' mul_goL ?k1 ?k2 ?kq; (case k1 => walk_at "c"); (case k2 => walk_at "c"))
  | (refine' mul_goR ?k1 ?k2 ?kq; (case k1 => walk_at "c"); (case k2 => walk_at "c"))
  | (refine' mod_go ?k1 ?kq; (case k1 => walk_at "c"))
  | (refine' div_go ?k1 ?k2 ?kq; (case k1 => walk_at "c"); (case k2 => walk_at "c"))
  | (refine' eq_go  ?kq)
  | (refine' ne_go  ?kq)
  | (refine' lt_go  ?kq)
  | (refine' le_go  ?kq)
  | (refine' gt_go  ?kq)
  | (refine' ge_go  ?kq)
  | (refine' ixL_go ?k1 ?k2 ?kq; (case k1 => walk_at "l"); (case k2 => rfl))
  | (refine' ixT_go ?k1 ?k2 ?kq; (case k1 => walk_at "t"); (case k2 => rfl))
  | (refine' set_go ?k1 ?k2 ?kq; (case k1 => walk_at "h"); (case k2 => rfl))
  | (refine' eqS_go  ?kq)
  | (refine' neS_go  ?kq)
  | (refine' eqB_go  ?kq)
  | (refine' neB_go  ?kq)
  | (refine' eqN_go  ?kq)
  | (refine' neI0_go ?k1 ?k2 ?kq; (case k1 => walk_at "l"); (case k2 => walk_at "l"))
  | (refine' eqI0_go ?k1 ?k2 ?kq; (case k1 => walk_at "l"); (case k2 => walk_at "l"))
  | (refine' neI_go ?k1 ?k2 ?kq; (case k1 => walk_at "l"); (case k2 => walk_at "l"))
  | (refine' eqI_go ?k1 ?k2 ?kq; (case k1 => walk_at "l"); (case k2 => walk_at "l"))
  | (refine' len_str ?k1 ?kq; (case k1 => walk_at "c"))
  | (refine' len_lst ?k1 ?kq; (case k1 => walk_at "l"))
  | (refine' len_tup ?k1 ?kq; (case k1 => walk_at "t"))
  | (refine' len_dK ?k1 ?kq; (case k1 => walk_at "h"))
  | (refine' isi_go ?k1 ?k2 ?kq; (case k1 => walk_at "ty"); (case k2 => walk_at "ki"))
  | (refine' isi2_go ?k1 ?k2 ?k3 ?k4 ?kq; (case k1 => walk_at "h"); (case k2 => walk_at "ty"); (case k3 => walk_at "ki"); (case k4 => walk_at "ki"))
  | (refine' int_go  ?kq)
  | (refine' intB_go  ?kq)
  | (refine' pow_go ?k1 ?k2 ?k3 ?kq; (case k1 => walk_at "c"); (case k2 => walk_at "c"); (case k3 => walk_at "c"))
  | (refine' neg_go  ?kq)
  | (refine' app_go ?k1 ?k2 ?kq; (case k1 => walk_at "h"); (case k2 => walk_at "c"))
  | (refine' addL_go ?k1 ?k2 ?k3 ?kq; (case k1 => walk_at "h"); (case k2 => walk_at "h"); (case k3 => walk_at "c"))
  | (refine' addLS_go ?k1 ?k2 ?k3 ?kq; (case k1 => walk_at "l"); (case k2 => walk_at "l"); (case k3 => walk_at "c"))
  | (refine' addS_go ?k1 ?kq; (case k1 => walk_at "c"))
  | (refine' rep_go ?k1 ?k2 ?k3 ?k4 ?kq; (case k1 => walk_at "h"); (case k2 => walk_at "c"); (case k3 => walk_at "c"); (case k4 => walk_at "c"))
  | (refine' iadd_go  ?kq)
  | (refine' iaddL_go ?k1 ?k2 ?k3 ?kq; (case k1 => walk_at "h"); (case k2 => walk_at "h"); (case k3 => walk_at "c"))
  | (refine' isub_go  ?kq)
  | (refine' imod_go ?k1 ?kq; (case k1 => walk_at "c"))
  | (refine' ltS_go  ?kq)
  | (refine' gtS_go  ?kq)
  | (refine' isN_go  ?kq)
  | (refine' notN_go  ?kq)
  | (refine' inC_go  ?kq)
  | (refine' notInC_go  ?kq)
  | (refine' list_goL ?k1 ?kq; (case k1 => walk_at "l"))
  | (refine' list_goT ?k1 ?kq; (case k1 => walk_at "t"))
  | (refine' tuple_goL ?k1 ?kq; (case k1 => walk_at "l"))
  | (refine' tuple_goT ?k1 ?kq; (case k1 => walk_at "t"))
  | (refine' list_goI ?k1 ?kq; (case k1 => walk_at "i"))
  | (refine' pop0_go ?k1 ?kq; (case k1 => walk_at "h"))
  | (refine' popE_go ?k1 ?kq; (case k1 => walk_at "h"))
  | (refine' slL_go ?k1 ?kq; (case k1 => walk_at "l"))
  | (refine' slS_go ?k1 ?kq; (case k1 => walk_at "c"))
  | (refine' ord_go  ?kq)
  | (refine' abs_go  ?kq)
  | (refine' fld_go ?k1 ?k2 ?k3 ?k4 ?kq; (case k1 => walk_at "h"); (case k2 => assumption); (case k3 => assumption); (case k4 => walk_at "lk"))
  | (refine' put_go ?k1 ?k2 ?k3 ?k4 ?k5 ?kq; (case k1 => walk_at "h"); (case k2 => assumption); (case k3 => assumption); (case k5 => walk_at "pf"); (case k4 => first | decide | (simp only [List.length_cons, List.length_nil]; decide)))
  | (refine' aug_go ?k1 ?k2 ?k3 ?k4 ?kq; (case k1 => walk_at "h"); (case k2 => assumption); (case k3 => assumption); (case k4 => walk_at "lk"))
  | (refine' rcv_go ?k1 ?k2 ?kq; (case k1 => walk_at "h"); (case k2 => walk_at "lk"))
  | fail)
local macro_rules | `(tactic| walk_at "s") => `(tactic| first
  | refine ⟨_, rfl, ?_⟩
  | refine iteD (fun _ => ?_) (fun _ => ?_)
  | refine iteN (fun _ => ?_) (fun _ => ?_)
  | refine iteT ?_
  | refine iteF ?_
  | walk_at "s1"
  | with_reducible refine st_nx ?_
  | (dsimp only; with_reducible refine st_nx ?_)
  | (refine' gTup_go ?k1 ?k2 ?kq; (case k1 => walk_at "t"); (case k2 => rfl))
  | refine And.intro (sz_of' (by walk_at "c")) ?_
  | refine And.intro (by walk_at "c") ?_
  | refine ⟨_, _, rfl, ?_⟩
  | refine ⟨_, _, _, rfl, ?_⟩
  | refine ⟨_, _, _, _, rfl, ?_⟩
  | refine ⟨.inl ⟨rfl, _, by walk_at "l"⟩, ?_⟩
  | refine ⟨⟨_, rfl⟩, ?_⟩
  | (refine fun (p : Addr) (np : _ = none) => ?_)
  | (refine fun (x dx : Addr) (nx : _ = none) (nd : _ = none) (ne : _ ≠ _) => ?_)
  | (refine' augE_go ?k1 ?k2 ?k3 ?kq; (case k1 => walk_at "h"); (case k3 => walk_at "pf"); (case k2 => first | decide | (simp only [List.length_cons, List.length_nil]; decide)))
  | refine iteB (fun _ => ?_) (fun _ => ?_)
  | (refine' seqV_go ?k1 ?k2 (fun J G w hG => ?kq); (case k1 => rfl); (case k2 => walk_at "i"))
  | (refine' enSV_go ?k1 ?k2 ?k3 (fun J G w hG => ?kq); (case k1 => rfl); (case k2 => exact ⟨by decide, by decide⟩); (case k3 => walk_at "i"))
  | fail)
local macro_rules | `(tactic| walk_at "go") => `(tactic| repeat' walk_at "s")
/-! ### own exception classes: made, raised, caught, looked at -/
namespace Kb
open PySem PySem.Spec PyProof.Rows L2
/-- where the top has what it calls x -/
def cAt (K : PySem.W.Frag) (x : Str) : Addr := match PySem.W.nsIn K mainGlobals x with
  | some (some (.ref a)) => a
  | _ => default
theorem cAt_of {K : PySem.W.Frag} {x : Str} {a : Addr} (h : PySem.W.nsIn K mainGlobals x = some (some (.ref a))) : cAt K x = a := by
  unfold cAt
  rw [h]
section
variable {P : Program} {w : World} {K : PySem.W.Frag} {mg : Str → Option Value} {base : Heap}
theorem Cal.ofX {x : Str} {st : Stmt} {N ps : List Str} {k : Nat} {sp : Sp} (D : Def K mg st x) (S : FnScope N ps (defScope st))
    (hb : ∀ (kV doc pm : Value) (an : Option Addr) (cdv ct : Value) (us : List Value), us.length = ps.length → bindArgs (PySem.W.fnOf x x (defArgs st) (defBody st) (defScope st) .none kV doc pm an cdv ct) ⟨us, []⟩ = pure (ps.zip us))
    (len : ∀ vs H Q E, sp vs H Q E → vs.length = ps.length)
    (hbody : ∀ (f : Addr) (cdv : Value) (A : Around) (outer : List Env) (s : Shared) (H : Hp) (vs : List V) (Q : VK) (E : XK), Room k (A.deeper (envOfC x (defScope st) s.heap.objs.size f cdv)) → sp vs H Q E →
      ∃ t, PSs (cxOf (L2.CX P w) P w K mg base N x (defScope st) f cdv A outer s H E) (defBody st) t ∧ t { nx := fun _ H' => Q .non H', rt := Q } (start N vs) H) : Cal P w K mg base (L2.CX P w) (k + 1) x ps sp := by
  obtain ⟨f, fd, hm, F⟩ := D
  refine ⟨f, fd, hm, F.okX S len (hbody f), F.kp, ?_, Fun.at_ F⟩
  obtain ⟨oc, od, kV, doc, pm, an, cdv, ct, osl, rfl, lk, hcd⟩ := F.ex
  exact hb kV doc pm an cdv ct
theorem CalM.ofX {C : Addr} {m qual : Str} {st : Stmt} {N ps : List Str} {k : Nat} {sp : Sp} (D : DefM K C st m qual) (S : FnScope N ps (defScope st))
    (hb : ∀ (kV doc pm : Value) (an : Option Addr) (cdv ct : Value) (us : List Value), us.length = ps.length → bindArgs (PySem.W.fnOf m qual (defArgs st) (defBody st) (defScope st) .none kV doc pm an cdv ct) ⟨us, []⟩ = pure (ps.zip us))
    (len : ∀ vs H Q E, sp vs H Q E → vs.length = ps.length)
    (hbody : ∀ (f : Addr) (cdv : Value) (A : Around) (outer : List Env) (s : Shared) (H : Hp) (vs : List V) (Q : VK) (E : XK), Room k (A.deeper (envOfC qual (defScope st) s.heap.objs.size f cdv)) → sp vs H Q E →
      ∃ t, PSs (cxOf (L2.CX P w) P w K mg base N qual (defScope st) f cdv A outer s H E) (defBody st) t ∧ t { nx := fun _ H' => Q .non H', rt := Q } (start N vs) H) : CalM P w K mg base (L2.CX P w) (k + 1) C m ps sp := by
  obtain ⟨f, fd, hm, F⟩ := D
  refine ⟨f, fd, hm, F.okX S len (hbody f), .all ?_⟩
  obtain ⟨oc, od, kV, doc, pm, an, cdv, ct, osl, rfl, lk, hcd⟩ := F.ex
  exact hb kV doc pm an cdv ct
/-- the __init__ of an exception's class -/
def DefI (K : PySem.W.Frag) (C : Addr) (st : Stmt) (qual : Str) : Prop := ∃ f fd, PySem.W.findIn K (.ref C) "__init__" = some (some (.ref f)) ∧ PySem.W.typeIn K (.ref f) = some (.type "function") ∧ Fun K "__init__" qual st f fd
structure CalI (P : Program) (w : World) (K : PySem.W.Frag) (mg : Str → Option Value) (base : Heap) (k : Nat) (C : Addr) (ps : List Str) (sp : Sp) : Prop where
  ex : ∃ f fd, PySem.W.findIn K (.ref C) "__init__" = some (some (.ref f)) ∧ PySem.W.typeIn K (.ref f) = some (.type "function") ∧ FnOk P w K mg base CX0 k f fd ps sp ∧ Binds K fd ps []
theorem CalI.of {C : Addr} {qual : Str} {st : Stmt} {N ps : List Str} {k : Nat} {sp : Sp} (D : DefI K C st qual) (S : FnScope N ps (defScope st))
    (hb : ∀ (kV doc pm : Value) (an : Option Addr) (cdv ct : Value) (us : List Value), us.length = ps.length → bindArgs (PySem.W.fnOf "__init__" qual (defArgs st) (defBody st) (defScope st) .none kV doc pm an cdv ct) ⟨us, []⟩ = pure (ps.zip us))
    (len : ∀ vs H Q E, sp vs H Q E → vs.length = ps.length)
    (hbody : ∀ (f : Addr) (cdv : Value) (A : Around) (outer : List Env) (s : Shared) (H : Hp) (vs : List V) (Q : VK) (E : XK), Room k (A.deeper (envOfC qual (defScope st) s.heap.objs.size f cdv)) → sp vs H Q E →
      ∃ t, PSs (cxOf CX0 P w K mg base N qual (defScope st) f cdv A outer s H E).nox (defBody st) t ∧ t { nx := fun _ H' => Q .non H', rt := Q } (start N vs) H) : CalI P w K mg base (k + 1) C ps sp := by
  obtain ⟨f, fd, h1, h2, F⟩ := D
  refine ⟨f, fd, h1, h2, F.ok S len (hbody f), .all ?_⟩
  obtain ⟨oc, od, kV, doc, pm, an, cdv, ct, osl, rfl, lk, hcd⟩ := F.ex
  exact hb kV doc pm an cdv ct
end
/-- what the written part says of an own exception's class -/
structure XCls (K : PySem.W.Frag) (C : Addr) : Prop where
  o : OexC K C
  xf : XfC K C
  cl : (PySem.W.clsIn K C).isSome = true
  ha : PySem.W.findIn K (.ref C) "__class__" = some (some (.builtin "object.__class__"))
  hn : PySem.W.specialIn K (.builtin "object.__class__") "__get__" = some (some (.builtin "getset_descriptor.__get__"))
  ht : PySem.W.takesIn K (.builtin "object.__class__") = some true
  hm : PySem.W.mroIn K C (.type "object") = some true
/-- an exception's __init__ whose fields are told by its arguments -/
@[irreducible] def spInit (C : Addr) (n : Nat) (fs : List V → List (Str × V)) : Sp := fun vs H Q _ => ∃ a ws, vs = .ref a :: ws ∧ ws.length = n ∧ H a = some (exo a C none) ∧ ∀ d, H d = none → d ≠ a → Q .non (upd (upd H d (exd d (fs ws))) a (exo a C (some d)))
theorem spInit_len {C : Addr} {n : Nat} {fs : List V → List (Str × V)} (vs : List V) (H : Hp) (Q : VK) (E : XK) (h : spInit C n fs vs H Q E) : vs.length = n + 1 := by
  unfold spInit at h
  obtain ⟨a, ws, rfl, h, _⟩ := h
  rw [List.length_cons, h]
theorem mkO_go {C : Addr} {n : Nat} {fs : List V → List (Str × V)} {vs : List V} {H : Hp} {Z : XK} (hn : vs.length = n) (hl : n ≤ 1000) (h : ∀ d, H d = none → Z (.ref C) (some d) (upd H d (.xd (fs vs)))) :
    vs.length ≤ 1000 ∧ ∀ a, H a = none → spInit C n fs (.ref a :: (vs ++ [])) (upd H a (exo a C none))
      (fun v H2 => v = .non ∧ ∃ (d : Addr) (fs : List (Str × V)), H2 a = some (exo a C (some d)) ∧ H2 d = some (exd d fs) ∧ H d = none ∧ Z (.ref C) (some d) (upd (del H2 a) d (.xd fs))) (fun _ _ _ => False) := by
  refine ⟨by omega, fun a ha => ?_⟩
  unfold spInit
  refine ⟨a, vs, by rw [List.append_nil], hn, upd_same, fun d hd da => ⟨rfl, d, fs vs, upd_same, (upd_ne da).trans upd_same, (upd_ne da).symm.trans hd, ?_⟩⟩
  have hd0 : H d = none := (upd_ne da).symm.trans hd
  have e : upd (del (upd (upd (upd H a (exo a C none)) d (exd d (fs vs))) a (exo a C (some d))) a) d (.xd (fs vs)) = upd H d (.xd (fs vs)) := by
    funext b
    by_cases hb : b = d
    · rw [hb, upd_same, upd_same]
    · rw [upd_ne hb, upd_ne hb]
      by_cases hba : b = a
      · rw [hba, del_same, ha]
      · rw [del_ne hba, upd_ne hba, upd_ne hb, upd_ne hba]
  rw [e]
  exact h d hd0
/-- raise x(e, ..) -/
def tRaiseI (C : Addr) (sp : Sp) (W : WX) (ta : TA) : TS := fun _ σ H => tMkO C sp [] ta σ H fun cls d H' => W cls d σ H'
section
variable {X : Cx} {C : Addr} {x : Str} {k : Nat} {ps : List Str} {sp : Sp} {W : WX} {e : Expr} {es : List Expr} {ta : TA} {p pos pos2 : Pos}
theorem ps_raiseI (hc : X.calm = true) (T : XCls X.K C) (M : CalI X.prog X.w X.K X.mg X.base k C ps sp) (hr : Room (k + 1) X.A) (tk : Takes X W) (hg : Gl X x) (hm : X.mg x = some (.ref C)) (ha : PA X (e :: es) ta)
    (hdb : (x == ("__debug__" : Str)) = false := by decide) (he : starEach (e :: es) X.env = (false, eval e X.env) :: starEach es X.env := by rfl) (hpl : (backTo pos (starEach es X.env)).any (·.1) = false := by rfl) :
    PS X (.Raise (some (.Call (.Name x p) (e :: es) [] pos)) none pos2) (tRaiseI C sp W ta) := by
  obtain ⟨f, fd, h1, h2, F, hb⟩ := M.ex
  exact ps_raise hc tk (pmk_oex T.o h1 h2 F hr hb .nil (fun _ _ _ _ _ _ _ h => h.elim) hg hm ha hdb he hpl)
end
/-- o.m(e, ..), what it raises wished for at the slots as they stand -/
def tMethUS (C : Addr) (m : Str) (sp : Sp) (E : L2.St → XK) (ta : TE) (t : TA) : TE := fun σ H Q => tMethU C m sp (E σ) ta t σ H Q
section
variable {X : Cx} {CX : CXT} {k : Nat} {C : Addr} {ps : List Str} {sp : Sp} {E : L2.St → XK} {x m : Str} {p pos apos : Pos} {e o : Expr} {es : List Expr} {ta : TE} {t : TA}
theorem pe_methMS {pl : Sem Bool} (he : PE X o ta) (c : Cls X.K C) (M : CalM X.prog X.w X.K X.mg X.base CX k C m ps sp) (hr : Room k X.A) (hx : ∀ σ, PassesAt CX X σ (E σ)) (ha : PA X (e :: es) t)
    (hst : starEach (e :: es) X.env = (false, eval e X.env) :: starEach es X.env := by rfl) (hpl : (backTo pos (starEach es X.env)).any (·.1) = false := by rfl)
    (ht : eval (.Call (.Attribute o m apos) (e :: es) [] pos) X.env = (do
      let ov ← eval o X.env
      standAt apos.atName
      let (f, first) ← holding [ov] (getMethod ov m pl)
      callWith pos f first (backTo pos (starEach (e :: es) X.env)) (backToKw pos (keywordEach [] X.env))) := by rfl) :
    PE X (.Call (.Attribute o m apos) (e :: es) [] pos) (tMethUS C m sp E ta t) := by
  obtain ⟨f, fd, hm, F, hb⟩ := M.ex
  refine ⟨fun pins s σ H Q I h => ?_⟩
  unfold tMethUS tMethU rRcvU at h
  refine PySem.W.methodCall_KW (pl := pl) (thn (he.run pins s σ H _ I h) fun u s1 ⟨x, H1, I1, rx, a, dx, fs, ex, ea, l, q⟩ => ?_) ht
  subst ex
  obtain rfl : u = Value.ref a := rx
  refine getmeth_ok I1 ea c hm l ?_
  refine PySem.W.callWith_K (first := [.ref a]) (h₀ := X.base) I.ok.mod.kin hm.kp (thn (ha.run pos pins s1 σ H1 _ I1 q) fun us s2 ⟨vs, H2, I2, r, q2⟩ => ⟨I2.kIn, ?_⟩) hst hpl
  exact run_fnS (us := .ref a :: us) (vs := .ref a :: vs) F hr hb (hx σ) I2 (.cons rfl r) q2
theorem pe_callCS (C : Cal X.prog X.w X.K X.mg X.base CX k x ps sp) (hr : Room k X.A) (hg : Gl X x) (hx : ∀ σ, PassesAt CX X σ (E σ))
    (ha : PA X (e :: es) t) (hdb : (x == ("__debug__" : Str)) = false := by decide) (he : starEach (e :: es) X.env = (false, eval e X.env) :: starEach es X.env := by rfl) (hpl : (backTo pos (starEach es X.env)).any (·.1) = false := by rfl) :
    PE X (.Call (.Name x p) (e :: es) [] pos) (tCallS sp E t) := by
  obtain ⟨f, fd, hm, F, hk, hb⟩ := C.bound
  exact pe_callS F hr hg hm hk hb hx ha hdb he hpl
end
/-- try: .. except c as n: .. -/
def tTryAs (K : PySem.W.Frag) (c : Value) (i : Nat) (tb : WX → TS) (ts : Addr → Value → Option Addr → TS) : TS := fun D σ H => tb (wAs K c i ts (fun _ _ _ _ => False) D) D σ H
theorem takes_none {X : Cx} : Takes X (fun _ _ _ _ => False) := fun _ _ h => by
  obtain ⟨_, _, _, _, _, _, _, _, _, _, _, _, _, _, _, _, z⟩ := h
  exact z.elim
/-- isinstance(e, c), e the caught exception with its dict -/
def rIsXd (K : PySem.W.Frag) (a : Addr) (cls : Value) (d : Option Addr) : List V → Hp → VK → Prop := fun xs H Q => ∃ (C : Addr) (c : V) (cv : Value) (b : Bool) (dd : Addr) (fs : List (Str × V)),
  xs = [.ref a, c] ∧ cls = .ref C ∧ d = some dd ∧ H dd = some (.xd fs) ∧ XCls K C ∧ (∀ u, RelV c u → u = cv) ∧ PySem.W.kitOne K (.ref C) cv = some b ∧ Q (.bl b) H
theorem call_isXd {X : Cx} {a : Addr} {oe : Obj} {cls : Value} {d : Option Addr} {pn : List (Addr × Obj)} (hz : Zc cls d oe) (hf : ∃ vs, oe.data = .fields vs) : CallR (X.suite a ((a, oe) :: pn)) (.builtin "isinstance") (rIsXd X.K a cls d) := by
  intro pins s σ H xs us Q I r h
  obtain ⟨C, c, cv, b, dd, fs, rfl, rfl, rfl, ea, T, hcv, e, q⟩ := h
  cases r with
  | cons rx rr =>
    cases rr with
    | cons rt rr =>
      cases rr
      cases rx
      have ec := hcv _ rt
      subst ec
      obtain ⟨hget, _⟩ := I.pin (a, oe) (List.mem_append.mpr (.inl List.mem_cons_self))
      obtain ⟨vs, hv⟩ := hf
      have hx : ObjOk X.prog X.w H s.heap dd (.xd fs) := I.hok dd _ ea
      obtain ⟨mA, hns, hr⟩ := hx
      obtain ⟨od, ho, hl⟩ := lookIn_ns hns
      have J : PySem.W.InstAt s.heap a oe C (some od) := ⟨hget, hz.1, by unfold PySem.W.notCls; rw [hv] <;> rfl, by rw [hz.2]; exact ho⟩
      exact PySem.W.kia_one (PySem.W.kitx_exc T.cl T.xf.ga T.xf.gg T.xf.exC T.ha T.hn T.ht T.hm) I.kIn J e (fun z => nomatch z) fun tk => ⟨.bl b, H, I.kept (t' := tk) fun _ _ z => z, rfl, q⟩
theorem pe_gref {X : Cx} {x : Str} {a : Addr} {pos : Pos} (hg : Gl X x) (hm : X.mg x = some (.ref a)) (hd : (x == ("__debug__" : Str)) = false := by decide) : PE X (.Name x pos) (tC (.ref a)) := pe_glob hg hm rfl hd
end Kb

/-! ### dicts: made of dicts, lists and tuples of pairs; emptied -/
namespace Kb
open PySem PySem.Spec PyProof.Rows L2
section
variable {X : Cx}
/-- a tuple whose object is told whole -/
def ptup (a : Addr) (xs : List V) : HO := .ext fun h => xs.length ≤ sizeLine ∧ ∃ (its : List Value) (n : Nat) (sl : Array (Option Value)), Vals xs its ∧ h.get? a = some ⟨.type "tuple", none, .seq its.toArray n, sl⟩
def PTup (K : PySem.W.Frag) (H : Hp) (a : Addr) (xs : List V) : Prop := H a = some (ptup a xs) ∨ ∃ (its : List Value) (n : Nat) (sl : Array (Option Value)), K.lookup a = some ⟨.type "tuple", none, .seq its.toArray n, sl⟩ ∧ xs.length ≤ sizeLine ∧ Vals xs its
theorem PTup.at_ {pins : List (Addr × Obj)} {σ : L2.St} {H : Hp} {s : Shared} {a : Addr} {xs : List V} (I : Inv X pins σ H s) (h : PTup X.K H a xs) : ∃ (its : List Value) (n : Nat) (sl : Array (Option Value)), Vals xs its ∧ xs.length ≤ sizeLine ∧ s.heap.get? a = some ⟨.type "tuple", none, .seq its.toArray n, sl⟩ := by
  rcases h with h | ⟨its, n, sl, l, z, r⟩
  · obtain ⟨⟨z, its, n, sl, r, e⟩, _, _⟩ := I.hok a _ h
    exact ⟨its, n, sl, r, z, e⟩
  · exact ⟨its, n, sl, r, z, I.kIn a _ l⟩
/-- pairs at hand: their keys and things -/
theorem prs_of {pins : List (Addr × Obj)} {σ : L2.St} {H : Hp} {s : Shared} (I : Inv X pins σ H s) : ∀ {ps : List Addr} {kvs : List (L2.Key × V)}, Paired (fun p kv => SqT X.K H p [kV kv.1, kv.2]) ps kvs →
    ∃ (prs : List (L2.Key × Value)) (pvs : List (Value × Value)), KV kvs prs ∧ prs.length = ps.length ∧ pvs.length = ps.length ∧ ∀ (j : Nat) (k v : Value), pvs[j]? = some (k, v) → ∃ (b : Addr) (c : L2.Key), ps[j]? = some b ∧ s.heap.IsTuple b #[k, v] ∧ prs[j]? = some (c, v) ∧ (mixKind X.prog X.w).is c k = true
  | _, _, .nil => ⟨[], [], .nil, rfl, rfl, fun j k v e => nomatch e⟩
  | _, _, .cons (a := p) (b := kv) h t => by
    obtain ⟨prs, pvs, r, l1, l2, g⟩ := prs_of I t
    obtain ⟨its, rv, ht, _⟩ := I.tuple h
    obtain ⟨u, y, rfl, ru, ry⟩ := vals2 rv
    refine ⟨(kv.1, y) :: prs, (u, y) :: pvs, .cons ⟨rfl, ry⟩ r, by rw [List.length_cons, List.length_cons, l1], by rw [List.length_cons, List.length_cons, l2], fun j k v e => ?_⟩
    rcases j with _ | j
    · cases e
      exact ⟨p, kv.1, rfl, ht, rfl, kV_is ru⟩
    · obtain ⟨b, c, e1, e2, e3, e4⟩ := g j k v e
      exact ⟨b, c, e1, e2, e3, e4⟩
/-- dict(x): of a dict, of a list or a tuple of pairs -/
@[irreducible] def rDictU (K : PySem.W.Frag) : List V → Hp → VK → Prop := fun xs H Q => ∃ a, xs = [.ref a] ∧ (
  (∃ kvs, Rd H a (.dK kvs) ∧ ∀ p, H p = none → Q (.ref p) (upd H p (.dK kvs))) ∨
  (∃ (ps : List Addr) (kvs : List (L2.Key × V)), SqL K H a (ps.map V.ref) ∧ Paired (fun p kv => SqT K H p [kV kv.1, kv.2]) ps kvs ∧ ∀ p, H p = none → Q (.ref p) (upd H p (.dK (mergeK [] kvs)))) ∨
  ∃ (ps : List Addr) (kvs : List (L2.Key × V)), PTup K H a (ps.map V.ref) ∧ Paired (fun p kv => SqT K H p [kV kv.1, kv.2]) ps kvs ∧ ∀ p, H p = none → Q (.ref p) (upd H p (.dK (mergeK [] kvs))))
theorem u_dict (hc : X.calm = true) : CallR X (.type "dict") (rDictU X.K) := by
  intro pins s σ H xs us Q I r h
  unfold rDictU at h
  obtain ⟨a, rfl, h⟩ := h
  rcases h with ⟨kvs, hr, q⟩ | ⟨ps, kvs, hl, hp, q⟩ | ⟨ps, kvs, ht, hp, q⟩
  · obtain ⟨u, rfl, rx⟩ := vals1 r
    cases rx
    exact d_copyOf I hr fun p s' n I' => ⟨.ref p, _, I', rfl, q p n⟩
  · exact call_dictP hc pins s σ H _ us Q I r ⟨a, ps, kvs, rfl, hl, hp, q⟩
  · obtain ⟨u, rfl, rx⟩ := vals1 r
    cases rx
    obtain ⟨its, n, sl, rv, z, e⟩ := PTup.at_ I ht
    have ei := refs_at rv
    subst ei
    obtain ⟨prs, pvs, rel, l1, l2, g⟩ := prs_of I hp
    rw [List.length_map] at z
    refine PySem.call_dict_pairs (knd := mixKind X.prog X.w) (kvs := prs) (PySem.PairArg.tuple a (ps.map Value.ref).toArray (fun j => (ps[j]?).getD 0) pvs) (I.ok.hd hc) ⟨⟨_, n, e, rfl, rfl, rfl⟩, by simp [l2], fun j k v ej => ?_⟩ ⟨by rw [l1, l2], fun j k v ej => ?_⟩ (by rw [l2]; exact z) fun h' tk hd' k => ?_
    · obtain ⟨b, c, e1, e2, e3, e4⟩ := g j k v ej
      exact ⟨by simp [e1], .inl (by show s.heap.IsTuple ((ps[j]?).getD 0) _; rw [e1]; exact e2)⟩
    · obtain ⟨b, c, e1, e2, e3, e4⟩ := g j k v ej
      exact ⟨c, e3, e4⟩
    · have hm : (s.heap.objs.size == sysModules) = false := beq_eq_false_iff_ne.mpr (Nat.ne_of_gt I.big)
      have hz : (mergeK [] kvs).length ≤ sizeLine := by
        refine Nat.le_trans (length_mergeK kvs []) ?_
        rw [List.length_nil, Nat.zero_add, rel.length, l1]
        exact z
      exact ⟨.ref s.heap.objs.size, upd H s.heap.objs.size (.dK (mergeK [] kvs)), I.laid (t' := tk) (fun b o e => k b o List.not_mem_nil e) (Nat.le_refl _) (show ObjOk X.prog X.w _ _ _ (.dK (mergeK [] kvs)) from ⟨hz, hm, merged [] prs, KV.merge rel .nil, hd'⟩), rfl, q _ (I.hok.fresh (Nat.le_refl _))⟩
/-- d.clear() -/
def rDClr : V → List V → Hp → VK → Prop := fun x xs H Q => ∃ a kvs, x = .ref a ∧ xs = [] ∧ H a = some (.dK kvs) ∧ Q .non (upd H a (.dK []))
theorem mt_dclear : MtR X "dict.clear" rDClr := by
  intro pins s σ H x xs v us Q I rx rxs h
  obtain ⟨a, kvs, rfl, rfl, ha, q⟩ := h
  cases rx
  cases rxs
  obtain ⟨z, hd, vs, rel, dd⟩ := dk_of I.hok ha
  refine call_meetsIn PySem.F.slot_dict_clear dd.typeIs PySem.F.entry_dict_clear (PySem.F.args_dict_clear_1 _) (meets_dict_clear (knd := mixKind X.prog X.w) a) ⟨vs, dd, by rw [← rel.length]; exact z, fun h' dd' hs => ?_⟩
  have he : ∃ o, h'.get? a = some o := let ⟨o, _, _, ho, _⟩ := dd'; ⟨o, ho⟩
  exact ⟨.non, _, d_write (t' := s.toks) I (by rw [ha]; exact True.intro) hs he (dk_new (Nat.zero_le _) hd .nil dd'), rfl, q⟩
end
end Kb
/-! ### tuple(d.items()) -/
namespace Kb
open PySem PySem.Spec PyProof.Rows L2
section
variable {prog : Program} {w : World} {KT : Type} [DecidableEq KT] {knd : KeyKind prog w KT} {A : Around} {E : Value → Shared → Prop} {s : Shared} {r d : Addr} {kvs : List (KT × Value)} {ep : Nat}
/-- what a dict's items are when they have been gone through -/
def Got (knd : KeyKind prog w KT) (kvs : List (KT × Value)) (s : Shared) (h' : Heap) (acc : Array Value) (as : List Addr) : Prop :=
  (∀ b o, s.heap.get? b = some o → h'.get? b = some o) ∧ (∃ c, h'.get? s.heap.objs.size = some { cls := .type "list", dict := none, data := .seq acc c, slots := #[] }) ∧ as.length = kvs.length ∧ PySem.W.KdxG knd kvs s.heap.objs.size h' as ∧ acc.toList = as.map Value.ref
theorem collect_items {Q : List Value → Shared → Prop} (hh : A.handled = none) (hv : s.heap.IsItemsView r d) (hm : s.heap.DictAt knd d kvs ep) (hn : kvs.length ≤ sizeLine)
    (q : ∀ (h' : Heap) (tk : Nat) (acc : Array Value) (as : List Addr), Got knd kvs s h' acc as → Q acc.toList { s with heap := h', toks := tk }) : wpAny (model prog w) A (collect (.ref r)) Q E s := by
  have hr : r < s.heap.objs.size := let ⟨_, ho, _⟩ := hv; Heap.lt_size ho
  have hd : d < s.heap.objs.size := hm.lt_size
  unfold collect
  refine wpAny_bind (wpAny_runValue (codeAny_builtin PySem.F.entry_proto_collect ?_))
  rw [Around.under_plainId PySem.F.plain_proto_collect _]
  show wpAny _ A.in1 (newList [] >>= fun l => again (.builtin "list.__iadd__" ⟨[l, .ref r], []⟩)) _ _ _
  refine wpAny_bind (wpAny_newObj_type ?_)
  refine wpAny_pure ⟨plainId_quiet PySem.F.plain_list_iadd _, codeAny_builtin PySem.F.entry_list_iadd ?_⟩
  rw [Around.under_plainId PySem.F.plain_list_iadd _]
  show wpAny _ A.in1 (Builtin.List.listExtendWith (.ref s.heap.objs.size) (.ref r) (.ref s.heap.objs.size)) _ _ _
  have hS : (s.heap.push { cls := .type "list", data := .seq ([] : List Value).toArray }).get? s.heap.objs.size = some { cls := .type "list", data := .seq #[] 0 } := Heap.get?_push_size _ rfl
  refine wpAny_mono (PySem.W.kdx_extend (knd := knd) (kvs := kvs) (ep := ep) (A := A) (R := fun rr s' => rr = .ok (.ret (.ref s.heap.objs.size)) ∧ ∃ (h' : Heap) (tk : Nat) (acc : Array Value) (as : List Addr), s' = { s with heap := h', toks := tk } ∧ Got knd kvs s h' acc as)
    (s := { s with heap := s.heap.push { cls := .type "list", data := .seq ([] : List Value).toArray } }) hh (let ⟨o, ho, x⟩ := hv; ⟨o, Heap.get?_push_of_some _ ho, x⟩) (hm.push _) _ (Nat.ne_of_gt hr) (Nat.ne_of_lt hd) _ 0 hS
    (fun h' tk acc c as hk hS' hl hG hacc => ⟨rfl, h', tk, acc, as, rfl, fun b o e => hk b o (Nat.ne_of_lt (Heap.lt_size e)) (Heap.get?_push_of_some _ e), ⟨c, hS'⟩, hl, hG.low (Nat.le_of_lt (Heap.lt_size hS)), hacc⟩) hn) (fun fin s' z => ?_) fun e s' z => ?_
  · cases fin with
    | done f =>
      obtain ⟨e, h', tk, acc, as, rfl, g⟩ := z
      cases e
      show wpAny _ A (load s.heap.objs.size >>= _) _ _ _
      obtain ⟨c, hS'⟩ := g.2.1
      exact wpAny_bind (wpAny_load hS' (wpAny_pure (q h' tk acc as g)))
    | again c' =>
      refine ⟨z.1, codeAny_mono z.2 fun rr s2 z2 => ?_⟩
      obtain ⟨rfl, h', tk, acc, as, rfl, g⟩ := z2
      show wpAny _ A (load s.heap.objs.size >>= _) _ _ _
      obtain ⟨c, hS'⟩ := g.2.1
      exact wpAny_bind (wpAny_load hS' (wpAny_pure (q h' tk acc as g)))
  · exact absurd z.1 (by simp)
theorem call_tuple_items {Q : Value → Shared → Prop} (hh : A.handled = none) (hv : s.heap.IsItemsView r d) (hm : s.heap.DictAt knd d kvs ep) (hn : kvs.length ≤ sizeLine)
    (q : ∀ (h' : Heap) (tk : Nat) (acc : Array Value) (as : List Addr), Got knd kvs s h' acc as → Q (.ref h'.objs.size) { s with heap := h'.push { cls := .type "tuple", data := .seq acc }, toks := tk }) : wpAny (model prog w) A (call (.type "tuple") [.ref r]) Q E s := by
  have code : codeAny (model prog w) A.in1 (.call (.builtin "tuple.__new__") ⟨[.type "tuple", .ref r], []⟩) (wants (fun obj s₁ => s₁.TypeIs obj "tuple" ∧ Q obj s₁) E) s := by
    refine codeAny_of_tree ?_
    show wpAny _ A.in1.in1 (do checkBuiltinCall "tuple.__new__" ⟨[.type "tuple", .ref r], []⟩; again (.builtin "tuple.__new__" ⟨[.type "tuple", .ref r], []⟩)) _ _ s
    refine wpAny_bind (wpAny_of_eq (PySem.F.newCall_tuple_1 _) (wpAny_pure ⟨plainId_quiet PySem.F.plain_tuple_new _, codeAny_builtin PySem.F.entry_tuple_new ?_⟩))
    rw [Around.under_plainId PySem.F.plain_tuple_new _]
    have hsub := sub_tuple_self
    have hinit := init_tuple_lookup
    have hmh := madeHere_tuple
    have hTI : s.TypeIs (.ref r) "dict_items" := hv.typeIs
    wp_walk using wpAny_typeOf hTI, collect_items (knd := knd) (kvs := kvs) (ep := ep) (A := A.in1.in1) hh hv hm hn
    intro h' tk acc as g
    show wpAny _ _ (Builtin.Tuple.tupleExact acc.toList.toArray >>= fun v => ret v) _ _ _
    unfold Builtin.Tuple.tupleExact
    have ea : acc.toList.toArray = acc := by simp
    have el : acc.size = kvs.length := by
      have := congrArg List.length g.2.2.2.2
      rw [List.length_map, g.2.2.1] at this
      simpa using this
    refine wpAny_bind (wpAny_newObj_type ?_ (by show acc.toList.toArray.size ≤ sizeLine; rw [ea, el]; exact hn))
    refine wpAny_pure ?_
    rw [ea]
    exact ⟨⟨_, Heap.get?_push_size _ rfl, rfl⟩, q h' tk acc as g⟩
  refine callType_codes (Q₁ := fun obj s₁ => s₁.TypeIs obj "tuple" ∧ Q obj s₁) PySem.F.called_tuple (PySem.F.typeCall_tuple_1 _) PySem.F.entry_object_init code fun obj s₁ h₁ => ?_
  exact ⟨h₁.1, PySem.F.args_object_init_2 obj _, object_init_meets PySem.F.called_tuple.init.lookup PySem.F.called_tuple.made (by decide) prog w A.in1 _ s₁ ⟨h₁.1, rfl, h₁.2⟩⟩
end
end Kb
namespace Kb
open PySem PySem.Spec PyProof.Rows L2
theorem paired_imp {α β : Type} {F G : α → β → Prop} (h : ∀ a b, F a b → G a b) : ∀ {xs : List α} {ys : List β}, Paired F xs ys → Paired G xs ys
  | _, _, .nil => .nil
  | _, _, .cons r t => .cons (h _ _ r) (paired_imp h t)
/-- the items of the dict d, laid as pairs -/
def rItemsT (x : V) (H : Hp) (Q : VK) : Prop := ∃ (d : Addr) (kvs : List (L2.Key × V)), x = .ref d ∧ H d = some (.dK kvs) ∧
  ∀ (H' : Hp) (p : Addr) (ts : List Addr), (∀ b o, H b = some o → H' b = some o) → H p = none → H' p = some (ptup p (ts.map V.ref)) → Paired (fun (t : Addr) (q : L2.Key × V) => H' t = some (.tup [kV q.1, q.2])) ts kvs → Q (.ref p) H'
def tTupItems (te : TE) : TE := fun σ H Q => te σ H fun x H1 => rItemsT x H1 Q
theorem pe_tupItems {X : Cx} {e : Expr} {te : TE} {p apos cpos pos : Pos} (hc : X.calm = true) (he : PE X e te) (hg : Gl X "tuple") (hm : X.mg "tuple" = none) (hbase : attributeBase e "items" X.env (eval e X.env) = eval e X.env := by rfl) (hline : (apos.endLine == cpos.line) = true := by rfl)
    (hs : starEach [.Call (.Attribute e "items" apos) [] [] cpos] X.env = (false, eval (.Call (.Attribute e "items" apos) [] [] cpos) X.env) :: starEach [] X.env := by rfl) :
    PE X (.Call (.Name "tuple" p) [.Call (.Attribute e "items" apos) [] [] cpos] [] pos) (tTupItems te) := by
  refine ⟨fun pins s σ H Q I hq => ?_⟩
  refine wpAny_Call_Name_kw (ld_blt I hg hm boot_tuple (PyProof.Rows.callWith_type1 ?_ hs rfl))
  rw [hs]
  refine Calls.spliced_cons (wpAny_Call_method (T := "dict") (id := "dict.items") hbase rfl hline PySem.F.plainAttrs_dict PySem.F.slot_dict_items PySem.F.type_dict_items (thn (he.run pins s σ H _ I hq) fun u s1 ⟨x, H1, I1, rx, d, kvs, ex, hd, q⟩ => ?_))
  subst ex
  obtain rfl : u = Value.ref d := rx
  obtain ⟨hz, h0, vs, kv, dd⟩ := I1.hok d _ hd
  obtain ⟨ep, da⟩ := dd.dictAt
  have lk : kvs.length = vs.length := Paired.length kv
  have I2 : Inv X pins σ H1 { s1 with heap := s1.heap.push { cls := .type "dict_items", data := .fields #[.ref d] } } := I1.kept (t' := s1.toks) fun b o q => Heap.get?_push_of_some _ q
  refine ⟨dd.typeIs, dd.mapOf.noDict, ?_⟩
  show wpAny _ _ (callWith cpos (.builtin "dict.items") [.ref d] [] []) _ _ s1
  refine method_meetsIn PySem.F.slot_dict_items PySem.F.entry_dict_items rfl (PySem.evalArgs_none ⟨rfl, dd.typeIs, PySem.F.args_dict_items_1 _, _, meets_dict_items (mixKind X.prog X.w) d h0, ⟨vs, dd⟩, ?_⟩)
  refine Calls.spliced_nil (call_tuple_items (knd := mixKind X.prog X.w) (kvs := vs) (ep := ep) (I1.ok.hd hc) ⟨_, Heap.get?_push_size _ rfl, rfl, rfl⟩ (da.push _) (by omega) fun h' tk acc as g => ?_)
  obtain ⟨hk, ⟨c, hS⟩, hl, hG, hacc⟩ := g
  obtain ⟨H', k1, k2, k3, k4, k5, k6, J⟩ := LiI.items_laid (tk := tk) I2 hz kv hk hS hl hG hacc
  have nT : H' h'.objs.size = none := J.hok.fresh (Nat.le_refl _)
  have up : ∀ b o, H' b = some o → upd H' h'.objs.size (ptup h'.objs.size (as.map V.ref)) b = some o := fun b o e => (upd_ne (ne_of_none e nT)).trans e
  have eT : (h'.push { cls := .type "tuple", data := .seq acc }).get? h'.objs.size = some ({ cls := .type "tuple", data := .seq acc } : Obj) := Heap.get?_push_size _ rfl
  refine ⟨.ref h'.objs.size, _, J.laid (t' := tk) (a := h'.objs.size) (o := ptup h'.objs.size (as.map V.ref)) (fun b o e => Heap.get?_push_of_some _ e) (Nat.le_refl _) ⟨⟨by rw [List.length_map]; omega, acc.toList, 0, #[], by rw [hacc]; exact LiI.vals_refs as, by rw [Array.toArray_toList]; exact eT⟩, ⟨_, eT⟩, fun h1 h2 ⟨z, its, n, sl, r, e⟩ st => ⟨z, its, n, sl, r, st _ e⟩⟩, rfl,
    q _ _ as (fun b o e => up b o (k1 b o e)) ?_ upd_same (paired_imp (fun t p z => up t _ z) k6)⟩
  cases z : H1 h'.objs.size with
  | none => rfl
  | some o =>
    rw [k1 _ _ z] at nT
    cases nT
end Kb

/-! ### own classes: __init__ with defaults, made by place and by name; a method called by names -/
namespace Kb
open PySem PySem.Spec PyProof.Rows L2
/-- the __init__ of the class at C, its defaults dvs -/
def DefD (K : PySem.W.Frag) (C : Addr) (st : Stmt) (qual : Str) (dvs : List V) : Prop := ∃ f fd, Meth K C "__init__" f ∧ FunD K "__init__" qual (defArgs st) (defBody st) (defScope st) dvs [] f fd
structure CalD (P : Program) (w : World) (K : PySem.W.Frag) (mg : Str → Option Value) (base : Heap) (CX : CXT) (k : Nat) (C : Addr) (st : Stmt) (qual : Str) (dvs : List V) (ps : List Str) (sp : Sp) : Prop where
  ex : ∃ f fd, Meth K C "__init__" f ∧ FnOk P w K mg base CX k f fd ps sp ∧ FunD K "__init__" qual (defArgs st) (defBody st) (defScope st) dvs [] f fd
theorem CalD.of {P : Program} {w : World} {K : PySem.W.Frag} {mg : Str → Option Value} {base : Heap} {C : Addr} {qual : Str} {st : Stmt} {dvs : List V} {N ps : List Str} {k : Nat} {sp : Sp} (D : DefD K C st qual dvs) (S : FnScope N ps (defScope st)) (len : ∀ vs H Q E, sp vs H Q E → vs.length = ps.length)
    (hbody : ∀ (f : Addr) (cdv : Value) (A : Around) (outer : List Env) (s : Shared) (H : Hp) (vs : List V) (Q : VK) (E : XK), Room k (A.deeper (envOfC qual (defScope st) s.heap.objs.size f cdv)) → sp vs H Q E →
      ∃ t, PSs (cxOf CX0 P w K mg base N qual (defScope st) f cdv A outer s H E) (defBody st) t ∧ t { nx := fun _ H' => Q .non H', rt := Q } (start N vs) H) : CalD P w K mg base CX0 (k + 1) C st qual dvs ps sp := by
  obtain ⟨f, fd, hm, F⟩ := D
  exact ⟨f, fd, hm, F.ok S len (hbody f), F⟩
/-- how a call with n things by place and some by name (ks) puts them: g -/
def Puts (st : Stmt) (qual : Str) (ps : List Str) (dn n : Nat) (ks : List Str) (g : {α : Type} → List α → List α → List α → List α) : Prop :=
  ∀ (T : Addr) (kV doc pm : Value) (an : Option Addr) (cdv ct : Value) (us its ws : List Value), us.length = n → its.length = dn → ws.length = ks.length →
    ∃ k, bindArgs (PySem.W.fnOf "__init__" qual (defArgs st) (defBody st) (defScope st) (.ref T) kV doc pm an cdv ct) ⟨us, ks.zip ws⟩ = seqItems? (.ref T) >>= k ∧ k (some its.toArray) = pure (ps.zip (g us its ws))
def Keeps3 (g : {α : Type} → List α → List α → List α → List α) : Prop := ∀ {vs ds zs : List V} {us its ws : List Value}, Vals vs us → Vals ds its → Vals zs ws → Vals (g vs ds zs) (g us its ws)
section
variable {X : Cx} {CX : CXT} {k n : Nat} {C : Addr} {st : Stmt} {qual : Str} {dvs : List V} {ps ks : List Str} {sp : Sp} {E : XK} {x : Str} {p pos : Pos} {e : Expr} {es : List Expr} {kws : List Keyword} {t tk : TA}
theorem pe_makeD (g : {α : Type} → List α → List α → List α → List α) (hmk : PySem.W.makesIn X.K C = true) (hkc : PySem.W.keepIn X.K (.ref C) = true) (M : CalD X.prog X.w X.K X.mg X.base CX k C st qual dvs ps sp) (hd : dvs ≠ []) (hrel : Keeps3 g) (hp : Puts st qual ps dvs.length (n + 1) ks g)
    (hr : Room (k + 1) X.A) (hg : Gl X x) (hm : X.mg x = some (.ref C)) (hx : Passes CX X E) (ha : PA X (e :: es) t) (hkw : PK X kws tk) (hall : (backToKw pos (keywordEach kws X.env)).all (·.1.isSome) = true := by rfl) (hks : (backToKw pos (keywordEach kws X.env)).filterMap (·.1) = ks := by rfl)
    (hdb : (x == ("__debug__" : Str)) = false := by decide) (he : starEach (e :: es) X.env = (false, eval e X.env) :: starEach es X.env := by rfl) (hpl : ((backTo pos (starEach (e :: es) X.env)).any (·.1) || (backToKw pos (keywordEach kws X.env)).any (·.1.isNone)) = false := by rfl) :
    PE X (.Call (.Name x p) (e :: es) kws pos) (tMakeN C n ks.length sp (fun vs zs => g vs dvs zs) E t tk) := by
  obtain ⟨f, fd, me, F, D⟩ := M.ex
  obtain ⟨its, hb⟩ := D.kbindsD (ps := ps) (n + 1) ks g hd hrel hp
  exact pe_makeN ⟨hmk, me.at_, me.fn, hkc⟩ F hr hg hm hb hx ha hkw hall hks hdb he hpl
theorem pe_makeD0 (g : {α : Type} → List α → List α → List α → List α) (hmk : PySem.W.makesIn X.K C = true) (hkc : PySem.W.keepIn X.K (.ref C) = true) (M : CalD X.prog X.w X.K X.mg X.base CX k C st qual dvs ps sp) (hd : dvs ≠ []) (hrel : Keeps3 g) (hp : Puts st qual ps dvs.length 1 ks g)
    (hr : Room (k + 1) X.A) (hg : Gl X x) (hm : X.mg x = some (.ref C)) (hx : Passes CX X E) (hkw : PK X kws tk) (hall : (backToKw pos (keywordEach kws X.env)).all (·.1.isSome) = true := by rfl) (hks : (backToKw pos (keywordEach kws X.env)).filterMap (·.1) = ks := by rfl)
    (hdb : (x == ("__debug__" : Str)) = false := by decide) (hpl : ((backTo pos (starEach [] X.env)).any (·.1) || (backToKw pos (keywordEach kws X.env)).any (·.1.isNone)) = false := by rfl) :
    PE X (.Call (.Name x p) [] kws pos) (tMakeN C 0 ks.length sp (fun vs zs => g vs dvs zs) E tNil tk) := by
  obtain ⟨f, fd, me, F, D⟩ := M.ex
  obtain ⟨its, hb⟩ := D.kbindsD (ps := ps) 1 ks g hd hrel hp
  exact pe_makeK0 ⟨hmk, me.at_, me.fn, hkc⟩ F hr hg hm hb hx hkw hall hks hdb hpl
end
/-- o.m(a = .., b = ..), all by name -/
def tMethK (C : Addr) (m : Str) (n : Nat) (sp : Sp) (gV : List V → List V → List V) (E : XK) (ta : TE) (tk : TA) : TE := fun σ H Q => ta σ H fun x H1 => rRcvU C m x H1 (tk σ H1 fun zs H2 => zs.length = n ∧ sp (gV [x] zs) H2 Q E)
/-- a method, told with its text -/
structure CalF (P : Program) (w : World) (K : PySem.W.Frag) (mg : Str → Option Value) (base : Heap) (CX : CXT) (k : Nat) (C : Addr) (st : Stmt) (m qual : Str) (ps : List Str) (sp : Sp) : Prop where
  ex : ∃ f fd, Meth K C m f ∧ FnOk P w K mg base CX k f fd ps sp ∧ Fun K m qual st f fd
section
variable {P : Program} {w : World} {K : PySem.W.Frag} {mg : Str → Option Value} {base : Heap} {C : Addr} {m qual : Str} {st : Stmt} {N ps : List Str} {k : Nat} {sp : Sp}
theorem CalF.of (D : DefM K C st m qual) (S : FnScope N ps (defScope st)) (len : ∀ vs H Q E, sp vs H Q E → vs.length = ps.length)
    (hbody : ∀ (f : Addr) (cdv : Value) (A : Around) (outer : List Env) (s : Shared) (H : Hp) (vs : List V) (Q : VK) (E : XK), Room k (A.deeper (envOfC qual (defScope st) s.heap.objs.size f cdv)) → sp vs H Q E →
      ∃ t, PSs (cxOf CX0 P w K mg base N qual (defScope st) f cdv A outer s H E).nox (defBody st) t ∧ t { nx := fun _ H' => Q .non H', rt := Q } (start N vs) H) : CalF P w K mg base CX0 (k + 1) C st m qual ps sp := by
  obtain ⟨f, fd, hm, F⟩ := D
  exact ⟨f, fd, hm, F.ok S len (hbody f), F⟩
theorem CalF.calM {CX : CXT} (M : CalF P w K mg base CX k C st m qual ps sp) (hb : ∀ (kV doc pm : Value) (an : Option Addr) (cdv ct : Value) (us : List Value), us.length = ps.length → bindArgs (PySem.W.fnOf m qual (defArgs st) (defBody st) (defScope st) .none kV doc pm an cdv ct) ⟨us, []⟩ = pure (ps.zip us)) : CalM P w K mg base CX k C m ps sp := by
  obtain ⟨f, fd, hm, F, D⟩ := M.ex
  exact ⟨f, fd, hm, F, D.binds hb⟩
end
theorem pe_methK {X : Cx} {CX : CXT} {k : Nat} {C : Addr} {st : Stmt} {ps ks : List Str} {sp : Sp} {E : XK} {m qual : Str} {pos apos : Pos} {o : Expr} {kws : List Keyword} {ta : TE} {tk : TA} {pl : Sem Bool} (g : {α : Type} → List α → List α → List α) (he : PE X o ta) (c : Cls X.K C) (M : CalF X.prog X.w X.K X.mg X.base CX k C st m qual ps sp)
    (hrel : ∀ {vs zs : List V} {us ws : List Value}, Vals vs us → Vals zs ws → Vals (g vs zs) (g us ws))
    (hp : ∀ (kV doc pm : Value) (an : Option Addr) (cdv ct : Value) (us ws : List Value), us.length = 1 → ws.length = ks.length → bindArgs (PySem.W.fnOf m qual (defArgs st) (defBody st) (defScope st) .none kV doc pm an cdv ct) ⟨us, ks.zip ws⟩ = pure (ps.zip (g us ws)))
    (hr : Room k X.A) (hx : Passes CX X E) (hkw : PK X kws tk) (hall : (backToKw pos (keywordEach kws X.env)).all (·.1.isSome) = true := by rfl) (hks : (backToKw pos (keywordEach kws X.env)).filterMap (·.1) = ks := by rfl)
    (hpl : ((backTo pos (starEach [] X.env)).any (·.1) || (backToKw pos (keywordEach kws X.env)).any (·.1.isNone)) = false := by rfl)
    (ht : eval (.Call (.Attribute o m apos) [] kws pos) X.env = (do
      let ov ← eval o X.env
      standAt apos.atName
      let (f, first) ← holding [ov] (getMethod ov m pl)
      callWith pos f first (backTo pos (starEach [] X.env)) (backToKw pos (keywordEach kws X.env))) := by rfl) :
    PE X (.Call (.Attribute o m apos) [] kws pos) (tMethK C m ks.length sp (fun vs zs => g vs zs) E ta tk) := by
  obtain ⟨f, fd, hm, F, F'⟩ := M.ex
  refine ⟨fun pins s σ H Q I h => ?_⟩
  unfold tMethK rRcvU at h
  refine PySem.W.methodCall_KW (pl := pl) (thn (he.run pins s σ H _ I h) fun u s1 ⟨x, H1, I1, rx, a, dx, fs, ex, ea, l, q⟩ => ?_) ht
  subst ex
  obtain rfl : u = Value.ref a := rx
  refine getmeth_ok I1 ea c hm l ?_
  refine PySem.W.callWith_KW0 (first := [.ref a]) (h₀ := X.base) I.ok.mod.kin hm.kp hall (thn (hkw.run pos pins s1 σ H1 _ I1 q) fun ws s2 ⟨zs, H2, I2, rz, l2, q2⟩ => ⟨I2.kIn, ?_⟩) hpl
  rw [hks]
  have hb : KBn X.K fd ps 1 ks (fun us ws => g us ws) (fun vs zs => g vs zs) := by
    obtain ⟨oc, od, kV, doc, pm, an, cdv, ct, osl, rfl, lk, hcd⟩ := F'.ex
    exact ⟨fun s us ws _ l1 l2 => .of_eq (hp kV doc pm an cdv ct us ws l1 l2), fun r1 r2 => hrel r1 r2⟩
  exact run_fnN (us := [.ref a]) (vs := [.ref a]) F hr hb hx I2 (.cons rfl .nil) rz rfl l2 q2
end Kb
/-! ### a thing of an own class is equal to itself -/
namespace Kb
open PySem PySem.Spec PyProof.Rows L2
section
variable {M : Model} {prog : Program} {w : World} {A : Around} {E : Value → Shared → Prop} {s : Shared} {K : PySem.W.Frag} {x C : Addr} {ox : Obj} {od : Option Obj}
theorem same_ref {R : Bool → Shared → Prop} (h : R true s) : wpAny M A (isSame (.ref x) (.ref x)) R E s := wpAny_of_eq (show isSame (.ref x) (.ref x) = pure true by simp [isSame]) h
theorem entry_same {Q : Fin → Shared → Prop} (q : Q (.done (.ret (.bool true))) s) : wpAny M A (Builtin.«object.__eq__» ⟨[.ref x, .ref x], []⟩) Q E s := by
  unfold Builtin.«object.__eq__»
  repeat (first | (with_reducible refine same_ref ?_) | wp_step)
  exact q
/-- == of the class at C is the one by identity -/
structure PlainEq (K : PySem.W.Frag) (C : Addr) : Prop where
  mro : PySem.W.mroIn K C (.type "object") = some true
  eq : PySem.W.findIn K (.ref C) "__eq__" = some (some (.builtin "object.__eq__"))
theorem rc_same (p : PlainEq K C) (hu : A.units < cLine) (X : K.In s.heap) (I : PySem.W.InstAt s.heap x ox C od) {Q : Value → Shared → Prop} (q : Q (.bool true) s) : wpAny (model prog w) A (richCompare .Eq (.ref x) (.ref x)) Q E s := by
  have one : wpAny (model prog w) A (tryCompare (.ref x) "__eq__" (.ref x)) (fun r s' => r = some (.bool true) ∧ s' = s) E s := by
    unfold tryCompare
    refine wpAny_bind (HN.ifBound_objEq X I p.eq (wpAny_call (codeAny_call_builtin F.cmp_object.eq.plain F.cmpEntry_eq (PySem.W.check_slot F.cmpKind_eq F.cmpSplit_eq (I.type.andThen (PySem.W.looks_mroIn X p.mro)) (F.cmpArgs_eq _ _) (entry_same ?_)))))
    exact wpAny_pure ⟨rfl, rfl⟩
  simp only [richCompare, cmpInfo_Eq, oneThing_ref]
  refine wpAny_holding (wpAny_bind (wpAny_cRoomFor hu (wpAny_bind (I.type.here (wpAny_bind (I.type.here ?_))))))
  simp only [bne_self_eq_false, Bool.false_eq_true, if_false, pure_bind]
  refine wpAny_bind (wpAny_mono one (fun r s1 z => ?_) fun _ _ e => e)
  obtain ⟨rfl, rfl⟩ := z
  exact wpAny_pure q
end
def rEqS (K : PySem.W.Frag) : R2 := fun x y H Q => rEqU K x y H Q ∨ ∃ a C dx fs, x = .ref a ∧ y = .ref a ∧ H a = some (.ins C dx fs) ∧ PlainEq K C ∧ Q (.bl true) H
theorem u_eqS {X : Cx} (hu : X.A.units + 64 < cLine) : OpR X (compareOp .Eq) (rEqS X.K) := by
  intro pins s σ H x y v u Q I rx ry h
  rcases h with h | ⟨a, C, dx, fs, rfl, rfl, ha, p, q⟩
  · exact u_eq hu pins s σ H x y v u Q I rx ry h
  · cases rx
    cases ry
    obtain ⟨mA, O, _⟩ := ins_get I.hok ha
    obtain ⟨od, J, _⟩ := O.look
    exact rc_same p (by omega) I.kIn J ⟨.bl true, H, I, rfl, q⟩
end Kb

/-! ### enumerate(d): the keys of a locked dict, counted from nought -/
namespace Kb
open PySem PySem.Spec PyProof.Rows L2
section
variable {prog : Program} {w : World} {A : Around} {E : Value → Shared → Prop} {s : Shared} {it d : Addr} {i n ep : Nat} {od : Obj} {es : Array DictEntry}
theorem nextOf_key {en : DictEntry} {Q : Value → Shared → Prop} (hit : s.heap.IsKeyIter it d i n ep) (hod : s.heap.get? d = some od) (hdd : od.data = .dict es ep) (hsz : es.size = n) (hx : es[i]? = some en)
    (q : ∀ h', h'.IsKeyIter it d (i + 1) n ep → Heap.SameBut it s.heap h' → Q en.key { s with heap := h' }) : wpAny (model prog w) A (Builtin.SmallTypes.nextOf (.ref it)) Q E s := by
  obtain ⟨oi, hi, ci, di⟩ := id hit
  have nx := F.slot_dict_keyiterator_next
  unfold Builtin.SmallTypes.nextOf
  refine wpAny_bind (wpAny_callSpecial?_slot (name := Str.ofString "__next__") hit.typeIs nx (wpAny_call_entry nx hit.typeIs F.entry_dict_keyiterator_next ?_ (F.args_dict_keyiterator_next_1 _)))
  obtain ⟨lt, rfl⟩ := Array.getElem?_eq_some_iff.mp hx
  have own : Builtin.Dict_items.ownsTuple "dict_keyiterator" = false := by decide
  refine wpAny_bind (wpAny_pure (wpAny_bind (wpAny_bind ?_)))
  first | refine wpAny_bind (wpAny_typeNameOfWhole_keyiter hit.typeIs (wpAny_pure (wpAny_bind (wpAny_fieldsOf hi di ?_)))) | refine wpAny_bind (wpAny_typeNameOf_keyiter hit.typeIs (wpAny_pure (wpAny_bind (wpAny_fieldsOf hi di ?_))))
  rw [own]
  simp only [Bool.false_eq_true, if_false]
  show wpAny _ _ (if (Value.ref d == Value.none) = true then _ else _) _ _ _
  have nn : ¬ ((Value.ref d == Value.none) = true) := Bool.false_ne_true
  rw [if_neg nn]
  refine wpAny_bind (wpAny_pure (wpAny_bind (wpAny_dictEntries hod hdd ?_)))
  rw [if_neg (by simp [hsz])]
  refine wpAny_bind (wpAny_pure (wpAny_bind (wpAny_dictEpoch hod hdd ?_)))
  rw [if_neg (by simp)]
  refine wpAny_pure ?_
  have h0 : ¬ ((i : Int) < 0) := by omega
  simp only [h0, if_false, Int.toNat_natCast, Array.getElem?_eq_getElem lt]
  refine wpAny_bind ?_
  first | refine wpAny_bind (wpAny_typeNameOfWhole_keyiter hit.typeIs (wpAny_pure (wpAny_bind (wpAny_isOneOf_keyiter hit.typeIs ?_)))) | refine wpAny_bind (wpAny_typeNameOf_keyiter hit.typeIs (wpAny_pure (wpAny_bind (wpAny_isOneOf_keyiter hit.typeIs ?_))))
  show wpAny _ _ (setField (.ref it) 1 (rawInt ((i : Int) + 1)) >>= _) _ _ _
  refine wpAny_bind (wpAny_setField hi di (by simp) ?_)
  have st : (s.heap.update it (Obj.mapFields (·.setIfInBounds 1 (rawInt ((i : Int) + 1))))).IsKeyIter it d (i + 1) n ep := ⟨_, Heap.get?_update_self _ hi (Obj.isFreed_of_fields (Obj.data_mapFields di _)), (Obj.cls_mapFields ..).trans ci, by rw [Obj.data_mapFields di]; simp [rawInt]⟩
  refine wpAny_bind (wpAny_holding (wpAny_bind (wpAny_isOneOf_keyiter (s := { s with heap := s.heap.update it (Obj.mapFields (·.setIfInBounds 1 (rawInt ((i : Int) + 1)))) }) st.typeIs ?_)))
  show wpAny _ _ (pure _) _ _ _
  exact wpAny_pure (wpAny_pure ⟨_, rfl, wpAny_pure (q _ st (Heap.SameBut.update ..))⟩)
theorem nextOf_key_end {Q : Value → Shared → Prop} (hh : A.handled = none) (hit : s.heap.IsKeyIter it d i n ep) (hod : s.heap.get? d = some od) (hdd : od.data = .dict es ep) (hsz : es.size = n) (hge : n ≤ i)
    (q : ∀ h' e, Heap.ExtBut it s.heap h' → (∃ o, h'.get? e = some o ∧ o.cls = .type "StopIteration") → E (.ref e) { s with heap := h' }) : wpAny (model prog w) A (Builtin.SmallTypes.nextOf (.ref it)) Q E s := by
  obtain ⟨oi, hi, ci, di⟩ := id hit
  have nx := F.slot_dict_keyiterator_next
  unfold Builtin.SmallTypes.nextOf
  refine wpAny_bind (wpAny_callSpecial?_slot (name := Str.ofString "__next__") hit.typeIs nx (wpAny_call_entry nx hit.typeIs F.entry_dict_keyiterator_next ?_ (F.args_dict_keyiterator_next_1 _)))
  have own : Builtin.Dict_items.ownsTuple "dict_keyiterator" = false := by decide
  refine wpAny_bind (wpAny_pure (wpAny_bind (wpAny_bind ?_)))
  first | refine wpAny_bind (wpAny_typeNameOfWhole_keyiter hit.typeIs (wpAny_pure (wpAny_bind (wpAny_fieldsOf hi di ?_)))) | refine wpAny_bind (wpAny_typeNameOf_keyiter hit.typeIs (wpAny_pure (wpAny_bind (wpAny_fieldsOf hi di ?_))))
  rw [own]
  simp only [Bool.false_eq_true, if_false]
  show wpAny _ _ (if (Value.ref d == Value.none) = true then _ else _) _ _ _
  have nn : ¬ ((Value.ref d == Value.none) = true) := Bool.false_ne_true
  rw [if_neg nn]
  refine wpAny_bind (wpAny_pure (wpAny_bind (wpAny_dictEntries hod hdd ?_)))
  rw [if_neg (by simp [hsz])]
  refine wpAny_bind (wpAny_pure (wpAny_bind (wpAny_dictEpoch hod hdd ?_)))
  rw [if_neg (by simp)]
  refine wpAny_pure ?_
  have h0 : ¬ ((i : Int) < 0) := by omega
  have gt : es.size ≤ i := by omega
  simp only [h0, if_false, Int.toNat_natCast, Array.getElem?_eq_none gt]
  refine wpAny_bind ?_
  first | refine wpAny_bind (wpAny_typeNameOfWhole_keyiter hit.typeIs (wpAny_pure ?_)) | refine wpAny_bind (wpAny_typeNameOf_keyiter hit.typeIs (wpAny_pure ?_))
  show wpAny _ _ (setField (.ref it) 0 .none >>= _) _ _ _
  refine wpAny_bind (wpAny_setField hi di (by simp) ?_)
  show wpAny _ _ (newExc (.type "StopIteration") [] >>= fun e => raiseNew e) _ _ _
  simp only [newExc, newTuple]
  refine wpAny_bind (wpAny_bind (wpAny_newObj_type (wpAny_bind (m := firstArgMember _ _) (wpAny_of_eq (a := Value.none) (by first | rfl | (simp only [firstArgMember]; rfl)) (wpAny_newObj_type ?_ (by size_fits)))) (by size_fits)))
  simp only [raiseNew]
  refine wpAny_bind (wpAny_handled ?_)
  rw [show A.in1.handled = none from hh]
  exact wpAny_bind (wpAny_pure (wpAny_throw (q _ _ (((Heap.SameBut.update ..).extBut.push _).push _) ⟨_, Heap.get?_push_size _ rfl, rfl⟩)))
end
/-- the dict whose object is od, walked by its keys -/
def KeysAr (d : Addr) (od : Obj) (es : Array DictEntry) (h : Heap) (its : Array Value) : Prop := h.get? d = some od ∧ its = es.map (·.key)
def KeysS (d : Addr) (od : Obj) (H : Hp) (xs : List V) : Prop := ∃ kvs, H d = some (.frz od (.dK kvs)) ∧ xs = kvs.map fun kv => kV kv.1
theorem keys_vals {P : Program} {w : World} : ∀ {es : List DictEntry} {kvs : List (L2.Key × V)} {vs : List (L2.Key × Value)}, Pairs (mixKind P w) es vs → KV kvs vs → Vals (kvs.map fun kv => kV kv.1) (es.map (·.key))
  | _, _, _, .nil, .nil => .nil
  | _, _, _, .cons h _ t, .cons r tr => by
    refine .cons ?_ (keys_vals t tr)
    obtain ⟨e, _⟩ := r
    dsimp only
    rw [e]
    exact relV_key h
theorem begins_keys {d : Addr} {od : Obj} {es : Array DictEntry} {ep : Nat} (hs : (d == sysModules) = false) (hx : od.ExactDict) (hd : od.data = .dict es ep) (its : Array Value) :
    Begins (.ref d) { cls := .type "dict_keyiterator", data := .fields #[.ref d, .int 0 0, .int es.size 0, .int ep 0] } fun h => KeysAr d od es h its where
  iter := fun prog w A E s Q hl h => iter_keys hs hl.1 hx hd h
  keeps := fun h h' x hk => ⟨hk d _ x.1, x.2⟩
  free := rfl
theorem src_keys (K : PySem.W.Frag) {d : Addr} {od : Obj} {es : Array DictEntry} {ep : Nat} (hs : (d == sysModules) = false) (hx : od.ExactDict) (hd : od.data = .dict es ep) :
    Src K d (KeysS d od) (KeysAr d od es) (fun h it i => h.IsKeyIter it d i es.size ep) { cls := .type "dict_keyiterator", data := .fields #[.ref d, .int 0 0, .int es.size 0, .int ep 0] } where
  get := fun hK I h => by
    obtain ⟨kvs, hf, rfl⟩ := h
    obtain ⟨_, hg, _, es', ep', vs, hdt, _, kv, o', es2, hm⟩ := I.frzK hf
    obtain ⟨ho, _, hdt', _, hp, _⟩ := hm
    rw [hg] at ho
    cases ho
    rw [(dict_ep hd hdt').1] at hp
    exact ⟨es.toList.map (·.key), keys_vals hp kv, hg, by rw [← Array.toList_map, Array.toArray_toList]⟩
  inj := fun hK I h h' => by
    obtain ⟨kvs, e, rfl⟩ := h
    obtain ⟨kvs', e', rfl⟩ := h'
    rw [e] at e'
    cases e'
    rfl
  lives := fun h => ⟨_, h.1⟩
  iobj := fun ⟨o, e, _, dt⟩ => ⟨o, e, fun v z => by rw [dt] at z; cases z⟩
  ikeep := fun st k => by
    obtain ⟨o, e, r⟩ := st
    exact ⟨o, k o e, r⟩
  draw := fun prog w A it its hh ne =>
    { live := fun _ _ st => let ⟨o, ho, _⟩ := st.1; ⟨o, ho⟩
      frame := fun _ _ _ st hk => ⟨let ⟨o, ho, r⟩ := st.1; ⟨o, hk it (by simp) o ho, r⟩, hk d (by simp) _ st.2.1, st.2.2⟩
      item := fun i s Q E hi st q => by
        obtain ⟨hi', ha, rfl⟩ := st
        have lt : i < es.size := by simpa using hi
        refine nextOf_key hi' ha hd rfl (Array.getElem?_eq_getElem lt) fun h' hit' hs' => ?_
        exact q _ h' s.toks (by simp [lt]) ⟨hit', (hs'.2 d ne).trans ha, rfl⟩ hs'
      done := fun s Q E st q => by
        obtain ⟨hi', ha, rfl⟩ := st
        exact nextOf_key_end hh hi' ha hd rfl (by simp) q }
  begin := fun its => begins_keys hs hx hd its
  first := fun e => ⟨_, e, rfl, rfl⟩
set_option maxHeartbeats 1000000 in
theorem meets_enum0 {v : Value} {o : Obj} {H : Heap → Prop} (B : Begins v o H) :
    Meets (Builtin.«enumerate.__new__» ⟨[.type "enumerate", v], []⟩) (fun _ R s => H s.heap ∧ R (.ok (.ret (.ref (s.heap.push o).objs.size))) { s with heap := (s.heap.push o).push { cls := .type "enumerate", data := .fields #[.none, .bool false, .ref s.heap.objs.size, rawInt 0, .none, .none] } }) :=
  .of_wp fun prog w A R s h => by
    obtain ⟨hp, g, d, tk, os⟩ := s; obtain ⟨h1, h⟩ := h
    have sb := sub_enumerate
    have q1 : ∀ {A' : Around} {E Q : Value → Shared → Prop}, Q (.ref hp.objs.size) ⟨hp.push o, g, d, tk, os⟩ → wpAny (model prog w) A' (pyIter v) Q E ⟨hp, g, d, tk, os⟩ := fun q => B.iter prog w _ _ ⟨hp, g, d, tk, os⟩ _ h1 q
    wp_walk using q1
    refine wpAny_stack_any fun st => wpAny_pure ?_
    split
    · rename_i c _ _ _ _ _
      cases (c == Value.type "enumerate") <;> (wp_walk using q1; exact ⟨_, rfl, h⟩)
    · wp_walk using q1
      exact ⟨_, rfl, h⟩
theorem enum0_begins {prog : Program} {w : World} {A : Around} {E : Value → Shared → Prop} {s : Shared} {v : Value} {o : Obj} {H : Heap → Prop} {Q : Value → Shared → Prop} (B : Begins v o H) (h1 : H s.heap)
    (h : ∀ h', IsEnum h' (s.heap.objs.size + 1) s.heap.objs.size 0 .none → h'.get? s.heap.objs.size = some o → h'.objs.size = s.heap.objs.size + 2 → (∀ b o, s.heap.get? b = some o → h'.get? b = some o) → Q (.ref (s.heap.objs.size + 1)) { s with heap := h' }) :
    wpAny (model prog w) A (PySem.call (.type "enumerate") [v]) Q E s := by
  refine callType_new F.called_enumerate (by decide) (F.typeCall_enumerate_1 _) (F.newCall_enumerate_1 _) (fun obj => F.args_object_init_2 obj _) F.entry_enumerate_new (meets_enum0 B) ⟨h1, ?_⟩
  have hz : (s.heap.push o).objs.size = s.heap.objs.size + 1 := Heap.size_push ..
  have he := Heap.get?_push_size (s.heap.push o) (o := { cls := .type "enumerate", data := .fields #[.none, .bool false, .ref s.heap.objs.size, rawInt 0, .none, .none] }) rfl
  show _ ∧ _
  rw [hz] at he ⊢
  exact ⟨⟨_, he, rfl⟩, h _ he (Heap.get?_push_of_some _ (Heap.get?_push_size _ B.free)) (by rw [Heap.size_push, hz]) fun b o x => Heap.get?_push_of_some _ (Heap.get?_push_of_some _ x)⟩
/-- enumerate(d) -/
@[irreducible] def iEnumD (te : TE) : TI := fun σ H R => te σ H fun x H1 => ∃ d od kvs, x = .ref d ∧ H1 d = some (.frz od (.dK kvs)) ∧ R (ItS (KeysS d od) 0) H1
theorem pi_enumD {X : Cx} {e : Expr} {te : TE} {p pos tpos : Pos} {elts : List Expr} {kk : Nat} (hg : Gl X "enumerate") (hm : X.mg "enumerate" = none) (he : PE X e te)
    (hs : starEach [e] X.env = (false, eval e X.env) :: starEach [] X.env := by rfl) :
    PI X (.Tuple elts kk tpos) (.Call (.Name "enumerate" p) [e] [] pos) (iEnumD te) := by
  unfold iEnumD
  refine ⟨fun pins s σ H R I h => ?_⟩
  refine wpAny_Call_Name_kw (ld_blt I hg hm boot_enumerate (PyProof.Rows.callWith_type1 ?_ hs rfl))
  rw [hs]
  refine Calls.spliced_cons (thn (he.run pins s σ H _ I h) fun u s1 ⟨x, H1, I1, rx, d, od, kvs, ex, hf, q⟩ => Calls.spliced_nil ?_)
  subst ex
  obtain rfl : u = Value.ref d := rx
  obtain ⟨hss, hgd, hx, es, ep, vs, hdt, hsz, kv, hm⟩ := I1.frzK hf
  have sr := src_keys X.K hss hx hdt
  obtain ⟨its, rv, hA⟩ := sr.get rfl I1 ⟨kvs, hf, rfl⟩
  refine enum0_begins (sr.begin its.toArray) hA fun h' hen hit hsz hk => wpAny_pyIter_enum hen ?_
  have I2 : Inv X pins σ H1 { s1 with heap := h' } := I1.kept (t' := s1.toks) hk
  have hlt := Heap.lt_size hgd
  refine ⟨s1.heap.objs.size + 1, [s1.heap.objs.size + 1, s1.heap.objs.size], _, _, H1, rfl, I2, turn_enumS sr 0 (s1.heap.objs.size + 1) s1.heap.objs.size (Nat.ne_of_lt hlt) (Nat.succ_ne_self _) (Nat.ne_of_gt (Nat.lt_succ_of_lt hlt)), ⟨⟨.none, by simpa using hen⟩, sr.first hit⟩, fun b hb => ?_, q⟩
  have hle : s1.heap.objs.size ≤ b := by
    rcases List.mem_cons.mp hb with z | z
    · rw [z]
      exact Nat.le_succ _
    · rw [List.mem_singleton.mp z]
      exact Nat.le_refl _
  exact I1.fpOk hle (I1.hok.fresh hle)
end Kb
namespace Kb
open PySem PySem.Spec PyProof.Rows L2
/-- list(d): the keys -/
@[irreducible] def rListD (K : PySem.W.Frag) : List V → Hp → VK → Prop := fun xs H Q => ∃ (a : Addr) (kvs : List (L2.Key × V)), xs = [.ref a] ∧ Rd H a (.dK kvs) ∧ ∀ p, H p = none → Q (.ref p) (upd H p (.lst (kvs.map fun kv => kV kv.1)))
theorem u_listD {X : Cx} (hc : X.calm = true) : CallR X (.type "list") (rListD X.K) := by unfold rListD; exact call_listD hc
section
variable {K : PySem.W.Frag} {H : Hp} {Q : VK} {a d : Addr} {x y v : V} {xs : List V} {kvs : List (L2.Key × V)} {k : L2.Key}
theorem listD_go (h : H a = some (.dK kvs)) (q : ∀ p, H p = none → Q (.ref p) (upd H p (.lst (kvs.map fun kv => kV kv.1)))) : rListD K [.ref a] H Q := by unfold rListD; exact ⟨a, kvs, rfl, .inl h, q⟩
theorem isiX_go {cv : Value} {n : String} {b : Bool} (ty : TyX K H x cv) (k : PySem.W.kitOne K cv (.type n) = some b) (q : Q (.bl b) H) : rIsiU K [x, .ty n] H Q := by unfold rIsiU; exact .inl ⟨x, .ty n, cv, .type n, b, rfl, .ty n, ty, k, q⟩
theorem eqS_no (h : rEqU K x y H Q) : rEqS K x y H Q := .inl h
theorem eqS_in {C dx : Addr} {fs : List (Str × V)} (h : H a = some (.ins C dx fs)) (p : PlainEq K C) (q : Q (.bl true) H) : rEqS K (.ref a) (.ref a) H Q := .inr ⟨a, C, dx, fs, rfl, rfl, h, p, q⟩
end
/-- a class whose things are equal by identity, and whose type is read plainly -/
structure PlainCls (K : PySem.W.Frag) (C : Addr) : Prop where
  cl : Cls K C
  eq : PlainEq K C
  ha : PySem.W.findIn K (.ref C) "__class__" = some (some (.builtin "object.__class__"))
  hn : PySem.W.specialIn K (.builtin "object.__class__") "__get__" = some (some (.builtin "getset_descriptor.__get__"))
  ht : PySem.W.takesIn K (.builtin "object.__class__") = some true
theorem PlainCls.ty {K : PySem.W.Frag} {C a dx : Addr} {H : Hp} {fs : List (Str × V)} (p : PlainCls K C) (h : H a = some (.ins C dx fs)) : TyX K H (.ref a) (.ref C) := .base (.ins h p.cl p.ha p.hn p.ht p.eq.mro)
end Kb

/-! ### more built-ins: max of two, sorted, list.index from a place on; their joined words -/
namespace Kb
open PySem PySem.Spec PyProof.Rows L2
@[irreducible] def rMax2U : List V → Hp → VK → Prop := fun xs H Q => ∃ i j, xs = [.int i, .int j] ∧ Q (.int (if j > i then j else i)) H
@[irreducible] def rSortedU (K : PySem.W.Frag) : List V → Hp → VK → Prop := rSorted K
@[irreducible] def rIdx3U (K : PySem.W.Frag) : V → List V → Hp → VK → Prop := fun x xs H Q => ∃ (a : Addr) (ns : List Int) (k : Int) (f j : Nat), x = V.ref a ∧ xs = [.int k, .int (f : Int)] ∧ SqL K H a (ns.map V.int) ∧ f ≤ j ∧ ns[j]? = some k ∧ (∀ m, f ≤ m → m < j → ns[m]? ≠ some k) ∧ Q (.int (j : Nat)) H
section
variable {X : Cx}
theorem u_max2 (hc : X.calm = true) : CallR X (.builtin "max") rMax2U := by unfold rMax2U; exact call_max2 hc
theorem u_sorted : CallR X (.builtin "sorted") (rSortedU X.K) := by unfold rSortedU; exact cr_sorted
theorem u_index3 : MtR X "list.index" (rIdx3U X.K) := by
  intro pins s σ H x xs v us Q I rx rxs h
  unfold rIdx3U at h
  obtain ⟨a, ns, k, f, j, rfl, rfl, hs, hfj, hz, hno, q⟩ := h
  cases rx
  cases rxs with
  | cons ry rt =>
    cases rt with
    | cons ra rn =>
      cases rn
      rename_i uy ua
      obtain ⟨t, rfl⟩ := (show ∃ t, ua = Value.int (f : Int) t from ra)
      obtain ⟨its, rv, ⟨⟨cls, dd, data, sl⟩, n, ho, hc, hdn, hd⟩, hlen⟩ := I.list hs
      simp only at hc hd; subst hc hd
      have hvl := rv.length
      rw [List.length_map] at hvl hlen
      have hjn : j < ns.length := (List.getElem?_eq_some_iff.mp hz).1
      have hsz : its.toArray.size = ns.length := by rw [List.size_toArray]; exact hvl.symm
      have hsl := sizeLine_eq
      have hfl : (ns.map V.int).all flatV = true := List.all_eq_true.mpr fun v hv => by obtain ⟨i, _, rfl⟩ := List.mem_map.mp hv; rfl
      have hall := mem_eqAt (A := X.A.in1) (s := s) ry rfl rv hfl
      refine call_meets PySem.F.slot_list_index ⟨_, ho, rfl⟩ PySem.F.entry_list_index (PySem.F.args_list_index_3 _ _ _)
        (SeqAt.list_index3_found a its.toArray n dd sl uy (fun m => decide (ns[m]? = some k)) (f : Int) t j (by omega) (by rw [SeqAt.searchFrom_nonneg (by omega)]; omega) (by omega) (decide_eq_true hz) fun m hm h1 h2 => decide_eq_false (hno m (by rw [SeqAt.searchFrom_nonneg (by omega)] at h1; omega) h2)) ⟨ho, fun m hm => ?_, ?_⟩
      · have hmn : m < ns.length := by omega
        obtain ⟨u2, hu2, ru2⟩ := rv.get (show (ns.map V.int)[m]? = some (.int ns[m]) by rw [List.getElem?_map, List.getElem?_eq_getElem hmn]; rfl)
        obtain ⟨_, hme⟩ := List.getElem?_eq_some_iff.mp hu2
        have e1 : its.toArray[m] = u2 := by simpa using hme
        have h3 := hall u2 (List.mem_of_getElem? hu2)
        rw [eqU_of ru2 rfl] at h3
        rw [e1, List.getElem?_eq_getElem hmn]
        have e2 : decide (some ns[m] = some k) = eqV (.int ns[m]) (.int k) := by
          show decide (some ns[m] = some k) = (ns[m] == k)
          by_cases e : ns[m] = k <;> simp [e]
        rw [e2]
        exact h3
      · exact ⟨.int (j : Nat), H, I.tok _, ⟨_, rfl⟩, q⟩
end
section
variable {K : PySem.W.Frag} {H : Hp} {Q : VK} {a : Addr}
theorem max2_go {i j : Int} (q : Q (.int (if j > i then j else i)) H) : rMax2U [.int i, .int j] H Q := by unfold rMax2U; exact ⟨_, _, rfl, q⟩
theorem sorted_go {ns : List Int} (h : SqL K H a (ns.map V.int)) (hl : ns.length < 64) (q : ∀ (ns' : List Int) (p : Addr), ns'.Perm ns → ns'.Pairwise (· ≤ ·) → H p = none → Q (.ref p) (upd H p (.lst (ns'.map V.int)))) : rSortedU K [.ref a] H Q := by unfold rSortedU; exact ⟨_, _, rfl, h, hl, q⟩
theorem idx3_go {ns : List Int} {k : Int} {f j : Nat} (h : SqL K H a (ns.map V.int)) (h1 : f ≤ j) (h2 : ns[j]? = some k) (h3 : ∀ m, f ≤ m → m < j → ns[m]? ≠ some k) (q : Q (.int (j : Nat)) H) : rIdx3U K (.ref a) [.int k, .int (f : Int)] H Q := by unfold rIdx3U; exact ⟨_, _, _, _, _, rfl, rfl, h, h1, h2, h3, q⟩
theorem sumI_go {ns : List Int} (h : SqL K H a (ns.map V.int)) (q : Q (.int ns.sum) H) : rSumU K [.ref a] H Q := by unfold rSumU; exact ⟨_, _, rfl, h, q⟩
theorem inV_ints (k : Int) : ∀ ns : List Int, inV (.int k) (ns.map V.int) = decide (k ∈ ns)
  | [] => rfl
  | n :: ns => by
    have ih := inV_ints k ns
    unfold inV at ih ⊢
    rw [List.map_cons, List.any_cons, ih]
    show ((n == k) || decide (k ∈ ns)) = decide (k ∈ n :: ns)
    by_cases e : n = k
    · rw [e]
      simp
    · have e' : ¬ k = n := fun z => e z.symm
      simp [e, e']
theorem inI_go {k : Int} {ns : List Int} (h : SqL K H a (ns.map V.int)) (q : Q (.bl (decide (k ∈ ns))) H) : rInU K (.int k) (.ref a) H Q := by
  refine inL_go h rfl (List.all_eq_true.mpr fun v hv => by obtain ⟨i, _, rfl⟩ := List.mem_map.mp hv; rfl) ?_
  rw [inV_ints]
  exact q
end
end Kb

/-! ### sorted(x, key=lambda p: p[0]) of a list or a tuple of tuples whose first thing is a number: by it, alike ones in their order -/
namespace Kb
open PySem PySem.Spec PyProof.Rows L2
open LamX (CodeO Tabs ExtN TabB lam_make2)
section
variable {prog : Program} {w : World} {A : Around} {E : Value → Shared → Prop} {s : Shared}
/-- what a list or a tuple holds, collected -/
theorem coll_seq {l : Addr} {o : Obj} {T : String} {n : Nat} {vs : List Value} {Q : List Value → Shared → Prop} (ho : s.heap.get? l = some o) (hc : o.cls = .type T) (hT : T = "list" ∨ T = "tuple") (hd : o.data = .seq vs.toArray n) (hsz : vs.length ≤ sizeLine)
    (h : Q vs { s with heap := (s.heap.push (seqObj "list" #[] 0)).update s.heap.objs.size (Obj.mapSeq (· ++ vs.toArray)) }) : wpAny (model prog w) A (collect (.ref l)) Q E s := by
  have hp : (s.heap.push (seqObj "list" #[] 0)).get? s.heap.objs.size = some (seqObj "list" #[] 0) := Heap.get?_push_size _ rfl
  have hp' : (s.heap.push (seqObj "list" #[] 0)).get? l = some o := Heap.get?_push_of_some _ ho
  unfold collect
  refine wpAny_bind (wpAny_runValue (codeAny_builtin entry_proto_collect' ?_))
  show wpAny _ _ (newList [] >>= fun y => again (.builtin "list.__iadd__" ⟨[y, .ref l], []⟩)) _ _ s
  refine wpAny_bind (wpAny_newList (wpAny_pure (And.intro (Code.quiet_builtin _ (by decide +kernel)) (codeAny_builtin entry_list_iadd' ?_))))
  show wpAny _ _ (Builtin.List.listExtendWith (.ref s.heap.objs.size) (.ref l) (.ref s.heap.objs.size)) _ _ _
  unfold Builtin.List.listExtendWith
  refine wpAny_bind (wpAny_typeOf (T := T) ⟨o, hp', hc⟩ ?_)
  have hb : ∀ z : Bool, (z || (Value.type T == Value.type "list") || (Value.type T == Value.type "tuple")) = true := fun z => by
    rcases hT with rfl | rfl
    · rw [show (Value.type "list" == Value.type "list") = true from by rfl, Bool.or_true, Bool.true_or]
    · rw [show (Value.type "tuple" == Value.type "tuple") = true from by rfl, Bool.or_true]
  rw [if_pos (hb _)]
  refine wpAny_bind (listItems_at hp' hd (wpAny_bind (listItems_at (xs := #[]) (n := 0) hp rfl ?_)))
  rw [if_neg (by simp)]
  have z : (#[] ++ vs.toArray : Array Value).size ≤ sizeLine + 1 := by rw [Array.size_append, List.size_toArray]; exact Nat.le_succ_of_le (by simpa using hsz)
  refine wpAny_bind (listUpdate_at (xs := #[]) (n := 0) hp rfl (wpAny_pure ?_) (Nat.zero_le _) z)
  show wpAny _ _ (load s.heap.objs.size >>= fun y => match y.data with | .seq xs _ => pure xs.toList | _ => unsupported "internal:collect") _ _ _
  refine wpAny_bind (wpAny_load (get?_update_seq hp _) ?_)
  have e : ((#[] : Array Value) ++ vs.toArray).toList = vs := by simp
  show wpAny _ _ (pure _) _ _ _
  rw [e]
  exact wpAny_pure h
/-- sorted by a key, of a list or a tuple -/
theorem srt_key {h₀ : Heap} {L l f : Addr} {o : Obj} {T : String} {n : Nat} {m : Str → Option Value} {news : List (Addr × Obj)} {vs : List Value} {kz : List Int} {Q : Value → Shared → Prop} (F : Fr h₀ L s.heap m) (N : News h₀ L s.heap news)
    (ho : s.heap.get? l = some o) (hc : o.cls = .type T) (hT : T = "list" ∨ T = "tuple") (hd : o.data = .seq vs.toArray n) (hsz : vs.length ≤ sizeLine) (hlen : kz.length = vs.length)
    (turn : ∀ (i : Nat) (v : Value) (k : Int), vs[i]? = some v → kz[i]? = some k → ∀ (h : Heap) (tk : Nat) (own : List (Addr × Obj)), Fr h₀ L h m → News h₀ L h (news ++ own) → wpAny (model prog w) A.in1.in1 (call (.ref f) [v]) (KskEnd h₀ L m (news ++ own) k { s with heap := h, toks := tk }) (fun _ _ => False) { s with heap := h, toks := tk })
    (q : ∀ D h' tk out c, Fr h₀ L h' m → News h₀ L h' ((D, seqObj "list" out c) :: news) → s.heap.objs.size ≤ D → KskOutSt false kz vs out.toList → Q (.ref D) { s with heap := h', toks := tk }) :
    wpAny (model prog w) A (call (.builtin "sorted") [.ref l] [(Str.ofString "key", .ref f)]) Q E s := by
  refine call_function_entry_kw kind_sorted plain_sorted entry_sorted (ksk_s1 _ _) ?_
  unfold Builtin.«sorted»
  refine wpAny_bind (m := checkCount "sorted" 1 1 _) (wpAny_pure (wpAny_bind (coll_seq ho hc hT hd hsz (wpAny_bind (wpAny_newList ?_ hsz)))))
  obtain ⟨H1, e1⟩ : ∃ H1, H1 = (s.heap.push (seqObj "list" #[] 0)).update s.heap.objs.size (Obj.mapSeq (· ++ vs.toArray)) := ⟨_, rfl⟩
  have z1 : H1.objs.size = s.heap.objs.size + 1 := by rw [e1, Heap.size_update, size_push']
  have k1 : ∀ b u, s.heap.get? b = some u → H1.get? b = some u := fun b u e => by
    have lt := Nat.ne_of_lt (Heap.lt_size e)
    rw [e1, Heap.get?_update_ne _ _ _ _ lt]
    exact Heap.get?_push_of_some _ e
  show wpAny _ _ _ _ _ { s with heap := ((s.heap.push (seqObj "list" #[] 0)).update s.heap.objs.size (Obj.mapSeq (· ++ vs.toArray))).push (seqObj "list" vs.toArray 0) }
  rw [← e1]
  have k2 : ∀ b u, s.heap.get? b = some u → (H1.push (seqObj "list" vs.toArray 0)).get? b = some u := fun b u e => Heap.get?_push_of_some _ (k1 b u e)
  have hD : (H1.push (seqObj "list" vs.toArray 0)).get? H1.objs.size = some (seqObj "list" vs.toArray 0) := Heap.get?_push_size _ rfl
  have lL : L < s.heap.objs.size := F.ns.lt
  refine wpAny_bind (wpAny_holding (wpAny_call_entry_kw slot_list_sort ⟨_, hD, rfl⟩ entry_list_sort ?_ (ksk_l1 _ _)))
  rw [ksk_t1]
  refine ksk_sortSt (s := { s with heap := H1.push (seqObj "list" vs.toArray 0) }) (F.kept k2) (N.grown k2) hD (by rw [z1]; exact Nat.ne_of_gt (Nat.lt_succ_of_lt lL)) (Heap.get?_none_of_le (by rw [z1]; exact Nat.le_trans F.above (Nat.le_succ_of_le (Nat.le_of_lt lL)))) (fun p hp => by rw [z1]; exact Nat.ne_of_lt (Nat.lt_succ_of_lt (Heap.lt_size (N p hp).1))) hlen hsz turn fun h' tk out c F' N' o' => ⟨_, rfl, ?_⟩
  exact wpAny_pure ⟨_, rfl, q _ h' tk out c F' N' (by rw [z1]; exact Nat.le_succ _) o'⟩
end
end Kb
namespace Kb
open PySem PySem.Spec PyProof.Rows L2
open LamX (CodeO Tabs ExtN TabB lam_make2)
theorem perm_lift {α β : Type} {R : α → β → Prop} {l2 l1 : List β} (h : l2.Perm l1) : ∀ {xs : List α}, Paired R xs l1 → ∃ ys, ys.Perm xs ∧ Paired R ys l2 := by
  induction h with
  | nil => exact fun r => ⟨_, .refl _, r⟩
  | cons x _ ih =>
    intro xs r
    cases r with
    | cons a t =>
      obtain ⟨ys, p, r'⟩ := ih t
      exact ⟨_ :: ys, p.cons _, .cons a r'⟩
  | swap x y l =>
    intro xs r
    cases r with
    | cons a t => cases t with
      | cons b u => exact ⟨_, .swap _ _ _, .cons b (.cons a u)⟩
  | trans _ _ ih1 ih2 =>
    intro xs r
    obtain ⟨ys, p, r'⟩ := ih2 r
    obtain ⟨zs, p', r''⟩ := ih1 r'
    exact ⟨zs, p'.trans p, r''⟩
/-- ys is xs by rising ks -/
def ByKey (ks : List Int) (xs ys : List V) : Prop := ∃ ps : List (Int × V), ps.Perm (ks.zip xs) ∧ ys = ps.map Prod.snd ∧ ps.Pairwise fun p q => p.1 ≤ q.1
theorem by_key {kz : List Int} {xs : List V} {vs out : List Value} (r : Vals xs vs) (h : KskOutSt false kz vs out) : ∃ ys, ByKey kz xs ys ∧ Vals ys out := by
  obtain ⟨ps, hp, rfl, ho, hst⟩ := h
  clear hst
  have z : ∀ {ks : List Int} {xs : List V} {vs : List Value}, Vals xs vs → Paired (fun (p : Int × V) (q : Int × Value) => p.1 = q.1 ∧ RelV p.2 q.2) (ks.zip xs) (ks.zip vs) := by
    intro ks xs vs r
    induction r generalizing ks with
    | nil =>
      rw [List.zip_nil_right, List.zip_nil_right]
      exact .nil
    | cons a t ih => cases ks with
      | nil => exact .nil
      | cons k ks => exact .cons ⟨rfl, a⟩ ih
  obtain ⟨qs, hq, rq⟩ := perm_lift hp (z r)
  refine ⟨qs.map Prod.snd, ⟨qs, hq, rfl, ?_⟩, ?_⟩
  · have f : ∀ {qs : List (Int × V)} {ps : List (Int × Value)}, Paired (fun (p : Int × V) (q : Int × Value) => p.1 = q.1 ∧ RelV p.2 q.2) qs ps → qs.map Prod.fst = ps.map Prod.fst := by
      intro qs ps r
      induction r with
      | nil => rfl
      | cons a _ ih => rw [List.map_cons, List.map_cons, ih, a.1]
    have e := f rq
    have h1 : (ps.map Prod.fst).Pairwise (· ≤ ·) := List.pairwise_map.mpr (ho.imp fun h => by simpa using h)
    rw [← e] at h1
    exact List.pairwise_map.mp h1
  · clear hq hp ho
    induction rq with
    | nil => exact .nil
    | cons a _ ih => exact .cons a.2 ih
open LamX (TabS inv_table among_app codeO_ne) in
/-- the lambda is made: its code object is new, or found in the table at P; all but the table stays -/
theorem lam_make3 {X : Cx} {pins : List (Addr × Obj)} {σ : L2.St} {H : Hp} {s : Shared} {c P : Addr} {params : Arguments} {body : Expr} {scope : Scope} {pos : Pos} {E Q : Value → Shared → Prop} (I : Inv X pins σ H s) (TB : TabB X.base X.mg c P) (hcode : X.env.code = .ref c) (hT : TabS H P (X.env.qual ++ "<lambda>")) (hdef : defaultsOf params X.env = ([], [])) (hfree : ∀ y ∈ scope.names, y.2 = .free → ∃ c, X.env.cells.lookup y.1 = some c)
    (q : ∀ (f c' : Addr) (pm ctv : Value) (H1 : Hp) (s' : Shared), Inv X pins σ H1 s' → Kp [P] H H1 → TabS H1 P (X.env.qual ++ "<lambda>") → s'.heap.get? f = some (PySem.W.kla_obj "<lambda>" (X.env.qual ++ "<lambda>") params body scope (cloFrom X.env.cells scope.names []) pm c' ctv) → H1 c' = some (CodeO c' (X.env.qual ++ "<lambda>")) → Q (.ref f) s') :
    wpAny (model X.prog X.w) X.A (eval (.Lambda params body scope pos) X.env) Q E s := by
  obtain ⟨ps, hP, ht, ha⟩ := hT
  have bP := TB.bm.keeps I.bk
  have oP : s.heap.get? P = some { cls := .none, data := .fields ps } := I.hok P _ hP
  refine PySem.W.kla_eval hdef ?_
  cases hc : codeAmong pos ps.toList with
  | some cv =>
    obtain ⟨c', rfl, hco⟩ := ha pos cv hc
    refine PySem.W.kla_makeFunctionHit (mg := X.mg) (c := c) (P := P) (ps := ps) (closure_ok hfree) I.ok.glob (I.mod.glob.keeps I.bk) hcode (TB.code.keeps I.bk) oP ht hc bP fun ctv h' tk hx hsz => ?_
    exact q _ c' _ ctv H _ (I.kept (t' := tk) fun b o e => Heap.get?_push_of_some _ (hx b o e)) Kp.refl ⟨ps, hP, ht, ha⟩ (Heap.get?_push_size _ rfl) hco
  | none =>
    refine PySem.W.kla_makeFunction (mg := X.mg) (c := c) (P := P) (ps := ps) (closure_ok hfree) I.ok.glob (I.mod.glob.keeps I.bk) hcode (TB.code.keeps I.bk) oP ht hc TB.gP bP fun c' ctv h' tk hx hge hlt hrec htb => ?_
    obtain ⟨c2, oc, vs, t, e2, hoc, hd, hv⟩ := hrec
    cases e2
    have nC : H c' = none := I.hok.fresh hge
    have I1 := inv_table (t' := tk) (more := #[rawInt pos.line, rawInt pos.col, .ref c']) (h' := h'.push (PySem.W.kla_obj "<lambda>" (X.env.qual ++ "<lambda>") params body scope (cloFrom X.env.cells scope.names []) ((X.mg "__name__").getD .none) c' ctv)) I hP (fun b o hb e => Heap.get?_push_of_some _ (hx b o hb e)) (Heap.get?_push_of_some _ htb) hge ⟨oc, vs, t, Heap.get?_push_of_some _ hoc, hd, hv⟩
    have kk : Kp [P] H (upd (upd H P (.tbl (ps ++ #[rawInt pos.line, rawInt pos.col, .ref c']))) c' (CodeO c' (X.env.qual ++ "<lambda>"))) := (Kp.refl.upd_in List.mem_cons_self).upd_new nC
    have eL : (ps ++ #[rawInt pos.line, rawInt pos.col, .ref c']).toList = ps.toList ++ [rawInt pos.line, rawInt pos.col, .ref c'] := by simp
    refine q _ c' _ ctv _ _ I1 kk ⟨_, (upd_ne (ne_of_none hP nC)).trans upd_same, by rw [eL]; exact PySem.TriplesOk_snoc _ _ _ _ ht, fun p' cv hcv => ?_⟩ (Heap.get?_push_size _ rfl) upd_same
    rw [eL] at hcv
    rcases among_app _ ht hcv with z | rfl
    · obtain ⟨c0, e1, e2⟩ := ha p' cv z
      refine ⟨c0, e1, kk c0 _ (fun m => ?_) e2⟩
      rw [List.mem_singleton.mp m, hP] at e2
      exact codeO_ne ps (Option.some.inj e2).symm
    · exact ⟨c', rfl, upd_same⟩
def tSortKey (K : PySem.W.Frag) (P : Addr) (qn : Str) (te : TE) : TE := fun σ H Q => te σ H fun x H1 => LamX.TabS H1 P qn ∧ ∃ a xs ks, x = .ref a ∧ (SqL K H1 a xs ∨ SqT K H1 a xs) ∧ Paired (fun (k : Int) (y : V) => ∃ t r, y = .ref t ∧ SqT K H1 t (.int k :: r)) ks xs ∧
  ∀ H2 ys p, Kp [P] H1 H2 → LamX.TabS H2 P qn → H2 p = none → ByKey ks xs ys → Q (.ref p) (upd H2 p (.lst ys))
/-- what stands in a heap, but for one place -/
def allBut (L : Addr) (h : Heap) : List (Addr × Obj) := (List.range h.objs.size).filterMap fun b => if b = L then none else (h.get? b).map fun o => (b, o)
theorem mem_allBut {L : Addr} {h : Heap} {b : Addr} {o : Obj} : (b, o) ∈ allBut L h ↔ b ≠ L ∧ h.get? b = some o := by
  unfold allBut
  rw [List.mem_filterMap]
  constructor
  · rintro ⟨c, _, e⟩
    split at e
    · cases e
    · rename_i n
      obtain ⟨o', h1, h2⟩ := Option.map_eq_some_iff.mp e
      cases h2
      exact ⟨n, h1⟩
  · rintro ⟨n, e⟩
    exact ⟨b, List.mem_range.mpr (Heap.lt_size e), by rw [if_neg n, e]; rfl⟩
section
variable {X : Cx} {pins : List (Addr × Obj)} {σ : L2.St} {H : Hp} {s : Shared} {h' : Heap}
theorem Inv.butL {t' : Nat} {m : Str → Option Value} {D : Addr} {ob : HO} (I : Inv X pins σ H s) (hm : s.heap.Ns X.env.locals m) (hn : h'.Ns X.env.locals m) (k : ∀ b o, b ≠ X.env.locals → s.heap.get? b = some o → h'.get? b = some o) (hp : s.heap.objs.size ≤ D) (new : ObjOk X.prog X.w (upd H D ob) h' D ob) :
    Inv X pins σ (upd H D ob) { s with heap := h', toks := t' } := by
  have hl : ∃ o, h'.get? X.env.locals = some o := by
    obtain ⟨o, _, _, e, _⟩ := hn
    exact ⟨o, e⟩
  have nD : H D = none := I.hok.fresh hp
  have old : ∀ {b : Addr} {o : HO}, H b = some o → (upd H D ob) b = some o := fun e => (upd_ne (ne_of_none e nD)).trans e
  refine I.step (g' := s.gens) (d' := s.drawn) (ch := []) (fun b z => nomatch z) (fun b o n _ _ e _ => k b o n e) (fun b o n _ _ e _ => ⟨o.slots, k b o n e⟩) (fun b o _ e n => ?_) (fun b o _ e => ?_) (fun _ _ e => old e) (fun _ _ _ e => old e) (fun b ps e => ⟨#[], by rw [old e]; simp⟩) (fun m2 h2 => ?_) (fun a o e => ?_) I.bare
  · have := Heap.lt_size e
    rw [upd_ne (Nat.ne_of_lt (Nat.lt_of_lt_of_le this hp))]
    exact n
  · by_cases z : b = X.env.locals
    · rw [z]
      exact hl
    · exact ⟨o, k b o z e⟩
  · have e : m2 = m := funext fun y => h2.agree hm y
    rw [e]
    exact hn
  · by_cases z : a = D
    · rw [z, upd_same] at e
      cases e
      rw [z]
      exact new
    · rw [upd_ne z] at e
      refine (I.hok a o e).stay (fun b u hb q => k b u (fun z => ?_) q) (fun b q => old q) fun b _ q => old q
      have fr := I.free
      rcases hb with hb | hb
      · rw [← z, hb, e] at fr
        cases fr
      · rw [← z, hb] at fr
        cases fr
theorem news_keep {h₀ h h1 : Heap} {L : Addr} {m : Str → Option Value} {own : List (Addr × Obj)} (z : ∀ b o, h₀.get? b = some o → h.get? b = some o) (F : Fr h₀ L h1 m) (N : News h₀ L h1 (((allBut L h).filter fun p => (h₀.get? p.1).isNone) ++ own)) : ∀ b o, b ≠ L → h.get? b = some o → h1.get? b = some o := fun b o n e => by
  cases q : h₀.get? b with
  | none => exact (N (b, o) (List.mem_append_left _ (List.mem_filter.mpr ⟨mem_allBut.mpr ⟨n, e⟩, by rw [q]; rfl⟩))).1
  | some o' =>
    have := z b o' q
    rw [e] at this
    cases this
    exact F.keep b o q
theorem news_all (h₀ : Heap) (L : Addr) (h : Heap) (z : ∀ b o, h₀.get? b = some o → h.get? b = some o) : News h₀ L h ((allBut L h).filter fun p => (h₀.get? p.1).isNone) := fun p hp => by
  obtain ⟨b, o⟩ := p
  obtain ⟨h1, h2⟩ := List.mem_filter.mp hp
  obtain ⟨n, e⟩ := mem_allBut.mp h1
  exact ⟨e, n, Option.isNone_iff_eq_none.mp h2⟩
/-- a lambda p: p[0] called of a tuple, where a built-in function calls it -/
theorem lam_turn {q pa : Str} {f c' : Addr} {params : Arguments} {scope : Scope} {pm ctv : Value} {h₀ h : Heap} {L t : Addr} {m : Str → Option Value} {need : List (Addr × Obj)} {tk : Nat} {k : Int} {tkk : Tok} {its : List Value} {p1 p2 p3 : Pos} {A : Around} {prog : Program} {w : World} {j : Nat}
    (hd : A.depth + 3 < recursionLimit) (F : Fr h₀ L h m) (N : News h₀ L h need) (nl : h.NoLimit) (hf : h.get? f = some (PySem.W.kla_obj "<lambda>" q params (.Subscript (.Name pa p1) (.Constant (.int 0) j p2) p3) scope [] pm c' ctv))
    (hc : ∃ (oc : Obj) (vs : Array Value) (t : Tok), h.get? c' = some oc ∧ oc.data = .fields vs ∧ vs[1]? = some (.str q t)) (S : NdefX.NScope [pa] [pa] [] scope) (hpa : (pa == ("__debug__" : Str)) = false)
    (hb : ∀ u, bindArgs (PySem.W.kla_fn "<lambda>" q params (.Subscript (.Name pa p1) (.Constant (.int 0) j p2) p3) scope [] pm (.ref c') ctv) ⟨[u], []⟩ = pure [(pa, u)]) (ht : IsTup h t (Value.int k tkk :: its).toArray) :
    wpAny (model prog w) A (call (.ref f) [.ref t]) (KskEnd h₀ L m need k { s with heap := h, toks := tk }) (fun _ _ => False) { s with heap := h, toks := tk } := by
  obtain ⟨oc, cs, tq, h1, h2, h3⟩ := hc
  refine wpAny_call (PySem.W.kla_callFunE (by omega) hf rfl S.co S.gen rfl ⟨c', oc, cs, tq, rfl, h1, h2, h3⟩ ?_)
  rw [hb]
  refine wpAny_pure (wpAny_newFunctionEnv S.nocell (fun y hy => by rw [List.mem_singleton.mp hy]; exact S.par pa List.mem_cons_self) (fun g hns hsb => ⟨nl.fresh _ hsb, ?_⟩) S.kind)
  have kp : ∀ b o, h.get? b = some o → g.get? b = some o := fun b o e => hsb.extBut b o (Nat.ne_of_lt (Heap.lt_size e)) (Heap.get?_push_of_some _ e)
  refine PySem.W.kla_codeExpr (Subscript_ (wpAny_Name (wpAny_loadName_local (v := .ref t) S.kind ?_ hns ?_ ?_) hpa))
  · show scope.names.lookup pa = some .local
    exact S.par pa List.mem_cons_self
  · show List.lookup pa [(pa, Value.ref t)] = _
    simp
  refine wpAny_Constant_int ?_
  refine subscriptTail_builtinR (x := .int k tkk) (IsTup.typeIs (ht.keeps kp)) slot_tuple_getitem.lookup (getItem_tuple (j := 0) (ht.keeps kp) (by decide) (by decide) ?_ ?_ ⟨rfl, ?_⟩)
  · unfold seqIndex?
    simp
  · simp
  · exact ⟨g, _, tkk, rfl, rfl, F.kept kp, fun p hp => ⟨kp _ _ (N p hp).1, (N p hp).2⟩⟩
theorem paired_len {α β : Type} {R : α → β → Prop} : ∀ {xs : List α} {ys : List β}, Paired R xs ys → xs.length = ys.length
  | _, _, .nil => rfl
  | _, _, .cons _ t => by rw [List.length_cons, List.length_cons, paired_len t]
theorem paired_at {α β : Type} {R : α → β → Prop} : ∀ {xs : List α} {ys : List β} {i : Nat} {x : α} {y : β}, Paired R xs ys → xs[i]? = some x → ys[i]? = some y → R x y
  | _, _, 0, _, _, .cons a _, h1, h2 => by
    simp only [List.getElem?_cons_zero, Option.some.injEq] at h1 h2
    rw [← h1, ← h2]
    exact a
  | _, _, i + 1, _, _, .cons _ t, h1, h2 => by
    simp only [List.getElem?_cons_succ] at h1 h2
    exact paired_at t h1 h2
theorem sqL_tab {K : PySem.W.Frag} {H H2 : Hp} {a P : Addr} {xs : List V} {ps : Array Value} (k : Kp [P] H H2) (hP : H P = some (.tbl ps)) (h : SqL K H a xs) : SqL K H2 a xs := by
  have n : ∀ {o : HO}, H a = some o → (∀ ps, o ≠ .tbl ps) → a ∉ [P] := fun e z m => by
    rw [List.mem_singleton.mp m, hP] at e
    exact z ps (Option.some.inj e).symm
  rcases h with (h | ⟨o, h⟩) | h
  · exact .inl (.inl (k _ _ (n h fun _ z => by cases z) h))
  · exact .inl (.inr ⟨o, k _ _ (n h fun _ z => by cases z) h⟩)
  · exact .inr h
theorem sqT_tab {K : PySem.W.Frag} {H H2 : Hp} {a P : Addr} {xs : List V} {ps : Array Value} (k : Kp [P] H H2) (hP : H P = some (.tbl ps)) (h : SqT K H a xs) : SqT K H2 a xs := by
  have n : ∀ {o : HO}, H a = some o → (∀ ps, o ≠ .tbl ps) → a ∉ [P] := fun e z m => by
    rw [List.mem_singleton.mp m, hP] at e
    exact z ps (Option.some.inj e).symm
  rcases h with (h | ⟨o, h⟩) | h
  · exact .inl (.inl (k _ _ (n h fun _ z => by cases z) h))
  · exact .inl (.inr ⟨o, k _ _ (n h fun _ z => by cases z) h⟩)
  · exact .inr h
theorem pe_sortKey {c P : Addr} {pa qn : Str} {params : Arguments} {scope : Scope} {e : Expr} {te : TE} {j : Nat} {p pos lpos kpos p1 p2 p3 : Pos} (hg : Gl X "sorted") (hm : X.mg "sorted" = none) (he : PE X e te) (TB : TabB X.base X.mg c P) (hcode : X.env.code = .ref c) (hqn : X.env.qual ++ "<lambda>" = qn)
    (hr : Room 1 X.A) (S : NdefX.NScope [pa] [pa] [] scope) (hfree : scope.names.all (fun y => !decide (y.2 = .free)) = true) (hclo : cloFrom X.env.cells scope.names [] = []) (hdef : defaultsOf params X.env = ([], []) := by rfl)
    (hb : ∀ (q : Str) (pm cv ctv u : Value), bindArgs (PySem.W.kla_fn "<lambda>" q params (.Subscript (.Name pa p1) (.Constant (.int 0) j p2) p3) scope [] pm cv ctv) ⟨[u], []⟩ = pure [(pa, u)]) (hpa : (pa == ("__debug__" : Str)) = false := by decide)
    (hs0 : starEach [e] X.env = (false, eval e X.env) :: starEach [] X.env := by rfl) (hse : backTo pos (starEach [e] X.env) = (false, eval e X.env) :: backTo pos (starEach [] X.env) := by rfl) (hpl : (backTo pos (starEach [e] X.env)).any (·.1) = false := by rfl) :
    PE X (.Call (.Name "sorted" p) [e] [⟨some "key", .Lambda params (.Subscript (.Name pa p1) (.Constant (.int 0) j p2) p3) scope lpos, kpos⟩] pos) (tSortKey X.K P qn te) := by
  subst hqn
  refine ⟨fun pins s σ H Q I h => ?_⟩
  refine wpAny_Call_Name_kw (ld_blt I hg hm (by decide +kernel : bootBuiltins "sorted" = some (.builtin "sorted")) ?_)
  let R : List V → Hp → Prop := fun vs H1 => match vs with
    | [x] => LamX.TabS H1 P (X.env.qual ++ "<lambda>") ∧ ∃ a xs ks, x = .ref a ∧ (SqL X.K H1 a xs ∨ SqT X.K H1 a xs) ∧ Paired (fun (k : Int) (y : V) => ∃ t r, y = .ref t ∧ SqT X.K H1 t (.int k :: r)) ks xs ∧ ∀ H2 ys p, Kp [P] H1 H2 → LamX.TabS H2 P (X.env.qual ++ "<lambda>") → H2 p = none → ByKey ks xs ys → Q (.ref p) (upd H2 p (.lst ys))
    | _ => False
  refine PyProof.Rows.callWith_kw (thn ((pa_cons he pa_nil hs0).run pos pins s σ H R I h) fun us s1 ⟨vs, H1, I1, r1, q1⟩ => ?_) hse hpl
  cases r1 with
  | nil => exact (show False from q1).elim
  | cons rx rt => cases rt with
    | cons _ _ => exact (show False from q1).elim
    | nil =>
      obtain ⟨hT, a, xs, ks, rfl, hx, hp, q⟩ := q1
      cases rx
      have has : ∀ y ∈ scope.names, y.2 = .free → ∃ c, X.env.cells.lookup y.1 = some c := fun y m e => by
        have := List.all_eq_true.mp hfree y m
        rw [e] at this
        simp at this
      show wpAny _ _ (evalAll [do let v ← eval (.Lambda params (.Subscript (.Name pa p1) (.Constant (.int 0) j p2) p3) scope lpos) X.env; standAt pos; pure v]) _ _ _
      refine wpAny_evalAll_cons (wpAny_bind (lam_make3 I1 TB hcode hT hdef has fun f c' pm ctv H2 s' I2 eN T2 hf hco => wpAny_bind (wpAny_standAt (wpAny_pure (wpAny_evalAll_nil ?_)))))
      rw [hclo] at hf
      obtain ⟨ps8, hP8, _, _⟩ := hT
      show wpAny _ _ (call (.builtin "sorted") [.ref a] [(Str.ofString "key", .ref f)]) _ _ _
      obtain ⟨m, hns, _⟩ := I2.loc
      have F : Fr X.base X.env.locals s'.heap m := ⟨hns, I2.bk, Nat.le_trans I2.ok.bsz I2.ok.above⟩
      have hcc : ∃ (oc : Obj) (vs : Array Value) (t : Tok), s'.heap.get? c' = some oc ∧ oc.data = .fields vs ∧ vs[1]? = some (.str (X.env.qual ++ "<lambda>") t) := (I2.hok c' _ hco).1
      obtain ⟨oL, esL, epL, hoL, hdL, _⟩ := id hns
      have obj : ∃ (its : List Value) (o : Obj) (Tn : String) (n : Nat), Vals xs its ∧ s'.heap.get? a = some o ∧ o.cls = .type Tn ∧ (Tn = "list" ∨ Tn = "tuple") ∧ o.data = .seq its.toArray n ∧ xs.length ≤ sizeLine := by
        rcases hx with hx | hx
        · obtain ⟨its, r, ⟨o, n, h1, h2, h3, h4⟩, hz⟩ := I2.list (sqL_tab eN hP8 hx)
          exact ⟨its, o, "list", n, r, h1, h2, .inl rfl, h4, hz⟩
        · obtain ⟨its, r, ⟨o, h1, h2, n, h3⟩, hz⟩ := I2.tuple (sqT_tab eN hP8 hx)
          exact ⟨its, o, "tuple", n, r, h1, h2, .inr rfl, h3, hz⟩
      obtain ⟨its, o, Tn, n, rv, ho, hcl, hTn, hd, hz⟩ := obj
      have lv := rv.length
      refine srt_key (kz := ks) F (news_all X.base X.env.locals s'.heap I2.bk) ho hcl hTn hd (by omega) (by rw [paired_len hp, lv]) (fun i v k hv hk g tk own F' N' => ?_) fun D g tk out cc F' N' hD ko => ?_
      · have kk := news_keep I2.bk F' N'
        obtain ⟨y, hy, rv1⟩ : ∃ y, xs[i]? = some y ∧ RelV y v := by
          have : i < xs.length := by rw [lv]; exact (List.getElem?_eq_some_iff.mp hv).1
          exact ⟨_, List.getElem?_eq_getElem this, paired_at rv (List.getElem?_eq_getElem this) hv⟩
        obtain ⟨t, r, rfl, ht⟩ := paired_at hp hk hy
        cases rv1
        obtain ⟨its2, rr, ⟨ot, e1, e2, nt, e3⟩, _⟩ := I2.tuple (sqT_tab eN hP8 ht)
        cases rr with
        | cons ra rb =>
          obtain ⟨tkk, rfl⟩ := ra
          have neL : ∀ {b : Addr} {o : Obj}, s'.heap.get? b = some o → (∀ es ep, o.data ≠ .dict es ep) → b ≠ X.env.locals := fun e n z => by
            rw [z, hoL] at e
            cases e
            exact n _ _ hdL
          obtain ⟨oc, cs, tq, g1, g2, g3⟩ := hcc
          refine lam_turn (h₀ := X.base) (by have := hr.dp; show X.A.depth + 3 < _; omega) F' N' (I2.ok.mod.nolimit.keeps F'.keep) (kk _ _ (neL hf fun _ _ z => by cases z) hf) ⟨oc, cs, tq, kk _ _ (neL g1 fun _ _ z => by rw [g2] at z; cases z) g1, g2, g3⟩ S hpa (hb _ _ _ _) ⟨ot, kk _ _ (neL e1 fun _ _ z => by rw [e3] at z; cases z) e1, e2, nt, e3⟩
      · obtain ⟨ys, bk, rys⟩ := by_key rv ko
        have kk := news_keep (own := []) I2.bk F' fun p hp => N' p (List.mem_cons_of_mem _ (by rwa [List.append_nil] at hp))
        have hDg := (N' _ List.mem_cons_self).1
        have hl : ys.length ≤ sizeLine := by
          obtain ⟨ps, hp1, rfl, _⟩ := bk
          rw [List.length_map, hp1.length_eq, List.length_zip]
          omega
        exact ⟨.ref D, _, Kb.Inv.butL (t' := tk) (ob := .lst ys) I2 hns F'.ns kk hD ⟨hl, out.toList, cc, rys, by rw [Array.toArray_toList]; exact hDg⟩, rfl, q H2 ys D eN T2 (I2.hok.fresh hD) bk⟩
end
end Kb

/-! ### a, b, *c = a tuple -/
namespace Kb
open PySem PySem.Spec PyProof.Rows L2
section
variable {prog : Program} {w : World} {A : Around} {E : Value → Shared → Prop} {s : Shared}
theorem walks_tupFrom (hh : A.handled = none) (I ax : Addr) (hne : ax ≠ I) (items : Array Value) (k : Nat) (hk : k ≤ items.size) :
    WalksS prog w A I [I, ax] [I] (fun a b => b = a) (items.size - k) (fun i v => items[k + i]? = some v) (fun i s => s.heap.IsTupleIter I ax (k + i) ∧ s.heap.IsTuple ax items) where
  sub := fun b hb => by simp at hb; simp [hb]
  grefl := fun _ => rfl
  gtrans := fun _ _ _ a b => b.trans a
  frame := fun i s h' tk st _ hk => ⟨st.1.at fun o e => hk I (by simp) o e, st.2.at fun o e => hk ax (by simp) o e⟩
  item := fun i s Q E hi st hQ => by
    refine wpAny_pyNext_tuple_item st.1 st.2 (x := items[k + i]) (by simp) fun h' hit' hs' => ?_
    exact hQ _ _ (by simp) ⟨hit', st.2.extBut hs'.extBut hne⟩ ⟨fun b o hb e => hs'.extBut b o (fun z => hb (by simp [z])) e, rfl, rfl, rfl, Nat.le_refl _⟩
  done := fun s Q E st hQ => wpAny_pyNext_tuple_end hh st.1 st.2 (by simp; omega) fun h' he' => hQ _ ⟨fun b o hb e => he' b o (fun z => hb (by simp [z])) e, rfl, rfl, rfl, Nat.le_refl _⟩
  self := fun _ _ _ _ st hQ => wpAny_pyIter_tupleiter st.1 hQ
theorem unpack_star {t : Addr} {items : Array Value} {n : Nat} {Q : List Value → Shared → Prop} (hh : A.handled = none) (ht : s.heap.IsTuple t items) (hn : n ≤ items.size) (hz : items.size ≤ sizeLine)
    (q : ∀ (g : Heap) (tk : Nat), (∀ b o, s.heap.get? b = some o → g.get? b = some o) → Q (items.toList.take n ++ [.ref g.objs.size]) { s with heap := g.push { cls := .type "list", data := .seq (items.toList.drop n).toArray }, toks := tk }) :
    wpAny (model prog w) A (unpackItems (.ref t) (n + 1) (some n)) Q E s := by
  have hlt : t < s.heap.objs.size := let ⟨o, ho, _⟩ := ht; Heap.lt_size ho
  have hne : t ≠ s.heap.objs.size := Nat.ne_of_lt hlt
  unfold unpackItems
  refine wpAny_bind ?_
  unfold notIterableAtAll
  refine wpAny_bind (wpAny_specialOf ht.typeIs F.slot_tuple_iter.lookup ?_)
  refine wpAny_pure ?_
  simp only [Bool.false_eq_true, if_false]
  refine wpAny_bind (wpAny_holding (wpAny_pyIter_tuple ht ?_))
  have ti : (s.heap.push { cls := .type "tuple_iterator", data := .fields #[.ref t, rawInt 0] }).IsTupleIter s.heap.objs.size t 0 := ⟨_, Heap.get?_push_size _ rfl, rfl, rfl⟩
  refine wpAny_bind (wpAny_holding (wpAny_draw_tuple hne n 0 _ _ ti (ht.push _) (by omega) fun h1 it1 hs1 => ?_))
  rw [List.drop_zero, Nat.zero_add] at *
  rw [if_neg (by rw [List.length_take, Array.length_toList]; omega)]
  have k1 : ∀ b o, s.heap.get? b = some o → h1.get? b = some o := fun b o e => hs1.extBut b o (Nat.ne_of_lt (Heap.lt_size e)) (Heap.get?_push_of_some _ e)
  have ht1 : h1.IsTuple t items := ht.at fun o e => k1 _ _ e
  have W := walks_tupFrom (prog := prog) (w := w) (A := A.in1) hh s.heap.objs.size t hne items n hn
  refine wpAny_bind (wpAny_holding (wpAny_collect_iter (T := "tuple_iterator") (.inr (.inr (.inr rfl))) W (fun i s' st => ?_) ⟨it1, ht1⟩ (fun b hb => ?_) (by simp) (fun s' acc mv io => ?_) (by omega)))
  · obtain ⟨⟨o, ho, hc, _⟩, _⟩ := st
    exact ⟨o, ho, hc⟩
  · simp only [List.mem_cons, List.not_mem_nil, or_false] at hb
    rcases hb with rfl | rfl
    · obtain ⟨o, ho, _⟩ := it1
      exact Heap.lt_size ho
    · obtain ⟨o, ho, _⟩ := ht1
      exact Heap.lt_size ho
  · obtain ⟨a1, a2⟩ := io
    have ea : acc.toList = items.toList.drop n := by
      refine List.ext_getElem? fun j => ?_
      rw [Array.getElem?_toList, List.getElem?_drop, Array.getElem?_toList]
      cases e : acc[j]? with
      | some v => exact (a2 j v e).symm
      | none =>
        have : items.size - n ≤ j := by rw [← a1]; exact Array.getElem?_eq_none_iff.mp e
        exact (Array.getElem?_eq_none_iff.mpr (by omega)).symm
    have z : n + 1 - 1 - n = 0 := by omega
    rw [z, if_neg (Nat.not_lt_zero _), Nat.sub_zero, List.take_length, List.drop_length, ea]
    have kk : ∀ b o, s.heap.get? b = some o → s'.heap.get? b = some o := fun b o e => mv.heap b o (by rw [List.mem_singleton]; exact Nat.ne_of_lt (Heap.lt_size e)) (k1 b o e)
    have es : s' = { s with heap := s'.heap, toks := s'.toks } := by
      obtain ⟨hh', g', d', t', o'⟩ := s'
      obtain ⟨_, m2, m3, m4, _⟩ := mv
      cases m2
      cases m3
      cases m4
      rfl
    rw [es]
    refine wpAny_bind (wpAny_newList (wpAny_pure ?_) (by rw [List.length_drop, Array.length_toList]; omega))
    rw [List.append_nil]
    exact q s'.heap s'.toks kk
end
def gStar (K : PySem.W.Frag) (n : Nat) (t : TGs) : TG := fun v σ H Q => ∃ a xs, v = .ref a ∧ SqT K H a xs ∧ n ≤ xs.length ∧ ∀ p, H p = none → t (xs.take n ++ [.ref p]) σ (upd H p (.lst (xs.drop n))) Q
section
variable {X : Cx} {pos : Pos}
theorem pgs_star {e : Expr} {t : TG} {p : Pos} (h1 : PG X e t) : PGs X [.Starred e p] (gCons t gNil) := by
  refine ⟨fun pins s σ H vs us Q I r h => ?_⟩
  obtain ⟨v, vr, e1, h⟩ := h
  subst e1
  cases r with
  | cons r rr =>
    show wpAny _ _ (assignInOrder [assign e X.env] _) _ _ _
    refine assignInOrder_cons (thn (h1.run pins s σ H _ _ _ I r h) fun _ s1 ⟨σ1, H1, I1, q1⟩ => ?_)
    exact (pgs_nil (X := X)).run pins s1 σ1 H1 _ _ Q I1 rr q1
theorem pg_star {es : List Expr} {k n : Nat} {t : TGs} (hc : X.calm = true) (h : PGs X es t) (hn : (assignEach es X.env).length = n + 1 := by rfl) (hst : (assignEach es X.env).findIdx? (·.1) = some n := by rfl) : PG X (.Tuple es k pos) (gStar X.K n t) := by
  refine ⟨fun pins s σ H v u Q I r hw => ?_⟩
  obtain ⟨a, xs, e1, hq, hl, hw⟩ := hw
  subst e1
  cases r
  obtain ⟨its, rv, ht, hz⟩ := I.tuple hq
  have lv := rv.length
  rw [assign_Tuple]
  refine wpAny_bind (wpAny_standAt ?_)
  unfold unpack
  rw [hn, hst]
  refine wpAny_bind (wpAny_holding (unpack_star (items := its.toArray) (I.ok.hd hc) ht (by rw [List.size_toArray]; omega) (by rw [List.size_toArray]; omega) fun g tk kk => ?_))
  have I1 : Inv X pins σ H { s with heap := g, toks := tk } := I.kept kk
  have vt := rv.take n
  have I2 := I1.lnew (t' := tk) (rv.drop n) (by rw [List.length_drop]; omega)
  exact h.run pins _ σ _ _ _ Q I2 (vt.append (.cons (show RelV (.ref g.objs.size) (.ref g.objs.size) from rfl) .nil)) (hw _ (I1.hok.fresh (Nat.le_refl _)))
/-- o.f = .. as a target -/
def gFldU (K : PySem.W.Frag) (ta : TE) (f : Str) : TG := fun y σ H Q => ta σ H fun x H2 => rPutU K f x y H2 fun H3 => Q σ H3
theorem pg_attr {o : Expr} {f : Str} {ta : TE} (ha : PE X o ta)
    (he : ∀ v, assign (.Attribute o f pos) X.env v = (holding [v] (eval o X.env) >>= fun ov => standAt pos.atName >>= fun _ => holding [v, ov] (setAttr ov f v) >>= fun _ => release [v, ov] []) := by intro _; rfl) : PG X (.Attribute o f pos) (gFldU X.K ta f) := by
  refine ⟨fun pins s σ H y u Q I ry h => ?_⟩
  unfold gFldU rPutU at h
  rw [he]
  refine wpAny_bind (wpAny_holding (thn (ha.run pins s σ H _ I h) fun ov s1 ⟨x, H1, I1, rx, a, C, dx, fs, ex, ea, c, n, l, q⟩ => ?_))
  subst ex
  obtain rfl : ov = Value.ref a := rx
  refine wpAny_bind (wpAny_standAt (wpAny_bind (wpAny_holding (setattr_ok I1 ea c n l ry fun s3 I3 => ?_))))
  exact wpAny_release ⟨σ, _, I3, q⟩
end
end Kb

/-! ### == of nested lists, tuples and dicts that are equal -/
namespace Kb
open PySem PySem.Spec PyProof.Rows L2
section
variable {prog : Program} {w : World}
/-- two tuples whose things are equal one by one -/
theorem tup_eqP (l b : Addr) (us ws : Array Value) (n m : Nat) (d1 d2 : Option Addr) (sl1 sl2 : Array (Option Value)) (hsz : us.size = ws.size) : MeetsIn prog w (Builtin.«tuple.__eq__» ⟨[.ref l, .ref b], []⟩) (fun A R s => s.heap.get? l = some ⟨.type "tuple", d1, .seq us n, sl1⟩ ∧ s.heap.get? b = some ⟨.type "tuple", d2, .seq ws m, sl2⟩ ∧
    (∀ j (h1 : j < us.size) (h2 : j < ws.size), SeqAt.EqP prog w A.in1 s us[j] ws[j] true) ∧ R (.ok (.ret (.bool true))) s) := by
  intro A R s hh
  obtain ⟨hp, gs, dr, tk, os⟩ := s
  obtain ⟨hl, hb, he, q⟩ := hh
  have sub := AutoSeq1.sub_tuple_tuple
  have hz : (us.toList.zip ws.toList).length = us.size := by simp [hsz]
  wp_walk using PySem.AutoSeq1.wpAny_loadPart' hl, PySem.AutoSeq1.wpAny_loadPart' hb, wpAny_forIn_list _ (fun rest b s' => b.1 = none ∧ s' = ⟨hp, gs, dr, tk, os⟩ ∧ ∃ i, rest = (us.toList.zip ws.toList).drop i) _
  case turn =>
    rintro ⟨y, x⟩ rest b s' ⟨_, rfl, i, ez⟩
    have lt : i < (us.toList.zip ws.toList).length := by
      by_cases h : i < (us.toList.zip ws.toList).length
      · exact h
      · rw [List.drop_of_length_le (by omega)] at ez
        cases ez
    have i1 : i < us.size := by omega
    have i2 : i < ws.size := by omega
    rw [List.drop_eq_getElem_cons lt] at ez
    obtain ⟨e1, e2⟩ := List.cons.inj ez
    have ey : y = us[i] := by simpa using congrArg Prod.fst e1
    have ex : x = ws[i] := by simpa using congrArg Prod.snd e1
    rw [ey, ex]
    refine wpAny_bind (he i i1 i2 _ _ ?_)
    wp_walk
    exact ⟨rfl, rfl, i + 1, e2⟩
  case fin =>
    rintro ⟨b1, b2⟩ s' ⟨e0, rfl, _⟩
    cases e0
    wp_walk
    simpa [Builtin.Tuple.tupleCompareSizes, hsz] using q
  case h => exact ⟨rfl, rfl, 0, rfl⟩
theorem rcP_tups {A : Around} {s : Shared} {l b : Addr} {us ws : Array Value} (hl : IsTup s.heap l us) (hb : IsTup s.heap b ws) (hsz : us.size = ws.size) (hu : A.units < cLine) (he : ∀ j (h1 : j < us.size) (h2 : j < ws.size), SeqAt.EqP prog w A.in1 s us[j] ws[j] true)
    (E Q : Value → Shared → Prop) (q : Q (.bool true) s) : wpAny (model prog w) A (richCompare .Eq (.ref l) (.ref b)) Q E s := by
  obtain ⟨⟨c1, d1, da1, sl1⟩, h1, e1, n, f1⟩ := id hl
  obtain ⟨⟨c2, d2, da2, sl2⟩, h2, e2, m, f2⟩ := id hb
  simp only at e1 f1 e2 f2
  subst e1 f1 e2 f2
  have ta : s.TypeIs (.ref l) "tuple" := ⟨_, h1, rfl⟩
  exact wpAny_richCompare_same_room (op := .Eq) ta ⟨_, h2, rfl⟩ F.slot_tuple_eq (call_meetsIn F.slot_tuple_eq ta F.entry_tuple_eq (F.args_tuple_eq_2 _ _) (tup_eqP l b us ws n m d1 d2 sl1 sl2 hsz) ⟨h1, h2, he, (fun x => nomatch x), q⟩) hu
end
def EqT (K : PySem.W.Frag) (H : Hp) (E : V → V → Prop) (x y : V) : Prop := ∃ a b xs ys, x = .ref a ∧ y = .ref b ∧ SqT K H a xs ∧ SqT K H b ys ∧ Paired E xs ys
/-- equal, of nesting below n -/
def EqW (K : PySem.W.Frag) (H : Hp) : Nat → V → V → Prop
  | 0 => fun _ _ => False
  | n + 1 => fun x y => (x = y ∧ flatB x = true) ∨ (∃ a, x = .ref a ∧ y = .ref a) ∨ EqR K H (EqW K H n) x y ∨ EqT K H (EqW K H n) x y
section
variable {X : Cx} {pins : List (Addr × Obj)} {σ : L2.St} {H : Hp} {s : Shared}
theorem eqT_run (I : Inv X pins σ H s) {A : Around} {F : V → V → Prop} (hu : A.units < cLine) (ih : ∀ x y v u, F x y → RelV x v → RelV y u → SeqAt.EqP X.prog X.w A.in1 s v u true) {x y : V} {v u : Value} (h : EqT X.K H F x y) (rx : RelV x v) (ry : RelV y u) (E Q : Value → Shared → Prop) (q : Q (.bool true) s) : wpAny (model X.prog X.w) A (richCompare .Eq v u) Q E s := by
  obtain ⟨a, b, xs, ys, rfl, rfl, ha, hb, hp⟩ := h
  cases rx
  cases ry
  obtain ⟨us, r1, p1, _⟩ := I.tuple ha
  obtain ⟨ws, r2, p2, _⟩ := I.tuple hb
  have hsz : us.toArray.size = ws.toArray.size := by rw [List.size_toArray, List.size_toArray, ← r1.length, ← r2.length, Paired.length hp]
  exact rcP_tups p1 p2 hsz hu (fun j h1 h2 => by simpa using items_run ih hp r1 r2 j (by simpa using h1) (by simpa using h2)) E Q q
theorem eqW_run (I : Inv X pins σ H s) : ∀ (n : Nat) (A : Around), A.units + n < cLine → ∀ (x y : V) (v u : Value), EqW X.K H n x y → RelV x v → RelV y u → SeqAt.EqP X.prog X.w A s v u true
  | 0, _, _, _, _, _, _, h, _, _ => h.elim
  | n + 1, A, hu, x, y, v, u, h, rx, ry => by
    have ih := eqW_run I n A.in1 (by show A.units + 1 + n < cLine; omega)
    have fin : ∀ {a b : Addr}, x = .ref a → y = .ref b → (∀ E Q, Q (.bool true) s → wpAny (model X.prog X.w) A (richCompare .Eq v u) Q E s) → SeqAt.EqP X.prog X.w A s v u true := fun {a b} e1 e2 st => by
      subst e1
      subst e2
      cases rx
      cases ry
      by_cases e : a = b
      · rw [e]
        exact (SeqAt.EqAt.same _).eqP
      · exact SeqAt.eqP_refs e st
    rcases h with ⟨rfl, f⟩ | ⟨a, rfl, rfl⟩ | h | h
    · exact (eqAt_same rx ry f).eqP
    · cases rx
      cases ry
      exact (SeqAt.EqAt.same _).eqP
    · have st := eqR_run I (A := A) (by omega) ih h rx ry
      rcases h with ⟨a, b, _, _, e1, e2, _⟩ | ⟨a, b, _, _, e1, e2, _⟩
      · exact fin e1 e2 st
      · exact fin e1 e2 st
    · have st := eqT_run I (A := A) (by omega) ih h rx ry
      obtain ⟨a, b, _, _, e1, e2, _⟩ := h
      exact fin e1 e2 st
end
/-- a list or a tuple against an empty one -/
def rEqE (K : PySem.W.Frag) : R2 := fun x y H Q => ∃ a b xs, x = .ref a ∧ y = .ref b ∧ ((SqL K H a xs ∧ SqL K H b []) ∨ (SqT K H a xs ∧ SqT K H b [])) ∧ Q (.bl xs.isEmpty) H
theorem op_eqE {X : Cx} (hu : X.A.units + 64 < cLine) : OpR X (compareOp .Eq) (rEqE X.K) := by
  intro pins s σ H x y v u Q I rx ry h
  obtain ⟨a, b, xs, rfl, rfl, h, q⟩ := h
  cases rx
  cases ry
  rcases h with ⟨ha, hb⟩ | ⟨ha, hb⟩
  · obtain ⟨us, r1, p1, _⟩ := I.list ha
    obtain ⟨ws, r2, p2, _⟩ := I.list hb
    cases r2
    have l1 := r1.length
    cases us with
    | nil =>
      obtain rfl := List.length_eq_zero_iff.mp l1
      exact SeqAt.eq_listAt (e := fun _ => true) p1.isList p2.isList rfl (by omega) (fun j h1 h2 => absurd h2 (Nat.not_lt_zero _)) ⟨.bl true, H, I, rfl, q⟩
    | cons c r =>
      have e : xs.isEmpty = false := by cases xs <;> simp_all
      rw [e] at q
      exact SeqAt.eq_list_lengthsAt p1.isList p2.isList (by simp) (by omega) ⟨.bl false, H, I, rfl, q⟩
  · obtain ⟨us, r1, p1, _⟩ := I.tuple ha
    obtain ⟨ws, r2, p2, _⟩ := I.tuple hb
    cases r2
    have l1 := r1.length
    refine SeqAt.eq_tupleAt (e := fun _ => true) p1 p2 (by omega) (fun j h1 h2 => absurd h2 (Nat.not_lt_zero _)) ⟨.bl xs.isEmpty, H, I, ?_, q⟩
    have e : ((List.range (min us.toArray.size ([] : List Value).toArray.size)).all fun _ => true) = true := List.all_eq_true.mpr fun _ _ => rfl
    rw [e]
    cases xs <;> cases us <;> simp_all [L2.RelV]
/-- a dict against an empty one -/
def rEqDE : R2 := fun x y H Q => ∃ a b ks, x = .ref a ∧ y = .ref b ∧ H a = some (.dK ks) ∧ H b = some (.dK []) ∧ Q (.bl ks.isEmpty) H
theorem op_eqDE {X : Cx} (hu : X.A.units < cLine) : OpR X (compareOp .Eq) rEqDE := by
  intro pins s σ H x y v u Q I rx ry h
  obtain ⟨a, b, ks, rfl, rfl, ha, hb, q⟩ := h
  cases rx
  cases ry
  obtain ⟨_, ya, va, ra, da⟩ := (show ObjOk X.prog X.w H s.heap a (.dK ks) from I.hok a _ ha)
  obtain ⟨_, yb, vb, rb, db⟩ := (show ObjOk X.prog X.w H s.heap b (.dK []) from I.hok b _ hb)
  have lb : vb.length = 0 := rb.length.symm
  have la := ra.length
  refine PySem.W.keq_eq (knd := mixKind X.prog X.w) (r := true) ya yb da db hu (fun e => ?_) ⟨.bl ks.isEmpty, H, I, ?_, q⟩
  · have z : va.length = 0 := by simpa [lb] using e
    obtain rfl := List.length_eq_zero_iff.mp z
    exact .nil
  · show Value.bool _ = Value.bool _
    rw [lb, ← la]
    cases ks <;> simp
/-- x == y by the joined rule, or two lists, tuples or dicts that are equal, or one that is empty -/
def rEqX (K : PySem.W.Frag) : R2 := fun x y H Q => rEqU K x y H Q ∨ (∃ n, n ≤ 60 ∧ (EqR K H (EqW K H n) x y ∨ EqT K H (EqW K H n) x y) ∧ Q (.bl true) H) ∨ rEqE K x y H Q ∨ rEqDE x y H Q
theorem u_eqX {X : Cx} (hu : X.A.units + 64 < cLine) : OpR X (compareOp .Eq) (rEqX X.K) := by
  intro pins s σ H x y v u Q I rx ry h
  rcases h with h | ⟨n, hn, h, q⟩ | h | h
  · exact u_eq hu pins s σ H x y v u Q I rx ry h
  · have ih := eqW_run I n X.A.in1 (by show X.A.units + 1 + n < cLine; omega)
    rcases h with h | h
    · exact eqR_run I (A := X.A) (by omega) ih h rx ry _ _ ⟨.bl true, H, I, rfl, q⟩
    · exact eqT_run I (A := X.A) (by omega) ih h rx ry _ _ ⟨.bl true, H, I, rfl, q⟩
  · exact op_eqE hu pins s σ H x y v u Q I rx ry h
  · exact op_eqDE (by omega) pins s σ H x y v u Q I rx ry h
theorem eqDE_go {K : PySem.W.Frag} {H : Hp} {Q : VK} {a b : Addr} {ks : List (L2.Key × V)} (ha : H a = some (.dK ks)) (hb : H b = some (.dK [])) (q : Q (.bl ks.isEmpty) H) : rEqX K (.ref a) (.ref b) H Q := .inr (.inr (.inr ⟨a, b, ks, rfl, rfl, ha, hb, q⟩))
theorem eqET_go {K : PySem.W.Frag} {H : Hp} {Q : VK} {a b : Addr} {xs : List V} (ha : SqT K H a xs) (hb : SqT K H b []) (q : Q (.bl xs.isEmpty) H) : rEqX K (.ref a) (.ref b) H Q := .inr (.inr (.inl ⟨a, b, xs, rfl, rfl, .inr ⟨ha, hb⟩, q⟩))
theorem eqEL_go {K : PySem.W.Frag} {H : Hp} {Q : VK} {a b : Addr} {xs : List V} (ha : SqL K H a xs) (hb : SqL K H b []) (q : Q (.bl xs.isEmpty) H) : rEqX K (.ref a) (.ref b) H Q := .inr (.inr (.inl ⟨a, b, xs, rfl, rfl, .inl ⟨ha, hb⟩, q⟩))
theorem eqX_no {K : PySem.W.Frag} {H : Hp} {Q : VK} {x y : V} (h : rEqU K x y H Q) : rEqX K x y H Q := .inl h
/-! ### a text over and over; min of a list; str.index -/
def rRepS : R2 := fun x y H Q => ∃ (z : Str) (k : Int), x = .str z ∧ y = .int k ∧ 2 ≤ k ∧ k ≤ 1000 ∧ 0 < z.length ∧ z.length ≤ 1000 ∧ Q (.str ⟨(List.replicate k.toNat z.cps).foldl (· ++ ·) #[]⟩) H
theorem fold_size (a : Array Nat) : ∀ (n : Nat) (acc : Array Nat), ((List.replicate n a).foldl (· ++ ·) acc).size = acc.size + n * a.size
  | 0, acc => by simp
  | n + 1, acc => by
    rw [List.replicate_succ, List.foldl_cons, fold_size a n, Array.size_append, Nat.succ_mul]
    omega
theorem op_repS {X : Cx} : OpR X (binaryOp .Mult) rRepS := by
  intro pins s σ H x y v u Q I rx ry h
  obtain ⟨z, k, rfl, rfl, h1, h2, h3, h4, q⟩ := h
  obtain ⟨t, rfl⟩ := rx
  obtain ⟨t', rfl⟩ := ry
  have a1 : (decide (k < -(2 ^ 63 : Int)) || decide (k ≥ 2 ^ 63)) = false := by
    rw [decide_eq_false (by omega), decide_eq_false (by omega)]
    rfl
  have n1 : (k == 1 || z.length == 0) = false := by
    have e1 : (k == 1) = false := by simp; omega
    have e2 : (z.length == 0) = false := by simp; omega
    rw [e1, e2]
    rfl
  have m1 : k.toNat ≤ 1000 := by omega
  have z1 : z.length * k.toNat ≤ 1000 * 1000 := Nat.mul_le_mul h4 m1
  refine PySem.P.mul_str a1 (fun _ _ => ?_) (fun _ _ => ?_) ?_
  · have h5 : (z.length : Int) ≤ (2 ^ 63 - 1) / k := Int.le_ediv_of_mul_le (by omega) (by
      have : (z.length : Int) * k ≤ 1000 * 1000 := Int.mul_le_mul (by omega) h2 (by omega) (by decide)
      omega)
    omega
  · have h5 : ¬ z.length * k.toNat > sizeLine := by
      have : (1000 * 1000 : Nat) ≤ sizeLine := by decide
      omega
    exact decide_eq_false h5
  · rw [if_neg (by omega), if_neg (by rw [n1]; exact Bool.false_ne_true)]
    refine ⟨?_, .str ⟨(List.replicate k.toNat z.cps).foldl (· ++ ·) #[]⟩, H, I.tok _, ⟨_, rfl⟩, q⟩
    show ((List.replicate k.toNat z.cps).foldl (· ++ ·) #[]).size ≤ sizeLine
    rw [fold_size]
    have z2 : k.toNat * z.cps.size ≤ 1000 * 1000 := by rw [Nat.mul_comm]; exact z1
    have : (1000 * 1000 : Nat) ≤ sizeLine := by decide
    show 0 + _ ≤ _
    omega
end Kb

/-! ### != of equal lists of lists and tuples, nested -/
namespace Kb
open PySem PySem.Spec PyProof.Rows L2
/-- equal lists and tuples, of nesting below n -/
def EqN (K : PySem.W.Frag) (H : Hp) : Nat → V → V → Prop
  | 0 => fun _ _ => False
  | n + 1 => fun x y => (x = y ∧ flatB x = true) ∨ (∃ a, x = .ref a ∧ y = .ref a) ∨ ∃ a b xs ys, x = .ref a ∧ y = .ref b ∧ ((SqL K H a xs ∧ SqL K H b ys) ∨ (SqT K H a xs ∧ SqT K H b ys)) ∧ Paired (EqN K H n) xs ys
theorem itemsAt_run {A : Around} {s : Shared} {F : V → V → Prop} (ih : ∀ x y v u, F x y → RelV x v → RelV y u → SeqAt.EqAt A s v u true) {xs ys : List V} (hp : Paired F xs ys) :
    ∀ {us ws : List Value}, Vals xs us → Vals ys ws → ∀ j (h1 : j < us.length) (h2 : j < ws.length), SeqAt.EqAt A s us[j] ws[j] true := by
  induction hp with
  | nil =>
    intro us ws r1 r2 j h1 h2
    cases r1
    exact absurd h1 (Nat.not_lt_zero j)
  | cons h _ k =>
    intro us ws r1 r2 j h1 h2
    cases r1 with
    | cons a1 b1 =>
      cases r2 with
      | cons a2 b2 =>
        cases j with
        | zero => exact ih _ _ _ _ h a1 a2
        | succ j => exact k b1 b2 j (Nat.lt_of_succ_lt_succ h1) (Nat.lt_of_succ_lt_succ h2)
section
variable {X : Cx} {pins : List (Addr × Obj)} {σ : L2.St} {H : Hp} {s : Shared}
theorem eqN_run (I : Inv X pins σ H s) : ∀ (n : Nat) (A : Around), A.units + n < cLine → ∀ (x y : V) (v u : Value), EqN X.K H n x y → RelV x v → RelV y u → SeqAt.EqAt A s v u true
  | 0, _, _, _, _, _, _, h, _, _ => h.elim
  | n + 1, A, hu, x, y, v, u, h, rx, ry => by
    have ih := eqN_run I n A.in1 (by show A.units + 1 + n < cLine; omega)
    rcases h with ⟨rfl, f⟩ | ⟨a, rfl, rfl⟩ | ⟨a, b, xs, ys, rfl, rfl, h, hp⟩
    · exact eqAt_same rx ry f
    · cases rx
      cases ry
      exact SeqAt.EqAt.same _
    · cases rx
      cases ry
      by_cases e : a = b
      · rw [e]
        exact SeqAt.EqAt.same _
      · refine SeqAt.EqAt.of_refs e ?_
        rcases h with ⟨ha, hb⟩ | ⟨ha, hb⟩
        · obtain ⟨us, r1, p1, _⟩ := I.list ha
          obtain ⟨ws, r2, p2, _⟩ := I.list hb
          have hsz : us.toArray.size = ws.toArray.size := by rw [List.size_toArray, List.size_toArray, ← r1.length, ← r2.length, Paired.length hp]
          have q := SeqAt.RcAt.lists (e := fun _ => true) p1.isList p2.isList hsz (A := A) (s := s) (by omega) (fun j h1 h2 => by simpa using itemsAt_run ih hp r1 r2 j (by simpa using h1) (by simpa using h2))
          rwa [show ((List.range us.toArray.size).all fun _ => true) = true from List.all_eq_true.mpr fun _ _ => rfl] at q
        · obtain ⟨us, r1, p1, _⟩ := I.tuple ha
          obtain ⟨ws, r2, p2, _⟩ := I.tuple hb
          have hsz : us.toArray.size = ws.toArray.size := by rw [List.size_toArray, List.size_toArray, ← r1.length, ← r2.length, Paired.length hp]
          have q := SeqAt.RcAt.tuples (e := fun _ => true) p1 p2 (A := A) (s := s) (by omega) (fun j h1 h2 => by simpa using itemsAt_run ih hp r1 r2 j (by simpa using h1) (by simpa using h2))
          rwa [show ((List.range (min us.toArray.size ws.toArray.size)).all (fun _ => true) && us.toArray.size == ws.toArray.size) = true from by
            rw [Bool.and_eq_true]
            exact ⟨List.all_eq_true.mpr fun _ _ => rfl, by rw [hsz]; simp⟩] at q
/-- x != y by the joined rule, or two lists that are equal -/
def rNeX (K : PySem.W.Frag) : R2 := fun x y H Q => rNeU K x y H Q ∨ (∃ n a b xs ys, n ≤ 60 ∧ x = .ref a ∧ y = .ref b ∧ SqL K H a xs ∧ SqL K H b ys ∧ Paired (EqN K H n) xs ys ∧ Q (.bl false) H) ∨ ∃ a b xs, x = .ref a ∧ y = .ref b ∧ SqL K H a xs ∧ SqL K H b [] ∧ Q (.bl (!xs.isEmpty)) H
theorem u_neX {X : Cx} (hu : X.A.units + 64 < cLine) : OpR X (compareOp .NotEq) (rNeX X.K) := by
  intro pins s σ H x y v u Q I rx ry h
  rcases h with h | ⟨n, a, b, xs, ys, hn, rfl, rfl, ha, hb, hp, q⟩ | ⟨a, b, xs, rfl, rfl, ha, hb, q⟩
  · exact u_ne hu pins s σ H x y v u Q I rx ry h
  · cases rx
    cases ry
    have ih := eqN_run I n X.A.in1 (by show X.A.units + 1 + n < cLine; omega)
    obtain ⟨us, r1, p1, _⟩ := I.list ha
    obtain ⟨ws, r2, p2, _⟩ := I.list hb
    have hsz : us.toArray.size = ws.toArray.size := by rw [List.size_toArray, List.size_toArray, ← r1.length, ← r2.length, Paired.length hp]
    have k := SeqAt.RcNeAt.lists (e := fun _ => true) p1.isList p2.isList hsz (A := X.A) (s := s) (by omega) (fun j h1 h2 => by simpa using itemsAt_run ih hp r1 r2 j (by simpa using h1) (by simpa using h2))
    rw [show ((List.range us.toArray.size).all fun _ => true) = true from List.all_eq_true.mpr fun _ _ => rfl] at k
    exact k _ _ _ _ ⟨.bl false, H, I, rfl, q⟩
  · cases rx
    cases ry
    obtain ⟨us, r1, p1, _⟩ := I.list ha
    obtain ⟨ws, r2, p2, _⟩ := I.list hb
    cases r2
    have l1 := r1.length
    cases us with
    | nil =>
      obtain rfl := List.length_eq_zero_iff.mp l1
      have k := SeqAt.RcNeAt.lists (e := fun _ => true) p1.isList p2.isList rfl (A := X.A) (s := s) (by omega) (fun j h1 h2 => absurd h2 (Nat.not_lt_zero _))
      exact k _ _ _ _ ⟨.bl false, H, I, rfl, q⟩
    | cons c r =>
      have e : (!xs.isEmpty) = true := by cases xs <;> simp_all
      rw [e] at q
      exact SeqAt.RcNeAt.lists_lengths p1.isList p2.isList (by simp) (A := X.A) (s := s) (by omega) _ _ _ _ ⟨.bl true, H, I, rfl, q⟩
end
theorem neX_go {K : PySem.W.Frag} {H : Hp} {Q : VK} {n : Nat} {a b : Addr} {xs ys : List V} (hn : n ≤ 60) (ha : SqL K H a xs) (hb : SqL K H b ys) (h : Paired (EqN K H n) xs ys) (q : Q (.bl false) H) : rNeX K (.ref a) (.ref b) H Q := .inr (.inl ⟨n, a, b, xs, ys, hn, rfl, rfl, ha, hb, h, q⟩)
theorem neXE_go {K : PySem.W.Frag} {H : Hp} {Q : VK} {a b : Addr} {xs : List V} (ha : SqL K H a xs) (hb : SqL K H b []) (q : Q (.bl (!xs.isEmpty)) H) : rNeX K (.ref a) (.ref b) H Q := .inr (.inr ⟨a, b, xs, rfl, rfl, ha, hb, q⟩)
end Kb

/-! ### own classes whose __init__ has keyword-only parameters -/
namespace Kb
open PySem PySem.Spec PyProof.Rows L2
def DefK (K : PySem.W.Frag) (C : Addr) (st : Stmt) (qual : Str) (kwd : List (Str × V)) : Prop := ∃ f fd, Meth K C "__init__" f ∧ FunD K "__init__" qual (defArgs st) (defBody st) (defScope st) [] kwd f fd
structure CalK (P : Program) (w : World) (K : PySem.W.Frag) (mg : Str → Option Value) (base : Heap) (CX : CXT) (k : Nat) (C : Addr) (st : Stmt) (qual : Str) (kwd : List (Str × V)) (ps : List Str) (sp : Sp) : Prop where
  ex : ∃ f fd, Meth K C "__init__" f ∧ FnOk P w K mg base CX k f fd ps sp ∧ FunD K "__init__" qual (defArgs st) (defBody st) (defScope st) [] kwd f fd
theorem CalK.of {P : Program} {w : World} {K : PySem.W.Frag} {mg : Str → Option Value} {base : Heap} {C : Addr} {qual : Str} {st : Stmt} {kwd : List (Str × V)} {N ps : List Str} {k : Nat} {sp : Sp} (D : DefK K C st qual kwd) (S : FnScope N ps (defScope st)) (len : ∀ vs H Q E, sp vs H Q E → vs.length = ps.length)
    (hbody : ∀ (f : Addr) (cdv : Value) (A : Around) (outer : List Env) (s : Shared) (H : Hp) (vs : List V) (Q : VK) (E : XK), Room k (A.deeper (envOfC qual (defScope st) s.heap.objs.size f cdv)) → sp vs H Q E →
      ∃ t, PSs (cxOf CX0 P w K mg base N qual (defScope st) f cdv A outer s H E).nox (defBody st) t ∧ t { nx := fun _ H' => Q .non H', rt := Q } (start N vs) H) : CalK P w K mg base CX0 (k + 1) C st qual kwd ps sp := by
  obtain ⟨f, fd, hm, F⟩ := D
  exact ⟨f, fd, hm, F.ok S len fun cdv A outer s H vs Q E hr h => let ⟨t, h1, h2⟩ := hbody f cdv A outer s H vs Q E hr h; ⟨t, h1.nox, h2⟩, F⟩
/-- how a call with n things by place and some by name (ks) binds, ms being those that lack -/
def PutsK (st : Stmt) (qual : Str) (ps : List Str) (n : Nat) (ks : List Str) (ms : List (Str × V)) (g : {α : Type} → List α → List α → List α → List α) : Prop :=
  ∀ (D : Addr) (doc pm : Value) (an : Option Addr) (cdv ct : Value) (us mv ws : List Value), us.length = n → mv.length = ms.length → ws.length = ks.length →
    KwChain D ((ms.map (·.1)).zip mv) (bindArgs (PySem.W.fnOf "__init__" qual (defArgs st) (defBody st) (defScope st) .none (.ref D) doc pm an cdv ct) ⟨us, ks.zip ws⟩) (ps.zip (g us mv ws))
section
variable {X : Cx} {CX : CXT} {k n : Nat} {C : Addr} {st : Stmt} {qual : Str} {kwd ms : List (Str × V)} {ps ks : List Str} {sp : Sp} {E : XK} {x : Str} {p pos : Pos} {e : Expr} {es : List Expr} {kws : List Keyword} {t tk : TA}
theorem pe_makeKO (ms : List (Str × V)) (g : {α : Type} → List α → List α → List α → List α) (hmk : PySem.W.makesIn X.K C = true) (hkc : PySem.W.keepIn X.K (.ref C) = true) (M : CalK X.prog X.w X.K X.mg X.base CX k C st qual kwd ps sp) (hd : kwd ≠ []) (hms : ∀ q ∈ ms, q ∈ kwd) (hrel : Keeps3 g) (hp : PutsK st qual ps (n + 1) ks ms g)
    (hr : Room (k + 1) X.A) (hg : Gl X x) (hm : X.mg x = some (.ref C)) (hx : Passes CX X E) (ha : PA X (e :: es) t) (hkw : PK X kws tk) (hall : (backToKw pos (keywordEach kws X.env)).all (·.1.isSome) = true := by rfl) (hks : (backToKw pos (keywordEach kws X.env)).filterMap (·.1) = ks := by rfl)
    (hdb : (x == ("__debug__" : Str)) = false := by decide) (he : starEach (e :: es) X.env = (false, eval e X.env) :: starEach es X.env := by rfl) (hpl : ((backTo pos (starEach (e :: es) X.env)).any (·.1) || (backToKw pos (keywordEach kws X.env)).any (·.1.isNone)) = false := by rfl) :
    PE X (.Call (.Name x p) (e :: es) kws pos) (tMakeK C n ks.length sp (fun vs zs => g vs (ms.map (·.2)) zs) E t tk) := by
  obtain ⟨f, fd, me, F, D⟩ := M.ex
  obtain ⟨mv, hb⟩ := FunD.kbinds0 (ps := ps) D (n + 1) ks ms g hd hms hrel hp
  exact pe_makeK ⟨hmk, me.at_, me.fn, hkc⟩ F hr hg hm hb hx ha hkw hall hks hdb he hpl
theorem pe_makeKO0 (ms : List (Str × V)) (g : {α : Type} → List α → List α → List α → List α) (hmk : PySem.W.makesIn X.K C = true) (hkc : PySem.W.keepIn X.K (.ref C) = true) (M : CalK X.prog X.w X.K X.mg X.base CX k C st qual kwd ps sp) (hd : kwd ≠ []) (hms : ∀ q ∈ ms, q ∈ kwd) (hrel : Keeps3 g) (hp : PutsK st qual ps 1 ks ms g)
    (hr : Room (k + 1) X.A) (hg : Gl X x) (hm : X.mg x = some (.ref C)) (hx : Passes CX X E) (hkw : PK X kws tk) (hall : (backToKw pos (keywordEach kws X.env)).all (·.1.isSome) = true := by rfl) (hks : (backToKw pos (keywordEach kws X.env)).filterMap (·.1) = ks := by rfl)
    (hdb : (x == ("__debug__" : Str)) = false := by decide) (hpl : ((backTo pos (starEach [] X.env)).any (·.1) || (backToKw pos (keywordEach kws X.env)).any (·.1.isNone)) = false := by rfl) :
    PE X (.Call (.Name x p) [] kws pos) (tMakeK C 0 ks.length sp (fun vs zs => g vs (ms.map (·.2)) zs) E tNil tk) := by
  obtain ⟨f, fd, me, F, D⟩ := M.ex
  obtain ⟨mv, hb⟩ := FunD.kbinds0 (ps := ps) D 1 ks ms g hd hms hrel hp
  exact pe_makeK0 ⟨hmk, me.at_, me.fn, hkc⟩ F hr hg hm hb hx hkw hall hks hdb hpl
end
end Kb

/-! ### a list or a tuple: enumerate(x), x[i:j], its length; a list's items into names -/
namespace Kb
open PySem PySem.Spec PyProof.Rows L2
section
variable {X : Cx} {pins : List (Addr × Obj)} {σ : L2.St} {H : Hp} {s : Shared} {a : Addr} {S : Hp → List V → Prop} {Ar : Heap → Array Value → Prop} {At : Heap → Addr → Nat → Prop} {ob : Obj}
@[irreducible] def iEnumV (K : PySem.W.Frag) (te : TE) : TI := fun σ H R => te σ H fun x H1 => ∃ a, x = .ref a ∧ ((∃ xs, SqL K H1 a xs ∧ R (ItS (fun H ys => SqL K H a ys) 0) H1) ∨ ∃ xs, SqT K H1 a xs ∧ R (ItS (fun H ys => SqT K H a ys) 0) H1)
theorem pi_enumV {e : Expr} {te : TE} {p pos tpos : Pos} {elts : List Expr} {kk : Nat} (hg : Gl X "enumerate") (hm : X.mg "enumerate" = none) (he : PE X e te)
    (hs : starEach [e] X.env = (false, eval e X.env) :: starEach [] X.env := by rfl) : PI X (.Tuple elts kk tpos) (.Call (.Name "enumerate" p) [e] [] pos) (iEnumV X.K te) := by
  unfold iEnumV
  refine ⟨fun pins s σ H R I h => ?_⟩
  refine wpAny_Call_Name_kw (ld_blt I hg hm boot_enumerate (PyProof.Rows.callWith_type1 ?_ hs rfl))
  rw [hs]
  refine Calls.spliced_cons (thn (he.run pins s σ H _ I h) fun u s1 ⟨x, H1, I1, rx, a, ex, q⟩ => Calls.spliced_nil ?_)
  subst ex
  obtain rfl : u = Value.ref a := rx
  rcases q with ⟨xs, hx, hR⟩ | ⟨xs, hx, hR⟩
  · have sr := src_list X.K a
    obtain ⟨its, rv, hA⟩ := sr.get rfl I1 hx
    obtain ⟨oa, hoa⟩ := sr.lives hA
    have hlt := Heap.lt_size hoa
    refine enum0_begins (sr.begin its.toArray) hA fun h' hen hit hsz hk => wpAny_pyIter_enum hen ?_
    have I2 : Inv X pins σ H1 { s1 with heap := h' } := I1.kept (t' := s1.toks) hk
    exact ⟨s1.heap.objs.size + 1, [s1.heap.objs.size + 1, s1.heap.objs.size], _, _, H1, rfl, I2, turn_enumS sr 0 (s1.heap.objs.size + 1) s1.heap.objs.size (Nat.ne_of_lt hlt) (Nat.succ_ne_self _) (Nat.ne_of_gt (Nat.lt_succ_of_lt hlt)), ⟨⟨.none, by simpa using hen⟩, sr.first hit⟩, (fun b hb => by
      have hle : s1.heap.objs.size ≤ b := by
        rcases List.mem_cons.mp hb with z | z
        · rw [z]; exact Nat.le_succ _
        · rw [List.mem_singleton.mp z]; exact Nat.le_refl _
      exact I1.fpOk hle (I1.hok.fresh hle)), hR⟩
  · have sr := src_tup X.K a
    obtain ⟨its, rv, hA⟩ := sr.get rfl I1 hx
    obtain ⟨oa, hoa⟩ := sr.lives hA
    have hlt := Heap.lt_size hoa
    refine enum0_begins (sr.begin its.toArray) hA fun h' hen hit hsz hk => wpAny_pyIter_enum hen ?_
    have I2 : Inv X pins σ H1 { s1 with heap := h' } := I1.kept (t' := s1.toks) hk
    exact ⟨s1.heap.objs.size + 1, [s1.heap.objs.size + 1, s1.heap.objs.size], _, _, H1, rfl, I2, turn_enumS sr 0 (s1.heap.objs.size + 1) s1.heap.objs.size (Nat.ne_of_lt hlt) (Nat.succ_ne_self _) (Nat.ne_of_gt (Nat.lt_succ_of_lt hlt)), ⟨⟨.none, by simpa using hen⟩, sr.first hit⟩, (fun b hb => by
      have hle : s1.heap.objs.size ≤ b := by
        rcases List.mem_cons.mp hb with z | z
        · rw [z]; exact Nat.le_succ _
        · rw [List.mem_singleton.mp z]; exact Nat.le_refl _
      exact I1.fpOk hle (I1.hok.fresh hle)), hR⟩
end
/-- x[i:j] of a list or a tuple -/
@[irreducible] def rSlV (K : PySem.W.Frag) : V → Option Int → Option Int → Hp → VK → Prop := fun x lo hi H Q => rSlLU K x lo hi H Q ∨ rSlA K x lo hi H Q
theorem Walk.cast {J : It} {n : Nat} {G G' : Hp → Prop} {Y : Nat → Hp → V → Hp → Prop} (w : Walk J n G Y) (h : ∀ H, G' H → G H) : Walk J n G' Y := w.mono h fun _ _ _ _ _ _ y => y
end Kb
/-! ### a tuple once, or not at all -/
namespace Kb
open PySem PySem.Spec PyProof.Rows L2
theorem tuple_mul1 (l : Addr) (items : Array Value) (n : Nat) (dd : Option Addr) (sl : Array (Option Value)) (u : Tok) :
    Meets (Builtin.«tuple.__mul__» ⟨[.ref l, .int 1 u], []⟩) (fun _ R s => s.heap.get? l = some { cls := .type "tuple", dict := dd, data := .seq items n, slots := sl } ∧ R (.ok (.ret (Value.ref l))) s) :=
  .of_wp fun prog w A R s h => by
    obtain ⟨hp, g, d, tk, os⟩ := s
    obtain ⟨hl, h⟩ := h
    have f1 := AutoSeq1.idx_int
    have c0 : (decide ((1 : Int) < -(2 ^ 63)) || decide ((1 : Int) ≥ 2 ^ 63)) = false := by decide +kernel
    have c1 : (items.isEmpty || (1 : Int) == 1) = true := by simp
    wp_walk using wpAny_loadPart' hl
    repeat (first
      | (refine wpAny_ite_false (decide_eq_false (by rw [c0]; exact Bool.false_ne_true)) ?_; wp_walk using wpAny_loadPart' hl)
      | (refine wpAny_ite_true (decide_eq_true c1) ?_; wp_walk using wpAny_loadPart' hl))
    exact ⟨_, rfl, h⟩
theorem tuple_mul0 (l : Addr) (items : Array Value) (n : Nat) (dd : Option Addr) (sl : Array (Option Value)) (u : Tok) (c1 : items.isEmpty = false) :
    Meets (Builtin.«tuple.__mul__» ⟨[.ref l, .int 0 u], []⟩) (fun _ R s => s.heap.get? l = some { cls := .type "tuple", dict := dd, data := .seq items n, slots := sl } ∧
      R (.ok (.ret (Value.ref s.heap.objs.size))) { s with heap := s.heap.push { cls := Value.type "tuple", data := Data.seq #[] }, toks := s.toks }) :=
  .of_wp fun prog w A R s h => by
    obtain ⟨hp, g, d, tk, os⟩ := s
    obtain ⟨hl, h⟩ := h
    have f1 := AutoSeq1.idx_int
    have c0 : (decide ((0 : Int) < -(2 ^ 63)) || decide ((0 : Int) ≥ 2 ^ 63)) = false := by decide +kernel
    have c2 : (items.isEmpty || (0 : Int) == 1) = false := by rw [c1]; rfl
    have c3 : (decide ((0 : Int) ≤ 0) || items.isEmpty) = true := by simp
    wp_walk using wpAny_loadPart' hl
    repeat (first
      | (refine wpAny_ite_false (decide_eq_false (by rw [c0]; exact Bool.false_ne_true)) ?_; wp_walk using wpAny_loadPart' hl)
      | (refine wpAny_ite_false (decide_eq_false (by rw [c2]; exact Bool.false_ne_true)) ?_; wp_walk using wpAny_loadPart' hl)
      | (refine wpAny_ite_true (decide_eq_true c3) ?_; wp_walk using wpAny_loadPart' hl))
    exact ⟨_, rfl, h⟩
def rRepZ (K : PySem.W.Frag) : R2 := fun x y H Q => ∃ l xs, ∃ b : Bool, x = .ref l ∧ y = .int (if b then 1 else 0) ∧ SqT K H l xs ∧ xs ≠ [] ∧ (b = true → Q (.ref l) H) ∧ (b = false → ∀ p, H p = none → Q (.ref p) (upd H p (.tup [])))
section
variable {X : Cx}
theorem op_repZ : OpR X (binaryOp .Mult) (rRepZ X.K) := by
  intro pins s σ H x y v u Q I rx ry h
  obtain ⟨l, xs, b, rfl, rfl, hT, hne, q1, q0⟩ := h
  cases rx
  obtain ⟨t, rfl⟩ := ry
  obtain ⟨its, r, ⟨⟨cls, dd, data, sl⟩, ho, hc, n, hd⟩, hs⟩ := I.tuple hT
  simp only at hc hd
  subst hc hd
  have hle : its.length = xs.length := r.length.symm
  have hn : its ≠ [] := fun e => hne (by
    rw [e] at hle
    exact List.eq_nil_of_length_eq_zero hle.symm)
  have hi : its.toArray.isEmpty = false := by
    cases its with
    | nil => exact absurd rfl hn
    | cons a b => rfl
  cases b with
  | true =>
    exact wpAny_binaryOp_repeat_ref (T := "tuple") (U := "int") (by decide) ⟨_, ho, rfl⟩ (fun s' => typeIs_int s' 1 t) noFill_tuple_mul F.fills_int_mul F.slot_int_rmul repeat_tuple F.slot_int_index.lookup
      (call_meets F.slot_int_rmul (typeIs_int s 1 t) F.entry_int_rmul (F.args_int_rmul_2 _ _) (int_rmul_tuple 1 t l its.toArray n dd sl)
        ⟨ho, rfl, ⟨_, ho, rfl⟩, call_meets F.slot_tuple_mul ⟨_, ho, rfl⟩ F.entry_tuple_mul (F.args_tuple_mul_2 _ _) (tuple_mul1 l its.toArray n dd sl t) ⟨ho, ⟨.ref l, H, I, rfl, q1 rfl⟩⟩⟩)
  | false =>
    refine wpAny_binaryOp_repeat_ref (T := "tuple") (U := "int") (by decide) ⟨_, ho, rfl⟩ (fun s' => typeIs_int s' 0 t) noFill_tuple_mul F.fills_int_mul F.slot_int_rmul repeat_tuple F.slot_int_index.lookup
      (call_meets F.slot_int_rmul (typeIs_int s 0 t) F.entry_int_rmul (F.args_int_rmul_2 _ _) (int_rmul_tuple 0 t l its.toArray n dd sl)
        ⟨ho, rfl, ⟨_, ho, rfl⟩, call_meets F.slot_tuple_mul ⟨_, ho, rfl⟩ F.entry_tuple_mul (F.args_tuple_mul_2 _ _) (tuple_mul0 l its.toArray n dd sl t hi) ⟨ho, ?_⟩⟩)
    refine ⟨.ref s.heap.objs.size, _, I.laid (t' := s.toks) (o := .tup []) (fun b ob q => Heap.get?_push_of_some _ q) (Nat.le_refl _) ?_, rfl, q0 rfl _ (I.hok.fresh (Nat.le_refl _))⟩
    exact ⟨by decide, [], .nil, IsTup.new _ _⟩
end
end Kb
namespace Kb
open PySem PySem.Spec PyProof.Rows L2
theorem u_slV {X : Cx} : SlR X (rSlV X.K) := by unfold rSlV; exact u_slL.or sl_tupA
/-- times: the joined rule, or a text over and over -/
def rMulX (K : PySem.W.Frag) : R2 := fun x y H Q => rMulU K x y H Q ∨ rRepS x y H Q ∨ rRepZ K x y H Q
theorem u_mulX {X : Cx} : OpR X (binaryOp .Mult) (rMulX X.K) := u_mul.or (op_repS.or op_repZ)
theorem repZ_go {K : PySem.W.Frag} {H : Hp} {Q : VK} {a : Addr} {xs : List V} {b : Bool} (h : SqT K H a xs) (ne : xs ≠ []) (q1 : b = true → Q (.ref a) H) (q0 : b = false → ∀ p, H p = none → Q (.ref p) (upd H p (.tup []))) : rMulX K (.ref a) (.int (if b then 1 else 0)) H Q := .inr (.inr ⟨_, _, b, rfl, rfl, h, ne, q1, q0⟩)
abbrev rSIdx : V → List V → Hp → VK → Prop := fun x xs H Q => ∃ a b i rest, x = .str a ∧ xs = [.str b] ∧ Builtin.Str.occurrences a b 0 a.length 1 = i :: rest ∧ Q (.int (i : Nat)) H
/-! ### defs of the text with defaults -/
def DefF (K : PySem.W.Frag) (mg : Str → Option Value) (st : Stmt) (x : Str) (dvs : List V) : Prop := ∃ f fd, mg x = some (.ref f) ∧ FunD K x x (defArgs st) (defBody st) (defScope st) dvs [] f fd
structure CalDf (P : Program) (w : World) (K : PySem.W.Frag) (mg : Str → Option Value) (base : Heap) (CX : CXT) (k : Nat) (st : Stmt) (x : Str) (dvs : List V) (ps : List Str) (sp : Sp) : Prop where
  ex : ∃ f fd, mg x = some (.ref f) ∧ FnOk P w K mg base CX k f fd ps sp ∧ FunD K x x (defArgs st) (defBody st) (defScope st) dvs [] f fd
theorem CalDf.of {P : Program} {w : World} {K : PySem.W.Frag} {mg : Str → Option Value} {base : Heap} {x : Str} {st : Stmt} {dvs : List V} {N ps : List Str} {k : Nat} {sp : Sp} (D : DefF K mg st x dvs) (S : FnScope N ps (defScope st)) (len : ∀ vs H Q E, sp vs H Q E → vs.length = ps.length)
    (hbody : ∀ (f : Addr) (cdv : Value) (A : Around) (outer : List Env) (s : Shared) (H : Hp) (vs : List V) (Q : VK) (E : XK), Room k (A.deeper (envOfC x (defScope st) s.heap.objs.size f cdv)) → sp vs H Q E →
      ∃ t, PSs (cxOf CX0 P w K mg base N x (defScope st) f cdv A outer s H E).nox (defBody st) t ∧ t { nx := fun _ H' => Q .non H', rt := Q } (start N vs) H) : CalDf P w K mg base CX0 (k + 1) st x dvs ps sp := by
  obtain ⟨f, fd, hm, F⟩ := D
  exact ⟨f, fd, hm, F.ok S len fun cdv A outer s H vs Q E hr h => let ⟨t, h1, h2⟩ := hbody f cdv A outer s H vs Q E hr h; ⟨t, h1.nox, h2⟩, F⟩
section
variable {X : Cx} {CX : CXT} {k : Nat} {st : Stmt} {dvs : List V} {x : Str} {ps : List Str} {sp : Sp} {E : XK} {e : Expr} {es : List Expr} {t : TA} {p pos : Pos}
/-- a call that leaves the defaults behind the first j -/
theorem pe_callDf (n j : Nat) (C : CalDf X.prog X.w X.K X.mg X.base CX k st x dvs ps sp) (hd : dvs ≠ []) (hn : n + (dvs.length - j) = ps.length)
    (h : ∀ (T : Addr) (kV doc pm : Value) (an : Option Addr) (cdv ct : Value) (us its : List Value), us.length = n → its.length = dvs.length →
      ∃ k, bindArgs (PySem.W.fnOf x x (defArgs st) (defBody st) (defScope st) (.ref T) kV doc pm an cdv ct) ⟨us, []⟩ = seqItems? (.ref T) >>= k ∧ k (some its.toArray) = pure (ps.zip (us ++ its.drop j)))
    (hr : Room k X.A) (hg : Gl X x) (hx : Passes CX X E) (ha : PA X (e :: es) t) (hdb : (x == ("__debug__" : Str)) = false := by decide) (he : starEach (e :: es) X.env = (false, eval e X.env) :: starEach es X.env := by rfl) (hpl : (backTo pos (starEach es X.env)).any (·.1) = false := by rfl) :
    PE X (.Call (.Name x p) (e :: es) [] pos) (tCall sp (dvs.drop j) E t) := by
  obtain ⟨f, fd, hm, F, D⟩ := C.ex
  obtain ⟨ds, hv, hb⟩ := FunD.binds1 (ps := ps) D n j hd hn h
  exact pe_call F hr hg hm D.kp hb hv hx ha hdb he hpl
end
end Kb

/-! ### a lambda of one thing that captures names, handed to a def of two -/
namespace Kb
open PySem PySem.Spec PyProof.Rows L2
open LamX (CodeO Tabs ExtN TabB lam_make2)
open NdefX (NF NScope CellsAt Caps startF envF ncx slotAt cells_of inv_startN)
section
variable {X : Cx} {pins : List (Addr × Obj)} {σ : L2.St} {H HZ : Hp} {s s1 : Shared}
/-- a slot's name is read, the state stays -/
theorem ld_slot {E : Value → Shared → Prop} {Q : Value → Shared → Prop} {i : Nat} {x : Str} {v : V} {pos : Pos} (I : Inv X pins σ H s) (hN : X.N[i]? = some x) (hv : Vis X.env.scope x) (e : σ[i]? = some (some v)) (h : ∀ u, RelV v u → Q u s)
    (d1 : (x == ("__debug__" : Str)) = false) (d2 : (x == ("__classdict__" : Str)) = false) : wpAny (model X.prog X.w) X.A (eval (.Name x pos) X.env) Q E s := by
  obtain ⟨_, ns, at_⟩ := I.loc
  obtain ⟨u, r, l⟩ := at_ i x v hN e hv
  have q := h u r
  rcases l with ⟨k, m⟩ | ⟨k | k, c, hc, cell⟩
  · exact wpAny_Name (wpAny_loadName_local I.ok.kind k ns m q) d1
  · exact wpAny_Name (wpAny_loadName_cell I.ok.kind k hc cell q) d1
  · exact wpAny_Name (wpAny_loadName_free I.ok.kind k hc cell q d2) d1
theorem cells_move {cl : List (Str × Addr)} {fr : List Str} {ws : List (Option V)} {fs : List Addr} {h h' : Heap} {G G' : Hp} (C : CellsAt cl fr ws h G) (un : Un fs [] G G' h h') : CellsAt cl fr ws h' G' := by
  have kp : ∀ c v, G c = none → h.IsCell c v → h'.IsCell c v := fun c v n ⟨o, ho, hd⟩ => by
    obtain ⟨sl, q⟩ := un.any ho n (by simp)
    exact ⟨_, q, hd⟩
  refine ⟨C.len, fun y c e => ?_, C.inj, fun i y e => ?_⟩
  · obtain ⟨n, v, o, ho, hd⟩ := C.all y c e
    exact ⟨un.free c o ho n (by simp), v, kp c v n ⟨o, ho, hd⟩⟩
  · obtain ⟨c, hc, g⟩ := C.has i y e
    refine ⟨c, hc, fun v ev => ?_⟩
    obtain ⟨u, r, z⟩ := g v ev
    exact ⟨u, r, kp c _ (C.all y c hc).1 z⟩
abbrev lamF (X : Cx) (params : Arguments) (scope : Scope) (c' : Addr) : NF := ⟨"<lambda>", X.env.qual ++ "<lambda>", params, [], scope, cloFrom X.env.cells scope.names [], c'⟩
/-- a(b) in the def that got the lambda a and b -/
theorem pe_act1 {CXg : CXT} {Eg : XK} {Ng N fr : List Str} {js : List Nat} {qg pa : Str} {sg : Scope} {g f c' : Addr} {cdg pm ctv : Value} {params : Arguments} {body : Expr} {scope : Scope} {k : Nat} {a b : Str} {pn : List (Addr × Obj)} {xe : Value → Shared → Prop} {E : L2.St → XK} {tb : XK → TE} {p1 p2 p3 : Pos}
    (I : Inv X pins σ H s) (hf : s.heap.get? f = some (PySem.W.kla_obj "<lambda>" (X.env.qual ++ "<lambda>") params body scope (cloFrom X.env.cells scope.names []) pm c' ctv)) (hfn : H f = none) (hfr : f ∉ frs X.stack)
    (S : NScope N [pa] fr scope) (cp : Caps X (cloFrom X.env.cells scope.names []) fr js) (hb : ∀ u, bindArgs (PySem.W.kla_fn "<lambda>" (X.env.qual ++ "<lambda>") params body scope (cloFrom X.env.cells scope.names []) pm (.ref c') ctv) ⟨[u], []⟩ = pure [(pa, u)])
    (hx : ∀ σ, PassesAt (L2.CX X.prog X.w) ((cxOf CXg X.prog X.w X.K X.mg X.base Ng qg sg g cdg X.A X.stack s H Eg).tr pn xe) σ (E σ)) (hr : Room (k + 1) (X.A.deeper (envOfC qg sg s.heap.objs.size g cdg)))
    (hbody : ∀ (A : Around) (outer : List Env) (s : Shared) (H : Hp) (E : XK), Room k (A.deeper (envF (lamF X params scope c') f s.heap.objs.size)) → PE (ncx (L2.CX X.prog X.w) X.prog X.w X.K X.mg X.base N (lamF X params scope c') f A outer s H E) body (tb E))
    (na : Ng[0]? = some a) (va : Vis sg a) (nb : Ng[1]? = some b) (vb : Vis sg b) (da : (a == ("__debug__" : Str)) = false) (ca : (a == ("__classdict__" : Str)) = false) (db : (b == ("__debug__" : Str)) = false) (cb : (b == ("__classdict__" : Str)) = false) :
    PE ((cxOf CXg X.prog X.w X.K X.mg X.base Ng qg sg g cdg X.A X.stack s H Eg).tr pn xe) (.Call (.Name a p1) [.Name b p3] [] p2)
      (fun σZ HZ Q => σZ[0]? = some (some (.ref f)) ∧ ∃ v, σZ[1]? = some (some v) ∧ HZ c' = some (CodeO c' (X.env.qual ++ "<lambda>")) ∧ tb (E σZ) (startF N [v] (js.map (slotAt σ))) HZ Q) := by
  refine ⟨fun pinsZ sZ σZ HZ Q IZ h => ?_⟩
  obtain ⟨h0, v, h1, hc, ht⟩ := h
  refine wpAny_Call_Name_kw (ld_slot IZ na va h0 (fun u ru => ?_) da ca)
  obtain rfl : u = Value.ref f := ru
  have of : sZ.heap.get? f = some (PySem.W.kla_obj "<lambda>" (X.env.qual ++ "<lambda>") params body scope (cloFrom X.env.cells scope.names []) pm c' ctv) := IZ.base.keep f _ hf hfn hfr (fun z => nomatch (show f ∈ ([] : List Addr) from z))
  refine PySem.W.callWith_F (first := []) ⟨_, _, _, _, of⟩ ?_ (by rfl) (by rfl)
  refine Calls.spliced_cons (ld_slot IZ nb vb h1 (fun u ru => Calls.spliced_nil ⟨⟨_, _, _, _, of⟩, ?_⟩) db cb)
  show wpAny _ _ (call (.ref f) [u]) _ _ _
  have un : Un (frs X.stack) [] H HZ s.heap sZ.heap := IZ.base
  obtain ⟨⟨oc, cs, t, hoc, hdc, hvc⟩, _, _⟩ := IZ.hok c' _ hc
  have C := cells_move (cells_of I cp) un
  have rc : codeAny (model X.prog X.w) (X.A.deeper (envOfC qg sg s.heap.objs.size g cdg)) (.call (.ref f) ⟨[u], []⟩) (CR (L2.CX X.prog X.w) (envOfC qg sg s.heap.objs.size g cdg :: X.stack) X.prog X.w HZ sZ Q (E σZ)) sZ := by
    refine PySem.W.kla_callFunE hr.depth of rfl S.co S.gen rfl ⟨c', oc, cs, t, rfl, hoc, hdc, hvc⟩ ?_
    rw [hb u]
    refine wpAny_pure (wpAny_newFunctionEnv S.nocell (fun y hy => ?_) (fun h₁ hns hsb => ⟨IZ.nolimit.fresh _ hsb, ?_⟩) S.kind)
    · rw [List.mem_singleton.mp hy]
      exact S.par pa List.mem_cons_self
    · show codeAny _ _ (.expr body (envF (lamF X params scope c') f sZ.heap.objs.size)) _ _
      have kp : ∀ b o, sZ.heap.get? b = some o → h₁.get? b = some o := fun b o e => hsb.extBut b o (Nat.ne_of_lt (Heap.lt_size e)) (Heap.get?_push_of_some _ e)
      have J := inv_startN (CX := L2.CX X.prog X.w) (F := lamF X params scope c') (fr := fr) (N := N) (ws := js.map (slotAt σ)) (f := f) (E := E σZ) (tk := sZ.toks + [(pa, u)].length) S hr.hd IZ.env0 (show [v].length = [pa].length from rfl) (.cons ru .nil) C hns kp
      refine PySem.W.kla_codeExpr (wpAny_mono ((hbody _ _ sZ HZ (E σZ) (hr.deeper _)).run [] _ _ HZ Q J ht) (fun w s' z => ?_) fun _ _ z => z)
      obtain ⟨w', H', J', rw', q⟩ := z
      exact ⟨w', H', J'.os, J'.bare, J'.base, J'.hok, rw', q⟩
  refine wpAny_call (codeAny_mono rc fun r s' z => ?_)
  cases r with
  | error e => exact hx σZ pinsZ HZ sZ e s' IZ z
  | ok fl =>
    cases fl with
    | ret w => exact IZ.after z
    | next => exact z.elim
    | brk => exact z.elim
    | cont => exact z.elim
end
/-- the def g that calls what it got, of what it got; TT: what it makes of the lambda's reading -/
def Gives2 (X : Cx) (Ng : List Str) (x : Str) (sg : Scope) (g : Addr) (cdg : Value) (bg : List Stmt) (a b : Str) (q : Str) (TT : (XK → V → Hp → VK → Prop) → V → Hp → VK → Prop) : Prop :=
  ∀ (f c' : Addr) (s : Shared) (H : Hp) (Q : VK) (v : V) (tl : XK → V → Hp → VK → Prop), (∃ k, Room k (X.A.deeper (envOfC x sg s.heap.objs.size g cdg))) →
    (∀ (pn : List (Addr × Obj)) (xe : Value → Shared → Prop) (E : L2.St → XK) (p1 p2 p3 : Pos), (∀ σ, PassesAt (L2.CX X.prog X.w) ((cxOf CX0 X.prog X.w X.K X.mg X.base Ng x sg g cdg X.A X.stack s H E0).tr pn xe) σ (E σ)) →
      PE ((cxOf CX0 X.prog X.w X.K X.mg X.base Ng x sg g cdg X.A X.stack s H E0).tr pn xe) (.Call (.Name a p1) [.Name b p3] [] p2) (fun σZ HZ Q => σZ[0]? = some (some (.ref f)) ∧ ∃ v, σZ[1]? = some (some v) ∧ HZ c' = some (CodeO c' q) ∧ tl (E σZ) v HZ Q)) →
    H c' = some (CodeO c' q) → TT tl v H Q → ∃ t, PSs (cxOf CX0 X.prog X.w X.K X.mg X.base Ng x sg g cdg X.A X.stack s H E0).nox bg t ∧ t { nx := fun _ H' => Q .non H', rt := Q } (L2.start Ng [.ref f, v]) H
def tLam2 (T : List (Addr × Str)) (TT : (XK → V → Hp → VK → Prop) → V → Hp → VK → Prop) (iy : Nat) (N : List Str) (js : List Nat) (t : XK → TE) : TE := fun σ H Q =>
  Tabs T H ∧ ∃ v, σ[iy]? = some (some v) ∧ ∀ H1, ExtN H H1 → Tabs T H1 → TT (fun E w H' Q' => t E (startF N [w] (js.map (slotAt σ))) H' Q') v H1 Q
section
variable {X : Cx}
theorem pe_lamcall2 {T : List (Addr × Str)} {TT : (XK → V → Hp → VK → Prop) → V → Hp → VK → Prop} {x a b y pa : Str} {g c P : Addr} {k iy : Nat} {pg : Arguments} {bg : List Stmt} {sg : Scope} {dV kV doc pm cdv ct oc : Value} {an od : Option Addr} {osl : Array (Option Value)} {Ng N fr : List Str} {js : List Nat}
    {params : Arguments} {body : Expr} {scope : Scope} {t : XK → TE} {p lpos yp pos : Pos} (hg : Gl X x) (hm : X.mg x = some (.ref g)) (hk : PySem.W.keepIn X.K (.ref g) = true)
    (lk : X.K.lookup g = some ⟨oc, od, .func (PySem.W.fnOf x x pg bg sg dV kV doc pm an cdv ct), osl⟩) (hcg : PySem.W.codeIn X.K cdv x = true) (hb : L2.Binds X.K (PySem.W.fnOf x x pg bg sg dV kV doc pm an cdv ct) [a, b] []) (Sg : FnScope Ng [a, b] sg)
    (na : Ng[0]? = some a) (va : Vis sg a) (nb : Ng[1]? = some b) (vb : Vis sg b) (da : (a == ("__debug__" : Str)) = false) (ca : (a == ("__classdict__" : Str)) = false) (db : (b == ("__debug__" : Str)) = false) (cb : (b == ("__classdict__" : Str)) = false)
    (hG : Gives2 X Ng x sg g cdv bg a b (X.env.qual ++ "<lambda>") TT) (TB : TabB X.base X.mg c P) (hcode : X.env.code = .ref c) (hmT : (P, X.env.qual ++ "<lambda>") ∈ T) (hu : ∀ p ∈ T, p.1 = P → p.2 = X.env.qual ++ "<lambda>") (hr : Room (k + 2) X.A)
    (S : NScope N [pa] fr scope) (hfree : ∀ y ∈ scope.names, y.2 = .free → X.env.scope.names.lookup y.1 = some .cell ∨ X.env.scope.names.lookup y.1 = some .free) (hfr : ∀ y ∈ fr, (y, NameKind.free) ∈ scope.names) (hjs : js.map (fun j => X.N[j]?) = fr.map some)
    (hdef : defaultsOf params X.env = ([], [])) (hbind : ∀ (q : Str) (cl : List (Str × Addr)) (pm cv ctv u : Value), bindArgs (PySem.W.kla_fn "<lambda>" q params body scope cl pm cv ctv) ⟨[u], []⟩ = pure [(pa, u)])
    (hny : X.N[iy]? = some y) (hvy : Vis X.env.scope y) (dy : (y == ("__debug__" : Str)) = false) (cy : (y == ("__classdict__" : Str)) = false)
    (hbody : ∀ (A : Around) (outer : List Env) (s : Shared) (H : Hp) (E : XK) (f c' : Addr), Room k (A.deeper (envF (lamF X params scope c') f s.heap.objs.size)) → PE (ncx (L2.CX X.prog X.w) X.prog X.w X.K X.mg X.base N (lamF X params scope c') f A outer s H E) body (t E))
    (hdb : (x == ("__debug__" : Str)) = false := by decide) :
    PE X (.Call (.Name x p) [.Lambda params body scope lpos, .Name y yp] [] pos) (tLam2 T TT iy N js t) := by
  refine ⟨fun pins s σ H Q I h => ?_⟩
  obtain ⟨hT, v, hy, h⟩ := h
  have has : ∀ y ∈ scope.names, y.2 = .free → ∃ c, X.env.cells.lookup y.1 = some c := fun y m e => (hfree y m e).elim (fun z => I.ok.has _ (.inl z)) fun z => I.ok.has _ (.inr z)
  refine wpAny_Call_Name_kw (ld_glob I hg hm ?_ hdb)
  refine PySem.W.callWith_K (h₀ := X.base) I.ok.mod.kin hk ?_ (by rfl) (by rfl)
  refine Calls.spliced_cons (lam_make2 I TB hcode hmT hu hT hdef has fun f c' pm' ctv H1 s' I1 eN T1 hf hfn hfr' hco => ?_)
  refine Calls.spliced_cons (ld_slot I1 hny hvy hy (fun u ru => Calls.spliced_nil ⟨I1.kIn, ?_⟩) dy cy)
  have cp := Caps.made (X := X) (fr := fr) (js := js) (scope := scope) I.ok hfree hfr hjs
  have rc : codeAny (model X.prog X.w) X.A (.call (.ref g) ⟨[.ref f, u], []⟩) (CR CX0 X.stack X.prog X.w H1 s' Q E0) s' := by
    refine LamX.run_ofS (N := Ng) (ps := [a, b]) (us := [.ref f, u]) (vs := [.ref f, v]) lk hcg Sg hr I1.env0 (hb s' [.ref f, u] I1.kIn rfl) (.cons rfl (.cons ru .nil)) rfl fun hr' => ?_
    obtain ⟨t', ht', hq'⟩ := hG f c' s' H1 Q v (fun E w H' Q' => t E (startF N [w] (js.map (slotAt σ))) H' Q') ⟨_, hr'⟩
      (fun pn xe E p1 p2 p3 hx => pe_act1 I1 hf hfn hfr' S cp (hbind _ _ _ _ _) hx hr' (fun A outer s H E hr2 => hbody A outer s H E f c' hr2) na va nb vb da ca db cb) hco (h H1 eN T1)
    exact ⟨t', ht'.nox, hq'⟩
  refine wpAny_call (codeAny_mono rc fun r s2 z => ?_)
  cases r with
  | error e => exact (show False from z).elim
  | ok fl =>
    cases fl with
    | ret w => exact I1.after z
    | next => exact z.elim
    | brk => exact z.elim
    | cont => exact z.elim
end
section
variable {P : Program} {w : World} {K : PySem.W.Frag} {mg : Str → Option Value} {base : Heap} {CX : CXT} {k : Nat}
/-- a def of the text whose code object stands at c -/
def DefC (K : PySem.W.Frag) (mg : Str → Option Value) (st : Stmt) (x : Str) (c : Addr) : Prop := ∃ f fd, mg x = some (.ref f) ∧ Fun K x x st f fd ∧ fd.code = .ref c
theorem DefC.def_ {st : Stmt} {x : Str} {c : Addr} (D : DefC K mg st x c) : Def K mg st x := by
  obtain ⟨f, fd, a, b, _⟩ := D
  exact ⟨f, fd, a, b⟩
theorem Cal.ofC {x : Str} {st : Stmt} {N ps : List Str} {c : Addr} {sp : Sp} (D : DefC K mg st x c) (S : FnScope N ps (defScope st))
    (hb : ∀ (kV doc pm : Value) (an : Option Addr) (cdv ct : Value) (us : List Value), us.length = ps.length → bindArgs (PySem.W.fnOf x x (defArgs st) (defBody st) (defScope st) .none kV doc pm an cdv ct) ⟨us, []⟩ = pure (ps.zip us))
    (len : ∀ vs H Q E, sp vs H Q E → vs.length = ps.length)
    (hbody : ∀ (f : Addr) (A : Around) (outer : List Env) (s : Shared) (H : Hp) (vs : List V) (Q : VK) (E : XK), Room k (A.deeper (envOfC x (defScope st) s.heap.objs.size f (.ref c))) → sp vs H Q E →
      ∃ t, PSs (cxOf CX0 P w K mg base N x (defScope st) f (.ref c) A outer s H E).nox (defBody st) t ∧ t { nx := fun _ H' => Q .non H', rt := Q } (start N vs) H) : Cal P w K mg base CX0 (k + 1) x ps sp := by
  obtain ⟨f, fd, hm, F, e⟩ := D
  have at_ := Fun.at_ F
  have kp := F.kp
  obtain ⟨oc, od, kV, doc, pm, an, cdv, ct, osl, rfl, lk, hcd⟩ := F.ex
  obtain rfl : cdv = .ref c := e
  refine ⟨f, _, hm, fn_of lk hcd S len fun A outer s H vs Q E hr h => ?_, kp, hb kV doc pm an _ ct, at_⟩
  obtain ⟨t, h1, h2⟩ := hbody f A outer s H vs Q E hr h
  exact ⟨t, h1.nox, h2⟩
/-- a def that a slot may hold -/
structure HeldX (P : Program) (w : World) (K : PySem.W.Frag) (mg : Str → Option Value) (base : Heap) (CX : CXT) (k : Nat) (f : Addr) (sp : Sp) : Prop where
  ex : ∃ (fd : FuncData) (ps : List Str), FnOk P w K mg base CX k f fd ps sp ∧ PySem.W.keepIn K (.ref f) = true ∧ L2.Binds K fd ps []
theorem Cal.held {x : Str} {ps : List Str} {sp : Sp} {f : Addr} (C : Cal P w K mg base CX k x ps sp) (e : mg x = some (.ref f)) : HeldX P w K mg base CX k f sp := by
  obtain ⟨g, fd, hm, F, hk, hb⟩ := C.bound
  cases e.symm.trans hm
  exact ⟨fd, ps, F, hk, hb⟩
theorem HeldX.mono {j : Nat} {f : Addr} {sp : Sp} (h : HeldX P w K mg base CX j f sp) (l : j ≤ k) : HeldX P w K mg base CX k f sp := by
  obtain ⟨fd, ps, F, hk, hb⟩ := h.ex
  exact ⟨fd, ps, F.mono l, hk, hb⟩
end
theorem u_divW {X : Cx} : OpR X (binaryOp .FloorDiv) rDivW := by unfold rDivW; exact op_fdivW
/-- the i-th slot holds a def, S tells which promise -/
def tCallV (i : Nat) (S : Addr → Sp → Prop) (E : L2.St → XK) (t : TA) : TE := fun σ H Q => ∃ f sp, σ[i]? = some (some (.ref f)) ∧ S f sp ∧ t σ H fun vs H1 => sp vs H1 Q (E σ)
section
variable {X : Cx} {CX : CXT} {k i : Nat} {S : Addr → Sp → Prop} {E : L2.St → XK} {x : Str} {p pos : Pos} {e : Expr} {es : List Expr} {t : TA}
theorem pe_callV (A : ∀ f sp, S f sp → HeldX X.prog X.w X.K X.mg X.base CX k f sp) (hr : Room k X.A) (hN : X.N[i]? = some x) (hv : Vis X.env.scope x) (hx : ∀ σ, PassesAt CX X σ (E σ)) (ha : PA X (e :: es) t)
    (d1 : (x == ("__debug__" : Str)) = false := by decide) (d2 : (x == ("__classdict__" : Str)) = false := by decide) (he : starEach (e :: es) X.env = (false, eval e X.env) :: starEach es X.env := by rfl) (hpl : (backTo pos (starEach es X.env)).any (·.1) = false := by rfl) :
    PE X (.Call (.Name x p) (e :: es) [] pos) (tCallV i S E t) := by
  refine ⟨fun pins s σ H Q I h => ?_⟩
  obtain ⟨f, sp, h0, hS, ht⟩ := h
  obtain ⟨fd, ps, F, hk, hb⟩ := (A f sp hS).ex
  refine wpAny_Call_Name_kw (ld_slot I hN hv h0 (fun u r => ?_) d1 d2)
  obtain rfl : u = Value.ref f := r
  refine PySem.W.callWith_K (h₀ := X.base) I.ok.mod.kin hk (thn (ha.run pos pins s σ _ _ I ht) fun us s2 ⟨vs, H2, I2, r, q⟩ => ⟨I2.kIn, ?_⟩) he hpl
  exact run_fnS F hr hb (hx σ) I2 r q
/-- the lambda handed to a def of the text -/
theorem pe_lamD {st : Stmt} {T : List (Addr × Str)} {TT : (XK → V → Hp → VK → Prop) → V → Hp → VK → Prop} {a b y pa : Str} {c P : Addr} {iy : Nat} {Ng N fr : List Str} {js : List Nat} {params : Arguments} {body : Expr} {scope : Scope} {tb : XK → TE} {lpos yp : Pos}
    (D : Def X.K X.mg st x) (hb : ∀ (kV doc pm : Value) (an : Option Addr) (cdv ct : Value) (us : List Value), us.length = 2 → bindArgs (PySem.W.fnOf x x (defArgs st) (defBody st) (defScope st) .none kV doc pm an cdv ct) ⟨us, []⟩ = pure ([a, b].zip us)) (Sg : FnScope Ng [a, b] (defScope st))
    (hg : Gl X x) (na : Ng[0]? = some a) (va : Vis (defScope st) a) (nb : Ng[1]? = some b) (vb : Vis (defScope st) b)
    (hG : ∀ (g : Addr) (cdv : Value), Gives2 X Ng x (defScope st) g cdv (defBody st) a b (X.env.qual ++ "<lambda>") TT) (TB : TabB X.base X.mg c P) (hcode : X.env.code = .ref c) (eT : T = [(P, X.env.qual ++ "<lambda>")]) (hr : Room (k + 2) X.A)
    (S : NScope N [pa] fr scope) (hn : NdefX.ndefB X.env.scope scope fr = true) (hjs : js.map (fun j => X.N[j]?) = fr.map some)
    (hdef : defaultsOf params X.env = ([], [])) (hbind : ∀ (q : Str) (cl : List (Str × Addr)) (pm cv ctv u : Value), bindArgs (PySem.W.kla_fn "<lambda>" q params body scope cl pm cv ctv) ⟨[u], []⟩ = pure [(pa, u)])
    (hny : X.N[iy]? = some y) (hvy : Vis X.env.scope y)
    (hbody : ∀ (A : Around) (outer : List Env) (s : Shared) (H : Hp) (E : XK) (f c' : Addr), Room k (A.deeper (envF (lamF X params scope c') f s.heap.objs.size)) → PE (ncx (L2.CX X.prog X.w) X.prog X.w X.K X.mg X.base N (lamF X params scope c') f A outer s H E) body (tb E))
    (da : (a == ("__debug__" : Str)) = false := by decide) (ca : (a == ("__classdict__" : Str)) = false := by decide) (db : (b == ("__debug__" : Str)) = false := by decide) (cb : (b == ("__classdict__" : Str)) = false := by decide)
    (dy : (y == ("__debug__" : Str)) = false := by decide) (cy : (y == ("__classdict__" : Str)) = false := by decide) (hdb : (x == ("__debug__" : Str)) = false := by decide) :
    PE X (.Call (.Name x p) [.Lambda params body scope lpos, .Name y yp] [] pos) (tLam2 T TT iy N js tb) := by
  obtain ⟨g, fd, hm, F⟩ := D
  have kp := F.kp
  obtain ⟨oc, od, kV, doc, pm, an, cdv, ct, osl, rfl, lk, hcd⟩ := F.ex
  subst eT
  exact pe_lamcall2 hg hm kp lk hcd (.all (hb kV doc pm an cdv ct)) Sg na va nb vb da ca db cb (hG g cdv) TB hcode List.mem_cons_self (fun p hp _ => by rw [List.mem_singleton.mp hp]) hr S (NdefX.ndef_free hn) (NdefX.ndef_fr hn) hjs hdef hbind hny hvy dy cy hbody hdb
end
/-- try: .. except c: .. -/
def tTryC (K : PySem.W.Frag) (c : Value) (tb : WX → TS) (ts : Addr → Value → Option Addr → TS) : TS := fun D σ H => tb (wOnly K c ts (fun _ _ _ _ => False) D) D σ H
end Kb

/-! ### defs and methods whose code object and table of lambdas are known -/
namespace Kb
open PySem PySem.Spec PyProof.Rows L2
open LamX (TabB Tabs TabS ExtN)
def DefMC (K : PySem.W.Frag) (C : Addr) (st : Stmt) (m qual : Str) (c : Addr) : Prop := ∃ f fd, Meth K C m f ∧ Fun K m qual st f fd ∧ fd.code = .ref c
section
variable {P : Program} {w : World} {K : PySem.W.Frag} {mg : Str → Option Value} {base : Heap} {C c : Addr} {m qual x : Str} {st : Stmt} {N ps : List Str} {k : Nat} {sp : Sp}
theorem CalF.ofC (D : DefMC K C st m qual c) (S : FnScope N ps (defScope st)) (len : ∀ vs H Q E, sp vs H Q E → vs.length = ps.length)
    (hbody : ∀ (f : Addr) (A : Around) (outer : List Env) (s : Shared) (H : Hp) (vs : List V) (Q : VK) (E : XK), Room k (A.deeper (envOfC qual (defScope st) s.heap.objs.size f (.ref c))) → sp vs H Q E →
      ∃ t, PSs (cxOf CX0 P w K mg base N qual (defScope st) f (.ref c) A outer s H E).nox (defBody st) t ∧ t { nx := fun _ H' => Q .non H', rt := Q } (start N vs) H) : CalF P w K mg base CX0 (k + 1) C st m qual ps sp := by
  obtain ⟨f, fd, hm, F, e⟩ := D
  have F' := F
  obtain ⟨oc, od, kV, doc, pm, an, cdv, ct, osl, rfl, lk, hcd⟩ := F.ex
  obtain rfl : cdv = .ref c := e
  exact ⟨f, _, hm, fn_of lk hcd S len fun A outer s H vs Q E hr h => let ⟨t, h1, h2⟩ := hbody f A outer s H vs Q E hr h; ⟨t, h1.nox, h2⟩, F'⟩
theorem Cal.ofT (D : DefC K mg st x c) (S : FnScope N ps (defScope st)) (hb : ∀ (kV doc pm : Value) (an : Option Addr) (cdv ct : Value) (us : List Value), us.length = ps.length → bindArgs (PySem.W.fnOf x x (defArgs st) (defBody st) (defScope st) .none kV doc pm an cdv ct) ⟨us, []⟩ = pure (ps.zip us))
    (len : ∀ vs H Q E, sp vs H Q E → vs.length = ps.length)
    (hbody : ∀ (f : Addr) (A : Around) (outer : List Env) (s : Shared) (H : Hp) (vs : List V) (Q : VK) (E : XK), Room k (A.deeper (envOfC x (defScope st) s.heap.objs.size f (.ref c))) → sp vs H Q E →
      ∃ t, PSs (cxOf CX0 P w K mg base N x (defScope st) f (.ref c) A outer s H E).nox (defBody st) t ∧ t { nx := fun _ H' => Q .non H', rt := Q } (start N vs) H) : Cal P w K mg base CX0 (k + 1) x ps sp := by
  obtain ⟨f, fd, hm, F, e⟩ := D
  have at_ := Fun.at_ F
  have kp := F.kp
  obtain ⟨oc, od, kV, doc, pm, an, cdv, ct, osl, rfl, lk, hcd⟩ := F.ex
  obtain rfl : cdv = .ref c := e
  exact ⟨f, _, hm, fn_of lk hcd S len fun A outer s H vs Q E hr h => let ⟨t, h1, h2⟩ := hbody f A outer s H vs Q E hr h; ⟨t, h1.nox, h2⟩, kp, hb kV doc pm an _ ct, at_⟩
end
theorem TabS.kp {M : List Addr} {H H' : Hp} {P : Addr} {q : Str} (t : TabS H P q) (k : Kp M H H') (n : P ∉ M) (nc : ∀ a ∈ M, ∀ φ, H a ≠ some (.ext φ)) : TabS H' P q := by
  obtain ⟨ps, h1, h2, h3⟩ := t
  refine ⟨ps, k _ _ n h1, h2, fun pos cv hc => ?_⟩
  obtain ⟨c, e1, e2⟩ := h3 pos cv hc
  exact ⟨c, e1, k _ _ (fun z => nc c z _ e2) e2⟩
end Kb

/-! ### an exception's fields told side by side; isinstance of it by a tuple of classes; min of two; tuples of the top -/
namespace Kb
open PySem PySem.Spec PyProof.Rows L2
/-- a tuple that stands in the written part -/
def GTup (K : PySem.W.Frag) (a : Addr) (xs : List V) : Prop := ∃ (o : Obj) (its : Array Value) (n : Nat), K.lookup a = some o ∧ o.cls = .type "tuple" ∧ o.data = .seq its n ∧ its.size ≤ sizeLine ∧ Vals xs its.toList
theorem GTup.sqT {K : PySem.W.Frag} {H : Hp} {a : Addr} {xs : List V} (h : GTup K a xs) : SqT K H a xs := .inr h
@[irreducible] def rMin2U : List V → Hp → VK → Prop := fun xs H Q => ∃ i j, xs = [.int i, .int j] ∧ Q (.int (if j < i then j else i)) H
theorem u_min2 {X : Cx} (hc : X.calm = true) : CallR X (.builtin "min") rMin2U := by unfold rMin2U; exact call_min2 hc
theorem min2_go {H : Hp} {Q : VK} {i j : Int} (q : Q (.int (if j < i then j else i)) H) : rMin2U [.int i, .int j] H Q := by unfold rMin2U; exact ⟨_, _, rfl, q⟩
/-- isinstance(e, (c, ..)), e the caught exception with its dict -/
def rIsXt (K : PySem.W.Frag) (a : Addr) (cls : Value) (d : Option Addr) : List V → Hp → VK → Prop := fun xs H Q => ∃ (C tp : Addr) (cs : List V) (us : List Value) (b : Bool) (dd : Addr) (fs : List (Str × V)),
  xs = [.ref a, .ref tp] ∧ cls = .ref C ∧ d = some dd ∧ H dd = some (.xd fs) ∧ XCls K C ∧ H tp = some (.tup cs) ∧ Paired ClsV cs us ∧ PySem.W.kitAny K (.ref C) us = some b ∧ Q (.bl b) H
theorem call_isXt {X : Cx} {a : Addr} {oe : Obj} {cls : Value} {d : Option Addr} {pn : List (Addr × Obj)} (hz : Zc cls d oe) (hf : ∃ vs, oe.data = .fields vs) : CallR (X.suite a ((a, oe) :: pn)) (.builtin "isinstance") (rIsXt X.K a cls d) := by
  intro pins s σ H xs us Q I r h
  obtain ⟨C, tp, cs, ws, b, dd, fs, rfl, rfl, rfl, ea, T, hT, k, e, q⟩ := h
  cases r with
  | cons rx rr =>
    cases rr with
    | cons rt rr =>
      cases rr
      cases rx
      cases rt
      obtain ⟨_, its, rv, o, h1, h2, n, h3⟩ := (show ObjOk X.prog X.w H s.heap tp (.tup cs) from I.hok tp _ hT)
      have e3 := ClsV.all k rv
      subst e3
      obtain ⟨oc, od, dt, sl⟩ := o
      simp only at h2 h3
      subst h2 h3
      obtain ⟨hget, _⟩ := I.pin (a, oe) (List.mem_append.mpr (.inl List.mem_cons_self))
      obtain ⟨vs, hv⟩ := hf
      have hx : ObjOk X.prog X.w H s.heap dd (.xd fs) := I.hok dd _ ea
      obtain ⟨mA, hns, hr⟩ := hx
      obtain ⟨od, ho, hl⟩ := lookIn_ns hns
      have J : PySem.W.InstAt s.heap a oe C (some od) := ⟨hget, hz.1, by unfold PySem.W.notCls; rw [hv] <;> rfl, by rw [hz.2]; exact ho⟩
      exact PySem.W.kia_tup (PySem.W.kitx_exc T.cl T.xf.ga T.xf.gg T.xf.exC T.ha T.hn T.ht T.hm) I.kIn J h1 e (fun z => nomatch z) fun tk => ⟨.bl b, H, I.kept (t' := tk) fun _ _ z => z, rfl, q⟩
/-- isinstance of the caught exception: one class, or a tuple of them -/
def rIsX2 (K : PySem.W.Frag) (a : Addr) (cls : Value) (d : Option Addr) : List V → Hp → VK → Prop := fun xs H Q => rIsXd K a cls d xs H Q ∨ rIsXt K a cls d xs H Q
theorem call_isX2 {X : Cx} {a : Addr} {oe : Obj} {cls : Value} {d : Option Addr} {pn : List (Addr × Obj)} (hz : Zc cls d oe) (hf : ∃ vs, oe.data = .fields vs) : CallR (X.suite a ((a, oe) :: pn)) (.builtin "isinstance") (rIsX2 X.K a cls d) := CallR.or (call_isXd hz hf) (call_isXt hz hf)
/-- a target o.f, o an exception that is being made -/
def gOst (K : PySem.W.Frag) (f : Str) (to : TE) : TG := fun y σ H Q => to σ H fun x H2 => ∃ a C : Addr, x = .ref a ∧ OexC K C ∧ PySem.W.findIn K (.ref C) f = some none ∧
  ((H2 a = some (exo a C none) ∧ ∀ dx, H2 dx = none → dx ≠ a → Q σ (upd (upd H2 dx (exd dx [(f, y)])) a (exo a C (some dx)))) ∨
    ∃ (dx : Addr) (fs : List (Str × V)), H2 a = some (exo a C (some dx)) ∧ H2 dx = some (exd dx fs) ∧ fs.length ≤ 900 ∧ Q σ (upd H2 dx (exd dx ((f, y) :: fs))))
section
variable {X : Cx} {o : Expr} {f : Str} {ta : TE} {pos : Pos}
theorem pg_ost (ha : PE X o ta)
    (he : ∀ v, assign (.Attribute o f pos) X.env v = (holding [v] (eval o X.env) >>= fun ov => standAt pos.atName >>= fun _ => holding [v, ov] (setAttr ov f v) >>= fun _ => release [v, ov] []) := by intro _; rfl) : PG X (.Attribute o f pos) (gOst X.K f ta) := by
  refine ⟨fun pins s σ H y u Q I ry h => ?_⟩
  unfold gOst at h
  rw [he]
  refine wpAny_bind (wpAny_holding (thn (ha.run pins s σ H _ I h) fun ov s1 ⟨x, H1, I1, rx, a, C, ex, T, hno, q⟩ => ?_))
  subst ex
  obtain rfl : ov = Value.ref a := rx
  refine wpAny_bind (wpAny_standAt (wpAny_bind (wpAny_holding ?_)))
  rcases q with ⟨ea, q⟩ | ⟨dx, fs, ea, ed, hl, q⟩
  · exact ost_new T I1 ea hno ry fun dx s' n ne J => wpAny_release ⟨σ, _, J, q dx n ne⟩
  · exact ost_old T I1 ea ed hl hno ry fun s' J => wpAny_release ⟨σ, _, J, q⟩
end
/-- an exception's __init__ of two fields, told side by side -/
@[irreducible] def spInit2 (C : Addr) (f g : Str) : Sp := fun vs H Q _ => ∃ a x y, vs = [.ref a, x, y] ∧ H a = some (exo a C none) ∧ ∀ t d, H t = none → H d = none → d ≠ a → t ≠ d → t ≠ a →
  Q .non (upd (upd (upd (upd H t (.tup [x, y])) d (exd d [(f, x)])) a (exo a C (some d))) d (exd d [(g, y), (f, x)]))
theorem spInit2_len {C : Addr} {f g : Str} (vs : List V) (H : Hp) (Q : VK) (E : XK) (h : spInit2 C f g vs H Q E) : vs.length = 3 := by
  unfold spInit2 at h
  obtain ⟨a, x, y, rfl, _⟩ := h
  rfl
theorem mkO2_go {C : Addr} {f g : Str} {x y : V} {H : Hp} {Z : XK} (h : ∀ t d, H t = none → H d = none → t ≠ d → Z (.ref C) (some d) (upd (upd H t (.tup [x, y])) d (.xd [(g, y), (f, x)]))) :
    [x, y].length ≤ 1000 ∧ ∀ a, H a = none → spInit2 C f g (.ref a :: ([x, y] ++ [])) (upd H a (exo a C none))
      (fun v H2 => v = .non ∧ ∃ (d : Addr) (fs : List (Str × V)), H2 a = some (exo a C (some d)) ∧ H2 d = some (exd d fs) ∧ H d = none ∧ Z (.ref C) (some d) (upd (del H2 a) d (.xd fs))) (fun _ _ _ => False) := by
  refine ⟨by simp, fun a ha => ?_⟩
  unfold spInit2
  refine ⟨a, x, y, rfl, upd_same, fun t d nt nd da td ta => ⟨rfl, d, [(g, y), (f, x)], (upd_ne da.symm).trans upd_same, upd_same, (upd_ne da).symm.trans nd, ?_⟩⟩
  have nd0 : H d = none := (upd_ne da).symm.trans nd
  have nt0 : H t = none := (upd_ne ta).symm.trans nt
  have e : upd (del (upd (upd (upd (upd (upd H a (exo a C none)) t (.tup [x, y])) d (exd d [(f, x)])) a (exo a C (some d))) d (exd d [(g, y), (f, x)])) a) d (.xd [(g, y), (f, x)]) = upd (upd H t (.tup [x, y])) d (.xd [(g, y), (f, x)]) := by
    funext b
    by_cases hb : b = d
    · rw [hb, upd_same, upd_same]
    · rw [upd_ne hb, upd_ne hb]
      by_cases hba : b = a
      · rw [hba, del_same, upd_ne ta.symm, ha]
      · rw [del_ne hba, upd_ne hb, upd_ne hba, upd_ne hb]
        by_cases hbt : b = t
        · rw [hbt, upd_same, upd_same]
        · rw [upd_ne hbt, upd_ne hba, upd_ne hbt]
  rw [e]
  exact h t d nt0 nd0 td
/-- x + y, of tuples whether empty or not, too -/
def rAddA (K : PySem.W.Frag) : R2 := fun x y H Q => rAddU K x y H Q ∨ rCatA K x y H Q
theorem u_addA {X : Cx} : OpR X (binaryOp .Add) (rAddA X.K) := u_add.or op_catA
theorem addA_go {K : PySem.W.Frag} {H : Hp} {Q : VK} {a b : Addr} {xs ys : List V} (ha : SqT K H a xs) (hb : SqT K H b ys) (h : xs.length + ys.length ≤ 16777216) (q : ∀ H' p, Kp [] H H' → SqT K H' p (xs ++ ys) → Q (.ref p) H') : rAddA K (.ref a) (.ref b) H Q := by
  refine .inr ⟨a, b, xs, ys, rfl, rfl, ha, hb, sz_of' h, fun e => ?_, fun _ e => ?_, fun _ _ p np => ?_⟩
  · subst e
    exact q H b Kp.refl hb
  · subst e
    exact q H a Kp.refl (by rw [List.append_nil]; exact ha)
  · exact q _ p (Kp.refl.upd_new' np) (SqT.of upd_same)
end Kb

/-! ### an own class without defaults, made by place and by name -/
namespace Kb
open PySem PySem.Spec PyProof.Rows L2
/-- how a call with n things by place and some by name (ks) puts them, nothing being left out: g -/
def Puts0 (st : Stmt) (qual : Str) (ps : List Str) (n : Nat) (ks : List Str) (g : {α : Type} → List α → List α → List α) : Prop :=
  ∀ (kV doc pm : Value) (an : Option Addr) (cdv ct : Value) (us ws : List Value), us.length = n → ws.length = ks.length →
    bindArgs (PySem.W.fnOf "__init__" qual (defArgs st) (defBody st) (defScope st) .none kV doc pm an cdv ct) ⟨us, ks.zip ws⟩ = pure (ps.zip (g us ws))
def Keeps2 (g : {α : Type} → List α → List α → List α) : Prop := ∀ {vs zs : List V} {us ws : List Value}, Vals vs us → Vals zs ws → Vals (g vs zs) (g us ws)
section
variable {X : Cx} {CX : CXT} {k n : Nat} {C : Addr} {st : Stmt} {qual : Str} {ps ks : List Str} {sp : Sp} {E : XK} {x : Str} {p pos : Pos} {e : Expr} {es : List Expr} {kws : List Keyword} {t tk : TA}
theorem pe_makeP (g : {α : Type} → List α → List α → List α) (hmk : PySem.W.makesIn X.K C = true) (hkc : PySem.W.keepIn X.K (.ref C) = true) (M : CalD X.prog X.w X.K X.mg X.base CX k C st qual [] ps sp) (hrel : Keeps2 g) (hp : Puts0 st qual ps (n + 1) ks g)
    (hr : Room (k + 1) X.A) (hg : Gl X x) (hm : X.mg x = some (.ref C)) (hx : Passes CX X E) (ha : PA X (e :: es) t) (hkw : PK X kws tk) (hall : (backToKw pos (keywordEach kws X.env)).all (·.1.isSome) = true := by rfl) (hks : (backToKw pos (keywordEach kws X.env)).filterMap (·.1) = ks := by rfl)
    (hdb : (x == ("__debug__" : Str)) = false := by decide) (he : starEach (e :: es) X.env = (false, eval e X.env) :: starEach es X.env := by rfl) (hpl : ((backTo pos (starEach (e :: es) X.env)).any (·.1) || (backToKw pos (keywordEach kws X.env)).any (·.1.isNone)) = false := by rfl) :
    PE X (.Call (.Name x p) (e :: es) kws pos) (tMakeN C n ks.length sp (fun vs zs => g vs zs) E t tk) := by
  obtain ⟨f, fd, me, F, D⟩ := M.ex
  have hb : KBn X.K fd ps (n + 1) ks (fun us ws => g us ws) (fun vs zs => g vs zs) := by
    obtain ⟨oc, od, dV, kV, doc, pm, an, cdv, ct, osl, rfl, lk, hcd, hD, hK⟩ := D.ex
    rcases hD with ⟨_, rfl⟩ | ⟨e, _⟩
    · exact ⟨fun s us ws _ l1 l2 => .of_eq (hp kV doc pm an cdv ct us ws l1 l2), fun r1 r2 => hrel r1 r2⟩
    · exact absurd rfl e
  exact pe_makeN ⟨hmk, me.at_, me.fn, hkc⟩ F hr hg hm hb hx ha hkw hall hks hdb he hpl
end
end Kb

/-! ## the program's schemas: sorts, fields, cases; promises for good ones -/
namespace K02
open PySem PySem.Spec PyProof.Rows L2 Kb
open LamX (TabS)
inductive Srt where
  | num (lo hi : Option Int)
  | truth
  | text (n : Int)
  | row (n : Int) (s : Srt)
  | maybe (s : Srt)
  | node (k : Str)
  | pick (k : Str)
def oV : Option Int → V
  | none => .non
  | some i => .int i
/-- x is a sort's tuple -/
def SrtV (K : PySem.W.Frag) (H : Hp) : Srt → V → Prop
  | .num lo hi, x => ∃ a, x = .ref a ∧ SqT K H a [.str "number", oV lo, oV hi]
  | .truth, x => ∃ a, x = .ref a ∧ SqT K H a [.str "truth"]
  | .text n, x => ∃ a, x = .ref a ∧ SqT K H a [.str "text", .int n]
  | .row n s, x => ∃ a y, x = .ref a ∧ SqT K H a [.str "row", .int n, y] ∧ SrtV K H s y
  | .maybe s, x => ∃ a y, x = .ref a ∧ SqT K H a [.str "maybe", y] ∧ SrtV K H s y
  | .node k, x => ∃ a, x = .ref a ∧ SqT K H a [.str "node", .str k]
  | .pick k, x => ∃ a, x = .ref a ∧ SqT K H a [.str "choice", .str k]
def GREAT : Int := 999999999999999999999999999999999999999999999999999999999999
/-- a sort of a schema of these kinds and choices, at most so deep -/
def Srt.ok (nk ck : Str → Prop) : Srt → Nat → Prop
  | .num lo hi, _ => (∀ l h, lo = some l → hi = some h → l ≤ h) ∧ (∀ l, lo = some l → -GREAT ≤ l ∧ l ≤ GREAT) ∧ ∀ h, hi = some h → -GREAT ≤ h ∧ h ≤ GREAT
  | .truth, _ => True
  | .text n, _ => 0 ≤ n ∧ n ≤ 40
  | .row n s, d + 1 => 0 ≤ n ∧ n ≤ 20 ∧ s.ok nk ck d
  | .maybe s, d + 1 => s.ok nk ck d ∧ ∀ s', s ≠ .maybe s'
  | .node k, _ => nk k
  | .pick k, _ => ck k
  | _, _ => False
/-- v is a default of a sort -/
def DfOk (K : PySem.W.Frag) (H : Hp) : Srt → V → Prop
  | .num lo hi, v => ∃ i, v = .int i ∧ (∀ l, lo = some l → l ≤ i) ∧ (∀ h, hi = some h → i ≤ h) ∧ -GREAT ≤ i ∧ i ≤ GREAT
  | .truth, v => ∃ b, v = .bl b
  | .text n, v => ∃ z : Str, v = .str z ∧ (z.length : Int) ≤ n ∧ z.length ≤ 1000 ∧ 10 ∉ z.cps.toList
  | .row _ _, v => ∃ a, v = .ref a ∧ SqT K H a []
  | .maybe _, v => v = .non
  | _, _ => False
/-- one to eight small letters -/
def NameOk (z : Str) : Prop := 1 ≤ z.length ∧ z.length ≤ 8 ∧ ∀ c ∈ z.cps.toList, 97 ≤ c ∧ c ≤ 122
def keyIn (kvs : List (L2.Key × V)) (k : Str) : Prop := ∃ v, valV kvs (.inr k) = some v
structure Fld where
  num : Int
  name : Str
  s : Srt
  y : V
  dfl : Option V
/-- a field's tuple -/
structure FldV (K : PySem.W.Frag) (H : Hp) (f : Fld) (x : V) : Prop where
  at_ : ∃ a, x = .ref a ∧ SqT K H a ([.int f.num, .str f.name, f.y] ++ f.dfl.toList)
  srt : SrtV K H f.s f.y
  dfl : ∀ v, f.dfl = some v → DfOk K H f.s v
structure Fld.ok (nk ck : Str → Prop) (f : Fld) : Prop where
  lo : 1 ≤ f.num
  hi : f.num ≤ 99
  name : NameOk f.name
  srt : f.s.ok nk ck 3
structure Cse where
  num : Int
  name : Str
  s : Option Srt
  y : V
structure CseV (K : PySem.W.Frag) (H : Hp) (c : Cse) (x : V) : Prop where
  at_ : ∃ a, x = .ref a ∧ SqT K H a [.int c.num, .str c.name, c.y]
  srt : ∀ s, c.s = some s → SrtV K H s c.y
  non : c.s = none → c.y = .non
structure Cse.ok (nk ck : Str → Prop) (c : Cse) : Prop where
  lo : 0 ≤ c.num
  hi : c.num ≤ 99
  name : NameOk c.name
  srt : ∀ s, c.s = some s → s.ok nk ck 3
  zero : c.num = 0 → c.s = none
/-- a list or a tuple -/
def Sq (K : PySem.W.Frag) (H : Hp) (a : Addr) (xs : List V) : Prop := H a = some (.lst xs) ∨ SqT K H a xs
@[irreducible] def sp_is_whole (K : PySem.W.Frag) : Sp := fun vs H Q _ => ∃ i : Int, vs = [.int i] ∧ Q (.bl true) H
@[irreducible] def sp_is_within (K : PySem.W.Frag) : Sp := fun vs H Q _ => ∃ (i : Int) (lo hi : Option Int), vs = [.int i, oV lo, oV hi] ∧ Q (.bl ((lo.all fun l => decide (l ≤ i)) && hi.all fun h => decide (i ≤ h))) H
@[irreducible] def sp_is_row (K : PySem.W.Frag) : Sp := fun vs H Q _ => ∃ a xs, vs = [.ref a] ∧ Sq K H a xs ∧ ∀ H', Kp [] H H' → Q (.bl true) H'
@[irreducible] def sp_left_of (K : PySem.W.Frag) : Sp := fun vs H Q _ => ∃ a xs, vs = [.ref a] ∧ SqT K H a xs ∧ 3 ≤ xs.length ∧ ∀ H' p, Kp [] H H' → SqT K H' p (xs.drop 3) → Q (.ref p) H'
@[irreducible] def sp_is_name (K : PySem.W.Frag) : Sp := fun vs H Q _ => ∃ z, vs = [.str z] ∧ NameOk z ∧ ∀ H', Kp [] H H' → Q (.bl true) H'
@[irreducible] def sp_is_bounds (K : PySem.W.Frag) : Sp := fun vs H Q _ => ∃ lo hi : Option Int, vs = [oV lo, oV hi] ∧ (∀ l h, lo = some l → hi = some h → l ≤ h) ∧ ∀ H', Kp [] H H' → Q (.bl true) H'
@[irreducible] def sp_is_known (K : PySem.W.Frag) : Sp := fun vs H Q _ => ∃ a kvs k, vs = [.ref a, .str k] ∧ Rd H a (.dK kvs) ∧ keyIn kvs k ∧ Q (.bl true) H
@[irreducible] def sp_is_sort (K : PySem.W.Frag) : Nat → Sp
  | 0 => fun _ _ _ _ => False
  | n + 1 => fun vs H Q _ => ∃ ka ca x deep kk ck s, vs = [.ref ka, .ref ca, x, .int deep] ∧ Rd H ka (.dK kk) ∧ Rd H ca (.dK ck) ∧ SrtV K H s x ∧ s.ok (keyIn kk) (keyIn ck) n ∧ 0 ≤ deep ∧ deep + n ≤ 3 ∧ ∀ H', Kp [] H H' → Q (.bl true) H'
@[irreducible] def sp_is_default (K : PySem.W.Frag) : Sp := fun vs H Q _ => ∃ s x v, vs = [x, v] ∧ SrtV K H s x ∧ DfOk K H s v ∧ ∀ H', Kp [] H H' → Q (.bl true) H'
@[irreducible] def sp_refuse_if (K : PySem.W.Frag) : Sp := fun vs H Q _ => ∃ p w, vs = [.bl false, p, w] ∧ Q .non H
@[irreducible] def sp_look_at_heading (K : PySem.W.Frag) : Sp := fun vs H Q _ => ∃ w z a xs, vs = [.str w, .str z, .ref a] ∧ NameOk z ∧ Sq K H a xs ∧ ∀ H', Kp [] H H' → Q .non H'
/-- a part's number and name -/
def PartV (K : PySem.W.Frag) (H : Hp) (p : Int × Str) (x : V) : Prop := ∃ a r, x = .ref a ∧ SqT K H a (.int p.1 :: .str p.2 :: r)
@[irreducible] def sp_look_at_part (K : PySem.W.Frag) : Sp := fun vs H Q _ => ∃ (path x : V) (ah ln : Addr) (least : Int) (p : Int × Str) (ps : List (Int × Str)) (xs : List V) (a : Addr) (r : List V) (ls : List Int),
  vs = [path, x, .ref ah, .int least, .ref ln] ∧ x = .ref a ∧ SqT K H a (.int p.1 :: .str p.2 :: r) ∧ SqT K H ln (ls.map V.int) ∧ ((2 + r.length : Nat) : Int) ∈ ls ∧ Sq K H ah xs ∧ Paired (PartV K H) ps xs ∧ xs.length ≤ 1000 ∧
  NameOk p.2 ∧ p.2 ∉ ps.map (·.2) ∧ p.1 ∉ ps.map (·.1) ∧ least ≤ p.1 ∧ p.1 ≤ 99 ∧ ∀ H', Kp [] H H' → Q .non H'
end K02

namespace K02
open PySem PySem.Spec PyProof.Rows L2 Kb
structure OwnTurning (K : PySem.W.Frag) (C : Addr) : Prop where
  cl : Cls K C
  n_old : NoAttr K C "old"
  n_new : NoAttr K C "new"
  n_twins : NoAttr K C "twins"
  eq : PlainCls K C
  kb : PySem.W.kitOne K (.ref C) (.type "bool") = some false
structure OwnSchema (K : PySem.W.Frag) (C : Addr) : Prop where
  cl : Cls K C
  n_kinds : NoAttr K C "kinds"
  n_choices : NoAttr K C "choices"
  n_root : NoAttr K C "root"
  eq : PlainCls K C
  kb : PySem.W.kitOne K (.ref C) (.type "bool") = some false
structure Tb where
  a : Addr
  b : Addr
structure Own (K : PySem.W.Frag) (C : Addr) : Prop where
  Turning : OwnTurning K (cAt K "Turning")
  Schema : OwnSchema K (cAt K "Schema")
  gt_INSIDE : GTup K (cAt K "INSIDE") [.str (PySem.Str.ofString "inside")]

def t_is_whole (K : PySem.W.Frag) : TS :=
 (tRet (tAndV (tCB (rIsiU K) (tCons (tVar 0) (tCons (tC (.ty "int")) tNil))) (tNotV (tCB (rIsiU K) (tCons (tVar 0) (tCons (tC (.ty "bool")) tNil))))))
def t_is_within (K : PySem.W.Frag) : TS :=
 (tSeq (tIfS (tOr (tNot (tTru K (tCall (sp_is_whole K) [] E0 (tCons (tVar 0) tNil)))) (tAnd (tTest (tOp rNotNU (tVar 1) (tC .non))) (tTest (tOp rLtU (tVar 0) (tVar 1)))))
 (tRet (tC (.bl false)))
 tNext)
 (tRet (tOrV (tOp rIsNU (tVar 2) (tC .non)) (tOp rLeU (tVar 0) (tVar 2)))))
def t_is_row (K : PySem.W.Frag) : TS :=
 (tRet (tCB (rIsiU K) (tCons (tVar 0) (tCons (tTup (tCons (tC (.ty "list")) (tCons (tC (.ty "tuple")) tNil))) tNil))))
def t_left_of (K : PySem.W.Frag) : TS :=
 (tRet (tSl (rSlA K) (tVar 0) (tPart (tC (.int 3))) tNoPart))
def t_is_name (K : PySem.W.Frag) : TS :=
 (tSeq (tIfS (tOr (tNot (tTru K (tCB (rIsiU K) (tCons (tVar 0) (tCons (tC (.ty "str")) tNil))))) (tNot (tTest (tChain rLeU rLeU (tC (.int 1)) (tCB (rLenU K) (tCons (tVar 0) tNil)) (tC (.int 8))))))
 (tRet (tC (.bl false)))
 tNext)
 (tRet (tCB (rAllU K) (tCons (tLc (iStr (tVar 0)) (gName 1) tYes (tOp (rInU K) (tVar 1) (tC (.str (PySem.Str.ofString "abcdefghijklmnopqrstuvwxyz")))) [1]) tNil))))
def t_is_bounds (K : PySem.W.Frag) : TS :=
 (tSeq (tIfS (tNot (tTru K (tCB (rAllU K) (tCons (tLc (iTup K (tTup (tCons (tVar 0) (tCons (tVar 1) tNil)))) (gName 2) tYes (tOrV (tOp rIsNU (tVar 2) (tC .non)) (tCall (sp_is_whole K) [] E0 (tCons (tVar 2) tNil))) [2]) tNil))))
 (tRet (tC (.bl false)))
 tNext)
 (tRet (tOrV (tOp rIsNU (tVar 0) (tC .non)) (tOrV (tOp rIsNU (tVar 1) (tC .non)) (tOp rLeU (tVar 0) (tVar 1))))))
def t_is_known (K : PySem.W.Frag) : TS :=
 (tRet (tAndV (tCB (rIsiU K) (tCons (tVar 1) (tCons (tC (.ty "str")) tNil))) (tDIn (tVar 1) (tVar 0))))
@[irreducible] def b_is_sort_0 (K : PySem.W.Frag) (n : Nat) : TS :=
 (tSeq (tIfS (tTest (tOp (rEqU K) (tVar 4) (tC (.str (PySem.Str.ofString "truth")))))
 (tRet (tOp (rEqX K) (tVar 5) (tLst tNil)))
 tNext)
 (tSeq (tIfS (tTest (tOp (rEqU K) (tVar 4) (tC (.str (PySem.Str.ofString "number")))))
 (tRet (tAndV (tOp (rEqU K) (tCB (rLenU K) (tCons (tVar 5) tNil)) (tC (.int 2))) (tCall (sp_is_bounds K) [] E0 (tCons (tOp (rIxU K) (tVar 5) (tC (.int 0))) (tCons (tOp (rIxU K) (tVar 5) (tC (.int 1))) tNil)))))
 tNext)
 (tSeq (tIfS (tTest (tOp (rEqU K) (tVar 4) (tC (.str (PySem.Str.ofString "text")))))
 (tRet (tAndV (tOp (rEqU K) (tCB (rLenU K) (tCons (tVar 5) tNil)) (tC (.int 1))) (tCall (sp_is_within K) [] E0 (tCons (tOp (rIxU K) (tVar 5) (tC (.int 0))) (tCons (tC (.int 0)) (tCons (tC (.int 40)) tNil))))))
 tNext)
 (tSeq (tIfS (tTest (tOp (rEqU K) (tVar 4) (tC (.str (PySem.Str.ofString "row")))))
 (tRet (tAndV (tOp (rEqU K) (tCB (rLenU K) (tCons (tVar 5) tNil)) (tC (.int 2))) (tAndV (tCall (sp_is_within K) [] E0 (tCons (tOp (rIxU K) (tVar 5) (tC (.int 0))) (tCons (tC (.int 0)) (tCons (tC (.int 20)) tNil)))) (tCall (sp_is_sort K n) (([.int 0] : List V).drop 1) E0 (tCons (tVar 0) (tCons (tVar 1) (tCons (tOp (rIxU K) (tVar 5) (tC (.int 1))) (tCons (tOp (rAddU K) (tVar 3) (tC (.int 1))) tNil))))))))
 tNext)
 (tSeq (tIfS (tTest (tOp (rNeU K) (tCB (rLenU K) (tCons (tVar 5) tNil)) (tC (.int 1))))
 (tRet (tC (.bl false)))
 tNext)
 (tSeq (tIfS (tTest (tOp (rEqU K) (tVar 4) (tC (.str (PySem.Str.ofString "maybe")))))
 (tRet (tAndV (tCall (sp_is_sort K n) (([.int 0] : List V).drop 1) E0 (tCons (tVar 0) (tCons (tVar 1) (tCons (tOp (rIxU K) (tVar 5) (tC (.int 0))) (tCons (tOp (rAddU K) (tVar 3) (tC (.int 1))) tNil))))) (tOp (rNeU K) (tOp (rIxU K) (tOp (rIxU K) (tVar 5) (tC (.int 0))) (tC (.int 0))) (tC (.str (PySem.Str.ofString "maybe"))))))
 tNext)
 (tRet (tOrV (tAndV (tOp (rEqU K) (tVar 4) (tC (.str (PySem.Str.ofString "node")))) (tCall (sp_is_known K) [] E0 (tCons (tVar 0) (tCons (tOp (rIxU K) (tVar 5) (tC (.int 0))) tNil)))) (tAndV (tOp (rEqU K) (tVar 4) (tC (.str (PySem.Str.ofString "choice")))) (tCall (sp_is_known K) [] E0 (tCons (tVar 1) (tCons (tOp (rIxU K) (tVar 5) (tC (.int 0))) tNil))))))))))))
def t_is_sort (K : PySem.W.Frag) (n : Nat) : TS :=
 (tSeq (tIfS (tOr (tTest (tOp rGtU (tVar 3) (tC (.int 3)))) (tOr (tNot (tTru K (tCB (rIsiU K) (tCons (tVar 2) (tCons (tC (.ty "tuple")) tNil))))) (tOr (tTest (tOp (rEqX K) (tVar 2) (tTup tNil))) (tNot (tTru K (tCB (rIsiU K) (tCons (tOp (rIxU K) (tVar 2) (tC (.int 0))) (tCons (tC (.ty "str")) tNil))))))))
 (tRet (tC (.bl false)))
 tNext)
 (tSeq (tAsg (tVar 2) (gStar K 1 (gCons (gName 4) (gCons (gName 5) gNil))))
 (b_is_sort_0 K n)))
def t_is_default (K : PySem.W.Frag) : TS :=
 (tSeq (tIfS (tTest (tOp (rEqU K) (tOp (rIxU K) (tVar 0) (tC (.int 0))) (tC (.str (PySem.Str.ofString "number")))))
 (tRet (tAndV (tCall (sp_is_within K) [] E0 (tCons (tVar 1) (tCons (tOp (rIxU K) (tVar 0) (tC (.int 1))) (tCons (tOp (rIxU K) (tVar 0) (tC (.int 2))) tNil)))) (tOp rLeU (tCB rAbsU (tCons (tVar 1) tNil)) (tC (.int 999999999999999999999999999999999999999999999999999999999999)))))
 tNext)
 (tSeq (tIfS (tTest (tOp (rEqU K) (tOp (rIxU K) (tVar 0) (tC (.int 0))) (tC (.str (PySem.Str.ofString "truth")))))
 (tRet (tCB (rIsiU K) (tCons (tVar 1) (tCons (tC (.ty "bool")) tNil))))
 tNext)
 (tSeq (tIfS (tTest (tOp (rEqU K) (tOp (rIxU K) (tVar 0) (tC (.int 0))) (tC (.str (PySem.Str.ofString "text")))))
 (tRet (tAndV (tCB (rIsiU K) (tCons (tVar 1) (tCons (tC (.ty "str")) tNil))) (tOp rLeU (tCB (rLenU K) (tCons (tVar 1) tNil)) (tOp (rIxU K) (tVar 0) (tC (.int 1))))))
 tNext)
 (tSeq (tIfS (tTest (tOp (rEqU K) (tOp (rIxU K) (tVar 0) (tC (.int 0))) (tC (.str (PySem.Str.ofString "row")))))
 (tRet (tAndV (tCB (rIsiU K) (tCons (tVar 1) (tCons (tC (.ty "tuple")) tNil))) (tOp (rEqX K) (tVar 1) (tTup tNil))))
 tNext)
 (tRet (tAndV (tOp (rEqU K) (tOp (rIxU K) (tVar 0) (tC (.int 0))) (tC (.str (PySem.Str.ofString "maybe")))) (tOp rIsNU (tVar 1) (tC .non))))))))
def t_refuse_if (K : PySem.W.Frag) : TS :=
 (tIfS (tTru K (tVar 0))
 tNever
 tNext)
def t_look_at_heading (K : PySem.W.Frag) : TS :=
 (tSeq (tDrop (tCall (sp_refuse_if K) [] E0 (tCons (tNotV (tCall (sp_is_name K) [] E0 (tCons (tVar 1) tNil))) (tCons (tTup (tCons (tVar 0) (tCons (tVar 1) (tCons (tUn rNegU (tC (.int 1))) tNil)))) (tCons (tC (.str (PySem.Str.ofString "name"))) tNil)))))
 (tDrop (tCall (sp_refuse_if K) [] E0 (tCons (tNotV (tCall (sp_is_row K) [] E0 (tCons (tVar 2) tNil))) (tCons (tTup (tCons (tVar 0) (tCons (tVar 1) (tCons (tUn rNegU (tC (.int 1))) tNil)))) (tCons (tC (.str (PySem.Str.ofString "row"))) tNil))))))
def t_look_at_part (K : PySem.W.Frag) : TS :=
 (tSeq (tDrop (tCall (sp_refuse_if K) [] E0 (tCons (tOrV (tNotV (tCB (rIsiU K) (tCons (tVar 1) (tCons (tC (.ty "tuple")) tNil)))) (tOp (rNotInU K) (tCB (rLenU K) (tCons (tVar 1) tNil)) (tVar 4))) (tCons (tVar 0) (tCons (tC (.str (PySem.Str.ofString "row"))) tNil)))))
 (tSeq (tDrop (tCall (sp_refuse_if K) [] E0 (tCons (tOrV (tNotV (tCall (sp_is_name K) [] E0 (tCons (tOp (rIxU K) (tVar 1) (tC (.int 1))) tNil))) (tOp (rInU K) (tOp (rIxU K) (tVar 1) (tC (.int 1))) (tLc (iSeq K (tVar 2)) (gName 5) tYes (tOp (rIxU K) (tVar 5) (tC (.int 1))) [5]))) (tCons (tVar 0) (tCons (tC (.str (PySem.Str.ofString "name"))) tNil)))))
 (tSeq (tDrop (tCall (sp_refuse_if K) [] E0 (tCons (tNotV (tCall (sp_is_within K) [] E0 (tCons (tOp (rIxU K) (tVar 1) (tC (.int 0))) (tCons (tVar 3) (tCons (tC (.int 99)) tNil))))) (tCons (tVar 0) (tCons (tC (.str (PySem.Str.ofString "number"))) tNil)))))
 (tDrop (tCall (sp_refuse_if K) [] E0 (tCons (tOp (rInU K) (tOp (rIxU K) (tVar 1) (tC (.int 0))) (tLc (iSeq K (tVar 2)) (gName 5) tYes (tOp (rIxU K) (tVar 5) (tC (.int 0))) [5])) (tCons (tVar 0) (tCons (tC (.str (PySem.Str.ofString "number"))) tNil))))))))
end K02

/-! ## the program's schemas: the class -/
namespace K02
open PySem PySem.Spec PyProof.Rows L2 Kb
open LamX (TabS)
def qa : Str := ("Schema.take_kind" : Str) ++ ".<locals>." ++ "<lambda>"
def qb : Str := ("Schema.take_choice" : Str) ++ ".<locals>." ++ "<lambda>"
def qc : Str := ("_law_sorted" : Str) ++ ".<locals>." ++ "<lambda>"
/-- the tables of the lambdas -/
structure Tbl (Pt : Tb) (H : Hp) : Prop where
  a : TabS H Pt.a qa
  b : TabS H Pt.b qb
  ab : Pt.a ≠ Pt.b
def schF (D1 D2 : Addr) (root : V) : List (Str × V) := [("kinds", .ref D1), ("choices", .ref D2), ("root", root)]
/-- good fields in a row -/
structure RowF (K : PySem.W.Frag) (H : Hp) (nk ck : Str → Prop) (fls : List Fld) (xs : List V) : Prop where
  at_ : Paired (FldV K H) fls xs
  ok : ∀ f ∈ fls, f.ok nk ck
  names : (fls.map (·.name)).Nodup
  nums : (fls.map (·.num)).Nodup
  le : xs.length ≤ 1000
structure RowC (K : PySem.W.Frag) (H : Hp) (nk ck : Str → Prop) (cs : List Cse) (xs : List V) : Prop where
  at_ : Paired (CseV K H) cs xs
  ok : ∀ c ∈ cs, c.ok nk ck
  names : (cs.map (·.name)).Nodup
  nums : (cs.map (·.num)).Nodup
  ne : cs ≠ []
  le : xs.length ≤ 1000
@[irreducible] def sp_Schema_take_kind (K : PySem.W.Frag) (Pt : Tb) : Sp := fun vs H Q _ => ∃ a ka ca z ra dx D1 D2 root kvs kk ck fls xs, vs = [.ref a, .ref ka, .ref ca, .str z, .ref ra] ∧ H a = some (.ins (cAt K "Schema") dx (schF D1 D2 root)) ∧ H D1 = some (.dK kvs) ∧ kvs.length ≤ 1000 ∧
  Rd H ka (.dK kk) ∧ Rd H ca (.dK ck) ∧ NameOk z ∧ Sq K H ra xs ∧ RowF K H (keyIn kk) (keyIn ck) fls xs ∧ Tbl Pt H ∧
  ∀ H' T ys, Kp [D1, Pt.a] H H' → Tbl Pt H' → H T = none → H' T = some (.tup ys) → ByKey (fls.map (·.num)) xs ys → H' D1 = some (.dK (putK kvs (.inr z) (.ref T))) → Q .non H'
@[irreducible] def sp_Schema_take_choice (K : PySem.W.Frag) (Pt : Tb) : Sp := fun vs H Q _ => ∃ a ka ca z ra dx D1 D2 root kvs kk ck cs xs, vs = [.ref a, .ref ka, .ref ca, .str z, .ref ra] ∧ H a = some (.ins (cAt K "Schema") dx (schF D1 D2 root)) ∧ H D2 = some (.dK kvs) ∧ kvs.length ≤ 1000 ∧
  Rd H ka (.dK kk) ∧ Rd H ca (.dK ck) ∧ NameOk z ∧ Sq K H ra xs ∧ RowC K H (keyIn kk) (keyIn ck) cs xs ∧ Tbl Pt H ∧
  ∀ H' T ys, Kp [D2, Pt.b] H H' → Tbl Pt H' → H T = none → H' T = some (.tup ys) → ByKey (cs.map (·.num)) xs ys → H' D2 = some (.dK (putK kvs (.inr z) (.ref T))) → Q .non H'
/-- where the content of a choice's first case leads -/
def Leads (K : PySem.W.Frag) (H : Hp) (kvs : List (L2.Key × V)) (z : Str) (to : Option Str) : Prop := ∃ T c r num nm y, valV kvs (.inr z) = some (.ref T) ∧ H T = some (.tup (.ref c :: r)) ∧ SqT K H c [num, nm, y] ∧
  match to with
  | some z' => ∃ b, y = .ref b ∧ SqT K H b [.str "choice", .str z']
  | none => y = .non ∨ ∃ b w r', y = .ref b ∧ SqT K H b (.str w :: r') ∧ w ≠ "choice"
@[irreducible] def sp_Schema_comes_back (K : PySem.W.Frag) : Sp := fun vs H Q _ => ∃ a z dx D1 D2 root kvs, ∃ rank : Str → Nat, ∃ N : Nat, vs = [.ref a, .str z] ∧ H a = some (.ins (cAt K "Schema") dx (schF D1 D2 root)) ∧ Rd H D2 (.dK kvs) ∧ N ≤ 1000 ∧
  (∀ z, keyIn kvs z → ∃ to, Leads K H kvs z to ∧ ∀ z', to = some z' → keyIn kvs z' ∧ rank z < rank z' ∧ rank z' ≤ N) ∧ keyIn kvs z ∧ ∀ H', Kp [] H H' → Q (.bl false) H'
/-- a kind's row in a schema's table: its name, where it is, its fields -/
structure KRow where
  name : Str
  adr : Addr
  fls : List Fld
  xs : List V
structure CRow where
  name : Str
  adr : Addr
  cs : List Cse
  xs : List V
def KRow.kv (r : KRow) : L2.Key × V := (.inr r.name, .ref r.adr)
def CRow.kv (r : CRow) : L2.Key × V := (.inr r.name, .ref r.adr)
def KRow.row (r : KRow) : Str × List Int × List V := (r.name, r.fls.map (·.num), r.xs)
def CRow.row (r : CRow) : Str × List Int × List V := (r.name, r.cs.map (·.num), r.xs)
structure KRow.ok (K : PySem.W.Frag) (H : Hp) (nk ck : Str → Prop) (r : KRow) : Prop where
  name : NameOk r.name
  sq : Sq K H r.adr r.xs
  row : RowF K H nk ck r.fls r.xs
structure CRow.ok (K : PySem.W.Frag) (H : Hp) (nk ck : Str → Prop) (rank : Str → Nat) (N : Nat) (r : CRow) : Prop where
  name : NameOk r.name
  sq : Sq K H r.adr r.xs
  row : RowC K H nk ck r.cs r.xs
  up : ∀ c ∈ r.cs, (∀ d ∈ r.cs, c.num ≤ d.num) → ∀ z', c.s = some (.pick z') → rank r.name < rank z' ∧ rank z' ≤ N
/-- a schema's own table: tuples by rising numbers, made anew -/
def Done (H H' : Hp) (rs : List (Str × List Int × List V)) (kvs : List (L2.Key × V)) : Prop := Paired (fun (r : Str × List Int × List V) (kv : L2.Key × V) => kv.1 = .inr r.1 ∧ ∃ T ys, kv.2 = .ref T ∧ H T = none ∧ H' T = some (.tup ys) ∧ ByKey r.2.1 r.2.2 ys) rs kvs
@[irreducible] def sp_Schema___init__ (K : PySem.W.Frag) (Pt : Tb) : Sp := fun vs H Q _ => ∃ a ka cv root dx s, ∃ FK : List KRow, ∃ CK : List CRow, ∃ rank : Str → Nat, ∃ N : Nat, vs = [.ref a, .ref ka, cv, root] ∧ H a = some (.ins (cAt K "Schema") dx []) ∧ H ka = some (.dK (FK.map KRow.kv)) ∧
  ((cv = .non ∧ CK = []) ∨ ∃ ca, cv = .ref ca ∧ H ca = some (.dK (CK.map CRow.kv)) ∧ ca ≠ ka) ∧ FK.length ≤ 100 ∧ CK.length ≤ 100 ∧ (FK.map (·.name)).Nodup ∧ (CK.map (·.name)).Nodup ∧
  (∀ r ∈ FK, r.ok K H (keyIn (FK.map KRow.kv)) (keyIn (CK.map CRow.kv))) ∧ (∀ r ∈ CK, r.ok K H (keyIn (FK.map KRow.kv)) (keyIn (CK.map CRow.kv)) rank N) ∧ N ≤ 1000 ∧
  SrtV K H s root ∧ s.ok (keyIn (FK.map KRow.kv)) (keyIn (CK.map CRow.kv)) 3 ∧ Tbl Pt H ∧
  ∀ H' D1 D2 kvs1 kvs2, Kp [a, Pt.a, Pt.b] H H' → Tbl Pt H' → H' a = some (.ins (cAt K "Schema") dx (schF D1 D2 root)) → H D1 = none → H D2 = none → D1 ≠ D2 → H' D1 = some (.dK kvs1) → H' D2 = some (.dK kvs2) →
    Done H H' (FK.map KRow.row) kvs1 → Done H H' (CK.map CRow.row) kvs2 → Q .non H'
end K02

namespace K02
open PySem PySem.Spec PyProof.Rows L2 Kb
def t_Schema_take_kind (K : PySem.W.Frag) (C : Addr) (Pt : Tb) : TS :=
 (tSeq (tDrop (tCall (sp_look_at_heading K) [] E0 (tCons (tC (.str (PySem.Str.ofString "kind"))) (tCons (tVar 3) (tCons (tVar 4) tNil)))))
 (tSeq (tFor (iEnumV K (tVar 4)) (gTup K 2 (gCons (gName 5) (gCons (gName 6) gNil)))
 (tSeq (tAsg (tTup (tCons (tC (.str (PySem.Str.ofString "kind"))) (tCons (tVar 3) (tCons (tVar 5) tNil)))) (gName 7))
 (tSeq (tDrop (tCall (sp_look_at_part K) [] E0 (tCons (tVar 7) (tCons (tVar 6) (tCons (tSl (rSlV K) (tVar 4) tNoPart (tPart (tVar 5))) (tCons (tC (.int 1)) (tCons (tTup (tCons (tC (.int 3)) (tCons (tC (.int 4)) tNil))) tNil)))))))
 (tSeq (tDrop (tCall (sp_refuse_if K) [] E0 (tCons (tNotV (tCall (sp_is_sort K 4) (([.int 0] : List V).drop 0) E0 (tCons (tVar 1) (tCons (tVar 2) (tCons (tOp (rIxU K) (tVar 6) (tC (.int 2))) tNil))))) (tCons (tVar 7) (tCons (tC (.str (PySem.Str.ofString "sort"))) tNil)))))
 (tDrop (tCall (sp_refuse_if K) [] E0 (tCons (tNotV (tCB (rAllU K) (tCons (tLc (iTup K (tCall (sp_left_of K) [] E0 (tCons (tVar 6) tNil))) (gName 8) tYes (tCall (sp_is_default K) [] E0 (tCons (tOp (rIxU K) (tVar 6) (tC (.int 2))) (tCons (tVar 8) tNil))) [8]) tNil))) (tCons (tVar 7) (tCons (tC (.str (PySem.Str.ofString "default"))) tNil)))))))))
 (sDPut (tUn (rFldU K "kinds") (tVar 0)) (tVar 3) (tCB (rTupleU K) (tCons (tSortKey K Pt.a (("Schema.take_kind" : Str) ++ ".<locals>." ++ "<lambda>") (tVar 4)) tNil)))))
def t_Schema_take_choice (K : PySem.W.Frag) (C : Addr) (Pt : Tb) : TS :=
 (tSeq (tDrop (tCall (sp_look_at_heading K) [] E0 (tCons (tC (.str (PySem.Str.ofString "choice"))) (tCons (tVar 3) (tCons (tVar 4) tNil)))))
 (tSeq (tDrop (tCall (sp_refuse_if K) [] E0 (tCons (tOp (rEqU K) (tCB (rLenU K) (tCons (tVar 4) tNil)) (tC (.int 0))) (tCons (tTup (tCons (tC (.str (PySem.Str.ofString "choice"))) (tCons (tVar 3) (tCons (tUn rNegU (tC (.int 1))) tNil)))) (tCons (tC (.str (PySem.Str.ofString "row"))) tNil)))))
 (tSeq (tFor (iEnumV K (tVar 4)) (gTup K 2 (gCons (gName 5) (gCons (gName 6) gNil)))
 (tSeq (tAsg (tTup (tCons (tC (.str (PySem.Str.ofString "choice"))) (tCons (tVar 3) (tCons (tVar 5) tNil)))) (gName 7))
 (tSeq (tDrop (tCall (sp_look_at_part K) [] E0 (tCons (tVar 7) (tCons (tVar 6) (tCons (tSl (rSlV K) (tVar 4) tNoPart (tPart (tVar 5))) (tCons (tC (.int 0)) (tCons (tTup (tCons (tC (.int 3)) tNil)) tNil)))))))
 (tSeq (tAsg (tVar 6) (gTup K 3 (gCons (gName 8) (gCons (gName 9) (gCons (gName 10) gNil)))))
 (tSeq (tDrop (tCall (sp_refuse_if K) [] E0 (tCons (tAndV (tOp rNotNU (tVar 10) (tC .non)) (tNotV (tCall (sp_is_sort K 4) (([.int 0] : List V).drop 0) E0 (tCons (tVar 1) (tCons (tVar 2) (tCons (tVar 10) tNil)))))) (tCons (tVar 7) (tCons (tC (.str (PySem.Str.ofString "sort"))) tNil)))))
 (tDrop (tCall (sp_refuse_if K) [] E0 (tCons (tAndV (tOp (rEqU K) (tVar 8) (tC (.int 0))) (tOp rNotNU (tVar 10) (tC .non))) (tCons (tVar 7) (tCons (tC (.str (PySem.Str.ofString "sort"))) tNil))))))))))
 (sDPut (tUn (rFldU K "choices") (tVar 0)) (tVar 3) (tCB (rTupleU K) (tCons (tSortKey K Pt.b (("Schema.take_choice" : Str) ++ ".<locals>." ++ "<lambda>") (tVar 4)) tNil))))))
def t_Schema_comes_back (K : PySem.W.Frag) (C : Addr) : TS :=
 (tSeq (tAsg tDNewK (gName 2))
 (tSeq (tAsg (tVar 1) (gName 3))
 (tSeq (tWhile (tB (tDNotIn (tVar 3) (tVar 2)))
 (tSeq (sDPut (tVar 2) (tVar 3) (tC (.bl true)))
 (tSeq (tAsg (tOp (rIxU K) (tOp (rIxU K) (tDGet (tUn (rFldU K "choices") (tVar 0)) (tVar 3)) (tC (.int 0))) (tC (.int 2))) (gName 4))
 (tSeq (tIfS (tOr (tTest (tOp rIsNU (tVar 4) (tC .non))) (tTest (tOp (rNeU K) (tOp (rIxU K) (tVar 4) (tC (.int 0))) (tC (.str (PySem.Str.ofString "choice"))))))
 (tRet (tC (.bl false)))
 tNext)
 (tAsg (tOp (rIxU K) (tVar 4) (tC (.int 1))) (gName 3))))))
 (tRet (tOp (rEqU K) (tVar 3) (tVar 1))))))
@[irreducible] def b_Schema___init___2 (K : PySem.W.Frag) (C : Addr) (Pt : Tb) : TS :=
 (tLock (tFor (iKeys (tUn (rFldU K "choices") (tVar 0))) (gName 5)
 (tDrop (tCall (sp_refuse_if K) [] E0 (tCons (tMethU (cAt K "Schema") "comes_back" (sp_Schema_comes_back K) E0 (tVar 0) (tCons (tVar 5) tNil)) (tCons (tTup (tCons (tC (.str (PySem.Str.ofString "choice"))) (tCons (tVar 5) (tCons (tUn rNegU (tC (.int 1))) tNil)))) (tCons (tC (.str (PySem.Str.ofString "sort"))) tNil)))))))
@[irreducible] def b_Schema___init___1 (K : PySem.W.Frag) (C : Addr) (Pt : Tb) : TS :=
 (tSeq (tLock (tFor (iItems (tVar 4)) (gTup K 2 (gCons (gName 5) (gCons (gName 6) gNil)))
 (tDrop (tMethU (cAt K "Schema") "take_choice" (sp_Schema_take_choice K Pt) E0 (tVar 0) (tCons (tVar 1) (tCons (tVar 4) (tCons (tVar 5) (tCons (tVar 6) tNil))))))))
 (tSeq (tDrop (tCall (sp_refuse_if K) [] E0 (tCons (tNotV (tCall (sp_is_sort K 4) (([.int 0] : List V).drop 0) E0 (tCons (tVar 1) (tCons (tVar 4) (tCons (tVar 3) tNil))))) (tCons (tTup (tCons (tC (.str (PySem.Str.ofString "root"))) tNil)) (tCons (tC (.str (PySem.Str.ofString "sort"))) tNil)))))
 (b_Schema___init___2 K C Pt)))
@[irreducible] def b_Schema___init___0 (K : PySem.W.Frag) (C : Addr) (Pt : Tb) : TS :=
 (tSeq (tLock (tFor (iItems (tVar 1)) (gTup K 2 (gCons (gName 5) (gCons (gName 6) gNil)))
 (tDrop (tMethU (cAt K "Schema") "take_kind" (sp_Schema_take_kind K Pt) E0 (tVar 0) (tCons (tVar 1) (tCons (tVar 4) (tCons (tVar 5) (tCons (tVar 6) tNil))))))))
 (b_Schema___init___1 K C Pt))
def t_Schema___init__ (K : PySem.W.Frag) (C : Addr) (Pt : Tb) : TS :=
 (tSeq (tAsg (tIf (tTest (tOp rIsNU (tVar 2) (tC .non))) tDNewK (tVar 2)) (gName 4))
 (tSeq (tAsg (tTup (tCons tDNewK (tCons tDNewK (tCons (tVar 3) tNil)))) (gTup K 3 (gCons (gFldU K (tVar 0) "kinds") (gCons (gFldU K (tVar 0) "choices") (gCons (gFldU K (tVar 0) "root") gNil)))))
 (b_Schema___init___0 K C Pt)))
end K02

/-! ## turning things without nodes and choices: plain, promises -/
namespace K02
open PySem PySem.Spec PyProof.Rows L2 Kb
/-- the thing is of the sort, as far as the program leans on it -/
def Of : Srt → PyData → Prop
  | .num _ _, d => ∃ i, d = .int i
  | .truth, d => ∃ b, d = .bool b
  | .text _, d => ∃ z : Str, d = .str z ∧ z.length ≤ 1000 ∧ ∀ c ∈ z.cps.toList, c < 128
  | .row _ s, d => ∃ ds, d = .tuple ds ∧ ds.length ≤ 1000 ∧ ∀ e ∈ ds, Of s e
  | .maybe s, d => d = .none ∨ (d ≠ .none ∧ Of s d)
  | _, _ => False
/-- no nodes, no choices, no maybe right within a maybe -/
def Flt : Srt → Prop
  | .num _ _ => True
  | .truth => True
  | .text _ => True
  | .row _ s => Flt s
  | .maybe s => Flt s ∧ ∀ s', s ≠ .maybe s'
  | _ => False
def Srt.dep : Srt → Nat
  | .row _ s => s.dep + 1
  | .maybe s => s.dep + 1
  | _ => 0
def isM : Srt → Bool
  | .maybe _ => true
  | _ => false
def strip : Srt → Srt
  | .maybe s => s
  | s => s
def insD : PyData := .tuple [.str "inside"]
def withinB (i : Int) (lo hi : Option Int) : Bool := (lo.all fun l => decide (l ≤ i)) && hi.all fun h => decide (i ≤ h)
abbrev Ref := List PyData × Str
structure Itm where
  p : List PyData
  o : Srt
  n : Srt
  d : PyData
mutual
/-- no lists in it -/
def noL : PyData → Bool
  | .list _ => false
  | .tuple ds => noLs ds
  | _ => true
def noLs : List PyData → Bool
  | [] => true
  | d :: ds => noL d && noLs ds
end
mutual
/-- how many places there are -/
def psz : PyData → Nat
  | .tuple ds => 1 + pszs ds
  | _ => 1
def pszs : List PyData → Nat
  | [] => 0
  | d :: ds => psz d + pszs ds
end
def PathOk (n : Nat) (p : List PyData) : Prop := p.length ≤ n ∧ noLs p = true
/-- what stands in a row, each with its place -/
def spread (p : List PyData) (s s' : Srt) : Nat → List PyData → List Itm
  | _, [] => []
  | k, e :: ds => ⟨p ++ [.int k], s, s', e⟩ :: spread p s s' (k + 1) ds
/-- a sort that is no maybe against one that is none -/
def kidsB (p : List PyData) : Srt → Srt → PyData → Except Ref (List Itm)
  | .num _ _, .num lo hi, .int i => if withinB i lo hi then .ok [] else .error (p, "bounds")
  | .truth, .truth, _ => .ok []
  | .text _, .text m, .str z => if (m < (z.length : Int)) then .error (p, "most") else .ok []
  | .row _ s, .row m s', .tuple ds => if (m < (ds.length : Int)) then .error (p, "most") else .ok (spread p s s' 0 ds)
  | _, _, _ => .error (p, "sort")
def kids (i : Itm) : Except Ref (List Itm) :=
  match i.o with
  | .maybe o => match i.d with
    | .none => if isM i.n then .ok [] else .error (i.p, "nothing")
    | d => .ok [⟨i.p ++ [insD], o, strip i.n, d⟩]
  | o => match i.n with
    | .maybe n => .ok [⟨i.p, o, n, i.d⟩]
    | n => kidsB i.p o n i.d
/-- the first place that is refused, of rows by what is told of their places -/
def firstR (f : Nat → PyData → Option Ref) : Nat → List PyData → Option Ref
  | _, [] => none
  | k, e :: ds => match f k e with
    | some r => some r
    | none => firstR f (k + 1) ds
def refuB (go : List PyData → Srt → Srt → PyData → Option Ref) (p : List PyData) : Srt → Srt → PyData → Option Ref
  | .num _ _, .num lo hi, .int i => if withinB i lo hi then none else some (p, "bounds")
  | .truth, .truth, _ => none
  | .text _, .text m, .str z => if (m < (z.length : Int)) then some (p, "most") else none
  | .row _ s, .row m s', .tuple ds => if (m < (ds.length : Int)) then some (p, "most") else firstR (fun k e => go (p ++ [.int k]) s s' e) 0 ds
  | _, _, _ => some (p, "sort")
/-- the first place at which a thing is refused: n, how deep the sorts may be -/
def refu : Nat → List PyData → Srt → Srt → PyData → Option Ref
  | 0, p, _, _, _ => some (p, "")
  | n + 1, p, .maybe o, s, d => match d with
    | .none => if isM s then none else some (p, "nothing")
    | d => refu n (p ++ [insD]) o (strip s) d
  | n + 1, p, o, s, d => refuB (refu n) p o (strip s) d
/-- a row of places -/
def firstI (n : Nat) : List Itm → Option Ref
  | [] => none
  | i :: is => match refu n i.p i.o i.n i.d with
    | some r => some r
    | none => firstI n is
section
variable (K : PySem.W.Frag)
/-- NoTurn(p, w) is raised -/
def ExT (p : List PyData) (w : Str) (H : Hp) (E : XK) : Prop := ∀ H' dd pa, Kp [] H H' → H' dd = some (.xd [("why", .str w), ("path", .ref pa)]) → Dp K H' (.ref pa) (.tuple p) → E (.ref (cAt K "NoTurn")) (some dd) H'
structure ItmV (H : Hp) (i : Itm) (v : V) : Prop where
  ex : ∃ t pa o n x, v = .ref t ∧ SqT K H t [.ref pa, o, n, x] ∧ Dp K H (.ref pa) (.tuple i.p) ∧ SrtV K H i.o o ∧ SrtV K H i.n n ∧ Dp K H x i.d
  of : Of i.o i.d
  fo : Flt i.o
  fn : Flt i.n
  lp : PathOk 100 i.p
/-- a schema of a root alone -/
def Sch (H : Hp) (a : Addr) (s : Srt) : Prop := ∃ dx D1 D2 root, H a = some (.ins (cAt K "Schema") dx (schF D1 D2 root)) ∧ H D1 = some (.dK []) ∧ SrtV K H s root
def Trg (H : Hp) (t a b : Addr) : Prop := ∃ dx T, H t = some (.ins (cAt K "Turning") dx [("old", .ref a), ("new", .ref b), ("twins", .ref T)]) ∧ H T = some (.dK [])
@[irreducible] def sp_NoTurn___init__ : Sp := spInit2 (cAt K "NoTurn") "path" "why"
@[irreducible] def sp_Turning___init__ : Sp := fun vs H Q _ => ∃ t a b s dx, vs = [.ref t, .ref a, .ref b] ∧ H t = some (.ins (cAt K "Turning") dx []) ∧ Sch K H b s ∧ ∀ H' T, Kp [t] H H' → H T = none → H' t = some (.ins (cAt K "Turning") dx [("old", .ref a), ("new", .ref b), ("twins", .ref T)]) → H' T = some (.dK []) → Q .non H'
/-- what goes into a place, or a refusal -/
def Goes (i : Itm) (H : Hp) (Q : VK) (E : XK) : Prop := match kids i with
  | .error (p, w) => ExT K p w H E
  | .ok cs => ∀ H' L xs, Kp [] H H' → H' L = some (.lst xs) → Paired (ItmV K H') cs xs → Q (.ref L) H'
@[irreducible] def sp_Turning_beneath_maybe : Sp := fun vs H Q E => ∃ t pa o n x i s, vs = [.ref t, .ref pa, o, n, x] ∧ i.o = .maybe s ∧ Dp K H (.ref pa) (.tuple i.p) ∧ SrtV K H i.o o ∧ SrtV K H i.n n ∧ Dp K H x i.d ∧ Of i.o i.d ∧ Flt i.o ∧ Flt i.n ∧ PathOk 90 i.p ∧ Goes K i H Q E
@[irreducible] def sp_Turning_beneath : Sp := fun vs H Q E => ∃ t pa o n x i a b, vs = [.ref t, .ref pa, o, n, x] ∧ Trg K H t a b ∧ Dp K H (.ref pa) (.tuple i.p) ∧ SrtV K H i.o o ∧ SrtV K H i.n n ∧ Dp K H x i.d ∧ Of i.o i.d ∧ Flt i.o ∧ Flt i.n ∧ PathOk 90 i.p ∧ Goes K i H Q E
@[irreducible] def sp_Turning_go_through : Sp := fun vs H Q E => ∃ t x a b so sn d, vs = [.ref t, x] ∧ Trg K H t a b ∧ Sch K H a so ∧ Sch K H b sn ∧ Dp K H x d ∧ Of so d ∧ Flt so ∧ Flt sn ∧ so.dep ≤ 8 ∧ psz d ≤ 100000 ∧ match refu 10 [] so sn d with
  | some (p, w) => ExT K p w H E
  | none => ∀ H', Kp [] H H' → Q .non H'
@[irreducible] def sp_Turning_turn : Nat → Sp
  | 0 => fun _ _ _ _ => False
  | n + 1 => fun vs H Q _ => ∃ t o s x so sn d p a b, vs = [.ref t, o, s, x] ∧ Trg K H t a b ∧ SrtV K H so o ∧ SrtV K H sn s ∧ Dp K H x d ∧ Of so d ∧ Flt so ∧ Flt sn ∧ so.dep ≤ n ∧ refu (n + 1) p so sn d = none ∧ ∀ H' y, Kp [] H H' → Dp K H' y d → Q y H'
@[irreducible] def sp_turned : Sp := fun vs H Q E => ∃ a b x so sn d, vs = [.ref a, .ref b, x] ∧ Sch K H a so ∧ Sch K H b sn ∧ Dp K H x d ∧ Of so d ∧ Flt so ∧ Flt sn ∧ so.dep ≤ 3 ∧ psz d ≤ 100000 ∧ match refu 10 [] so sn d with
  | some (p, w) => ExT K p w H E
  | none => ∀ H' y, Kp [] H H' → Dp K H' y d → Q y H'
end
end K02

namespace K02
open PySem PySem.Spec PyProof.Rows L2 Kb
def t_NoTurn___init__ (K : PySem.W.Frag) : TS :=
 (tAsg (tTup (tCons (tVar 1) (tCons (tVar 2) tNil))) (gTup K 2 (gCons (gOst K "path" (tVar 0)) (gCons (gOst K "why" (tVar 0)) gNil))))
def t_Turning___init__ (K : PySem.W.Frag) (C : Addr) : TS :=
 (tSeq (sFldU K (tVar 0) (tVar 1) "old")
 (tSeq (sFldU K (tVar 0) (tVar 2) "new")
 (sFldU K (tVar 0) (tLockE (tDc (iKeys (tUn (rFldU K "kinds") (tVar 2))) (gName 3) tYes (tVar 3) tDNewK [3])) "twins")))
def t_Turning_beneath_maybe (K : PySem.W.Frag) (C : Addr) (E : XK) : TS :=
 (tSeq (tAsg (tVar 3) (gName 5))
 (tSeq (tIfS (tTest (tOp (rEqU K) (tOp (rIxU K) (tVar 3) (tC (.int 0))) (tC (.str (PySem.Str.ofString "maybe")))))
 (tAsg (tOp (rIxU K) (tVar 3) (tC (.int 1))) (gName 5))
 tNext)
 (tSeq (tIfS (tTest (tOp rNotNU (tVar 4) (tC .non)))
 (tRet (tLst (tCons (tTup (tCons (tOp (rAddA K) (tVar 1) (tTup (tCons (tC (.ref (cAt K "INSIDE"))) tNil))) (tCons (tOp (rIxU K) (tVar 2) (tC (.int 1))) (tCons (tVar 5) (tCons (tVar 4) tNil))))) tNil)))
 tNext)
 (tSeq (tIfS (tTest (tOp (rNeU K) (tOp (rIxU K) (tVar 3) (tC (.int 0))) (tC (.str (PySem.Str.ofString "maybe")))))
 (tRaiseI (cAt K "NoTurn") (sp_NoTurn___init__ K) (fun cls d _ H => E cls d H) (tCons (tVar 1) (tCons (tC (.str (PySem.Str.ofString "nothing"))) tNil)))
 tNext)
 (tRet (tLst tNil))))))
@[irreducible] def b_Turning_beneath_1 (K : PySem.W.Frag) (C : Addr) (E : XK) : TS :=
 (tSeq (tIfS (tTest (tOp (rEqU K) (tOp (rIxU K) (tVar 2) (tC (.int 0))) (tC (.str (PySem.Str.ofString "row")))))
 (tRet (tLc (iEnumV K (tVar 4)) (gTup K 2 (gCons (gName 5) (gCons (gName 6) gNil))) tYes (tTup (tCons (tOp (rAddA K) (tVar 1) (tTup (tCons (tVar 5) tNil))) (tCons (tOp (rIxU K) (tVar 2) (tC (.int 2))) (tCons (tOp (rIxU K) (tVar 3) (tC (.int 2))) (tCons (tVar 6) tNil))))) [5, 6]))
 tNext)
 (tSeq (tIfS (tTest (tOp (rEqU K) (tOp (rIxU K) (tVar 2) (tC (.int 0))) (tC (.str (PySem.Str.ofString "choice")))))
 tNever
 tNext)
 (tSeq (tIfS (tTest (tOp (rEqU K) (tOp (rIxU K) (tVar 2) (tC (.int 0))) (tC (.str (PySem.Str.ofString "node")))))
 tNever
 tNext)
 (tRet (tLst tNil)))))
@[irreducible] def b_Turning_beneath_0 (K : PySem.W.Frag) (C : Addr) (E : XK) : TS :=
 (tSeq (tIfS (tAnd (tTest (tOp (rEqU K) (tOp (rIxU K) (tVar 2) (tC (.int 0))) (tC (.str (PySem.Str.ofString "number"))))) (tNot (tTru K (tCall (sp_is_within K) [] E0 (tCons (tVar 4) (tCons (tOp (rIxU K) (tVar 3) (tC (.int 1))) (tCons (tOp (rIxU K) (tVar 3) (tC (.int 2))) tNil)))))))
 (tRaiseI (cAt K "NoTurn") (sp_NoTurn___init__ K) (fun cls d _ H => E cls d H) (tCons (tVar 1) (tCons (tC (.str (PySem.Str.ofString "bounds"))) tNil)))
 tNext)
 (tSeq (tIfS (tAnd (tTest (tOp (rInU K) (tOp (rIxU K) (tVar 2) (tC (.int 0))) (tTup (tCons (tC (.str (PySem.Str.ofString "text"))) (tCons (tC (.str (PySem.Str.ofString "row"))) tNil))))) (tTest (tOp rGtU (tCB (rLenU K) (tCons (tVar 4) tNil)) (tOp (rIxU K) (tVar 3) (tC (.int 1))))))
 (tRaiseI (cAt K "NoTurn") (sp_NoTurn___init__ K) (fun cls d _ H => E cls d H) (tCons (tVar 1) (tCons (tC (.str (PySem.Str.ofString "most"))) tNil)))
 tNext)
 (b_Turning_beneath_1 K C E)))
def t_Turning_beneath (K : PySem.W.Frag) (C : Addr) (E : XK) : TS :=
 (tSeq (tIfS (tTest (tOp (rEqU K) (tOp (rIxU K) (tVar 2) (tC (.int 0))) (tC (.str (PySem.Str.ofString "maybe")))))
 (tRet (tMethUS (cAt K "Turning") "beneath_maybe" (sp_Turning_beneath_maybe K) (WE (fun cls d _ H => E cls d H)) (tVar 0) (tCons (tVar 1) (tCons (tVar 2) (tCons (tVar 3) (tCons (tVar 4) tNil))))))
 tNext)
 (tSeq (tIfS (tTest (tOp (rEqU K) (tOp (rIxU K) (tVar 3) (tC (.int 0))) (tC (.str (PySem.Str.ofString "maybe")))))
 (tRet (tLst (tCons (tTup (tCons (tVar 1) (tCons (tVar 2) (tCons (tOp (rIxU K) (tVar 3) (tC (.int 1))) (tCons (tVar 4) tNil))))) tNil)))
 tNext)
 (tSeq (tIfS (tTest (tOp (rNeU K) (tOp (rIxU K) (tVar 2) (tC (.int 0))) (tOp (rIxU K) (tVar 3) (tC (.int 0)))))
 (tRaiseI (cAt K "NoTurn") (sp_NoTurn___init__ K) (fun cls d _ H => E cls d H) (tCons (tVar 1) (tCons (tC (.str (PySem.Str.ofString "sort"))) tNil)))
 tNext)
 (b_Turning_beneath_0 K C E))))
def t_Turning_go_through (K : PySem.W.Frag) (C : Addr) (E : XK) : TS :=
 (tSeq (tAsg (tLst (tCons (tTup (tCons (tTup tNil) (tCons (tUn (rFldU K "root") (tUn (rFldU K "old") (tVar 0))) (tCons (tUn (rFldU K "root") (tUn (rFldU K "new") (tVar 0))) (tCons (tVar 1) tNil))))) tNil)) (gName 2))
 (tWhile (tTest (tOp (rNeX K) (tVar 2) (tLst tNil)))
 (tSeq (tAsg (tBM0 K "list" rPopU (tVar 2)) (gTup K 4 (gCons (gName 3) (gCons (gName 4) (gCons (gName 5) (gCons (gName 6) gNil))))))
 (tDrop (tBM K "list" rExtU (tVar 2) (tCons (tRevL K (tMethUS (cAt K "Turning") "beneath" (sp_Turning_beneath K) (WE (fun cls d _ H => E cls d H)) (tVar 0) (tCons (tVar 3) (tCons (tVar 4) (tCons (tVar 5) (tCons (tVar 6) tNil)))))) tNil))))))
@[irreducible] def b_Turning_turn_0 (K : PySem.W.Frag) (C : Addr) (n : Nat) : TS :=
 (tSeq (tIfS (tTest (tOp (rEqU K) (tOp (rIxU K) (tVar 1) (tC (.int 0))) (tC (.str (PySem.Str.ofString "row")))))
 (tRet (tCB (rTupleU K) (tCons (tLc (iTup K (tVar 3)) (gName 6) tYes (tMethU (cAt K "Turning") "turn" (sp_Turning_turn K n) E0 (tVar 0) (tCons (tOp (rIxU K) (tVar 1) (tC (.int 2))) (tCons (tOp (rIxU K) (tVar 2) (tC (.int 2))) (tCons (tVar 6) tNil)))) [6]) tNil)))
 tNext)
 (tSeq (tIfS (tTest (tOp (rEqU K) (tOp (rIxU K) (tVar 1) (tC (.int 0))) (tC (.str (PySem.Str.ofString "choice")))))
 tNever
 tNext)
 (tSeq (tIfS (tTest (tOp (rEqU K) (tOp (rIxU K) (tVar 1) (tC (.int 0))) (tC (.str (PySem.Str.ofString "node")))))
 tNever
 tNext)
 (tRet (tVar 3)))))
def t_Turning_turn (K : PySem.W.Frag) (C : Addr) (n : Nat) : TS :=
 (tSeq (tIfS (tTest (tOp (rEqU K) (tOp (rIxU K) (tVar 1) (tC (.int 0))) (tC (.str (PySem.Str.ofString "maybe")))))
 (tSeq (tIfS (tTest (tOp rIsNU (tVar 3) (tC .non)))
 (tRet (tC .non))
 tNext)
 (tAsg (tOp (rIxU K) (tVar 1) (tC (.int 1))) (gName 1)))
 tNext)
 (tSeq (tIfS (tTest (tOp (rEqU K) (tOp (rIxU K) (tVar 2) (tC (.int 0))) (tC (.str (PySem.Str.ofString "maybe")))))
 (tAsg (tOp (rIxU K) (tVar 2) (tC (.int 1))) (gName 2))
 tNext)
 (b_Turning_turn_0 K C n)))
def t_turned (K : PySem.W.Frag) (C : Addr) (E : XK) : TS :=
 (tSeq (tAsg (tMakeN (cAt K "Turning") 2 0 (sp_Turning___init__ K) (fun (vs zs : List V) => vs) E0 (tCons (tVar 0) (tCons (tVar 1) tNil)) tNil) (gName 3))
 (tSeq (tDrop (tMethUS (cAt K "Turning") "go_through" (sp_Turning_go_through K) (WE (fun cls d _ H => E cls d H)) (tVar 3) (tCons (tVar 2) tNil)))
 (tSeq (tLock (tFor (iItems (tUn (rFldU K "twins") (tVar 3))) (gTup K 2 (gCons (gName 4) (gCons (gName 5) gNil)))
 tNever))
 (tRet (tMethU (cAt K "Turning") "turn" (sp_Turning_turn K 4) E0 (tVar 3) (tCons (tUn (rFldU K "root") (tVar 0)) (tCons (tUn (rFldU K "root") (tVar 1)) (tCons (tVar 2) tNil))))))))
end K02

/-! ## k21: promises of the law's defs -/
namespace K02
open PySem PySem.Spec PyProof.Rows L2 Kb
open LamX (TabS)
/-- the well of the draws -/
def Wl (H : Hp) (S : Addr) : Prop := ∃ c k : Int, H S = some (.lst [.int c, .int k])
@[irreducible] def sp_law_draw (_ : PySem.W.Frag) : Sp := fun vs H Q _ => ∃ S m, vs = [.ref S, .int m] ∧ Wl H S ∧ 0 < m ∧ m.natAbs.log2 < 9000 ∧ ∀ H' r, Kp [S] H H' → Wl H' S → 0 ≤ r → r < m → Q (.int r) H'
/-- 9 * 10 ** 59 -/
def FAR : Int := 900000000000000000000000000000000000000000000000000000000000
def InB (M : Int) (o : Option Int) : Prop := ∀ l, o = some l → -M ≤ l ∧ l ≤ M
/-- a drawn sort, at most so deep -/
def SOk (M : Int) : Srt → Nat → Prop
  | .num lo hi, _ => (∀ l h, lo = some l → hi = some h → l ≤ h) ∧ InB M lo ∧ InB M hi
  | .truth, _ => True
  | .text n, _ => 0 ≤ n ∧ n ≤ 40
  | .row n s, d + 1 => 0 ≤ n ∧ n ≤ 20 ∧ SOk M s d
  | .maybe s, d + 1 => SOk M s d ∧ ∀ s', s ≠ .maybe s'
  | _, _ => False
/-- within its bounds, or not too long -/
def Fit : Srt → PyData → Prop
  | .num lo hi, d => ∀ i, d = .int i → withinB i lo hi = true
  | .text n, d => ∀ z : Str, d = .str z → (z.length : Int) ≤ n
  | .row n s, d => ∀ ds, d = .tuple ds → (ds.length : Int) ≤ n ∧ ∀ e ∈ ds, Fit s e
  | .maybe s, d => d = .none ∨ Fit s d
  | _, _ => True
@[irreducible] def sp_law_bound (_ : PySem.W.Frag) : Sp := fun vs H Q _ => ∃ S, vs = [.ref S] ∧ Wl H S ∧ ∀ H' o, Kp [S] H H' → Wl H' S → InB FAR o → Q (oV o) H'
@[irreducible] def sp_law_leaf (K : PySem.W.Frag) : Sp := fun vs H Q _ => ∃ S, vs = [.ref S] ∧ Wl H S ∧ ∀ H' x s, Kp [S] H H' → Wl H' S → SrtV K H' s x → SOk FAR s 0 → Q x H'
@[irreducible] def sp_law_sort (K : PySem.W.Frag) : Nat → Sp
  | 0 => fun _ _ _ _ => False
  | n + 1 => fun vs H Q _ => ∃ S, ∃ d : Nat, vs = [.ref S, .int d] ∧ Wl H S ∧ d ≤ n ∧ ∀ H' x s, Kp [S] H H' → Wl H' S → SrtV K H' s x → SOk FAR s d → Q x H'
@[irreducible] def sp_law_near (K : PySem.W.Frag) : Nat → Sp
  | 0 => fun _ _ _ _ => False
  | n + 1 => fun vs H Q _ => ∃ S x s, ∃ d : Nat, vs = [.ref S, x, .int d] ∧ Wl H S ∧ SrtV K H s x ∧ SOk FAR s d ∧ d ≤ n ∧ d ≤ 2 ∧ ∀ H' y s', Kp [S] H H' → Wl H' S → SrtV K H' s' y → SOk (FAR + 1) s' d → Q y H'
@[irreducible] def sp_law_thing (K : PySem.W.Frag) : Nat → Sp
  | 0 => fun _ _ _ _ => False
  | n + 1 => fun vs H Q _ => ∃ S x s, ∃ d : Nat, vs = [.ref S, x] ∧ Wl H S ∧ SrtV K H s x ∧ SOk FAR s d ∧ d ≤ n ∧ ∀ H' y e, Kp [S] H H' → Wl H' S → Dp K H' y e → Of s e → Fit s e → psz e ≤ 7 ^ d → Q y H'
@[irreducible] def sp_law_within (_ : PySem.W.Frag) : Sp := fun vs H Q _ => ∃ i lo hi, vs = [.int i, oV lo, oV hi] ∧ Q (.bl (withinB i lo hi)) H
/-- what is due, as a thing -/
def resD (r : Option Ref) (d : PyData) : PyData := match r with
  | none => .tuple [.str "told", d]
  | some (p, w) => .tuple [.str "refused", .tuple p, .str w]
@[irreducible] def sp_law_due (K : PySem.W.Frag) : Nat → Sp
  | 0 => fun _ _ _ _ => False
  | n + 1 => fun vs H Q _ => ∃ pa o s x p so sn d, vs = [.ref pa, o, s, x] ∧ Dp K H (.ref pa) (.tuple p) ∧ SrtV K H so o ∧ SrtV K H sn s ∧ Dp K H x d ∧ Of so d ∧ Flt so ∧ Flt sn ∧ so.dep ≤ n ∧ n ≤ 8 ∧ PathOk (80 - 4 * n) p ∧ ∀ H' y, Kp [] H H' → Dp K H' y (resD (refu 10 p so sn d) d) → Q y H'
mutual
/-- how deep tuples stand -/
def tdp : PyData → Nat
  | .tuple ds => tdps ds + 1
  | _ => 0
def tdps : List PyData → Nat
  | [] => 0
  | d :: ds => max (tdp d) (tdps ds)
end
mutual
/-- no lists, no dicts, plain texts -/
def pln : PyData → Bool
  | .list _ => false
  | .dict _ => false
  | .str z => z.cps.toList.all fun c => decide (c < 128)
  | .tuple ds => plns ds
  | _ => true
def plns : List PyData → Bool
  | [] => true
  | d :: ds => pln d && plns ds
end
@[irreducible] def sp_law_same (K : PySem.W.Frag) : Nat → Sp
  | 0 => fun _ _ _ _ => False
  | n + 1 => fun vs H Q _ => ∃ x y d, vs = [x, y] ∧ Dp K H x d ∧ Dp K H y d ∧ pln d = true ∧ tdp d ≤ n ∧ n ≤ 8 ∧ psz d ≤ 200000 ∧ ∀ H', Kp [] H H' → Q (.bl true) H'
@[irreducible] def sp_law_found (K : PySem.W.Frag) : Sp := fun vs H Q _ => ∃ a b x so sn d, vs = [.ref a, .ref b, x] ∧ Sch K H a so ∧ Sch K H b sn ∧ Dp K H x d ∧ Of so d ∧ Flt so ∧ Flt sn ∧ so.dep ≤ 3 ∧ psz d ≤ 100000 ∧ ∀ H' y, Kp [] H H' → Dp K H' y (resD (refu 10 [] so sn d) d) → Q y H'
/-- what the text says of NoTurn's class -/
structure XK2 (K : PySem.W.Frag) : Prop where
  x : XCls K (cAt K "NoTurn")
  p : PySem.W.findIn K (.ref (cAt K "NoTurn")) "path" = some none
  w : PySem.W.findIn K (.ref (cAt K "NoTurn")) "why" = some none
  n1 : PySem.W.kitOne K (.ref (cAt K "NoTurn")) (.ref (cAt K "NoBytes")) = some false
  n2 : PySem.W.kitOne K (.ref (cAt K "NoTurn")) (.ref (cAt K "NoEdition")) = some false
  n3 : PySem.W.kitOne K (.ref (cAt K "NoTurn")) (.ref (cAt K "NoLine")) = some false
  n4 : PySem.W.kitOne K (.ref (cAt K "NoTurn")) (.ref (cAt K "NoMeeting")) = some false
  n5 : PySem.W.kitOne K (.ref (cAt K "NoTurn")) (.ref (cAt K "NoQuestion")) = some false
  n6 : PySem.W.kitOne K (.ref (cAt K "NoTurn")) (.ref (cAt K "NoSchema")) = some false
  n7 : PySem.W.kitOne K (.ref (cAt K "NoTurn")) (.ref (cAt K "NoText")) = some false
  n8 : PySem.W.kitOne K (.ref (cAt K "NoTurn")) (.ref (cAt K "NoThing")) = some false
  n9 : PySem.W.kitOne K (.ref (cAt K "NoTurn")) (.ref (cAt K "NoWire")) = some false
  kt : PySem.W.kitOne K (.ref (cAt K "NoTurn")) (.ref (cAt K "NoTurn")) = some true
  kv : PySem.W.kitOne K (.ref (cAt K "NoTurn")) (.type "ValueError") = some true
  ew : PySem.W.exmOne K (.ref (cAt K "NoTurn")) (.ref (cAt K "WireError")) = some true
def sp_law (K : PySem.W.Frag) (Pt : Tb) : Sp := fun vs H Q _ => ∃ (a : Addr) (ns : List Int), vs = [.ref a] ∧ SqL K H a (ns.map V.int) ∧ ns.length ≤ 63 ∧ Tbl Pt H ∧ ∀ H', Q (.bl true) H'
end K02

namespace K02
open PySem PySem.Spec PyProof.Rows L2 Kb
def t_law_draw (K : PySem.W.Frag) : TS :=
 (tSeq (tIfS (tTest (tOp rGeU (tOp (rIxU K) (tVar 0) (tC (.int 0))) (tOp rPowU (tC (.int 10)) (tC (.int 18)))))
 (tSeq (tAsg (tOp rModU (tOp (rIxU K) (tVar 0) (tC (.int 0))) (tVar 1)) (gName 2))
 (tSeq (tAsg (tOp rDivW (tOp (rIxU K) (tVar 0) (tC (.int 0))) (tVar 1)) (gSub (tVar 0) (tC (.int 0)) rSetU))
 (tRet (tVar 2))))
 tNext)
 (tSeq (tAsg (tOp (rAddU K) (tOp (rIxU K) (tVar 0) (tC (.int 1))) (tC (.int 1))) (gSub (tVar 0) (tC (.int 1)) rSetU))
 (tSeq (tAsg (tOp (rAddU K) (tOp rModU (tOp (rIxU K) (tVar 0) (tC (.int 0))) (tC (.int 2147483647))) (tOp (rMulU K) (tOp rDivW (tOp (rIxU K) (tVar 0) (tC (.int 0))) (tC (.int 2147483647))) (tC (.int 30011)))) (gName 3))
 (tSeq (tAsg (tOp rModU (tOp (rAddU K) (tOp (rAddU K) (tVar 3) (tOp (rMulU K) (tC (.int 69997)) (tOp (rIxU K) (tVar 0) (tC (.int 1))))) (tC (.int 1))) (tC (.int 2147483647))) (gName 3))
 (tSeq (tAsg (tOp rModU (tOp rPowU (tVar 3) (tC (.int 5))) (tC (.int 2147483647))) (gName 3))
 (tSeq (tAsg (tOp rModU (tOp (rMulU K) (tVar 3) (tOp (rAddU K) (tOp (rAddU K) (tOp rDivW (tVar 3) (tC (.int 1013))) (tC (.int 70001))) (tOp (rIxU K) (tVar 0) (tC (.int 1))))) (tC (.int 2147483629))) (gName 3))
 (tRet (tOp rModU (tOp rDivW (tOp rModU (tOp (rMulU K) (tVar 3) (tOp (rAddU K) (tOp rDivW (tVar 3) (tC (.int 2017))) (tC (.int 40009)))) (tC (.int 2147483587))) (tC (.int 3))) (tVar 1)))))))))
def t_law_bound (K : PySem.W.Frag) : TS :=
 (tSeq (tAsg (tCall (sp_law_draw K) [] E0 (tCons (tVar 0) (tCons (tC (.int 6)) tNil))) (gName 1))
 (tRet (tOp (rIxU K) (tLst (tCons (tC .non) (tCons (tOp rSubU (tCall (sp_law_draw K) [] E0 (tCons (tVar 0) (tCons (tC (.int 9)) tNil))) (tC (.int 4))) (tCons (tC (.int 0)) (tCons (tC (.int 1)) (tCons (tOp (rMulU K) (tOp rPowU (tC (.int 10)) (tC (.int 59))) (tOp (rAddU K) (tC (.int 1)) (tCall (sp_law_draw K) [] E0 (tCons (tVar 0) (tCons (tC (.int 9)) tNil))))) (tCons (tOp rSubU (tC (.int 0)) (tOp rPowU (tC (.int 10)) (tC (.int 30)))) tNil))))))) (tVar 1))))
def t_law_leaf (K : PySem.W.Frag) : TS :=
 (tSeq (tAsg (tCall (sp_law_draw K) [] E0 (tCons (tVar 0) (tCons (tC (.int 5)) tNil))) (gName 1))
 (tSeq (tIfS (tTest (tOp (rEqU K) (tVar 1) (tC (.int 0))))
 (tRet (tTup (tCons (tC (.str (PySem.Str.ofString "truth"))) tNil)))
 tNext)
 (tSeq (tIfS (tTest (tOp (rEqU K) (tVar 1) (tC (.int 1))))
 (tRet (tTup (tCons (tC (.str (PySem.Str.ofString "text"))) (tCons (tOp (rIxU K) (tLst (tCons (tC (.int 0)) (tCons (tC (.int 1)) (tCons (tC (.int 2)) (tCons (tC (.int 5)) (tCons (tC (.int 40)) tNil)))))) (tCall (sp_law_draw K) [] E0 (tCons (tVar 0) (tCons (tC (.int 5)) tNil)))) tNil))))
 tNext)
 (tSeq (tPar 2 3 (tCons (tCall (sp_law_bound K) [] E0 (tCons (tVar 0) tNil)) (tCons (tCall (sp_law_bound K) [] E0 (tCons (tVar 0) tNil)) tNil)))
 (tSeq (tIfS (tAnd (tTest (tOp rNotNU (tVar 2) (tC .non))) (tAnd (tTest (tOp rNotNU (tVar 3) (tC .non))) (tTest (tOp rGtU (tVar 2) (tVar 3)))))
 (tRet (tTup (tCons (tC (.str (PySem.Str.ofString "number"))) (tCons (tVar 3) (tCons (tVar 2) tNil)))))
 tNext)
 (tRet (tTup (tCons (tC (.str (PySem.Str.ofString "number"))) (tCons (tVar 2) (tCons (tVar 3) tNil))))))))))
def t_law_sort (K : PySem.W.Frag) (n : Nat) : TS :=
 (tSeq (tAsg (tCall (sp_law_draw K) [] E0 (tCons (tVar 0) (tCons (tC (.int 4)) tNil))) (gName 2))
 (tSeq (tIfS (tOr (tTest (tOp (rEqU K) (tVar 1) (tC (.int 0)))) (tTest (tOp rLtU (tVar 2) (tC (.int 2)))))
 (tRet (tCall (sp_law_leaf K) [] E0 (tCons (tVar 0) tNil)))
 tNext)
 (tSeq (tAsg (tCall (sp_law_sort K n) [] E0 (tCons (tVar 0) (tCons (tOp rSubU (tVar 1) (tC (.int 1))) tNil))) (gName 3))
 (tSeq (tIfS (tTest (tOp (rEqU K) (tVar 2) (tC (.int 2))))
 (tRet (tTup (tCons (tC (.str (PySem.Str.ofString "row"))) (tCons (tOp (rIxU K) (tLst (tCons (tC (.int 0)) (tCons (tC (.int 1)) (tCons (tC (.int 2)) (tCons (tC (.int 3)) (tCons (tC (.int 20)) tNil)))))) (tCall (sp_law_draw K) [] E0 (tCons (tVar 0) (tCons (tC (.int 5)) tNil)))) (tCons (tVar 3) tNil)))))
 tNext)
 (tRet (tIf (tTest (tOp (rEqU K) (tOp (rIxU K) (tVar 3) (tC (.int 0))) (tC (.str (PySem.Str.ofString "maybe"))))) (tVar 3) (tTup (tCons (tC (.str (PySem.Str.ofString "maybe"))) (tCons (tVar 3) tNil)))))))))
@[irreducible] def b_law_near_0 (K : PySem.W.Frag) (n : Nat) : TS :=
 (tSeq (tIfS (tAnd (tTest (tOp (rEqU K) (tOp (rIxU K) (tVar 1) (tC (.int 0))) (tC (.str (PySem.Str.ofString "number"))))) (tTest (tOp rLtU (tVar 3) (tC (.int 5)))))
 (tSeq (tAsg (tSl (rSlA K) (tVar 1) (tPart (tC (.int 1))) tNoPart) (gTup K 2 (gCons (gName 6) (gCons (gName 7) gNil))))
 (tSeq (tIfS (tTest (tOp (rEqU K) (tVar 3) (tC (.int 2))))
 (tAsg (tIf (tTest (tOp rIsNU (tVar 6) (tC .non))) (tC .non) (tOp (rAddU K) (tVar 6) (tC (.int 1)))) (gName 6))
 tNext)
 (tSeq (tIfS (tTest (tOp (rEqU K) (tVar 3) (tC (.int 3))))
 (tAsg (tIf (tTest (tOp rIsNU (tVar 7) (tC .non))) (tC .non) (tOp rSubU (tVar 7) (tC (.int 1)))) (gName 7))
 tNext)
 (tSeq (tIfS (tTest (tOp (rEqU K) (tVar 3) (tC (.int 4))))
 (tPar 6 7 (tCons (tCall (sp_law_bound K) [] E0 (tCons (tVar 0) tNil)) (tCons (tC .non) tNil)))
 tNext)
 (tRet (tIf (tOr (tTest (tOp rIsNU (tVar 6) (tC .non))) (tOr (tTest (tOp rIsNU (tVar 7) (tC .non))) (tTest (tOp rLeU (tVar 6) (tVar 7))))) (tTup (tCons (tC (.str (PySem.Str.ofString "number"))) (tCons (tVar 6) (tCons (tVar 7) tNil)))) (tVar 1)))))))
 tNext)
 (tRet (tVar 1)))
def t_law_near (K : PySem.W.Frag) (n : Nat) : TS :=
 (tSeq (tAsg (tCall (sp_law_draw K) [] E0 (tCons (tVar 0) (tCons (tC (.int 8)) tNil))) (gName 3))
 (tSeq (tIfS (tTest (tOp (rEqU K) (tVar 3) (tC (.int 0))))
 (tRet (tCall (sp_law_sort K 3) [] E0 (tCons (tVar 0) (tCons (tVar 2) tNil))))
 tNext)
 (tSeq (tIfS (tTest (tOp (rEqU K) (tOp (rIxU K) (tVar 1) (tC (.int 0))) (tC (.str (PySem.Str.ofString "maybe")))))
 (tSeq (tAsg (tCall (sp_law_near K n) [] E0 (tCons (tVar 0) (tCons (tOp (rIxU K) (tVar 1) (tC (.int 1))) (tCons (tOp rSubU (tVar 2) (tC (.int 1))) tNil)))) (gName 4))
 (tRet (tIf (tOr (tTest (tOp (rEqU K) (tOp (rIxU K) (tVar 4) (tC (.int 0))) (tC (.str (PySem.Str.ofString "maybe"))))) (tTest (tOp (rEqU K) (tVar 3) (tC (.int 1))))) (tVar 4) (tTup (tCons (tC (.str (PySem.Str.ofString "maybe"))) (tCons (tVar 4) tNil))))))
 tNext)
 (tSeq (tIfS (tAnd (tTest (tOp (rEqU K) (tVar 3) (tC (.int 1)))) (tAnd (tTest (tOp rGtU (tVar 2) (tC (.int 0)))) (tTest (tOp (rNeU K) (tOp (rIxU K) (tVar 1) (tC (.int 0))) (tC (.str (PySem.Str.ofString "row")))))))
 (tRet (tTup (tCons (tC (.str (PySem.Str.ofString "maybe"))) (tCons (tVar 1) tNil))))
 tNext)
 (tSeq (tIfS (tTest (tOp (rEqU K) (tOp (rIxU K) (tVar 1) (tC (.int 0))) (tC (.str (PySem.Str.ofString "row")))))
 (tSeq (tAsg (tOp (rAddU K) (tOp (rIxU K) (tVar 1) (tC (.int 1))) (tOp (rIxU K) (tLst (tCons (tC (.int 0)) (tCons (tC (.int 1)) (tCons (tUn rNegU (tC (.int 1))) (tCons (tC (.int 0)) tNil))))) (tCall (sp_law_draw K) [] E0 (tCons (tVar 0) (tCons (tC (.int 4)) tNil))))) (gName 5))
 (tRet (tTup (tCons (tC (.str (PySem.Str.ofString "row"))) (tCons (tCB rMin2U (tCons (tC (.int 20)) (tCons (tCB rMax2U (tCons (tC (.int 0)) (tCons (tVar 5) tNil))) tNil))) (tCons (tCall (sp_law_near K n) [] E0 (tCons (tVar 0) (tCons (tOp (rIxU K) (tVar 1) (tC (.int 2))) (tCons (tOp rSubU (tVar 2) (tC (.int 1))) tNil)))) tNil))))))
 tNext)
 (tSeq (tIfS (tTest (tOp (rEqU K) (tOp (rIxU K) (tVar 1) (tC (.int 0))) (tC (.str (PySem.Str.ofString "text")))))
 (tRet (tTup (tCons (tC (.str (PySem.Str.ofString "text"))) (tCons (tCB rMin2U (tCons (tC (.int 40)) (tCons (tCB rMax2U (tCons (tC (.int 0)) (tCons (tOp (rAddU K) (tOp (rIxU K) (tVar 1) (tC (.int 1))) (tOp (rIxU K) (tLst (tCons (tC (.int 0)) (tCons (tC (.int 1)) (tCons (tUn rNegU (tC (.int 1))) tNil)))) (tCall (sp_law_draw K) [] E0 (tCons (tVar 0) (tCons (tC (.int 3)) tNil))))) tNil))) tNil))) tNil))))
 tNext)
 (b_law_near_0 K n)))))))
def t_law_thing (K : PySem.W.Frag) (n : Nat) : TS :=
 (tSeq (tIfS (tTest (tOp (rEqU K) (tOp (rIxU K) (tVar 1) (tC (.int 0))) (tC (.str (PySem.Str.ofString "truth")))))
 (tRet (tOp (rEqU K) (tCall (sp_law_draw K) [] E0 (tCons (tVar 0) (tCons (tC (.int 2)) tNil))) (tC (.int 0))))
 tNext)
 (tSeq (tIfS (tTest (tOp (rEqU K) (tOp (rIxU K) (tVar 1) (tC (.int 0))) (tC (.str (PySem.Str.ofString "text")))))
 (tSeq (tAsg (tOp (rIxU K) (tLst (tCons (tC (.int 0)) (tCons (tOp (rIxU K) (tVar 1) (tC (.int 1))) (tCons (tCall (sp_law_draw K) [] E0 (tCons (tVar 0) (tCons (tOp (rAddU K) (tOp (rIxU K) (tVar 1) (tC (.int 1))) (tC (.int 1))) tNil))) tNil)))) (tCall (sp_law_draw K) [] E0 (tCons (tVar 0) (tCons (tC (.int 3)) tNil)))) (gName 2))
 (tRet (tM1 (rJoin K) (tC (.str (PySem.Str.ofString ""))) (tLc (iRng1 (tCons (tVar 2) tNil)) (gName 7) tYes (tOp (rIxU K) (tC (.str (PySem.Str.ofString "xY \"\\{~0"))) (tCall (sp_law_draw K) [] E0 (tCons (tVar 0) (tCons (tC (.int 8)) tNil)))) [7]))))
 tNext)
 (tSeq (tIfS (tTest (tOp (rEqU K) (tOp (rIxU K) (tVar 1) (tC (.int 0))) (tC (.str (PySem.Str.ofString "row")))))
 (tSeq (tAsg (tOp (rIxU K) (tLst (tCons (tC (.int 0)) (tCons (tCB rMin2U (tCons (tC (.int 6)) (tCons (tOp (rIxU K) (tVar 1) (tC (.int 1))) tNil))) (tCons (tCall (sp_law_draw K) [] E0 (tCons (tVar 0) (tCons (tOp (rAddU K) (tCB rMin2U (tCons (tC (.int 6)) (tCons (tOp (rIxU K) (tVar 1) (tC (.int 1))) tNil))) (tC (.int 1))) tNil))) tNil)))) (tCall (sp_law_draw K) [] E0 (tCons (tVar 0) (tCons (tC (.int 3)) tNil)))) (gName 2))
 (tRet (tCB (rTupleU K) (tCons (tLc (iRng1 (tCons (tVar 2) tNil)) (gName 7) tYes (tCall (sp_law_thing K n) [] E0 (tCons (tVar 0) (tCons (tOp (rIxU K) (tVar 1) (tC (.int 2))) tNil))) [7]) tNil))))
 tNext)
 (tSeq (tIfS (tTest (tOp (rEqU K) (tOp (rIxU K) (tVar 1) (tC (.int 0))) (tC (.str (PySem.Str.ofString "maybe")))))
 (tRet (tIf (tTest (tOp (rEqU K) (tCall (sp_law_draw K) [] E0 (tCons (tVar 0) (tCons (tC (.int 3)) tNil))) (tC (.int 0)))) (tC .non) (tCall (sp_law_thing K n) [] E0 (tCons (tVar 0) (tCons (tOp (rIxU K) (tVar 1) (tC (.int 1))) tNil)))))
 tNext)
 (tSeq (tAsg (tOp rSubU (tOp rPowU (tC (.int 10)) (tC (.int 60))) (tC (.int 1))) (gName 3))
 (tSeq (tAsg (tIf (tTest (tOp rIsNU (tOp (rIxU K) (tVar 1) (tC (.int 1))) (tC .non))) (tOp rSubU (tC (.int 0)) (tVar 3)) (tOp (rIxU K) (tVar 1) (tC (.int 1)))) (gName 4))
 (tSeq (tAsg (tIf (tTest (tOp rIsNU (tOp (rIxU K) (tVar 1) (tC (.int 2))) (tC .non))) (tVar 3) (tOp (rIxU K) (tVar 1) (tC (.int 2)))) (gName 5))
 (tSeq (tAsg (tLst (tCons (tVar 4) (tCons (tVar 5) (tCons (tCB rMin2U (tCons (tVar 5) (tCons (tCB rMax2U (tCons (tVar 4) (tCons (tC (.int 0)) tNil))) tNil))) (tCons (tOp (rAddU K) (tVar 4) (tCall (sp_law_draw K) [] E0 (tCons (tVar 0) (tCons (tOp (rAddU K) (tOp rSubU (tVar 5) (tVar 4)) (tC (.int 1))) tNil)))) (tCons (tCB rMin2U (tCons (tVar 5) (tCons (tOp (rAddU K) (tVar 4) (tC (.int 1))) tNil))) tNil)))))) (gName 6))
 (tRet (tOp (rIxU K) (tVar 6) (tCall (sp_law_draw K) [] E0 (tCons (tVar 0) (tCons (tC (.int 5)) tNil)))))))))))))
def t_law_within (K : PySem.W.Frag) : TS :=
 (tRet (tAndV (tOrV (tOp rIsNU (tVar 1) (tC .non)) (tOp rLeU (tVar 1) (tVar 0))) (tOrV (tOp rIsNU (tVar 2) (tC .non)) (tOp rLeU (tVar 0) (tVar 2)))))
@[irreducible] def b_law_due_2 (K : PySem.W.Frag) (n : Nat) : TS :=
 (tSeq (tAsg (tLst tNil) (gName 4))
 (tSeq (tFor (iEnumV K (tVar 3)) (gTup K 2 (gCons (gName 5) (gCons (gName 6) gNil)))
 (tSeq (tAsg (tCall (sp_law_due K n) [] E0 (tCons (tOp (rAddA K) (tVar 0) (tTup (tCons (tVar 5) tNil))) (tCons (tOp (rIxU K) (tVar 1) (tC (.int 2))) (tCons (tOp (rIxU K) (tVar 2) (tC (.int 2))) (tCons (tVar 6) tNil))))) (gName 7))
 (tSeq (tIfS (tTest (tOp (rEqU K) (tOp (rIxU K) (tVar 7) (tC (.int 0))) (tC (.str (PySem.Str.ofString "refused")))))
 (tRet (tVar 7))
 tNext)
 (tDrop (tBM K "list" rAppU (tVar 4) (tCons (tOp (rIxU K) (tVar 7) (tC (.int 1))) tNil))))))
 (tRet (tTup (tCons (tC (.str (PySem.Str.ofString "told"))) (tCons (tCB (rTupleU K) (tCons (tVar 4) tNil)) tNil))))))
@[irreducible] def b_law_due_1 (K : PySem.W.Frag) (n : Nat) : TS :=
 (tSeq (tIfS (tTest (tOp (rNeU K) (tOp (rIxU K) (tVar 1) (tC (.int 0))) (tOp (rIxU K) (tVar 2) (tC (.int 0)))))
 (tRet (tTup (tCons (tC (.str (PySem.Str.ofString "refused"))) (tCons (tVar 0) (tCons (tC (.str (PySem.Str.ofString "sort"))) tNil)))))
 tNext)
 (tSeq (tIfS (tAnd (tTest (tOp (rEqU K) (tOp (rIxU K) (tVar 1) (tC (.int 0))) (tC (.str (PySem.Str.ofString "number"))))) (tNot (tTru K (tCall (sp_law_within K) [] E0 (tCons (tVar 3) (tCons (tOp (rIxU K) (tVar 2) (tC (.int 1))) (tCons (tOp (rIxU K) (tVar 2) (tC (.int 2))) tNil)))))))
 (tRet (tTup (tCons (tC (.str (PySem.Str.ofString "refused"))) (tCons (tVar 0) (tCons (tC (.str (PySem.Str.ofString "bounds"))) tNil)))))
 tNext)
 (tSeq (tIfS (tAnd (tTest (tOp (rInU K) (tOp (rIxU K) (tVar 1) (tC (.int 0))) (tLst (tCons (tC (.str (PySem.Str.ofString "text"))) (tCons (tC (.str (PySem.Str.ofString "row"))) tNil))))) (tTest (tOp rGtU (tCB (rLenU K) (tCons (tVar 3) tNil)) (tOp (rIxU K) (tVar 2) (tC (.int 1))))))
 (tRet (tTup (tCons (tC (.str (PySem.Str.ofString "refused"))) (tCons (tVar 0) (tCons (tC (.str (PySem.Str.ofString "most"))) tNil)))))
 tNext)
 (tSeq (tIfS (tTest (tOp (rNeU K) (tOp (rIxU K) (tVar 1) (tC (.int 0))) (tC (.str (PySem.Str.ofString "row")))))
 (tRet (tTup (tCons (tC (.str (PySem.Str.ofString "told"))) (tCons (tVar 3) tNil))))
 tNext)
 (b_law_due_2 K n)))))
@[irreducible] def b_law_due_0 (K : PySem.W.Frag) (n : Nat) : TS :=
 (tSeq (tIfS (tTest (tOp (rEqU K) (tOp (rIxU K) (tVar 2) (tC (.int 0))) (tC (.str (PySem.Str.ofString "maybe")))))
 (tAsg (tOp (rIxU K) (tVar 2) (tC (.int 1))) (gName 2))
 tNext)
 (b_law_due_1 K n))
def t_law_due (K : PySem.W.Frag) (n : Nat) : TS :=
 (tSeq (tIfS (tTest (tOp (rEqU K) (tOp (rIxU K) (tVar 1) (tC (.int 0))) (tC (.str (PySem.Str.ofString "maybe")))))
 (tSeq (tIfS (tTest (tOp rIsNU (tVar 3) (tC .non)))
 (tRet (tIf (tTest (tOp (rEqU K) (tOp (rIxU K) (tVar 2) (tC (.int 0))) (tC (.str (PySem.Str.ofString "maybe"))))) (tTup (tCons (tC (.str (PySem.Str.ofString "told"))) (tCons (tC .non) tNil))) (tTup (tCons (tC (.str (PySem.Str.ofString "refused"))) (tCons (tVar 0) (tCons (tC (.str (PySem.Str.ofString "nothing"))) tNil))))))
 tNext)
 (tPar 0 1 (tCons (tOp (rAddA K) (tVar 0) (tTup (tCons (tTup (tCons (tC (.str (PySem.Str.ofString "inside"))) tNil)) tNil))) (tCons (tOp (rIxU K) (tVar 1) (tC (.int 1))) tNil))))
 tNext)
 (b_law_due_0 K n))
def t_law_same (K : PySem.W.Frag) (n : Nat) : TS :=
 (tSeq (tIfS (tTru K (tCB (rIsiU K) (tCons (tVar 1) (tCons (tC (.ty "tuple")) tNil))))
 (tSeq (tIfS (tOr (tNot (tTru K (tCB (rIsiU K) (tCons (tVar 0) (tCons (tC (.ty "tuple")) tNil))))) (tTest (tOp (rNeU K) (tCB (rLenU K) (tCons (tVar 0) tNil)) (tCB (rLenU K) (tCons (tVar 1) tNil)))))
 (tRet (tC (.bl false)))
 tNext)
 (tRet (tCB (rAllU K) (tCons (tLc (RZ.iZipA K (tCons (tVar 0) (tCons (tVar 1) tNil))) (gTup K 2 (gCons (gName 2) (gCons (gName 3) gNil))) tYes (tCall (sp_law_same K n) [] E0 (tCons (tVar 2) (tCons (tVar 3) tNil))) [2, 3]) tNil))))
 tNext)
 (tSeq (tIfS (tTest (tOp rIsNU (tVar 1) (tC .non)))
 (tRet (tOp rIsNU (tVar 0) (tC .non)))
 tNext)
 (tSeq (tIfS (tTru K (tCB (rIsiU K) (tCons (tVar 1) (tCons (tC (.ty "str")) tNil))))
 (tRet (tAndV (tCB (rIsiU K) (tCons (tVar 0) (tCons (tC (.ty "str")) tNil))) (tOp (rEqU K) (tVar 0) (tVar 1))))
 tNext)
 (tRet (tAndV (tCB (rIsiU K) (tCons (tVar 0) (tCons (tC (.ty "int")) tNil))) (tAndV (tOp (rEqU K) (tCB (rIsiU K) (tCons (tVar 0) (tCons (tC (.ty "bool")) tNil))) (tCB (rIsiU K) (tCons (tVar 1) (tCons (tC (.ty "bool")) tNil)))) (tOp (rEqU K) (tVar 0) (tVar 1))))))))
def t_law_found (K : PySem.W.Frag) : TS :=
 (tSeq (tTryAs K (.ref (cAt K "WireError")) 4 (fun W => (tAsg (tCallS (sp_turned K) (WE W) (tCons (tVar 0) (tCons (tVar 1) (tCons (tVar 2) tNil)))) (gName 3))) (fun a cls d =>
 (tSeq (tAsg (tCB (rIsX2 K a cls d) (tCons (tVar 4) (tCons (tTup (tCons (tC (.ref (cAt K "NoBytes"))) (tCons (tC (.ref (cAt K "NoEdition"))) (tCons (tC (.ref (cAt K "NoLine"))) (tCons (tC (.ref (cAt K "NoMeeting"))) (tCons (tC (.ref (cAt K "NoQuestion"))) (tCons (tC (.ref (cAt K "NoSchema"))) (tCons (tC (.ref (cAt K "NoText"))) (tCons (tC (.ref (cAt K "NoThing"))) (tCons (tC (.ref (cAt K "NoWire"))) tNil)))))))))) tNil))) (gName 5))
 (tSeq (tIfS (tOr (tTru K (tVar 5)) (tOr (tNot (tTru K (tCB (rIsX2 K a cls d) (tCons (tVar 4) (tCons (tC (.ref (cAt K "NoTurn"))) tNil))))) (tNot (tTru K (tCB (rIsX2 K a cls d) (tCons (tVar 4) (tCons (tC (.ty "ValueError")) tNil)))))))
 (tRet (tTup (tCons (tC (.str (PySem.Str.ofString "another"))) (tCons (tC .non) tNil))))
 tNext)
 (tRet (tTup (tCons (tC (.str (PySem.Str.ofString "refused"))) (tCons (tXf a cls d (cAt K "NoTurn") "path" (tVar 4)) (tCons (tXf a cls d (cAt K "NoTurn") "why" (tVar 4)) tNil)))))))))
 (tRet (tTup (tCons (tC (.str (PySem.Str.ofString "told"))) (tCons (tVar 3) tNil)))))
def t_law (K : PySem.W.Frag) (C : Addr) (Pt : Tb) : TS :=
 (tSeq (tFor (iList K (tSl (rSlLU K) (tOp (rAddU K) (tVar 0) (tLst (tCons (tC (.int 0)) tNil))) tNoPart (tPart (tC (.int 8))))) (gName 1)
 (tSeq (tAsg (tLst (tCons (tVar 1) (tCons (tC (.int 0)) tNil))) (gName 2))
 (tSeq (tAsg (tCall (sp_law_sort K 3) [] E0 (tCons (tVar 2) (tCons (tC (.int 2)) tNil))) (gName 3))
 (tSeq (tAsg (tCall (sp_law_near K 4) [] E0 (tCons (tVar 2) (tCons (tVar 3) (tCons (tC (.int 2)) tNil)))) (gName 4))
 (tSeq (tAsg (tMakeK (cAt K "Schema") 1 1 (sp_Schema___init__ K Pt) (fun (vs zs : List V) => vs ++ ([("choices", .non)] : List (Str × V)).map (·.2) ++ zs) E0 (tCons tDNewK tNil) (tCons (tVar 3) tNil)) (gName 5))
 (tSeq (tAsg (tMakeK (cAt K "Schema") 1 1 (sp_Schema___init__ K Pt) (fun (vs zs : List V) => vs ++ ([("choices", .non)] : List (Str × V)).map (·.2) ++ zs) E0 (tCons tDNewK tNil) (tCons (tVar 4) tNil)) (gName 6))
 (tFor (iRng1 (tCons (tC (.int 4)) tNil)) (gName 7)
 (tSeq (tAsg (tCall (sp_law_thing K 4) [] E0 (tCons (tVar 2) (tCons (tVar 3) tNil))) (gName 8))
 (tSeq (tAsg (tCall (sp_law_due K 4) [] E0 (tCons (tTup tNil) (tCons (tVar 3) (tCons (tVar 4) (tCons (tVar 8) tNil))))) (gName 9))
 (tSeq (tIfS (tNot (tTru K (tCall (sp_law_same K 6) [] E0 (tCons (tCall (sp_law_found K) [] E0 (tCons (tVar 5) (tCons (tVar 6) (tCons (tVar 8) tNil)))) (tCons (tVar 9) tNil)))))
 (tRet (tC (.bl false)))
 tNext)
 (tIfS (tNot (tTru K (tCall (sp_law_same K 6) [] E0 (tCons (tCall (sp_law_found K) [] E0 (tCons (tVar 5) (tCons (tVar 5) (tCons (tVar 8) tNil)))) (tCons (tTup (tCons (tC (.str (PySem.Str.ofString "told"))) (tCons (tVar 8) tNil))) tNil)))))
 (tRet (tC (.bl false)))
 tNext)))))))))))
 (tRet (tC (.bl true))))
end K02

/-! ## the program's schemas: plain looks -/
namespace K02
open PySem PySem.Spec PyProof.Rows L2 Kb
theorem sqT_ty {K : PySem.W.Frag} {H : Hp} {a : Addr} {xs : List V} (h : SqT K H a xs) : TyX K H (.ref a) (.type "tuple") := by
  rcases h with (h | ⟨o, h⟩) | ⟨o, its, n, h, c, _⟩
  · exact .base (.tup h)
  · exact .fTuple h
  · exact .kTuple h c
section
variable {K : PySem.W.Frag} {H : Hp} {Q : VK} {E : XK} {i l h : Int} {p w : V} {M : List Addr} {H' : Hp} {a : Addr} {xs : List V}
theorem whole_go (q : Q (.bl true) H) : sp_is_whole K [.int i] H Q E := by unfold sp_is_whole; exact ⟨i, rfl, q⟩
theorem within_go {lo hi : Option Int} (q : Q (.bl ((lo.all fun l => decide (l ≤ i)) && hi.all fun h => decide (i ≤ h))) H) : sp_is_within K [.int i, oV lo, oV hi] H Q E := by unfold sp_is_within; exact ⟨i, lo, hi, rfl, q⟩
theorem within_ss (q : Q (.bl (decide (l ≤ i) && decide (i ≤ h))) H) : sp_is_within K [.int i, .int l, .int h] H Q E := within_go (lo := some l) (hi := some h) q
theorem refuse_go (q : Q .non H) : sp_refuse_if K [.bl false, p, w] H Q E := by unfold sp_refuse_if; exact ⟨p, w, rfl, q⟩
theorem row_go (hx : Sq K H a xs) (q : ∀ H', Kp [] H H' → Q (.bl true) H') : sp_is_row K [.ref a] H Q E := by unfold sp_is_row; exact ⟨a, xs, rfl, hx, q⟩
theorem name_go {z : Str} (hz : NameOk z) (q : ∀ H', Kp [] H H' → Q (.bl true) H') : sp_is_name K [.str z] H Q E := by unfold sp_is_name; exact ⟨z, rfl, hz, q⟩
theorem known_go {kvs : List (L2.Key × V)} {k : Str} (hr : Rd H a (.dK kvs)) (hk : keyIn kvs k) (q : Q (.bl true) H) : sp_is_known K [.ref a, .str k] H Q E := by unfold sp_is_known; exact ⟨a, kvs, k, rfl, hr, hk, q⟩
theorem bounds_go {lo hi : Option Int} (hb : ∀ l h, lo = some l → hi = some h → l ≤ h) (q : ∀ H', Kp [] H H' → Q (.bl true) H') : sp_is_bounds K [oV lo, oV hi] H Q E := by unfold sp_is_bounds; exact ⟨lo, hi, rfl, hb, q⟩
theorem Sq.kp (h : Sq K H a xs) (k : Kp M H H') (n : a ∉ M) : Sq K H' a xs := by
  rcases h with h | h
  · exact .inl (k.at_ n h)
  · exact .inr (k.sqT n h)
theorem Rd.kp {u : HO} (r : Rd H a u) (k : Kp [] H H') : Rd H' a u := by
  rcases r with r | ⟨o, r⟩
  · exact .inl (k.at_ List.not_mem_nil r)
  · exact .inr ⟨o, k.at_ List.not_mem_nil r⟩
end
section
variable {K : PySem.W.Frag} {H : Hp} {Q : VK} {a : Addr} {x y z : V} {r : List V}
theorem at0 {α : Type} (x : α) (r : List α) : atI (x :: r) 0 = some x := by
  have := atI_nat (xs := x :: r) (j := 0) (v := x) rfl
  exact this
theorem at1 {α : Type} (x y : α) (r : List α) : atI (x :: y :: r) 1 = some y := by
  have := atI_nat (xs := x :: y :: r) (j := 1) (v := y) rfl
  exact this
theorem at2 {α : Type} (x y z : α) (r : List α) : atI (x :: y :: z :: r) 2 = some z := by
  have := atI_nat (xs := x :: y :: z :: r) (j := 2) (v := z) rfl
  exact this
theorem ixT0_go (h : SqT K H a (x :: r)) (q : Q x H) : rIxU K (.ref a) (.int 0) H Q := ixT_go h (at0 x r) q
theorem ixT1_go (h : SqT K H a (x :: y :: r)) (q : Q y H) : rIxU K (.ref a) (.int 1) H Q := ixT_go h (at1 x y r) q
theorem ixT2_go (h : SqT K H a (x :: y :: z :: r)) (q : Q z H) : rIxU K (.ref a) (.int 2) H Q := ixT_go h (at2 x y z r) q
end
theorem len_is_whole (K : PySem.W.Frag) : ∀ vs H Q E, sp_is_whole K vs H Q E → vs.length = ["thing"].length := by
  intro _ _ _ _ h
  unfold sp_is_whole at h
  obtain ⟨_, rfl, _⟩ := h
  rfl
theorem p_is_whole (K : PySem.W.Frag) (vs : List V) (H : Hp) (Q : VK) (E : XK) (h : sp_is_whole K vs H Q E) : t_is_whole K { nx := fun _ H' => Q .non H', rt := Q } (start ["thing"] vs) H := by
  unfold sp_is_whole at h
  obtain ⟨i, rfl, q⟩ := h
  walk_at "go"
  exact q
theorem len_is_within (K : PySem.W.Frag) : ∀ vs H Q E, sp_is_within K vs H Q E → vs.length = ["thing", "low", "high"].length := by
  intro _ _ _ _ h
  unfold sp_is_within at h
  obtain ⟨_, _, _, rfl, _⟩ := h
  rfl
theorem p_is_within (K : PySem.W.Frag) (vs : List V) (H : Hp) (Q : VK) (E : XK) (h : sp_is_within K vs H Q E) : t_is_within K { nx := fun _ H' => Q .non H', rt := Q } (start ["thing", "low", "high"] vs) H := by
  unfold sp_is_within at h
  obtain ⟨i, lo, hi, rfl, q⟩ := h
  cases lo with
  | none =>
    cases hi with
    | none =>
      dsimp only [oV]
      walk_at "go"
      refine whole_go ?_
      walk_at "go"
      · exact q
      · exact absurd rfl (by assumption)
    | some h =>
      dsimp only [oV]
      walk_at "go"
      refine whole_go ?_
      walk_at "go"
      exact q
  | some l =>
    cases hi with
    | none =>
      dsimp only [oV]
      walk_at "go"
      refine whole_go ?_
      walk_at "go"
      · rename_i c
        have e : decide (l ≤ i) = false := decide_eq_false (by omega)
        have q' := q
        simp [e] at q'
        exact q'
      · rename_i c
        have e : decide (l ≤ i) = true := decide_eq_true (by omega)
        have q' := q
        simp [e] at q'
        exact q'
      · exact absurd rfl (by assumption)
    | some h =>
      dsimp only [oV]
      walk_at "go"
      refine whole_go ?_
      walk_at "go"
      · rename_i c
        have e : decide (l ≤ i) = false := decide_eq_false (by omega)
        have q' := q
        simp [e] at q'
        exact q'
      · rename_i c
        have e : decide (l ≤ i) = true := decide_eq_true (by omega)
        have q' := q
        simp [e] at q'
        exact q'
theorem letter {c : Nat} (h : 97 ≤ c ∧ c ≤ 122) : c ∈ (PySem.Str.ofString "abcdefghijklmnopqrstuvwxyz").cps.toList := by
  have e : (PySem.Str.ofString "abcdefghijklmnopqrstuvwxyz").cps.toList = List.range' 97 26 := by decide +kernel
  rw [e, List.mem_range'_1]
  omega
theorem cut_from3 (xs : List V) (l : 3 ≤ xs.length) : cutV xs (some 3) none = xs.drop 3 := by
  unfold cutV
  rw [show (some 3 : Option Int) = some ((3 : Nat) : Int) from rfl, HT.sIx_nat, show HT.sIx xs.length xs.length none = xs.length from rfl, Nat.min_eq_left l]
  exact List.take_of_length_le (by rw [List.length_drop]; omega)
theorem len_is_row (K : PySem.W.Frag) : ∀ vs H Q E, sp_is_row K vs H Q E → vs.length = ["thing"].length := by
  intro _ _ _ _ h
  unfold sp_is_row at h
  obtain ⟨_, _, rfl, _⟩ := h
  rfl
theorem p_is_row (K : PySem.W.Frag) (vs : List V) (H : Hp) (Q : VK) (E : XK) (h : sp_is_row K vs H Q E) : t_is_row K { nx := fun _ H' => Q .non H', rt := Q } (start ["thing"] vs) H := by
  unfold sp_is_row at h
  obtain ⟨a, xs, rfl, h | h, q⟩ := h
  · walk_at "go"
    exact q _ (Kp.refl.upd_new' (by assumption))
  · walk_at "go"
    rename_i p np
    have ty := sqT_ty ((Kp.refl.upd_new' (o := .tup [.ty "list", .ty "tuple"]) np).sqT List.not_mem_nil h)
    refine isi2_go upd_same ty ki_tuple_list ki_tuple_tuple ?_
    exact q _ (Kp.refl.upd_new' np)
theorem len_left_of (K : PySem.W.Frag) : ∀ vs H Q E, sp_left_of K vs H Q E → vs.length = ["field"].length := by
  intro _ _ _ _ h
  unfold sp_left_of at h
  obtain ⟨_, _, rfl, _⟩ := h
  rfl
theorem p_left_of (K : PySem.W.Frag) (vs : List V) (H : Hp) (Q : VK) (E : XK) (h : sp_left_of K vs H Q E) : t_left_of K { nx := fun _ H' => Q .non H', rt := Q } (start ["field"] vs) H := by
  unfold sp_left_of at h
  obtain ⟨a, xs, rfl, hx, l, q⟩ := h
  walk_at "go"
  refine ⟨a, xs, rfl, hx, fun e => ?_, fun _ p np => ?_⟩
  · exfalso
    have e1 := e.1
    rw [show (some 3 : Option Int) = some ((3 : Nat) : Int) from rfl, HT.sIx_nat] at e1
    omega
  · have e := cut_from3 xs l
    refine q _ p (Kp.refl.upd_new' np) (SqT.of ?_)
    rw [upd_same]
    exact congrArg (fun y => some (HO.tup y)) e
theorem len_is_name (K : PySem.W.Frag) : ∀ vs H Q E, sp_is_name K vs H Q E → vs.length = ["thing"].length := by
  intro _ _ _ _ h
  unfold sp_is_name at h
  obtain ⟨_, rfl, _⟩ := h
  rfl
theorem p_is_name (K : PySem.W.Frag) (vs : List V) (H : Hp) (Q : VK) (E : XK) (h : sp_is_name K vs H Q E) : t_is_name K { nx := fun _ H' => Q .non H', rt := Q } (start ["thing", "sign"] vs) H := by
  unfold sp_is_name at h
  obtain ⟨z, rfl, hz, q⟩ := h
  obtain ⟨z1, z2, z3⟩ := hz
  have n1 : (1 : Int) ≤ (z.length : Int) := by omega
  have n2 : (z.length : Int) ≤ 8 := by omega
  walk_at "go"
  · rename_i c
    exact absurd n2 c
  · rename_i D nD
    refine lc_acc walk_str (fun i acc H' => acc = List.replicate i (V.bl true) ∧ Kp [] H H') ⟨rfl, Kp.refl.upd_new' nD⟩ (fun _ _ _ _ _ => trivial) (fun i x acc Hc Hb hi hl hD hP hY => ?_) (fun acc Hc hl hD hP => ?_)
    · obtain ⟨rfl, kc⟩ := hP
      obtain ⟨rfl, c, hc, rfl⟩ := hY
      refine ⟨rfl, ?_⟩
      walk_at "go"
      have hm : c ∈ z.cps.toList := by
        rw [← Array.getElem?_toList] at hc
        exact List.mem_of_getElem? hc
      have hin := letter (z3 c hm)
      rw [decide_eq_true hin]
      refine acc_go hl (by have : i < z.length := hi; omega) hD ⟨by rw [List.replicate_succ'], kc.upd_new nD⟩
    · obtain ⟨rfl, kc⟩ := hP
      walk_at "go"
      refine all_go (bs := List.replicate z.cps.size true) (SqL.of (by rw [List.map_replicate]; exact hD)) ?_
      rw [show (List.replicate z.cps.size true).all id = true from by simp]
      exact q _ kc
  · rename_i c
    exact absurd n1 c
theorem len_is_bounds (K : PySem.W.Frag) : ∀ vs H Q E, sp_is_bounds K vs H Q E → vs.length = ["low", "high"].length := by
  intro _ _ _ _ h
  unfold sp_is_bounds at h
  obtain ⟨_, _, rfl, _⟩ := h
  rfl
theorem p_is_bounds (K : PySem.W.Frag) (vs : List V) (H : Hp) (Q : VK) (E : XK) (h : sp_is_bounds K vs H Q E) : t_is_bounds K { nx := fun _ H' => Q .non H', rt := Q } (start ["low", "high", "one"] vs) H := by
  unfold sp_is_bounds at h
  obtain ⟨lo, hi, rfl, hb, q⟩ := h
  walk_at "go"
  rename_i p np
  have ne : ∀ (o : Option Int), (∃ i, oV o = .int i ∧ o = some i) ∨ (oV o = .non ∧ o = none) := fun o => by cases o <;> simp [oV]
  refine ⟨⟨_, SqT.of upd_same⟩, fun D nD => ?_⟩
  have pD : p ≠ D := ne_of_none upd_same nD
  have k1 : Kp [] H (upd H p (.tup [oV lo, oV hi])) := Kp.refl.upd_new' np
  have nDH := k1.none_of List.not_mem_nil nD
  refine lc_acc (walk_tup (xs := [oV lo, oV hi])) (fun i acc H' => acc = List.replicate i (V.bl true) ∧ Kp [] H H' ∧ H' p = some (.tup [oV lo, oV hi])) ⟨rfl, k1.upd_new' nD, (upd_ne pD).trans upd_same⟩ (fun _ _ _ _ h => SqT.of h.2.2) (fun i x acc Hc Hb hi' hl hD hP hY => ?_) (fun acc Hc hl hD hP => ?_)
  · obtain ⟨rfl, kc, hp⟩ := hP
    obtain ⟨rfl, e⟩ := hY
    have hx : ∃ o, x = oV o := by
      have := List.mem_of_getElem? e
      simp only [List.mem_cons, List.not_mem_nil, or_false] at this
      rcases this with rfl | rfl <;> exact ⟨_, rfl⟩
    obtain ⟨o, rfl⟩ := hx
    refine ⟨rfl, ?_⟩
    have fin : (∃ acc, Hb D = some (.lst acc) ∧ acc.length < sizeLine ∧ Acc D (fun i acc H' => acc = List.replicate i (V.bl true) ∧ Kp [] H H' ∧ H' p = some (.tup [oV lo, oV hi])) (i + 1) (upd Hb D (.lst (acc ++ [.bl true])))) :=
      acc_go hl (by have : i < 2 := hi'; omega) hD ⟨by rw [List.replicate_succ'], kc.upd_new nDH, (upd_ne pD).trans hp⟩
    rcases ne o with ⟨j, e1, _⟩ | ⟨e1, _⟩
    · rw [e1]
      walk_at "go"
      refine whole_go ?_
      exact fin
    · rw [e1]
      walk_at "go"
      · exact fin
      · exact absurd rfl (by assumption)
  · obtain ⟨rfl, kc, hp⟩ := hP
    walk_at "go"
    refine all_go (bs := List.replicate 2 true) (SqL.of hD) ?_
    walk_at "go"
    all_goals try exact q _ kc
    rcases ne lo with ⟨l, e1, e2⟩ | ⟨e1, _⟩
    · rcases ne hi with ⟨h, e3, e4⟩ | ⟨e3, _⟩
      · rw [e1, e3]
        refine le_go ?_
        rw [decide_eq_true (hb l h e2 e4)]
        exact q _ kc
      · exact absurd e3 (by assumption)
    · exact absurd e1 (by assumption)
theorem len_is_known (K : PySem.W.Frag) : ∀ vs H Q E, sp_is_known K vs H Q E → vs.length = ["names", "thing"].length := by
  intro _ _ _ _ h
  unfold sp_is_known at h
  obtain ⟨_, _, _, rfl, _⟩ := h
  rfl
theorem p_is_known (K : PySem.W.Frag) (vs : List V) (H : Hp) (Q : VK) (E : XK) (h : sp_is_known K vs H Q E) : t_is_known K { nx := fun _ H' => Q .non H', rt := Q } (start ["names", "thing"] vs) H := by
  unfold sp_is_known at h
  obtain ⟨a, kvs, k, rfl, hr, ⟨v, hv⟩, q⟩ := h
  walk_at "go"
  refine ⟨a, some v, rfl, .inl ⟨kvs, .inr k, hr, rfl, hv.symm⟩, ?_⟩
  exact q
end K02

/-! steps of k02 -/
local macro_rules | `(tactic| walk_at "tk") => `(tactic| first
  | (refine' K02.whole_go ?kq)
  | (refine' K02.within_ss ?kq)
  | (refine' K02.refuse_go ?kq)
  | (refine' K02.ixT0_go ?k1 ?kq; (case k1 => assumption))
  | (refine' K02.ixT1_go ?k1 ?kq; (case k1 => assumption))
  | (refine' K02.ixT2_go ?k1 ?kq; (case k1 => assumption))
  | fail)
local macro_rules | `(tactic| walk_at "go") => `(tactic| repeat' first | walk_at "tk" | walk_at "s")

/-! ## the program's schemas: sorts and parts looked at -/
namespace K02
open PySem PySem.Spec PyProof.Rows L2 Kb
section
variable {K : PySem.W.Frag} {H H' : Hp} {x : V} {M : List Addr}
theorem srt_head : ∀ {s : Srt}, SrtV K H s x → ∃ a w r, x = .ref a ∧ SqT K H a (.str w :: r)
  | .num _ _, ⟨a, h, g⟩ => ⟨a, _, _, h, g⟩
  | .truth, ⟨a, h, g⟩ => ⟨a, _, _, h, g⟩
  | .text _, ⟨a, h, g⟩ => ⟨a, _, _, h, g⟩
  | .row _ _, ⟨a, _, h, g, _⟩ => ⟨a, _, _, h, g⟩
  | .maybe _, ⟨a, _, h, g, _⟩ => ⟨a, _, _, h, g⟩
  | .node _, ⟨a, h, g⟩ => ⟨a, _, _, h, g⟩
  | .pick _, ⟨a, h, g⟩ => ⟨a, _, _, h, g⟩
theorem srt_word : ∀ {s : Srt}, SrtV K H s x → (∀ s', s ≠ .maybe s') → ∃ a w r, x = .ref a ∧ SqT K H a (.str w :: r) ∧ w ≠ "maybe"
  | .num _ _, ⟨a, h, g⟩, _ => ⟨a, _, _, h, g, by decide +kernel⟩
  | .truth, ⟨a, h, g⟩, _ => ⟨a, _, _, h, g, by decide +kernel⟩
  | .text _, ⟨a, h, g⟩, _ => ⟨a, _, _, h, g, by decide +kernel⟩
  | .row _ _, ⟨a, _, h, g, _⟩, _ => ⟨a, _, _, h, g, by decide +kernel⟩
  | .maybe s, _, n => absurd rfl (n s)
  | .node _, ⟨a, h, g⟩, _ => ⟨a, _, _, h, g, by decide +kernel⟩
  | .pick _, ⟨a, h, g⟩, _ => ⟨a, _, _, h, g, by decide +kernel⟩
theorem SrtV.kp0 (k : Kp [] H H') : ∀ {s : Srt} {x : V}, SrtV K H s x → SrtV K H' s x
  | .num _ _, _, ⟨a, h, g⟩ => ⟨a, h, k.sqT List.not_mem_nil g⟩
  | .truth, _, ⟨a, h, g⟩ => ⟨a, h, k.sqT List.not_mem_nil g⟩
  | .text _, _, ⟨a, h, g⟩ => ⟨a, h, k.sqT List.not_mem_nil g⟩
  | .row _ _, _, ⟨a, y, h, g, r⟩ => ⟨a, y, h, k.sqT List.not_mem_nil g, r.kp0 k⟩
  | .maybe _, _, ⟨a, y, h, g, r⟩ => ⟨a, y, h, k.sqT List.not_mem_nil g, r.kp0 k⟩
  | .node _, _, ⟨a, h, g⟩ => ⟨a, h, k.sqT List.not_mem_nil g⟩
  | .pick _, _, ⟨a, h, g⟩ => ⟨a, h, k.sqT List.not_mem_nil g⟩
end
theorem no_is_sort (K : PySem.W.Frag) {vs : List V} {H : Hp} {Q : VK} {E : XK} (h : sp_is_sort K 0 vs H Q E) : False := by
  unfold sp_is_sort at h
  exact h
theorem sort_go {K : PySem.W.Frag} {n : Nat} {ka ca : Addr} {x : V} {deep : Int} {kk ck : List (L2.Key × V)} {s : Srt} {H : Hp} {Q : VK} {E : XK} (hk : Rd H ka (.dK kk)) (hc : Rd H ca (.dK ck)) (hs : SrtV K H s x) (ok : s.ok (keyIn kk) (keyIn ck) n) (d0 : 0 ≤ deep) (d3 : deep + n ≤ 3)
    (q : ∀ H', Kp [] H H' → Q (.bl true) H') : sp_is_sort K (n + 1) [.ref ka, .ref ca, x, .int deep] H Q E := by
  unfold sp_is_sort
  exact ⟨ka, ca, x, deep, kk, ck, s, rfl, hk, hc, hs, ok, d0, d3, q⟩
theorem len_is_sort (K : PySem.W.Frag) (n : Nat) : ∀ vs H Q E, sp_is_sort K (n + 1) vs H Q E → vs.length = ["kinds", "choices", "thing", "deep"].length := by
  intro _ _ _ _ h
  unfold sp_is_sort at h
  obtain ⟨_, _, _, _, _, _, _, rfl, _⟩ := h
  rfl
theorem sort_front {K : PySem.W.Frag} {n : Nat} {H : Hp} {D : Ends} {ka ca a : Addr} {deep : Int} {w : Str} {r : List V} (hx : SqT K H a (.str w :: r)) (d3 : deep ≤ 3)
    (q : ∀ H2 p2, Kp [] H H2 → H2 p2 = some (.lst r) → b_is_sort_0 K n D [some (.ref ka), some (.ref ca), some (.ref a), some (.int deep), some (.str w), some (.ref p2)] H2) :
    t_is_sort K n D (start ["kinds", "choices", "thing", "deep", "word", "rest"] [.ref ka, .ref ca, .ref a, .int deep]) H := by
  have ty := sqT_ty hx
  walk_at "go"
  · exfalso; omega
  · rename_i p np
    have k1 : Kp [] H (upd H p (.tup [])) := Kp.refl.upd_new' np
    have hx1 := k1.sqT List.not_mem_nil hx
    refine eqET_go hx1 (SqT.of upd_same) ?_
    generalize upd H p (.tup []) = H1 at k1 hx1 ⊢
    walk_at "go"
    refine ⟨a, _, rfl, hx1, by simp, fun p2 np2 => ?_⟩
    walk_at "go"
    exact q _ _ (k1.upd_new' np2) upd_same
theorem p_is_sort (K : PySem.W.Frag) (n : Nat) (vs : List V) (H : Hp) (Q : VK) (E : XK) (h : sp_is_sort K (n + 1) vs H Q E) : t_is_sort K n { nx := fun _ H' => Q .non H', rt := Q } (start ["kinds", "choices", "thing", "deep", "word", "rest"] vs) H := by
  unfold sp_is_sort at h
  obtain ⟨ka, ca, x, deep, kk, ck, s, rfl, hk, hc, hs, ok, d0, d3, q⟩ := h
  have d3' : deep ≤ 3 := by omega
  cases s with
  | num lo hi =>
    obtain ⟨a, rfl, hx⟩ := hs
    refine sort_front hx d3' fun H2 p2 k2 hp => ?_
    unfold b_is_sort_0
    walk_at "go"
    show sp_is_bounds K [oV lo, oV hi] _ _ _
    exact bounds_go (by unfold Srt.ok at ok; exact ok.1) fun H' k' => q _ (k2.trans k')
  | truth =>
    obtain ⟨a, rfl, hx⟩ := hs
    refine sort_front hx d3' fun H2 p2 k2 hp => ?_
    unfold b_is_sort_0
    walk_at "go"
    refine eqEL_go (SqL.of ((upd_ne (ne_of_none hp (by assumption))).trans hp)) (SqL.of upd_same) ?_
    exact q _ (k2.upd_new' (by assumption))
  | text m =>
    obtain ⟨a, rfl, hx⟩ := hs
    have ok' : 0 ≤ m ∧ m ≤ 40 := by unfold Srt.ok at ok; exact ok
    refine sort_front hx d3' fun H2 p2 k2 hp => ?_
    unfold b_is_sort_0
    walk_at "go"
    rw [decide_eq_true ok'.1, decide_eq_true ok'.2]
    exact q _ k2
  | row m s =>
    cases n with
    | zero =>
      unfold Srt.ok at ok
      exact ok.elim
    | succ n =>
      obtain ⟨a, y, rfl, hx, hs⟩ := hs
      have ok' : 0 ≤ m ∧ m ≤ 20 ∧ s.ok (keyIn kk) (keyIn ck) n := by unfold Srt.ok at ok; exact ok
      refine sort_front hx d3' fun H2 p2 k2 hp => ?_
      unfold b_is_sort_0
      walk_at "go"
      · show sp_is_sort K (n + 1) [.ref ka, .ref ca, y, .int (deep + 1)] H2 _ _
        exact sort_go (Rd.kp hk k2) (Rd.kp hc k2) (hs.kp0 k2) ok'.2.2 (by omega) (by omega) fun H' k' => q _ (k2.trans k')
      · rename_i c
        rw [decide_eq_true ok'.1, decide_eq_true ok'.2.1] at c
        cases c
  | maybe s =>
    cases n with
    | zero =>
      unfold Srt.ok at ok
      exact ok.elim
    | succ n =>
      obtain ⟨a, y, rfl, hx, hs⟩ := hs
      have ok' : s.ok (keyIn kk) (keyIn ck) n ∧ ∀ s', s ≠ .maybe s' := by unfold Srt.ok at ok; exact ok
      refine sort_front hx d3' fun H2 p2 k2 hp => ?_
      unfold b_is_sort_0
      walk_at "go"
      show sp_is_sort K (n + 1) [.ref ka, .ref ca, y, .int (deep + 1)] H2 _ _
      refine sort_go (Rd.kp hk k2) (Rd.kp hc k2) (hs.kp0 k2) ok'.1 (by omega) (by omega) fun H' k' => ?_
      have hp' := k'.at_ List.not_mem_nil hp
      obtain ⟨b, w, r, rfl, hb, hw⟩ := srt_word ((hs.kp0 k2).kp0 k') ok'.2
      walk_at "go"
      rw [decide_eq_false hw]
      exact q _ (k2.trans k')
  | node m =>
    obtain ⟨a, rfl, hx⟩ := hs
    have ok' : keyIn kk m := by unfold Srt.ok at ok; exact ok
    refine sort_front hx d3' fun H2 p2 k2 hp => ?_
    unfold b_is_sort_0
    walk_at "go"
    show sp_is_known K [.ref ka, .str m] H2 _ _
    refine known_go (Rd.kp hk k2) ok' ?_
    walk_at "go"
    exact q _ k2
  | pick m =>
    obtain ⟨a, rfl, hx⟩ := hs
    have ok' : keyIn ck m := by unfold Srt.ok at ok; exact ok
    refine sort_front hx d3' fun H2 p2 k2 hp => ?_
    unfold b_is_sort_0
    walk_at "go"
    show sp_is_known K [.ref ca, .str m] H2 _ _
    exact known_go (Rd.kp hc k2) ok' (q _ k2)
theorem len_is_default (K : PySem.W.Frag) : ∀ vs H Q E, sp_is_default K vs H Q E → vs.length = ["of", "thing"].length := by
  intro _ _ _ _ h
  unfold sp_is_default at h
  obtain ⟨_, _, _, rfl, _⟩ := h
  rfl
theorem p_is_default (K : PySem.W.Frag) (vs : List V) (H : Hp) (Q : VK) (E : XK) (h : sp_is_default K vs H Q E) : t_is_default K { nx := fun _ H' => Q .non H', rt := Q } (start ["of", "thing"] vs) H := by
  unfold sp_is_default at h
  obtain ⟨s, x, v, rfl, hs, hv, q⟩ := h
  cases s with
  | num lo hi =>
    obtain ⟨a, rfl, hx⟩ := hs
    obtain ⟨i, rfl, h1, h2, h3, h4⟩ := hv
    walk_at "go"
    show sp_is_within K [.int i, oV lo, oV hi] H _ _
    refine within_go ?_
    have e : ((lo.all fun l => decide (l ≤ i)) && hi.all fun h => decide (i ≤ h)) = true := by
      rw [Bool.and_eq_true]
      constructor
      · cases lo with
        | none => rfl
        | some l => exact decide_eq_true (h1 l rfl)
      · cases hi with
        | none => rfl
        | some l => exact decide_eq_true (h2 l rfl)
    rw [e]
    walk_at "go"
    have e2 : decide ((if i < 0 then -i else i) ≤ 999999999999999999999999999999999999999999999999999999999999) = true := decide_eq_true (by
      unfold GREAT at h3 h4
      split <;> omega)
    have q' := q _ Kp.refl
    rw [← e2] at q'
    exact q'
  | truth =>
    obtain ⟨a, rfl, hx⟩ := hs
    obtain ⟨b, rfl⟩ := hv
    walk_at "go"
    exact q _ Kp.refl
  | text m =>
    obtain ⟨a, rfl, hx⟩ := hs
    obtain ⟨z, rfl, h1, h2, _⟩ := hv
    walk_at "go"
    rw [decide_eq_true h1]
    exact q _ Kp.refl
  | row m s =>
    obtain ⟨a, y, rfl, hx, hs⟩ := hs
    obtain ⟨b, rfl, hb⟩ := hv
    have ty := sqT_ty hb
    walk_at "go"
    rename_i p np
    have k1 : Kp [] H (upd H p (.tup [])) := Kp.refl.upd_new' np
    exact eqET_go (k1.sqT List.not_mem_nil hb) (SqT.of upd_same) (q _ k1)
  | maybe s =>
    obtain ⟨a, y, rfl, hx, hs⟩ := hs
    obtain rfl : v = .non := hv
    walk_at "go"
    exact q _ Kp.refl
  | node k => exact hv.elim
  | pick k => exact hv.elim
theorem len_refuse_if (K : PySem.W.Frag) : ∀ vs H Q E, sp_refuse_if K vs H Q E → vs.length = ["truth", "path", "why"].length := by
  intro _ _ _ _ h
  unfold sp_refuse_if at h
  obtain ⟨_, _, rfl, _⟩ := h
  rfl
theorem p_refuse_if (K : PySem.W.Frag) (vs : List V) (H : Hp) (Q : VK) (E : XK) (h : sp_refuse_if K vs H Q E) : t_refuse_if K { nx := fun _ H' => Q .non H', rt := Q } (start ["truth", "path", "why"] vs) H := by
  unfold sp_refuse_if at h
  obtain ⟨p, w, rfl, q⟩ := h
  walk_at "go"
  exact q
theorem len_look_at_heading (K : PySem.W.Frag) : ∀ vs H Q E, sp_look_at_heading K vs H Q E → vs.length = ["word", "name", "row"].length := by
  intro _ _ _ _ h
  unfold sp_look_at_heading at h
  obtain ⟨_, _, _, _, rfl, _⟩ := h
  rfl
theorem p_look_at_heading (K : PySem.W.Frag) (vs : List V) (H : Hp) (Q : VK) (E : XK) (h : sp_look_at_heading K vs H Q E) : t_look_at_heading K { nx := fun _ H' => Q .non H', rt := Q } (start ["word", "name", "row"] vs) H := by
  unfold sp_look_at_heading at h
  obtain ⟨w, z, a, xs, rfl, hz, hx, q⟩ := h
  walk_at "go"
  show sp_is_name K [.str z] H _ _
  refine name_go hz fun H1 k1 => ?_
  walk_at "go"
  rename_i p np
  show sp_is_row K [.ref a] _ _ _
  have k2 := k1.upd_new' (o := .tup [.str w, .str z, .int (-1)]) np
  refine row_go (hx.kp k2 List.not_mem_nil) fun H2 k3 => ?_
  walk_at "go"
  exact q _ ((k2.trans k3).upd_new' (by assumption))
theorem inV_strs (z : Str) : ∀ zs : List Str, inV (.str z) (zs.map V.str) = decide (z ∈ zs)
  | [] => rfl
  | y :: zs => by
    have ih := inV_strs z zs
    unfold inV at ih ⊢
    rw [List.map_cons, List.any_cons, ih]
    show ((y == z) || decide (z ∈ zs)) = decide (z ∈ y :: zs)
    by_cases e : y = z
    · rw [e]
      simp
    · have e' : ¬ z = y := fun h => e h.symm
      simp [e, e']
section
variable {K : PySem.W.Frag} {H : Hp} {Q : VK} {a : Addr} {z : Str} {zs : List Str} {k : Int} {ns : List Int}
theorem inS_go (h : SqL K H a (zs.map V.str)) (q : Q (.bl (decide (z ∈ zs))) H) : rInU K (.str z) (.ref a) H Q := by
  refine inL_go h rfl (List.all_eq_true.mpr fun v hv => by obtain ⟨i, _, rfl⟩ := List.mem_map.mp hv; rfl) ?_
  rw [inV_strs]
  exact q
theorem notInIT_go (h : SqT K H a (ns.map V.int)) (q : Q (.bl (!decide (k ∈ ns))) H) : rNotInU K (.int k) (.ref a) H Q := by
  unfold rNotInU
  refine .inr ⟨_, _, rfl, .inr h, rfl, List.all_eq_true.mpr fun v hv => by obtain ⟨i, _, rfl⟩ := List.mem_map.mp hv; rfl, ?_⟩
  rw [inV_ints]
  exact q
theorem seqQ_go {n : Nat} {xs : List V} {σ : L2.St} {R : It → Hp → Prop} (e : σ[n]? = some (some (.ref a))) (h : Sq K H a xs) (q : ∀ J G, Walk J xs.length G (YAt xs) → (∀ H', Sq K H' a xs → Kp [] H H' → G H') → R J H) : iSeq K (tVar n) σ H R := by
  unfold iSeq
  rcases h with h | h
  · exact ⟨_, e, a, rfl, .inl ⟨xs, SqL.of h, q _ _ walk_list fun H' _ k => k.sqL List.not_mem_nil (SqL.of h)⟩⟩
  · exact ⟨_, e, a, rfl, .inr ⟨xs, h, q _ _ walk_tup fun H' _ k => k.sqT List.not_mem_nil h⟩⟩
end
theorem paired_at' {α β : Type} {R : α → β → Prop} : ∀ {xs : List α} {ys : List β} {i : Nat} {y : β}, Paired R xs ys → ys[i]? = some y → ∃ x, xs[i]? = some x ∧ R x y
  | _, _, 0, y, .cons a _, h => by
    simp only [List.getElem?_cons_zero, Option.some.injEq] at h ⊢
    exact ⟨_, rfl, h ▸ a⟩
  | _, _, i + 1, y, .cons _ t, h => by
    simp only [List.getElem?_cons_succ] at h ⊢
    exact paired_at' t h
theorem PartV.kp {K : PySem.W.Frag} {H H' : Hp} {p : Int × Str} {x : V} (k : Kp [] H H') (h : PartV K H p x) : PartV K H' p x := by
  obtain ⟨a, r, e, g⟩ := h
  exact ⟨a, r, e, k.sqT List.not_mem_nil g⟩
theorem heads_go {K : PySem.W.Frag} {H : Hp} {Q : VK} {ah : Addr} {xs : List V} {ps : List (Int × Str)} {u0 u1 u3 u4 : Option V} (b : Bool) (hah : Sq K H ah xs) (hp : Paired (PartV K H) ps xs) (hl : xs.length ≤ 1000)
    (q : ∀ H' D, Kp [] H H' → H' D = some (.lst (ps.map fun p => if b then .str p.2 else .int p.1)) → Q (.ref D) H') :
    tLc (iSeq K (tVar 2)) (gName 5) tYes (tOp (rIxU K) (tVar 5) (tC (.int (if b then 1 else 0)))) [5] [u0, u1, some (.ref ah), u3, u4, none] H Q := by
  have lp : ps.length = xs.length := paired_len hp
  refine seqQ_go rfl hah fun J G w hG => ?_
  intro D nD
  refine lc_acc w (fun i acc H' => acc = (ps.take i).map (fun p => if b then V.str p.2 else .int p.1) ∧ Kp [] H H') ⟨rfl, Kp.refl.upd_new' nD⟩ (fun i acc H' _ h => hG H' (hah.kp h.2 List.not_mem_nil) h.2) (fun i x acc Hc Hb hi hl' hD hP hY => ?_) (fun acc Hc hl' hD hP => ?_)
  · obtain ⟨rfl, kc⟩ := hP
    obtain ⟨rfl, e⟩ := hY
    obtain ⟨p, ep, hpv⟩ := paired_at' hp e
    obtain ⟨c, r, rfl, hc⟩ := hpv.kp kc
    refine ⟨rfl, ?_⟩
    have fin : (∃ acc, Hb D = some (.lst acc) ∧ acc.length < sizeLine ∧ Acc D (fun i acc H' => acc = (ps.take i).map (fun p => if b then V.str p.2 else .int p.1) ∧ Kp [] H H') (i + 1) (upd Hb D (.lst (acc ++ [if b then .str p.2 else .int p.1])))) :=
      acc_go hl' (by omega) hD ⟨by rw [List.take_add_one, ep]; simp, kc.upd_new nD⟩
    cases b with
    | true =>
      walk_at "go"
      exact fin
    | false =>
      walk_at "go"
      exact fin
  · obtain ⟨rfl, kc⟩ := hP
    rw [← lp, List.take_length] at hD
    exact q _ _ kc hD
theorem len_look_at_part (K : PySem.W.Frag) : ∀ vs H Q E, sp_look_at_part K vs H Q E → vs.length = ["path", "part", "ahead", "least", "lengths"].length := by
  intro _ _ _ _ h
  unfold sp_look_at_part at h
  obtain ⟨_, _, _, _, _, _, _, _, _, _, _, rfl, _⟩ := h
  rfl
theorem p_look_at_part (K : PySem.W.Frag) (vs : List V) (H : Hp) (Q : VK) (E : XK) (h : sp_look_at_part K vs H Q E) : t_look_at_part K { nx := fun _ H' => Q .non H', rt := Q } (start ["path", "part", "ahead", "least", "lengths", "other"] vs) H := by
  unfold sp_look_at_part at h
  obtain ⟨path, x, ah, ln, least, p, ps, xs, a, r, ls, rfl, rfl, hx, hl, hm, hah, hp, hxl, hn, n1, n2, l1, l2, q⟩ := h
  have ty := sqT_ty hx
  walk_at "go"
  refine notInIT_go hl ?_
  have e0 : decide ((((V.int p.1 :: V.str p.2 :: r).length : Nat) : Int) ∈ ls) = true := decide_eq_true (by
    rw [show (V.int p.1 :: V.str p.2 :: r).length = 2 + r.length from by simp only [List.length_cons]; omega]
    exact hm)
  rw [e0]
  walk_at "go"
  show sp_is_name K [.str p.2] H _ _
  refine name_go hn fun H1 k1 => ?_
  have hx1 := k1.sqT List.not_mem_nil hx
  walk_at "go"
  refine heads_go true (hah.kp k1 List.not_mem_nil) (paired_imp (fun _ _ h => h.kp k1) hp) hxl fun H2 D k2 hD => ?_
  refine inS_go (zs := ps.map (·.2)) (SqL.of (by rw [hD, List.map_map]; rfl)) ?_
  rw [decide_eq_false n1]
  have k12 := k1.trans k2
  have hx2 := k12.sqT List.not_mem_nil hx
  walk_at "go"
  rw [decide_eq_true l1, decide_eq_true l2]
  walk_at "go"
  refine heads_go false (hah.kp k12 List.not_mem_nil) (paired_imp (fun _ _ h => h.kp k12) hp) hxl fun H3 D3 k3 hD3 => ?_
  refine inI_go (ns := ps.map (·.1)) (SqL.of (by rw [hD3, List.map_map]; rfl)) ?_
  rw [decide_eq_false n2]
  walk_at "go"
  exact q _ (k12.trans k3)
end K02

/-! ## the program's schemas: a kind taken -/
namespace K02
open PySem PySem.Spec PyProof.Rows L2 Kb
open LamX (TabS)
section
variable {K : PySem.W.Frag} {H H' : Hp} {Q : VK} {E : XK} {a : Addr} {xs : List V} {M : List Addr}
theorem heading_go {w z : Str} (hz : NameOk z) (hx : Sq K H a xs) (q : ∀ H', Kp [] H H' → Q .non H') : sp_look_at_heading K [.str w, .str z, .ref a] H Q E := by
  unfold sp_look_at_heading
  exact ⟨w, z, a, xs, rfl, hz, hx, q⟩
theorem part_go {path : V} {c ah ln : Addr} {least : Int} {p : Int × Str} {ps : List (Int × Str)} {r : List V} {ls : List Int} (hx : SqT K H c (.int p.1 :: .str p.2 :: r)) (hl : SqT K H ln (ls.map V.int)) (hm : ((2 + r.length : Nat) : Int) ∈ ls) (hah : Sq K H ah xs) (hp : Paired (PartV K H) ps xs) (hxl : xs.length ≤ 1000)
    (hn : NameOk p.2) (n1 : p.2 ∉ ps.map (·.2)) (n2 : p.1 ∉ ps.map (·.1)) (l1 : least ≤ p.1) (l2 : p.1 ≤ 99) (q : ∀ H', Kp [] H H' → Q .non H') : sp_look_at_part K [path, .ref c, .ref ah, .int least, .ref ln] H Q E := by
  unfold sp_look_at_part
  exact ⟨path, .ref c, ah, ln, least, p, ps, xs, c, r, ls, rfl, rfl, hx, hl, hm, hah, hp, hxl, hn, n1, n2, l1, l2, q⟩
theorem left_go (hx : SqT K H a xs) (l : 3 ≤ xs.length) (q : ∀ H' p, Kp [] H H' → SqT K H' p (xs.drop 3) → Q (.ref p) H') : sp_left_of K [.ref a] H Q E := by
  unfold sp_left_of
  exact ⟨a, xs, rfl, hx, l, q⟩
theorem default_go {s : Srt} {x v : V} (hs : SrtV K H s x) (hv : DfOk K H s v) (q : ∀ H', Kp [] H H' → Q (.bl true) H') : sp_is_default K [x, v] H Q E := by
  unfold sp_is_default
  exact ⟨s, x, v, rfl, hs, hv, q⟩
theorem DfOk.kp0 (k : Kp [] H H') : ∀ {s : Srt} {v : V}, DfOk K H s v → DfOk K H' s v
  | .num _ _, _, h => h
  | .truth, _, h => h
  | .text _, _, h => h
  | .row _ _, _, ⟨a, e, h⟩ => ⟨a, e, k.sqT List.not_mem_nil h⟩
  | .maybe _, _, h => h
  | .node _, _, h => h
  | .pick _, _, h => h
theorem FldV.kp0 {f : Fld} {x : V} (k : Kp [] H H') (h : FldV K H f x) : FldV K H' f x := by
  obtain ⟨a, e, g⟩ := h.at_
  exact ⟨⟨a, e, k.sqT List.not_mem_nil g⟩, h.srt.kp0 k, fun v e => (h.dfl v e).kp0 k⟩
theorem FldV.part {f : Fld} {x : V} (h : FldV K H f x) : PartV K H (f.num, f.name) x := by
  obtain ⟨a, e, g⟩ := h.at_
  exact ⟨a, f.y :: f.dfl.toList, e, g⟩
theorem enumQ_go {n : Nat} {σ : L2.St} {R : It → Hp → Prop} (e : σ[n]? = some (some (.ref a))) (h : Sq K H a xs)
    (q : ∀ J G, Walk J xs.length G (fun i H v H' => ∃ T x, v = .ref T ∧ H T = none ∧ H' = upd H T (.tup [.int (0 + (i : Nat)), x]) ∧ xs[i]? = some x) → (∀ H', Kp [] H H' → G H') → R J H) : iEnumV K (tVar n) σ H R := by
  unfold iEnumV
  rcases h with h | h
  · exact ⟨_, e, a, rfl, .inl ⟨xs, SqL.of h, q _ _ (walk_enumS (S := fun H ys => SqL K H a ys)) fun H' k => k.sqL List.not_mem_nil (SqL.of h)⟩⟩
  · exact ⟨_, e, a, rfl, .inr ⟨xs, h, q _ _ (walk_enumS (S := fun H ys => SqT K H a ys)) fun H' k => k.sqT List.not_mem_nil h⟩⟩
theorem cut_take (xs : List V) {i : Nat} (l : i ≤ xs.length) : cutV xs none (some (i : Int)) = xs.take i := by
  unfold cutV
  rw [HT.sIx_nat, show HT.sIx xs.length 0 none = 0 from rfl, Nat.min_eq_left l]
  simp
theorem slQ_go {i : Nat} (h : Sq K H a xs) (l : i < xs.length) (q : ∀ H' p, Kp [] H H' → Sq K H' p (xs.take i) → Q (.ref p) H') : rSlV K (.ref a) none (some (i : Int)) H Q := by
  unfold rSlV
  rcases h with h | h
  · refine .inl (slL_go (SqL.of h) fun p np => ?_)
    rw [cut_take xs (by omega)]
    exact q _ p (Kp.refl.upd_new' np) (.inl upd_same)
  · refine .inr ⟨a, xs, rfl, h, fun e => ?_, fun _ p np => ?_⟩
    · have := e.2
      rw [HT.sIx_nat] at this
      omega
    · rw [cut_take xs (by omega)]
      exact q _ p (Kp.refl.upd_new' np) (.inr (SqT.of upd_same))
theorem tabS_kp {P : Addr} {q : Str} (t : TabS H P q) (k : Kp M H H') (n : P ∉ M) (nc : ∀ a ∈ M, ∀ c z, H a ≠ some (LamX.CodeO c z)) : TabS H' P q := by
  obtain ⟨ps, h1, h2, h3⟩ := t
  refine ⟨ps, k _ _ n h1, h2, fun pos cv hc => ?_⟩
  obtain ⟨c, e1, e2⟩ := h3 pos cv hc
  exact ⟨c, e1, k _ _ (fun z => nc c z _ _ e2) e2⟩
theorem tabS_no {P : Addr} {q : Str} (t : TabS H P q) : ∀ c z, H P ≠ some (LamX.CodeO c z) := fun c z e => by
  obtain ⟨ps, h1, _⟩ := t
  rw [h1] at e
  exact LamX.codeO_ne ps (Option.some.inj e).symm
theorem tabS_ne {P : Addr} {q : Str} {o : HO} (t : TabS H P q) (h : H a = some o) (n : ∀ ps, o ≠ .tbl ps) : a ≠ P := fun e => by
  obtain ⟨ps, h1, _⟩ := t
  rw [← e, h] at h1
  exact n ps (Option.some.inj h1)
theorem Tbl.kpA {Pt : Tb} (t : Tbl Pt H) (k : Kp [Pt.a] H H') (ta : TabS H' Pt.a qa) : Tbl Pt H' := ⟨ta, tabS_kp t.b k (fun m => t.ab (List.mem_singleton.mp m).symm) (fun a m => by rw [List.mem_singleton.mp m]; exact tabS_no t.a), t.ab⟩
theorem Tbl.kpB {Pt : Tb} (t : Tbl Pt H) (k : Kp [Pt.b] H H') (tb : TabS H' Pt.b qb) : Tbl Pt H' := ⟨tabS_kp t.a k (fun m => t.ab (List.mem_singleton.mp m)) (fun a m => by rw [List.mem_singleton.mp m]; exact tabS_no t.b), tb, t.ab⟩
theorem Tbl.updD {Pt : Tb} (t : Tbl Pt H) {D : Addr} {kvs : List (L2.Key × V)} {o : HO} (h : H D = some (.dK kvs)) : Tbl Pt (upd H D o) := by
  have kD : Kp [D] H (upd H D o) := Kp.refl.upd_in List.mem_cons_self
  have n : ∀ {P : Addr} {q : Str}, TabS H P q → P ∉ [D] := fun t m => tabS_ne t h (fun ps e => by cases e) (List.mem_singleton.mp m).symm
  have no : ∀ a ∈ [D], ∀ c z, H a ≠ some (LamX.CodeO c z) := fun a m c z e => by
    rw [List.mem_singleton.mp m, h] at e
    cases e
  exact ⟨tabS_kp t.a kD (n t.a) no, tabS_kp t.b kD (n t.b) no, t.ab⟩
theorem Tbl.kp {Pt : Tb} (t : Tbl Pt H) (k : Kp M H H') (n1 : Pt.a ∉ M) (n2 : Pt.b ∉ M) (nc : ∀ a ∈ M, ∀ φ, H a ≠ some (.ext φ)) : Tbl Pt H' := ⟨Kb.TabS.kp t.a k n1 nc, Kb.TabS.kp t.b k n2 nc, t.ab⟩
theorem Tbl.kp0 {Pt : Tb} (t : Tbl Pt H) (k : Kp [] H H') : Tbl Pt H' := t.kp k List.not_mem_nil List.not_mem_nil fun a m => nomatch m
theorem paired_take {α β : Type} {R : α → β → Prop} : ∀ {xs : List α} {ys : List β} (i : Nat), Paired R xs ys → Paired R (xs.take i) (ys.take i)
  | _, _, 0, _ => by simp; exact .nil
  | _, _, i + 1, .nil => .nil
  | _, _, i + 1, .cons a t => .cons a (paired_take i t)
theorem paired_map {α β γ : Type} {R : α → β → Prop} {S : γ → β → Prop} (f : α → γ) (h : ∀ a b, R a b → S (f a) b) : ∀ {xs : List α} {ys : List β}, Paired R xs ys → Paired S (xs.map f) ys
  | _, _, .nil => .nil
  | _, _, .cons a t => .cons (h _ _ a) (paired_map f h t)
theorem nodup_take {α : Type} {xs : List α} {i : Nat} {x : α} (h : xs.Nodup) (e : xs[i]? = some x) : x ∉ xs.take i := fun m => by
  obtain ⟨j, hj, ej⟩ := List.getElem_of_mem m
  rw [List.length_take] at hj
  rw [List.getElem_take] at ej
  obtain ⟨hi, ei⟩ := List.getElem?_eq_some_iff.mp e
  have := (List.getElem_inj (h₀ := by omega) (h₁ := hi) h).mp (ej.trans ei.symm)
  omega
end
theorem len_Schema_take_kind (K : PySem.W.Frag) (Pt : Tb) : ∀ vs H Q E, sp_Schema_take_kind K Pt vs H Q E → vs.length = ["self", "kinds", "choices", "name", "row"].length := by
  intro _ _ _ _ h
  unfold sp_Schema_take_kind at h
  obtain ⟨_, _, _, _, _, _, _, _, _, _, _, _, _, _, rfl, _⟩ := h
  rfl
theorem p_Schema_take_kind (K : PySem.W.Frag) (C : Addr) (O : Own K C) (Pt : Tb) (vs : List V) (H : Hp) (Q : VK) (E : XK) (h : sp_Schema_take_kind K Pt vs H Q E) : t_Schema_take_kind K C Pt { nx := fun _ H' => Q .non H', rt := Q } (start ["self", "kinds", "choices", "name", "row", "place", "field", "path", "left"] vs) H := by
  unfold sp_Schema_take_kind at h
  obtain ⟨a, ka, ca, z, ra, dx, D1, D2, root, kvs, kk, ck, fls, xs, rfl, ha, hD, hl, hk, hc, hz, hx, rf, tb, q⟩ := h
  obtain ⟨cl, n1, n2, n3, _, _⟩ := O.Schema
  walk_at "go"
  show sp_look_at_heading K [.str (PySem.Str.ofString "kind"), .str z, .ref ra] H _ _
  refine heading_go hz hx fun H1 k1 => ?_
  walk_at "go"
  refine enumQ_go rfl (hx.kp k1 List.not_mem_nil) fun J G w hG => ?_
  refine for_it w (fun i σ H' => Kp [] H1 H' ∧ ∃ u5 u6 u7 u8, σ = [some (.ref a), some (.ref ka), some (.ref ca), some (.str z), some (.ref ra), u5, u6, u7, u8]) ⟨Kp.refl, _, _, _, _, rfl⟩ (fun i σ H' _ h => hG H' h.1) ?_ (fun σ H' h => ?_)
  · rintro i x σ Ha Hb hi ⟨ka8, u5, u6, u7, u8, rfl⟩ ⟨T, y, rfl, nT, rfl, ey⟩
    have kT := ka8.upd_new' (o := .tup [.int (0 + (i : Nat)), y]) nT
    have hT : (upd Ha T (.tup [.int (0 + (i : Nat)), y])) T = some (.tup [.int (0 + (i : Nat)), y]) := upd_same
    rw [show (0 : Int) + (i : Nat) = (i : Int) by omega] at kT hT ⊢
    generalize upd Ha T (.tup [.int (i : Int), y]) = Hc at kT hT ⊢
    obtain ⟨f, ef, fv⟩ := paired_at' rf.at_ ey
    obtain ⟨c, rfl, hcc⟩ := fv.at_
    have fok := rf.ok f (List.mem_of_getElem? ef)
    have kH := k1.trans kT
    have hra := hx.kp kH List.not_mem_nil
    walk_at "go"
    rename_i p np
    refine slQ_go (hra.kp (Kp.refl.upd_new' np) List.not_mem_nil) hi fun H2 p2 k2 hp2 => ?_
    have k3 : Kp [] Hc H2 := (Kp.refl.upd_new' np).trans k2
    walk_at "go"
    rename_i ln nln
    show sp_look_at_part K [.ref p, .ref c, .ref p2, .int 1, .ref ln] _ _ _
    have k4 : Kp [] Hc (upd H2 ln (.tup [.int 3, .int 4])) := k3.upd_new' nln
    have kH4 := kH.trans k4
    have fv4 := fv.kp0 kH4
    obtain ⟨c', ec, hc4⟩ := fv4.at_
    cases ec
    have lf : f.dfl.toList.length ≤ 1 := by cases f.dfl <;> simp
    refine part_go (p := (f.num, f.name)) (ps := (fls.take i).map fun f => (f.num, f.name)) (xs := xs.take i) (ls := [3, 4]) hc4 (SqT.of upd_same) ?_ (hp2.kp (Kp.refl.upd_new' nln) List.not_mem_nil) (paired_map _ (fun f x h => (h.kp0 kH4).part) (paired_take i rf.at_)) (by have := rf.le; rw [List.length_take]; omega) fok.name ?_ ?_ fok.lo fok.hi fun H5 k5 => ?_
    · cases f.dfl <;> simp
    · have h := nodup_take rf.names (i := i) (x := f.name) (by rw [List.getElem?_map, ef]; rfl)
      rw [List.map_map]
      rw [← List.map_take] at h
      exact h
    · have h := nodup_take rf.nums (i := i) (x := f.num) (by rw [List.getElem?_map, ef]; rfl)
      rw [List.map_map]
      rw [← List.map_take] at h
      exact h
    · have kH5 := kH4.trans k5
      have fv5 := fv.kp0 kH5
      obtain ⟨c', ec, hc5⟩ := fv5.at_
      cases ec
      have hc5' : SqT K H5 c (.int f.num :: .str f.name :: f.y :: f.dfl.toList) := hc5
      walk_at "go"
      show sp_is_sort K 4 [.ref ka, .ref ca, f.y, .int 0] H5 _ _
      refine sort_go (n := 3) (Rd.kp hk kH5) (Rd.kp hc kH5) fv5.srt fok.srt (by omega) (by omega) fun H6 k6 => ?_
      have hc6 := k6.sqT List.not_mem_nil hc5'
      have kH6 := kH5.trans k6
      have fv6 := fv5.kp0 k6
      walk_at "go"
      show sp_left_of K [.ref c] H6 _ _
      refine left_go hc6 (by simp) fun H7 pl k7 hpl => ?_
      have kH7 := kH6.trans k7
      refine ⟨pl, rfl, ⟨_, hpl⟩, fun D nD => ?_⟩
      refine lc_acc (walk_tup (xs := f.dfl.toList)) (fun i acc H' => acc = List.replicate i (V.bl true) ∧ Kp [] H7 H') ⟨rfl, Kp.refl.upd_new' nD⟩ (fun _ _ _ _ h => h.2.sqT List.not_mem_nil hpl) (fun j v acc Hd He hj hl' hD' hP hY => ?_) (fun acc Hd hl' hD' hP => ?_)
      · obtain ⟨rfl, kd⟩ := hP
        obtain ⟨rfl, e⟩ := hY
        have fvd := (fv6.kp0 k7).kp0 kd
        have dv := fvd.dfl v (by
          have := List.mem_of_getElem? e
          rwa [Option.mem_toList] at this)
        have hcd := (k7.trans kd).sqT List.not_mem_nil hc6
        refine ⟨rfl, ?_⟩
        walk_at "go"
        show sp_is_default K [f.y, v] He _ _
        refine default_go fvd.srt dv fun H8 k8 => ?_
        exact acc_go hl' (by omega) (k8.at_ List.not_mem_nil hD') ⟨by rw [List.replicate_succ'], (kd.trans k8).upd_new nD⟩
      · obtain ⟨rfl, kd⟩ := hP
        walk_at "go"
        refine all_go (bs := List.replicate f.dfl.toList.length true) (SqL.of (by rw [List.map_replicate]; exact hD')) ?_
        rw [show (List.replicate f.dfl.toList.length true).all id = true from by simp]
        walk_at "go"
        exact ⟨kT.trans (k4.trans (k5.trans (k6.trans (k7.trans kd)))), _, _, _, _, rfl⟩
  · obtain ⟨kG, u5, u6, u7, u8, rfl⟩ := h
    have kH := k1.trans kG
    walk_at "go"
    have hra := hx.kp kH List.not_mem_nil
    have tb2 := tb.kp0 kH
    refine ⟨tb2.a, ra, xs, fls.map (·.num), rfl, hra.imp SqL.of id, paired_map _ (fun f x h => by
      obtain ⟨c, e, g⟩ := (h.kp0 kH).at_
      exact ⟨c, _, e, g⟩) rf.at_, fun H2 ys p k2 ta np bk => ?_⟩
    have aP := tabS_ne tb.a ha (fun ps e => by cases e)
    have dP := tabS_ne tb.a hD (fun ps e => by cases e)
    have ha2 := k2.at_ (fun m => aP (List.mem_singleton.mp m)) (kH.at_ List.not_mem_nil ha)
    have hD2 := k2.at_ (fun m => dP (List.mem_singleton.mp m)) (kH.at_ List.not_mem_nil hD)
    refine tuple_goL (SqL.of upd_same) fun l nl => ?_
    have pl : p ≠ l := ne_of_none upd_same nl
    have nl2 : H2 l = none := by rwa [upd_ne pl.symm] at nl
    have ha3 : (upd (upd H2 p (.lst ys)) l (.tup ys)) a = some (.ins (cAt K "Schema") dx (schF D1 D2 root)) := (upd_ne (ne_of_none ha2 nl2)).trans ((upd_ne (ne_of_none ha2 np)).trans ha2)
    have hD3 : (upd (upd H2 p (.lst ys)) l (.tup ys)) D1 = some (.dK kvs) := (upd_ne (ne_of_none hD2 nl2)).trans ((upd_ne (ne_of_none hD2 np)).trans hD2)
    have k3 : Kp [Pt.a] H (upd (upd H2 p (.lst ys)) l (.tup ys)) := (kH.mono fun _ m => nomatch m).trans ((k2.upd_new' np).upd_new' nl)
    walk_at "go"
    have tb3 : Tbl Pt (upd (upd H2 p (.lst ys)) l (.tup ys)) := (tb2.kpA k2 ta).kp0 ((Kp.refl.upd_new' np).upd_new' nl)
    refine ⟨D1, _, rfl, DPut.k (k := .inr z) hD3 (szlt_of (by omega)), ?_⟩
    have lD : l ≠ D1 := (ne_of_none hD2 nl2).symm
    exact q _ l ys ((k3.mono fun x m => List.mem_cons_of_mem _ m).upd_in List.mem_cons_self) (tb3.updD hD3) (kH.none_of List.not_mem_nil (k2.none_of (fun m => by
      obtain ⟨ps, h, _⟩ := ta
      rw [← List.mem_singleton.mp m, nl2] at h
      cases h) nl2)) ((upd_ne lD).trans upd_same) bk upd_same
end K02

/-! ## the program's schemas: a choice taken -/
namespace K02
open PySem PySem.Spec PyProof.Rows L2 Kb
open LamX (TabS)
section
variable {K : PySem.W.Frag} {H H' : Hp} {Q : VK} {E : XK} {a : Addr} {xs : List V} {M : List Addr}
theorem CseV.kp0 {f : Cse} {x : V} (k : Kp [] H H') (h : CseV K H f x) : CseV K H' f x := by
  obtain ⟨a, e, g⟩ := h.at_
  exact ⟨⟨a, e, k.sqT List.not_mem_nil g⟩, fun s e => (h.srt s e).kp0 k, h.non⟩
theorem CseV.part {f : Cse} {x : V} (h : CseV K H f x) : PartV K H (f.num, f.name) x := by
  obtain ⟨a, e, g⟩ := h.at_
  exact ⟨a, [f.y], e, g⟩
theorem lenQ_go (h : Sq K H a xs) (q : Q (.int xs.length) H) : rLenU K [.ref a] H Q := by
  rcases h with h | h
  · exact len_lst (SqL.of h) q
  · exact len_tup h q
end
theorem len_Schema_take_choice (K : PySem.W.Frag) (Pt : Tb) : ∀ vs H Q E, sp_Schema_take_choice K Pt vs H Q E → vs.length = ["self", "kinds", "choices", "name", "row"].length := by
  intro _ _ _ _ h
  unfold sp_Schema_take_choice at h
  obtain ⟨_, _, _, _, _, _, _, _, _, _, _, _, _, _, rfl, _⟩ := h
  rfl
theorem p_Schema_take_choice (K : PySem.W.Frag) (C : Addr) (O : Own K C) (Pt : Tb) (vs : List V) (H : Hp) (Q : VK) (E : XK) (h : sp_Schema_take_choice K Pt vs H Q E) : t_Schema_take_choice K C Pt { nx := fun _ H' => Q .non H', rt := Q } (start ["self", "kinds", "choices", "name", "row", "place", "case", "path", "number", "word", "content"] vs) H := by
  unfold sp_Schema_take_choice at h
  obtain ⟨a, ka, ca, z, ra, dx, D1, D2, root, kvs, kk, ck, cs, xs, rfl, ha, hD, hl, hk, hc, hz, hx, rf, tb, q⟩ := h
  obtain ⟨cl, n1, n2, n3, _, _⟩ := O.Schema
  walk_at "go"
  show sp_look_at_heading K [.str (PySem.Str.ofString "choice"), .str z, .ref ra] H _ _
  refine heading_go hz hx fun H1 k1 => ?_
  walk_at "go"
  refine lenQ_go (hx.kp k1 List.not_mem_nil) ?_
  have xs0 : xs.length ≠ 0 := by
    rw [← paired_len rf.at_]
    have := rf.ne
    cases cs with
    | nil => exact absurd rfl this
    | cons _ _ => simp
  walk_at "go"
  rw [decide_eq_false (show ¬ (xs.length : Int) = 0 by omega)]
  walk_at "go"
  rename_i p0 np0
  have k1 := k1.upd_new' (o := .tup [.str "choice", .str z, .int (-1)]) np0
  generalize upd H1 p0 _ = H1 at k1 ⊢
  refine enumQ_go rfl (hx.kp k1 List.not_mem_nil) fun J G w hG => ?_
  refine for_it w (fun i σ H' => Kp [] H1 H' ∧ ∃ u5 u6 u7 u8 u9 u10, σ = [some (.ref a), some (.ref ka), some (.ref ca), some (.str z), some (.ref ra), u5, u6, u7, u8, u9, u10]) ⟨Kp.refl, _, _, _, _, _, _, rfl⟩ (fun i σ H' _ h => hG H' h.1) ?_ (fun σ H' h => ?_)
  · rintro i x σ Ha Hb hi ⟨ka8, u5, u6, u7, u8, u9, u10, rfl⟩ ⟨T, y, rfl, nT, rfl, ey⟩
    have kT := ka8.upd_new' (o := .tup [.int (0 + (i : Nat)), y]) nT
    have hT : (upd Ha T (.tup [.int (0 + (i : Nat)), y])) T = some (.tup [.int (0 + (i : Nat)), y]) := upd_same
    rw [show (0 : Int) + (i : Nat) = (i : Int) by omega] at kT hT ⊢
    generalize upd Ha T (.tup [.int (i : Int), y]) = Hc at kT hT ⊢
    obtain ⟨f, ef, fv⟩ := paired_at' rf.at_ ey
    obtain ⟨c, rfl, hcc⟩ := fv.at_
    have fok := rf.ok f (List.mem_of_getElem? ef)
    have kH := k1.trans kT
    have hra := hx.kp kH List.not_mem_nil
    walk_at "go"
    rename_i p np
    refine slQ_go (hra.kp (Kp.refl.upd_new' np) List.not_mem_nil) hi fun H2 p2 k2 hp2 => ?_
    have k3 : Kp [] Hc H2 := (Kp.refl.upd_new' np).trans k2
    walk_at "go"
    rename_i ln nln
    show sp_look_at_part K [.ref p, .ref c, .ref p2, .int 0, .ref ln] _ _ _
    have k4 : Kp [] Hc (upd H2 ln (.tup [.int 3])) := k3.upd_new' nln
    have kH4 := kH.trans k4
    have fv4 := fv.kp0 kH4
    obtain ⟨c', ec, hc4⟩ := fv4.at_
    cases ec
    refine part_go (p := (f.num, f.name)) (ps := (cs.take i).map fun f => (f.num, f.name)) (xs := xs.take i) (ls := [3]) hc4 (SqT.of upd_same) ?_ (hp2.kp (Kp.refl.upd_new' nln) List.not_mem_nil) (paired_map _ (fun f x h => (h.kp0 kH4).part) (paired_take i rf.at_)) (by have := rf.le; rw [List.length_take]; omega) fok.name ?_ ?_ fok.lo fok.hi fun H5 k5 => ?_
    · simp
    · have h := nodup_take rf.names (i := i) (x := f.name) (by rw [List.getElem?_map, ef]; rfl)
      rw [List.map_map]
      rw [← List.map_take] at h
      exact h
    · have h := nodup_take rf.nums (i := i) (x := f.num) (by rw [List.getElem?_map, ef]; rfl)
      rw [List.map_map]
      rw [← List.map_take] at h
      exact h
    · have kH5 := kH4.trans k5
      have fv5 := fv.kp0 kH5
      obtain ⟨c', ec, hc5⟩ := fv5.at_
      cases ec
      have fz : f.s = none ∨ ∃ s, f.s = some s := by cases f.s <;> simp
      have hc5' : SqT K H5 c (.int f.num :: .str f.name :: [f.y]) := hc5
      rcases fz with fz | ⟨s, fz⟩
      · rw [fv5.non fz] at hc5'
        walk_at "go"
        all_goals exact ⟨kT.trans (k4.trans k5), _, _, _, _, _, _, rfl⟩
      · have ss := fv5.srt s fz
        obtain ⟨b, w, r, eb, hb⟩ := srt_head ss
        rw [eb] at hc5' ss
        have nz : ¬ f.num = 0 := fun e => by
          rw [fok.zero e] at fz
          cases fz
        walk_at "go"
        show sp_is_sort K 4 [.ref ka, .ref ca, .ref b, .int 0] H5 _ _
        refine sort_go (n := 3) (Rd.kp hk kH5) (Rd.kp hc kH5) ss (fok.srt s fz) (by omega) (by omega) fun H6 k6 => ?_
        walk_at "go"
        all_goals first
          | exact absurd (by assumption) nz
          | exact ⟨kT.trans (k4.trans (k5.trans k6)), _, _, _, _, _, _, rfl⟩
  · obtain ⟨kG, u5, u6, u7, u8, u9, u10, rfl⟩ := h
    have kH := k1.trans kG
    walk_at "go"
    have hra := hx.kp kH List.not_mem_nil
    have tb2 := tb.kp0 kH
    refine ⟨tb2.b, ra, xs, cs.map (·.num), rfl, hra.imp SqL.of id, paired_map _ (fun f x h => by
      obtain ⟨c, e, g⟩ := (h.kp0 kH).at_
      exact ⟨c, _, e, g⟩) rf.at_, fun H2 ys p k2 ta np bk => ?_⟩
    have aP := tabS_ne tb.b ha (fun ps e => by cases e)
    have dP := tabS_ne tb.b hD (fun ps e => by cases e)
    have ha2 := k2.at_ (fun m => aP (List.mem_singleton.mp m)) (kH.at_ List.not_mem_nil ha)
    have hD1 := k2.at_ (fun m => dP (List.mem_singleton.mp m)) (kH.at_ List.not_mem_nil hD)
    refine tuple_goL (SqL.of upd_same) fun l nl => ?_
    have pl : p ≠ l := ne_of_none upd_same nl
    have nl2 : H2 l = none := by rwa [upd_ne pl.symm] at nl
    have ha3 : (upd (upd H2 p (.lst ys)) l (.tup ys)) a = some (.ins (cAt K "Schema") dx (schF D1 D2 root)) := (upd_ne (ne_of_none ha2 nl2)).trans ((upd_ne (ne_of_none ha2 np)).trans ha2)
    have hD3 : (upd (upd H2 p (.lst ys)) l (.tup ys)) D2 = some (.dK kvs) := (upd_ne (ne_of_none hD1 nl2)).trans ((upd_ne (ne_of_none hD1 np)).trans hD1)
    have k3 : Kp [Pt.b] H (upd (upd H2 p (.lst ys)) l (.tup ys)) := (kH.mono fun _ m => nomatch m).trans ((k2.upd_new' np).upd_new' nl)
    walk_at "go"
    have tb3 : Tbl Pt (upd (upd H2 p (.lst ys)) l (.tup ys)) := (tb2.kpB k2 ta).kp0 ((Kp.refl.upd_new' np).upd_new' nl)
    refine ⟨D2, _, rfl, DPut.k (k := .inr z) hD3 (szlt_of (by omega)), ?_⟩
    have lD : l ≠ D2 := (ne_of_none hD1 nl2).symm
    exact q _ l ys ((k3.mono fun x m => List.mem_cons_of_mem _ m).upd_in List.mem_cons_self) (tb3.updD hD3) (kH.none_of List.not_mem_nil (k2.none_of (fun m => by
      obtain ⟨ps, h, _⟩ := ta
      rw [← List.mem_singleton.mp m, nl2] at h
      cases h) nl2)) ((upd_ne lD).trans upd_same) bk upd_same
end K02

/-! ## the program's schemas: does a choice come back to itself -/
namespace K02
open PySem PySem.Spec PyProof.Rows L2 Kb
theorem len_Schema_comes_back (K : PySem.W.Frag) : ∀ vs H Q E, sp_Schema_comes_back K vs H Q E → vs.length = ["self", "name"].length := by
  intro _ _ _ _ h
  unfold sp_Schema_comes_back at h
  obtain ⟨_, _, _, _, _, _, _, _, _, rfl, _⟩ := h
  rfl
theorem Leads.kp0 {K : PySem.W.Frag} {H H' : Hp} {kvs : List (L2.Key × V)} {z : Str} {to : Option Str} (k : Kp [] H H') (h : Leads K H kvs z to) : Leads K H' kvs z to := by
  obtain ⟨T, c, r, num, nm, y, h1, h2, h3, h4⟩ := h
  refine ⟨T, c, r, num, nm, y, h1, k.at_ List.not_mem_nil h2, k.sqT List.not_mem_nil h3, ?_⟩
  cases to with
  | none => exact h4.imp id fun ⟨b, w, r', e, g, n⟩ => ⟨b, w, r', e, k.sqT List.not_mem_nil g, n⟩
  | some z' =>
    obtain ⟨b, e, g⟩ := h4
    exact ⟨b, e, k.sqT List.not_mem_nil g⟩
theorem p_Schema_comes_back (K : PySem.W.Frag) (C : Addr) (O : Own K C) (vs : List V) (H : Hp) (Q : VK) (E : XK) (h : sp_Schema_comes_back K vs H Q E) : t_Schema_comes_back K C { nx := fun _ H' => Q .non H', rt := Q } (start ["self", "name", "seen", "at", "content"] vs) H := by
  unfold sp_Schema_comes_back at h
  obtain ⟨a, z, dx, D1, D2, root, kvs, rank, N, rfl, ha, hD, hN, hw, hz, q⟩ := h
  obtain ⟨cl, n1, n2, n3, _, _⟩ := O.Schema
  walk_at "go"
  rename_i S nS
  refine ⟨fun m σ H' => Kp [] H H' ∧ ∃ w ss u, m = N - rank w ∧ σ = [some (.ref a), some (.str z), some (.ref S), some (.str w), u] ∧ H' S = some (.dK ss) ∧ keyIn kvs w ∧ ss.length + (N - rank w) ≤ N ∧ ∀ k, (valV ss k).isSome = true → ∃ v, k = .inr v ∧ rank v < rank w, ⟨_, Kp.refl.upd_new' nS, z, [], none, rfl, rfl, upd_same, hz, by simp, fun k e => by cases e⟩, ?_⟩
  rintro m σ H1 ⟨k1, w, ss, u, rfl, rfl, hS, hk, hl, hr⟩
  have nw : valV ss (.inr w) = none := by
    cases e : valV ss (.inr w) with
    | none => rfl
    | some _ =>
      obtain ⟨v, ev, lt⟩ := hr (.inr w) (by rw [e]; rfl)
      cases ev
      omega
  walk_at "go"
  refine ⟨S, none, rfl, nw ▸ DGet.k (k := .inr w) hS, ?_⟩
  refine ⟨true, rfl, iteT ?_⟩
  have hDr := Rd.kp hD k1
  refine ⟨_, fun σ' H' h => h, ?_⟩
  obtain ⟨to, ld, lt⟩ := hw w hk
  have ld1 := ld.kp0 k1
  walk_at "go"
  refine ⟨S, _, rfl, DPut.k (k := .inr w) hS (szlt_of (by omega)), ?_⟩
  have nSH := nS
  have k2 : Kp [] H (upd H1 S (.dK (putK ss (.inr w) (.bl true)))) := k1.upd_new nS
  have ld2 := ld.kp0 k2
  have hD2 := Rd.kp hD k2
  have ha2 := k2.at_ List.not_mem_nil ha
  have hS2 : (upd H1 S (.dK (putK ss (.inr w) (.bl true)))) S = some (.dK (putK ss (.inr w) (.bl true))) := upd_same
  generalize upd H1 S (.dK (putK ss (.inr w) (.bl true))) = H2 at k2 ld2 hD2 ha2 hS2 ⊢
  obtain ⟨T, c, r, num, nm, y, e1, e2, e3, e4⟩ := ld2
  have e2' : SqT K H2 T (.ref c :: r) := SqT.of e2
  walk_at "go"
  refine ⟨D2, .ref T, rfl, .inl ⟨kvs, .inr w, hD2, rfl, e1.symm⟩, ?_⟩
  cases to with
  | none =>
    rcases e4 with rfl | ⟨b, w', r', rfl, e4, ne⟩
    · walk_at "go"
      all_goals first
        | exact q _ k2
        | exact absurd rfl (by assumption)
    · walk_at "go"
      all_goals first
        | exact q _ k2
        | exact absurd (by assumption) ne
  | some z' =>
    obtain ⟨b, rfl, e4⟩ := e4
    obtain ⟨l1, l2, l3⟩ := lt z' rfl
    walk_at "go"
    all_goals first
      | exact absurd rfl (by assumption)
      | skip
    refine ⟨N - rank z', by omega, k2, z', _, _, rfl, rfl, hS2, l1, ?_, ?_⟩
    · have := length_putK ss (.inr w) (.bl true)
      omega
    · intro k hk
      rw [valV_put] at hk
      by_cases e : k = .inr w
      · exact ⟨w, e, l2⟩
      · rw [if_neg e] at hk
        obtain ⟨v, e, l⟩ := hr k hk
        exact ⟨v, e, by omega⟩
end K02

/-! ## the program's schemas: made -/
namespace K02
open PySem PySem.Spec PyProof.Rows L2 Kb
open LamX (TabS)
section
variable {K : PySem.W.Frag} {H H' : Hp} {a : Addr} {xs : List V} {M : List Addr}
/-- no list and no tuple stands at b -/
def NoSq (H : Hp) (b : Addr) : Prop := ∀ u, H b = some u → (∀ xs, u ≠ .tup xs) ∧ (∀ o xs, u ≠ .frz o (.tup xs)) ∧ ∀ xs, u ≠ .lst xs
theorem sqT_kpN (k : Kp M H H') (l : ∀ b ∈ M, NoSq H b) (h : SqT K H a xs) : SqT K H' a xs := by
  rcases h with (h | ⟨o, h⟩) | h
  · exact .inl (.inl (k _ _ (fun z => (l a z _ h).1 _ rfl) h))
  · exact .inl (.inr ⟨o, k _ _ (fun z => (l a z _ h).2.1 _ _ rfl) h⟩)
  · exact .inr h
theorem Sq.kpN (k : Kp M H H') (l : ∀ b ∈ M, NoSq H b) (h : Sq K H a xs) : Sq K H' a xs :=
  h.imp (fun h => k _ _ (fun z => (l a z _ h).2.2 _ rfl) h) (sqT_kpN k l)
theorem SrtV.kpN (k : Kp M H H') (l : ∀ b ∈ M, NoSq H b) : ∀ {s : Srt} {x : V}, SrtV K H s x → SrtV K H' s x
  | .num _ _, _, ⟨a, h, g⟩ => ⟨a, h, sqT_kpN k l g⟩
  | .truth, _, ⟨a, h, g⟩ => ⟨a, h, sqT_kpN k l g⟩
  | .text _, _, ⟨a, h, g⟩ => ⟨a, h, sqT_kpN k l g⟩
  | .row _ _, _, ⟨a, y, h, g, r⟩ => ⟨a, y, h, sqT_kpN k l g, r.kpN k l⟩
  | .maybe _, _, ⟨a, y, h, g, r⟩ => ⟨a, y, h, sqT_kpN k l g, r.kpN k l⟩
  | .node _, _, ⟨a, h, g⟩ => ⟨a, h, sqT_kpN k l g⟩
  | .pick _, _, ⟨a, h, g⟩ => ⟨a, h, sqT_kpN k l g⟩
theorem DfOk.kpN (k : Kp M H H') (l : ∀ b ∈ M, NoSq H b) : ∀ {s : Srt} {v : V}, DfOk K H s v → DfOk K H' s v
  | .num _ _, _, h => h
  | .truth, _, h => h
  | .text _, _, h => h
  | .row _ _, _, ⟨a, e, h⟩ => ⟨a, e, sqT_kpN k l h⟩
  | .maybe _, _, h => h
  | .node _, _, h => h
  | .pick _, _, h => h
theorem FldV.kpN {f : Fld} {x : V} (k : Kp M H H') (l : ∀ b ∈ M, NoSq H b) (h : FldV K H f x) : FldV K H' f x := by
  obtain ⟨a, e, g⟩ := h.at_
  exact ⟨⟨a, e, sqT_kpN k l g⟩, h.srt.kpN k l, fun v e => (h.dfl v e).kpN k l⟩
theorem CseV.kpN {f : Cse} {x : V} (k : Kp M H H') (l : ∀ b ∈ M, NoSq H b) (h : CseV K H f x) : CseV K H' f x := by
  obtain ⟨a, e, g⟩ := h.at_
  exact ⟨⟨a, e, sqT_kpN k l g⟩, fun s e => (h.srt s e).kpN k l, h.non⟩
theorem KRow.ok.kpN {nk ck : Str → Prop} {r : KRow} (k : Kp M H H') (l : ∀ b ∈ M, NoSq H b) (h : r.ok K H nk ck) : r.ok K H' nk ck :=
  ⟨h.name, h.sq.kpN k l, paired_imp (fun _ _ g => g.kpN k l) h.row.at_, h.row.ok, h.row.names, h.row.nums, h.row.le⟩
theorem CRow.ok.kpN {nk ck : Str → Prop} {rank : Str → Nat} {N : Nat} {r : CRow} (k : Kp M H H') (l : ∀ b ∈ M, NoSq H b) (h : r.ok K H nk ck rank N) : r.ok K H' nk ck rank N :=
  ⟨h.name, h.sq.kpN k l, ⟨paired_imp (fun _ _ g => g.kpN k l) h.row.at_, h.row.ok, h.row.names, h.row.nums, h.row.ne, h.row.le⟩, h.up⟩
theorem paired_snoc {α β : Type} {R : α → β → Prop} {a : α} {b : β} : ∀ {xs : List α} {ys : List β}, Paired R xs ys → R a b → Paired R (xs ++ [a]) (ys ++ [b])
  | _, _, .nil, h => .cons h .nil
  | _, _, .cons a t, h => .cons a (paired_snoc t h)
theorem Done.keys {H H' : Hp} {rs : List (Str × List Int × List V)} {kvs : List (L2.Key × V)} (h : Done H H' rs kvs) : kvs.map (·.1) = rs.map fun r => .inr r.1 := by
  unfold Done at h
  induction h with
  | nil => rfl
  | cons a _ ih => rw [List.map_cons, List.map_cons, ih, a.1]
theorem Done.kp {H H' H2 : Hp} {rs : List (Str × List Int × List V)} {kvs : List (L2.Key × V)} (h : Done H H' rs kvs) (k : Kp M H' H2) (l : ∀ b ∈ M, NoSq H' b) : Done H H2 rs kvs :=
  paired_imp (fun _ _ g => by
    obtain ⟨e, T, ys, e1, e2, e3, e4⟩ := g
    exact ⟨e, T, ys, e1, e2, k _ _ (fun m => (l T m _ e3).1 _ rfl) e3, e4⟩) h
theorem val_no {kvs : List (L2.Key × V)} {k : L2.Key} (h : k ∉ kvs.map (·.1)) : valV kvs k = none := by
  unfold valV
  rw [List.find?_eq_none.mpr]
  · rfl
  · intro q hq e
    exact h (List.mem_map.mpr ⟨q, hq, by simpa using e⟩)
theorem Done.put {H H' : Hp} {rs : List (Str × List Int × List V)} {kvs : List (L2.Key × V)} {r : Str × List Int × List V} {T : Addr} {ys : List V} (h : Done H H' rs kvs) (n : r.1 ∉ rs.map (·.1)) (e2 : H T = none) (e3 : H' T = some (.tup ys)) (e4 : ByKey r.2.1 r.2.2 ys) :
    Done H H' (rs ++ [r]) (putK kvs (.inr r.1) (.ref T)) := by
  have nv : valV kvs (.inr r.1) = none := val_no (by
    rw [h.keys]
    intro m
    obtain ⟨q, hq, e⟩ := List.mem_map.mp m
    exact n (List.mem_map.mpr ⟨q, hq, Sum.inr.inj e⟩))
  rw [putK_new _ nv]
  exact paired_snoc h ⟨rfl, T, ys, rfl, e2, e3, e4⟩
theorem take_kind_go {K : PySem.W.Frag} {Pt : Tb} {H : Hp} {Q : VK} {E : XK} {a ka ca dx D1 D2 : Addr} {root : V} {kvs kk ck : List (L2.Key × V)} {r : KRow} (ha : H a = some (.ins (cAt K "Schema") dx (schF D1 D2 root))) (hD : H D1 = some (.dK kvs)) (hl : kvs.length ≤ 1000) (hk : Rd H ka (.dK kk)) (hc : Rd H ca (.dK ck)) (ok : r.ok K H (keyIn kk) (keyIn ck)) (tb : Tbl Pt H)
    (q : ∀ H' T ys, Kp [D1, Pt.a] H H' → Tbl Pt H' → H T = none → H' T = some (.tup ys) → ByKey (r.fls.map (·.num)) r.xs ys → H' D1 = some (.dK (putK kvs (.inr r.name) (.ref T))) → Q .non H') : sp_Schema_take_kind K Pt [.ref a, .ref ka, .ref ca, .str r.name, .ref r.adr] H Q E := by
  unfold sp_Schema_take_kind
  exact ⟨a, ka, ca, r.name, r.adr, dx, D1, D2, root, kvs, kk, ck, r.fls, r.xs, rfl, ha, hD, hl, hk, hc, ok.name, ok.sq, ok.row, tb, q⟩
theorem take_choice_go {K : PySem.W.Frag} {Pt : Tb} {H : Hp} {Q : VK} {E : XK} {a ka ca dx D1 D2 : Addr} {root : V} {kvs kk ck : List (L2.Key × V)} {rank : Str → Nat} {N : Nat} {r : CRow} (ha : H a = some (.ins (cAt K "Schema") dx (schF D1 D2 root))) (hD : H D2 = some (.dK kvs)) (hl : kvs.length ≤ 1000) (hk : Rd H ka (.dK kk)) (hc : Rd H ca (.dK ck)) (ok : r.ok K H (keyIn kk) (keyIn ck) rank N) (tb : Tbl Pt H)
    (q : ∀ H' T ys, Kp [D2, Pt.b] H H' → Tbl Pt H' → H T = none → H' T = some (.tup ys) → ByKey (r.cs.map (·.num)) r.xs ys → H' D2 = some (.dK (putK kvs (.inr r.name) (.ref T))) → Q .non H') : sp_Schema_take_choice K Pt [.ref a, .ref ka, .ref ca, .str r.name, .ref r.adr] H Q E := by
  unfold sp_Schema_take_choice
  exact ⟨a, ka, ca, r.name, r.adr, dx, D1, D2, root, kvs, kk, ck, r.cs, r.xs, rfl, ha, hD, hl, hk, hc, ok.name, ok.sq, ok.row, tb, q⟩
end
theorem len_Schema___init__ (K : PySem.W.Frag) (Pt : Tb) : ∀ vs H Q E, sp_Schema___init__ K Pt vs H Q E → vs.length = ["self", "kinds", "choices", "root"].length := by
  intro _ _ _ _ h
  unfold sp_Schema___init__ at h
  obtain ⟨_, _, _, _, _, _, _, _, _, _, rfl, _⟩ := h
  rfl
theorem take_snoc {α : Type} {xs : List α} {i : Nat} {x : α} (e : xs[i]? = some x) : xs.take (i + 1) = xs.take i ++ [x] := by rw [List.take_add_one, e]; rfl
theorem noSq_tab {H : Hp} {P : Addr} {q : Str} (t : TabS H P q) : NoSq H P := fun u h => by
  obtain ⟨ps, h1, _⟩ := t
  rw [h1] at h
  cases h
  exact ⟨(fun _ e => by cases e), (fun _ _ e => by cases e), (fun _ e => by cases e)⟩
theorem noSq_dK {H : Hp} {D : Addr} {kvs : List (L2.Key × V)} (h1 : Rd H D (.dK kvs)) : NoSq H D := fun u h => by
  rcases h1 with h1 | ⟨o, h1⟩
  · rw [h1] at h
    cases h
    exact ⟨(fun _ e => by cases e), (fun _ _ e => by cases e), (fun _ e => by cases e)⟩
  · rw [h1] at h
    cases h
    exact ⟨(fun _ e => by cases e), (fun _ _ e => by cases e), (fun _ e => by cases e)⟩
theorem noSq_ins {H : Hp} {a C dx : Addr} {fs : List (Str × V)} (h1 : H a = some (.ins C dx fs)) : NoSq H a := fun u h => by
  rw [h1] at h
  cases h
  exact ⟨(fun _ e => by cases e), (fun _ _ e => by cases e), (fun _ e => by cases e)⟩
theorem noSq2 {H : Hp} {a b : Addr} (h1 : NoSq H a) (h2 : NoSq H b) : ∀ x ∈ [a, b], NoSq H x := fun x m => by
  rcases List.mem_cons.mp m with rfl | m
  · exact h1
  · rw [List.mem_singleton.mp m]
    exact h2
theorem not2 {x a b : Addr} (h1 : x ≠ a) (h2 : x ≠ b) : x ∉ [a, b] := fun m => by
  rcases List.mem_cons.mp m with e | m
  · exact h1 e
  · exact h2 (List.mem_singleton.mp m)
theorem Tbl.updM {Pt : Tb} {H : Hp} (t : Tbl Pt H) {D : Addr} {u o : HO} (h : H D = some u) (n1 : ∀ ps, u ≠ .tbl ps) (n2 : ∀ c z, u ≠ LamX.CodeO c z) : Tbl Pt (upd H D o) := by
  have kD : Kp [D] H (upd H D o) := Kp.refl.upd_in List.mem_cons_self
  have n : ∀ {P : Addr} {q : Str}, TabS H P q → P ∉ [D] := fun t m => tabS_ne t h n1 (List.mem_singleton.mp m).symm
  have no : ∀ a ∈ [D], ∀ c z, H a ≠ some (LamX.CodeO c z) := fun a m c z e => by
    rw [List.mem_singleton.mp m, h] at e
    exact n2 c z (Option.some.inj e)
  exact ⟨tabS_kp t.a kD (n t.a) no, tabS_kp t.b kD (n t.b) no, t.ab⟩
theorem init_0 {K : PySem.W.Frag} {C : Addr} (O : Own K C) {Pt : Tb} {H : Hp} {D : Ends} {a ka ca dx D1 D2 : Addr} {cv root : V} {FK : List KRow} {ck : List (L2.Key × V)} (ha : H a = some (.ins (cAt K "Schema") dx (schF D1 D2 root))) (h1 : H D1 = some (.dK [])) (h2 : H D2 = some (.dK [])) (hk : H ka = some (.dK (FK.map KRow.kv))) (hc : H ca = some (.dK ck)) (d1k : D1 ≠ ka) (d1c : D1 ≠ ca) (kc : ca ≠ ka) (d2k : D2 ≠ ka)
    (lk : FK.length ≤ 100) (nk : (FK.map (·.name)).Nodup) (ok : ∀ r ∈ FK, r.ok K H (keyIn (FK.map KRow.kv)) (keyIn ck)) (tb : Tbl Pt H)
    (q : ∀ H' kvs1 u5 u6, Kp [D1, Pt.a] H H' → Tbl Pt H' → H' D1 = some (.dK kvs1) → Done H H' (FK.map KRow.row) kvs1 → b_Schema___init___1 K C Pt D [some (.ref a), some (.ref ka), some cv, some root, some (.ref ca), u5, u6] H') :
    b_Schema___init___0 K C Pt D [some (.ref a), some (.ref ka), some cv, some root, some (.ref ca), none, none] H := by
  obtain ⟨cl, n1, n2, n3, _, _⟩ := O.Schema
  unfold b_Schema___init___0
  walk_at "go"
  refine ⟨ka, .dK (FK.map KRow.kv), hk, trivial, fun od => ⟨_, rfl, ka, od, _, rfl, upd_same, ?_⟩⟩
  obtain ⟨G, hG⟩ : ∃ G, G = upd H ka (.frz od (.dK (FK.map KRow.kv))) := ⟨_, rfl⟩
  have kpE : Kp [ka] H G := by rw [hG]; exact Kp.refl.upd_in List.mem_cons_self
  have lo : ∀ b ∈ [ka], NoSq H b := fun b hb => by
    rw [List.mem_singleton.mp hb]
    exact noSq_dK (.inl hk)
  have gk : G ka = some (.frz od (.dK (FK.map KRow.kv))) := by rw [hG]; exact upd_same
  have aka : a ≠ ka := fun e => by rw [e, hk] at ha; cases ha
  have ga := kpE.at_ (fun m => aka (List.mem_singleton.mp m)) ha
  have g1 := kpE.at_ (fun m => d1k (List.mem_singleton.mp m)) h1
  have gc := kpE.at_ (fun m => kc (List.mem_singleton.mp m)) hc
  have tbG : Tbl Pt G := by rw [hG]; exact tb.updD hk
  rw [← hG]
  have ad1 : a ≠ D1 := fun e => by rw [e, h1] at ha; cases ha
  have aP := tabS_ne tbG.a ga (fun ps e => by cases e)
  have kP := tabS_ne tbG.a gk (fun ps e => by cases e)
  have cP := tabS_ne tbG.a gc (fun ps e => by cases e)
  have okG : ∀ r ∈ FK, r.ok K G (keyIn (FK.map KRow.kv)) (keyIn ck) := fun r hr => (ok r hr).kpN kpE lo
  have loG : ∀ b ∈ [D1, Pt.a], NoSq G b := noSq2 (noSq_dK (.inl g1)) (noSq_tab tbG.a)
  have nG : ∀ T, G T = none → H T = none := fun T h => by
    by_cases e : T = ka
    · rw [e, gk] at h
      cases h
    · rw [hG, upd_ne e] at h
      exact h
  refine for_it walk_items (fun i σ H' => Kp [D1, Pt.a] G H' ∧ Tbl Pt H' ∧ (∃ kvs1, H' D1 = some (.dK kvs1) ∧ Done H H' ((FK.take i).map KRow.row) kvs1 ∧ kvs1.length ≤ i) ∧ ∃ u5 u6, σ = [some (.ref a), some (.ref ka), some cv, some root, some (.ref ca), u5, u6])
    ⟨Kp.refl, tbG, ⟨[], g1, .nil, Nat.le_refl _⟩, _, _, rfl⟩ (fun i σ H' _ h => h.1.at_ (not2 d1k.symm kP) gk) ?_ (fun σ H' h => ?_)
  · rintro i x σ Ha Hb hi ⟨ka8, tba, ⟨kvs1, hD, dn, hl⟩, u5, u6, rfl⟩ hy
    obtain ⟨T, y1, y2, rfl, nT, rfl, e1, e2⟩ := hy
    rw [List.length_map] at hi
    obtain ⟨r, er⟩ : ∃ r, FK[i]? = some r := ⟨FK[i], List.getElem?_eq_getElem hi⟩
    have e1 : ((FK.map KRow.kv)[i]?.map fun kv => kV kv.1) = some y1 := e1
    have e2 : ((FK.map KRow.kv)[i]?.map Prod.snd) = some y2 := e2
    rw [List.getElem?_map, er] at e1 e2
    obtain rfl : V.str r.name = y1 := Option.some.inj e1
    obtain rfl : V.ref r.adr = y2 := Option.some.inj e2
    have kT := ka8.upd_new' (o := .tup [.str r.name, .ref r.adr]) nT
    have k0T : Kp [] Ha (upd Ha T (.tup [.str r.name, .ref r.adr])) := Kp.refl.upd_new' nT
    have hT : (upd Ha T (.tup [.str r.name, .ref r.adr])) T = some (.tup [.str r.name, .ref r.adr]) := upd_same
    have hD' := k0T.at_ List.not_mem_nil hD
    have dn' := dn.kp k0T (fun b m => nomatch m)
    have tb' := tba.kp0 k0T
    generalize upd Ha T (.tup [.str r.name, .ref r.adr]) = Hc at kT k0T hT hD' dn' tb' ⊢
    have gac := kT.at_ (not2 ad1 aP) ga
    have gkc := kT.at_ (not2 d1k.symm kP) gk
    have gcc := kT.at_ (not2 d1c.symm cP) gc
    have okr := (okG r (List.mem_of_getElem? er)).kpN kT loG
    walk_at "go"
    show sp_Schema_take_kind K Pt [.ref a, .ref ka, .ref ca, .str r.name, .ref r.adr] Hc _ _
    refine take_kind_go gac hD' (by omega) (.inr ⟨od, gkc⟩) (.inl gcc) okr tb' fun H2 T2 ys k2 tb2 nT2 hT2 bk hD2 => ?_
    have lo2 : ∀ b ∈ [D1, Pt.a], NoSq Hc b := noSq2 (noSq_dK (.inl hD')) (noSq_tab tb'.a)
    have nr : r.name ∉ ((FK.take i).map KRow.row).map (·.1) := by
      rw [List.map_map]
      have h := nodup_take nk (i := i) (x := r.name) (by rw [List.getElem?_map, er]; rfl)
      rw [← List.map_take] at h
      exact h
    refine ⟨kT.trans k2, tb2, ⟨_, hD2, ?_, by have := length_putK kvs1 (.inr r.name) (.ref T2); omega⟩, _, _, rfl⟩
    rw [take_snoc er, List.map_append]
    refine (dn'.kp k2 lo2).put (r := r.row) nr (nG T2 (kT.none_of (not2 (fun e => by rw [e, hD'] at nT2; cases nT2) (fun e => by
      obtain ⟨ps, h, _⟩ := tb'.a
      rw [← e, nT2] at h
      cases h)) nT2)) hT2 bk
  · obtain ⟨kG, tbF, ⟨kvs1, hD, dn, hl⟩, u5, u6, rfl⟩ := h
    rw [List.length_map, List.take_length] at dn
    have hkF := kG.at_ (not2 d1k.symm kP) gk
    refine ⟨hkF, ?_⟩
    have kF : Kp [D1, Pt.a] H (upd H' ka (.dK (FK.map KRow.kv))) := fun b o n hb => by
      by_cases e : b = ka
      · rw [e] at hb ⊢
        rw [hk] at hb
        cases hb
        exact upd_same
      · exact (upd_ne e).trans (kG b o n (kpE b o (fun m => e (List.mem_singleton.mp m)) hb))
    have kU : Kp [ka] H' (upd H' ka (.dK (FK.map KRow.kv))) := Kp.refl.upd_in List.mem_cons_self
    have loU : ∀ b ∈ [ka], NoSq H' b := fun b hb => by
      rw [List.mem_singleton.mp hb]
      exact noSq_dK (.inr ⟨od, hkF⟩)
    exact q _ kvs1 _ _ kF (tbF.updM hkF (fun _ e => by cases e) (fun _ _ e => by cases e)) ((upd_ne d1k).trans hD) (dn.kp kU loU)
theorem init_1 {K : PySem.W.Frag} {C : Addr} (O : Own K C) {Pt : Tb} {H : Hp} {D : Ends} {a ka ca dx D1 D2 : Addr} {cv root : V} {u5 u6 : Option V} {CK : List CRow} {kk kvs0 : List (L2.Key × V)} {rank : Str → Nat} {N : Nat} {s : Srt} (ha : H a = some (.ins (cAt K "Schema") dx (schF D1 D2 root))) (h1 : H D1 = some (.dK kvs0)) (h2 : H D2 = some (.dK [])) (hk : H ka = some (.dK kk)) (hc : H ca = some (.dK (CK.map CRow.kv))) (d1c : D1 ≠ ca) (d2k : D2 ≠ ka) (d2c : D2 ≠ ca) (kc : ca ≠ ka) (d12 : D1 ≠ D2)
    (lk : CK.length ≤ 100) (nk : (CK.map (·.name)).Nodup) (ok : ∀ r ∈ CK, r.ok K H (keyIn kk) (keyIn (CK.map CRow.kv)) rank N) (tb : Tbl Pt H) (hs : SrtV K H s root) (sok : s.ok (keyIn kk) (keyIn (CK.map CRow.kv)) 3)
    (q : ∀ H' kvs1 u5 u6, Kp [D2, Pt.b] H H' → Tbl Pt H' → H' D2 = some (.dK kvs1) → Done H H' (CK.map CRow.row) kvs1 → b_Schema___init___2 K C Pt D [some (.ref a), some (.ref ka), some cv, some root, some (.ref ca), u5, u6] H') :
    b_Schema___init___1 K C Pt D [some (.ref a), some (.ref ka), some cv, some root, some (.ref ca), u5, u6] H := by
  obtain ⟨cl, n1, n2, n3, _, _⟩ := O.Schema
  unfold b_Schema___init___1
  walk_at "go"
  refine ⟨ca, .dK (CK.map CRow.kv), hc, trivial, fun od => ⟨_, rfl, ca, od, _, rfl, upd_same, ?_⟩⟩
  obtain ⟨G, hG⟩ : ∃ G, G = upd H ca (.frz od (.dK (CK.map CRow.kv))) := ⟨_, rfl⟩
  have kpE : Kp [ca] H G := by rw [hG]; exact Kp.refl.upd_in List.mem_cons_self
  have lo : ∀ b ∈ [ca], NoSq H b := fun b hb => by
    rw [List.mem_singleton.mp hb]
    exact noSq_dK (.inl hc)
  have gf : G ca = some (.frz od (.dK (CK.map CRow.kv))) := by rw [hG]; exact upd_same
  have aca : a ≠ ca := fun e => by rw [e, hc] at ha; cases ha
  have ga := kpE.at_ (fun m => aca (List.mem_singleton.mp m)) ha
  have g1 := kpE.at_ (fun m => d2c (List.mem_singleton.mp m)) h2
  have gk := kpE.at_ (fun m => kc (List.mem_singleton.mp m).symm) hk
  have tbG : Tbl Pt G := by rw [hG]; exact tb.updD hc
  rw [← hG]
  have ad1 : a ≠ D2 := fun e => by rw [e, h2] at ha; cases ha
  have aP := tabS_ne tbG.b ga (fun ps e => by cases e)
  have cP := tabS_ne tbG.b gf (fun ps e => by cases e)
  have kP := tabS_ne tbG.b gk (fun ps e => by cases e)
  have okG : ∀ r ∈ CK, r.ok K G (keyIn kk) (keyIn (CK.map CRow.kv)) rank N := fun r hr => (ok r hr).kpN kpE lo
  have loG : ∀ b ∈ [D2, Pt.b], NoSq G b := noSq2 (noSq_dK (.inl g1)) (noSq_tab tbG.b)
  have nG : ∀ T, G T = none → H T = none := fun T h => by
    by_cases e : T = ca
    · rw [e, gf] at h
      cases h
    · rw [hG, upd_ne e] at h
      exact h
  refine for_it walk_items (fun i σ H' => Kp [D2, Pt.b] G H' ∧ Tbl Pt H' ∧ (∃ kvs1, H' D2 = some (.dK kvs1) ∧ Done H H' ((CK.take i).map CRow.row) kvs1 ∧ kvs1.length ≤ i) ∧ ∃ u5 u6, σ = [some (.ref a), some (.ref ka), some cv, some root, some (.ref ca), u5, u6])
    ⟨Kp.refl, tbG, ⟨[], g1, .nil, Nat.le_refl _⟩, _, _, rfl⟩ (fun i σ H' _ h => h.1.at_ (not2 d2c.symm cP) gf) ?_ (fun σ H' h => ?_)
  · rintro i x σ Ha Hb hi ⟨ka8, tba, ⟨kvs1, hD, dn, hl⟩, u5, u6, rfl⟩ hy
    obtain ⟨T, y1, y2, rfl, nT, rfl, e1, e2⟩ := hy
    rw [List.length_map] at hi
    obtain ⟨r, er⟩ : ∃ r, CK[i]? = some r := ⟨CK[i], List.getElem?_eq_getElem hi⟩
    have e1 : ((CK.map CRow.kv)[i]?.map fun kv => kV kv.1) = some y1 := e1
    have e2 : ((CK.map CRow.kv)[i]?.map Prod.snd) = some y2 := e2
    rw [List.getElem?_map, er] at e1 e2
    obtain rfl : V.str r.name = y1 := Option.some.inj e1
    obtain rfl : V.ref r.adr = y2 := Option.some.inj e2
    have kT := ka8.upd_new' (o := .tup [.str r.name, .ref r.adr]) nT
    have k0T : Kp [] Ha (upd Ha T (.tup [.str r.name, .ref r.adr])) := Kp.refl.upd_new' nT
    have hT : (upd Ha T (.tup [.str r.name, .ref r.adr])) T = some (.tup [.str r.name, .ref r.adr]) := upd_same
    have hD' := k0T.at_ List.not_mem_nil hD
    have dn' := dn.kp k0T (fun b m => nomatch m)
    have tb' := tba.kp0 k0T
    generalize upd Ha T (.tup [.str r.name, .ref r.adr]) = Hc at kT k0T hT hD' dn' tb' ⊢
    have gac := kT.at_ (not2 ad1 aP) ga
    have gkc := kT.at_ (not2 d2k.symm kP) gk
    have gcc := kT.at_ (not2 d2c.symm cP) gf
    have okr := (okG r (List.mem_of_getElem? er)).kpN kT loG
    walk_at "go"
    show sp_Schema_take_choice K Pt [.ref a, .ref ka, .ref ca, .str r.name, .ref r.adr] Hc _ _
    refine take_choice_go gac hD' (by omega) (.inl gkc) (.inr ⟨od, gcc⟩) okr tb' fun H2 T2 ys k2 tb2 nT2 hT2 bk hD2 => ?_
    have lo2 : ∀ b ∈ [D2, Pt.b], NoSq Hc b := noSq2 (noSq_dK (.inl hD')) (noSq_tab tb'.b)
    have nr : r.name ∉ ((CK.take i).map CRow.row).map (·.1) := by
      rw [List.map_map]
      have h := nodup_take nk (i := i) (x := r.name) (by rw [List.getElem?_map, er]; rfl)
      rw [← List.map_take] at h
      exact h
    refine ⟨kT.trans k2, tb2, ⟨_, hD2, ?_, by have := length_putK kvs1 (.inr r.name) (.ref T2); omega⟩, _, _, rfl⟩
    rw [take_snoc er, List.map_append]
    refine (dn'.kp k2 lo2).put (r := r.row) nr (nG T2 (kT.none_of (not2 (fun e => by rw [e, hD'] at nT2; cases nT2) (fun e => by
      obtain ⟨ps, h, _⟩ := tb'.b
      rw [← e, nT2] at h
      cases h)) nT2)) hT2 bk
  · obtain ⟨kG, tbF, ⟨kvs1, hD, dn, hl⟩, u5, u6, rfl⟩ := h
    rw [List.length_map, List.take_length] at dn
    have hcF := kG.at_ (not2 d2c.symm cP) gf
    refine ⟨hcF, ?_⟩
    have kF : Kp [D2, Pt.b] H (upd H' ca (.dK (CK.map CRow.kv))) := fun b o n hb => by
      by_cases e : b = ca
      · rw [e] at hb ⊢
        rw [hc] at hb
        cases hb
        exact upd_same
      · exact (upd_ne e).trans (kG b o n (kpE b o (fun m => e (List.mem_singleton.mp m)) hb))
    have kU : Kp [ca] H' (upd H' ca (.dK (CK.map CRow.kv))) := Kp.refl.upd_in List.mem_cons_self
    have loU : ∀ b ∈ [ca], NoSq H' b := fun b hb => by
      rw [List.mem_singleton.mp hb]
      exact noSq_dK (.inr ⟨od, hcF⟩)
    have tbU := tbF.updM (o := .dK (CK.map CRow.kv)) hcF (fun _ e => by cases e) (fun _ _ e => by cases e)
    have D2U := (upd_ne (o := .dK (CK.map CRow.kv)) d2c).trans hD
    have dnU := dn.kp kU loU
    obtain ⟨H5, e5⟩ : ∃ H5, H5 = upd H' ca (.dK (CK.map CRow.kv)) := ⟨_, rfl⟩
    have tbH := tb.b
    have lo5 : ∀ b ∈ [D2, Pt.b], NoSq H b := noSq2 (noSq_dK (.inl h2)) (noSq_tab tb.b)
    have hk5 := kF.at_ (not2 d2k.symm (tabS_ne tb.b hk (fun ps e => by cases e))) hk
    have hc5 := kF.at_ (not2 d2c.symm (tabS_ne tb.b hc (fun ps e => by cases e))) hc
    have hs5 := hs.kpN kF lo5
    show tSeq _ _ _ _ (upd H' ca (.dK (CK.map CRow.kv)))
    rw [← e5] at kF tbU D2U dnU hk5 hc5 hs5 ⊢
    walk_at "go"
    show sp_is_sort K 4 [.ref ka, .ref ca, root, .int 0] H5 _ _
    refine sort_go (n := 3) (.inl hk5) (.inl hc5) hs5 sok (by omega) (by omega) fun H6 k6 => ?_
    walk_at "go"
    rename_i pr npr
    have k7 : Kp [] H5 (upd H6 pr (.tup [.str "root"])) := k6.upd_new' npr
    exact q _ kvs1 _ _ (kF.trans (k7.mono fun _ m => nomatch m)) (tbU.kp0 k7) (k7.at_ List.not_mem_nil D2U) (dnU.kp k7 fun _ m => nomatch m)
theorem key_mem {kvs : List (L2.Key × V)} {z : Str} : keyIn kvs z ↔ (.inr z) ∈ kvs.map (·.1) := by
  constructor
  · rintro ⟨v, h⟩
    unfold valV at h
    cases e : kvs.find? fun kv => decide (kv.1 = .inr z) with
    | none =>
      rw [e] at h
      cases h
    | some p =>
      have h1 := List.find?_some e
      exact List.mem_map.mpr ⟨p, List.mem_of_find?_eq_some e, by simpa using h1⟩
  · intro m
    cases e : valV kvs (.inr z) with
    | some v => exact ⟨v, e⟩
    | none =>
      exfalso
      unfold valV at e
      obtain ⟨p, hp, ep⟩ := List.mem_map.mp m
      rw [Option.map_eq_none_iff, List.find?_eq_none] at e
      exact e p hp (by simp [ep])
theorem zip_at {α β : Type} {R : α → β → Prop} {f : α → Int} {xs : List β} {cs : List α} (h : Paired R cs xs) {k : Int} {x : β} (m : (k, x) ∈ (cs.map f).zip xs) : ∃ c ∈ cs, f c = k ∧ R c x := by
  induction h with
  | nil => cases m
  | cons a _ ih =>
    rw [List.map_cons, List.zip_cons_cons] at m
    rcases List.mem_cons.mp m with e | m
    · cases e
      exact ⟨_, List.mem_cons_self, rfl, a⟩
    · obtain ⟨c, hc, e, r⟩ := ih m
      exact ⟨c, List.mem_cons_of_mem _ hc, e, r⟩
theorem zip_has {α β : Type} {R : α → β → Prop} {f : α → Int} {xs : List β} {cs : List α} (h : Paired R cs xs) {c : α} (m : c ∈ cs) : ∃ x, (f c, x) ∈ (cs.map f).zip xs := by
  induction h with
  | nil => cases m
  | cons a _ ih =>
    rw [List.map_cons, List.zip_cons_cons]
    rcases List.mem_cons.mp m with e | m
    · cases e
      exact ⟨_, List.mem_cons_self⟩
    · obtain ⟨x, hx⟩ := ih m
      exact ⟨x, List.mem_cons_of_mem _ hx⟩
theorem by_head {α : Type} {R : α → V → Prop} {f : α → Int} {xs ys : List V} {cs : List α} (h : Paired R cs xs) (ne : cs ≠ []) (b : ByKey (cs.map f) xs ys) : ∃ c ∈ cs, ∃ x r, ys = x :: r ∧ R c x ∧ ∀ d ∈ cs, f c ≤ f d := by
  obtain ⟨ps, pm, rfl, pw⟩ := b
  cases ps with
  | nil =>
    have l := pm.length_eq
    cases h with
    | nil => exact absurd rfl ne
    | cons _ _ => cases l
  | cons p ps =>
    obtain ⟨k, x⟩ := p
    have m : (k, x) ∈ (cs.map f).zip xs := pm.mem_iff.mp List.mem_cons_self
    obtain ⟨c, hc, e, r⟩ := zip_at h m
    refine ⟨c, hc, x, ps.map Prod.snd, rfl, r, fun d hd => ?_⟩
    obtain ⟨y, hy⟩ := zip_has (f := f) h hd
    have hy := pm.mem_iff.mpr hy
    rcases List.mem_cons.mp hy with e2 | hy
    · cases e2
      omega
    · have := (List.pairwise_cons.mp pw).1 _ hy
      rw [e]
      exact this
theorem paired_find {α β : Type} {R : α → β → Prop} {P : β → Bool} : ∀ {xs : List α} {ys : List β} {y : β}, Paired R xs ys → ys.find? P = some y → ∃ x ∈ xs, R x y
  | _, _, _, .nil, h => by cases h
  | _, _, y, .cons (b := b) a t, h => by
    rw [List.find?_cons] at h
    cases e : P b with
    | true =>
      rw [e] at h
      cases h
      exact ⟨_, List.mem_cons_self, a⟩
    | false =>
      rw [e] at h
      obtain ⟨x, hx, r⟩ := paired_find t h
      exact ⟨x, List.mem_cons_of_mem _ hx, r⟩
theorem Done.leads {K : PySem.W.Frag} {H0 H : Hp} {nk : Str → Prop} {CK : List CRow} {kvs : List (L2.Key × V)} {rank : Str → Nat} {N : Nat} (h : Done H0 H (CK.map CRow.row) kvs) (ok : ∀ r ∈ CK, r.ok K H nk (keyIn (CK.map CRow.kv)) rank N) (z : Str) (hz : keyIn kvs z) :
    ∃ to, Leads K H kvs z to ∧ ∀ z', to = some z' → keyIn kvs z' ∧ rank z < rank z' ∧ rank z' ≤ N := by
  have ks : ∀ z', keyIn (CK.map CRow.kv) z' → keyIn kvs z' := fun z' h' => by
    rw [key_mem] at h' ⊢
    rw [h.keys]
    rw [List.map_map] at h' ⊢
    exact h'
  obtain ⟨v, hv⟩ := hz
  have hv' := hv
  unfold valV at hv
  obtain ⟨p, ep, rfl⟩ := Option.map_eq_some_iff.mp hv
  have pz : p.1 = .inr z := by simpa using List.find?_some ep
  obtain ⟨q, hq, e, T, ys, e1, e2, e3, e4⟩ := paired_find h ep
  obtain ⟨r, hr, rfl⟩ := List.mem_map.mp hq
  have rz : r.name = z := Sum.inr.inj (e.symm.trans pz)
  have okr := ok r hr
  obtain ⟨c, hc, x, rest, rfl, cv, lst⟩ := by_head okr.row.at_ okr.row.ne e4
  obtain ⟨b, rfl, hb⟩ := cv.at_
  have cok := okr.row.ok c hc
  cases es : c.s with
  | none =>
    refine ⟨none, ⟨T, b, rest, _, _, _, by rw [hv', e1], e3, hb, .inl (cv.non es)⟩, fun z' e => by cases e⟩
  | some s =>
    have sv := cv.srt s es
    by_cases isp : ∃ z', s = .pick z'
    · obtain ⟨z', rfl⟩ := isp
      have sok := cok.srt _ es
      unfold Srt.ok at sok
      refine ⟨some z', ⟨T, b, rest, _, _, _, by rw [hv', e1], e3, hb, sv⟩, fun z2 e => ?_⟩
      cases e
      have := okr.up c hc lst _ es
      rw [rz] at this
      exact ⟨ks _ sok, this⟩
    · refine ⟨none, ⟨T, b, rest, _, _, _, by rw [hv', e1], e3, hb, .inr ?_⟩, fun z' e => by cases e⟩
      cases s with
      | num _ _ => obtain ⟨a, h, g⟩ := sv; exact ⟨a, _, _, h, g, by decide +kernel⟩
      | truth => obtain ⟨a, h, g⟩ := sv; exact ⟨a, _, _, h, g, by decide +kernel⟩
      | text _ => obtain ⟨a, h, g⟩ := sv; exact ⟨a, _, _, h, g, by decide +kernel⟩
      | row _ _ => obtain ⟨a, _, h, g, _⟩ := sv; exact ⟨a, _, _, h, g, by decide +kernel⟩
      | maybe _ => obtain ⟨a, _, h, g, _⟩ := sv; exact ⟨a, _, _, h, g, by decide +kernel⟩
      | node _ => obtain ⟨a, h, g⟩ := sv; exact ⟨a, _, _, h, g, by decide +kernel⟩
      | pick z' => exact absurd ⟨z', rfl⟩ isp
theorem Leads.kpN {K : PySem.W.Frag} {H H' : Hp} {M : List Addr} {kvs : List (L2.Key × V)} {z : Str} {to : Option Str} (k : Kp M H H') (l : ∀ b ∈ M, NoSq H b) (h : Leads K H kvs z to) : Leads K H' kvs z to := by
  obtain ⟨T, c, r, num, nm, y, h1, h2, h3, h4⟩ := h
  refine ⟨T, c, r, num, nm, y, h1, k _ _ (fun m => (l T m _ h2).1 _ rfl) h2, sqT_kpN k l h3, ?_⟩
  cases to with
  | none => exact h4.imp id fun ⟨b, w, r', e, g, n⟩ => ⟨b, w, r', e, sqT_kpN k l g, n⟩
  | some z' =>
    obtain ⟨b, e, g⟩ := h4
    exact ⟨b, e, sqT_kpN k l g⟩
theorem comes_go {K : PySem.W.Frag} {H : Hp} {Q : VK} {E : XK} {a dx D1 D2 : Addr} {root : V} {kvs : List (L2.Key × V)} {z : Str} {rank : Str → Nat} {N : Nat} (ha : H a = some (.ins (cAt K "Schema") dx (schF D1 D2 root))) (hD : Rd H D2 (.dK kvs)) (hN : N ≤ 1000)
    (hw : ∀ z, keyIn kvs z → ∃ to, Leads K H kvs z to ∧ ∀ z', to = some z' → keyIn kvs z' ∧ rank z < rank z' ∧ rank z' ≤ N) (hz : keyIn kvs z) (q : ∀ H', Kp [] H H' → Q (.bl false) H') : sp_Schema_comes_back K [.ref a, .str z] H Q E := by
  unfold sp_Schema_comes_back
  exact ⟨a, z, dx, D1, D2, root, kvs, rank, N, rfl, ha, hD, hN, hw, hz, q⟩
theorem init_2 {K : PySem.W.Frag} {C : Addr} (O : Own K C) {Pt : Tb} {H H0 : Hp} {D : Ends} {a dx D1 D2 : Addr} {root : V} {u1 u2 u3 u4 u5 u6 : Option V} {CK : List CRow} {kvs : List (L2.Key × V)} {nk : Str → Prop} {rank : Str → Nat} {N : Nat} (ha : H a = some (.ins (cAt K "Schema") dx (schF D1 D2 root))) (h2 : H D2 = some (.dK kvs)) (hN : N ≤ 1000)
    (ok : ∀ r ∈ CK, r.ok K H nk (keyIn (CK.map CRow.kv)) rank N) (dn : Done H0 H (CK.map CRow.row) kvs) (q : ∀ σ H', Kp [] H H' → D.nx σ H') :
    b_Schema___init___2 K C Pt D [some (.ref a), u1, u2, u3, u4, u5, u6] H := by
  obtain ⟨cl, n1, n2, n3, _, _⟩ := O.Schema
  have ld := dn.leads ok
  unfold b_Schema___init___2
  refine ⟨D2, .dK kvs, h2, trivial, fun od => ?_⟩
  have aD : a ≠ D2 := fun e => by rw [e, h2] at ha; cases ha
  obtain ⟨G, hG⟩ : ∃ G, G = upd H D2 (.frz od (.dK kvs)) := ⟨_, rfl⟩
  have ga : G a = some (.ins (cAt K "Schema") dx (schF D1 D2 root)) := by rw [hG]; exact (upd_ne aD).trans ha
  have g2 : G D2 = some (.frz od (.dK kvs)) := by rw [hG]; exact upd_same
  rw [← hG]
  walk_at "go"
  have kpE : Kp [D2] H G := by rw [hG]; exact Kp.refl.upd_in List.mem_cons_self
  have lo : ∀ b ∈ [D2], NoSq H b := fun b hb => by
    rw [List.mem_singleton.mp hb]
    exact noSq_dK (.inl h2)
  have ldG : ∀ z, keyIn kvs z → ∃ to, Leads K G kvs z to ∧ ∀ z', to = some z' → keyIn kvs z' ∧ rank z < rank z' ∧ rank z' ≤ N := fun z hz => by
    obtain ⟨to, l, r⟩ := ld z hz
    exact ⟨to, l.kpN kpE lo, r⟩
  have ks := dn.keys
  refine ⟨D2, od, rfl, .inl ⟨kvs, g2, ?_⟩⟩
  refine for_it walk_keys (fun i σ H' => Kp [] G H' ∧ ∃ v5 v6, σ = [some (.ref a), u1, u2, u3, u4, v5, v6]) ⟨Kp.refl, _, _, rfl⟩ (fun i σ H' _ h => h.1.at_ List.not_mem_nil g2) ?_ (fun σ H' h => ?_)
  · rintro i x σ Ha Hb hi ⟨ka, v5, v6, rfl⟩ ⟨rfl, k, v, hkv, rfl⟩
    have mk : k ∈ kvs.map (·.1) := List.mem_map.mpr ⟨_, List.mem_of_getElem? hkv, rfl⟩
    obtain ⟨z, rfl⟩ : ∃ z, k = .inr z := by
      rw [ks] at mk
      obtain ⟨r, _, e⟩ := List.mem_map.mp mk
      exact ⟨_, e.symm⟩
    have gaa := ka.at_ List.not_mem_nil ga
    have gDa := ka.at_ List.not_mem_nil g2
    show gName 5 (.str z) _ _ _
    walk_at "go"
    show sp_Schema_comes_back K [.ref a, .str z] Hb _ _
    refine comes_go gaa (.inr ⟨od, gDa⟩) hN (fun z hz => by
      obtain ⟨to, l, r⟩ := ldG z hz
      exact ⟨to, l.kp0 ka, r⟩) (key_mem.mpr mk) fun H' k' => ?_
    walk_at "go"
    exact ⟨(ka.trans k').upd_new' (by assumption), _, _, rfl⟩
  · obtain ⟨kG, v5, v6, rfl⟩ := h
    refine ⟨kG.at_ List.not_mem_nil g2, q _ _ fun b o _ hb => ?_⟩
    by_cases e : b = D2
    · rw [e] at hb ⊢
      rw [h2] at hb
      cases hb
      exact upd_same
    · exact (upd_ne e).trans (kG b o List.not_mem_nil (kpE b o (fun m => e (List.mem_singleton.mp m)) hb))
theorem init_all {K : PySem.W.Frag} {C : Addr} (O : Own K C) {Pt : Tb} {H H1 : Hp} {Q : VK} {a ka ca dx D1 D2 : Addr} {cv root : V} {FK : List KRow} {CK : List CRow} {rank : Str → Nat} {N : Nat} {s : Srt} (k1 : Kp [a] H H1) (ha0 : H a = some (.ins (cAt K "Schema") dx [])) (ha : H1 a = some (.ins (cAt K "Schema") dx (schF D1 D2 root))) (h1 : H1 D1 = some (.dK [])) (h2 : H1 D2 = some (.dK [])) (hk : H1 ka = some (.dK (FK.map KRow.kv))) (hc : H1 ca = some (.dK (CK.map CRow.kv)))
    (nD1 : H D1 = none) (nD2 : H D2 = none) (d12 : D1 ≠ D2) (d1k : D1 ≠ ka) (d1c : D1 ≠ ca) (d2k : D2 ≠ ka) (d2c : D2 ≠ ca) (kc : ca ≠ ka) (lk : FK.length ≤ 100) (lc : CK.length ≤ 100) (nk : (FK.map (·.name)).Nodup) (nc : (CK.map (·.name)).Nodup)
    (okK : ∀ r ∈ FK, r.ok K H (keyIn (FK.map KRow.kv)) (keyIn (CK.map CRow.kv))) (okC : ∀ r ∈ CK, r.ok K H (keyIn (FK.map KRow.kv)) (keyIn (CK.map CRow.kv)) rank N) (hN : N ≤ 1000) (hs : SrtV K H s root) (sok : s.ok (keyIn (FK.map KRow.kv)) (keyIn (CK.map CRow.kv)) 3) (tb : Tbl Pt H)
    (q : ∀ H' D1 D2 kvs1 kvs2, Kp [a, Pt.a, Pt.b] H H' → Tbl Pt H' → H' a = some (.ins (cAt K "Schema") dx (schF D1 D2 root)) → H D1 = none → H D2 = none → D1 ≠ D2 → H' D1 = some (.dK kvs1) → H' D2 = some (.dK kvs2) →
      Done H H' (FK.map KRow.row) kvs1 → Done H H' (CK.map CRow.row) kvs2 → Q .non H') :
    b_Schema___init___0 K C Pt { nx := fun _ H' => Q .non H', rt := Q } [some (.ref a), some (.ref ka), some cv, some root, some (.ref ca), none, none] H1 := by
  have loA : ∀ b ∈ [a], NoSq H b := fun b hb => by
    rw [List.mem_singleton.mp hb]
    exact noSq_ins ha0
  have tb1 : Tbl Pt H1 := tb.kp k1 (fun m => tabS_ne tb.a ha0 (fun ps e => by cases e) (List.mem_singleton.mp m).symm) (fun m => tabS_ne tb.b ha0 (fun ps e => by cases e) (List.mem_singleton.mp m).symm) (fun b m φ e => by
    rw [List.mem_singleton.mp m, ha0] at e
    cases e)
  have up1 : ∀ {rs : List (Str × List Int × List V)} {kvs : List (L2.Key × V)} {H2 : Hp}, Done H1 H2 rs kvs → Done H H2 rs kvs := fun h => paired_imp (fun _ _ g => by
    obtain ⟨e, T, ys, e1, e2, e3⟩ := g
    refine ⟨e, T, ys, e1, ?_, e3⟩
    by_cases ea : T = a
    · rw [ea, ha] at e2
      cases e2
    · exact k1.none_of (fun m => ea (List.mem_singleton.mp m)) e2) h
  refine init_0 O ha h1 h2 hk hc d1k d1c kc d2k lk nk (fun r hr => (okK r hr).kpN k1 loA) tb1 fun H2 kvs1 u5 u6 k2 tb2 hD dn => ?_
  have lo2 : ∀ b ∈ [D1, Pt.a], NoSq H1 b := noSq2 (noSq_dK (.inl h1)) (noSq_tab tb1.a)
  have aD1 : a ≠ D1 := fun e => by rw [e, h1] at ha; cases ha
  have aD2 : a ≠ D2 := fun e => by rw [e, h2] at ha; cases ha
  have ha2 := k2.at_ (not2 aD1 (tabS_ne tb1.a ha (fun ps e => by cases e))) ha
  have h22 := k2.at_ (not2 d12.symm (tabS_ne tb1.a h2 (fun ps e => by cases e))) h2
  have hk2 := k2.at_ (not2 d1k.symm (tabS_ne tb1.a hk (fun ps e => by cases e))) hk
  have hc2 := k2.at_ (not2 d1c.symm (tabS_ne tb1.a hc (fun ps e => by cases e))) hc
  refine init_1 O ha2 hD h22 hk2 hc2 d1c d2k d2c kc d12 lc nc (fun r hr => ((okC r hr).kpN k1 loA).kpN k2 lo2) tb2 ((hs.kpN k1 loA).kpN k2 lo2) sok fun H3 kvs2 u5 u6 k3 tb3 hD3 dn3 => ?_
  have lo3 : ∀ b ∈ [D2, Pt.b], NoSq H2 b := noSq2 (noSq_dK (.inl h22)) (noSq_tab tb2.b)
  have ha3 := k3.at_ (not2 aD2 (tabS_ne tb2.b ha2 (fun ps e => by cases e))) ha2
  have hD13 := k3.at_ (not2 d12 (tabS_ne tb2.b hD (fun ps e => by cases e))) hD
  have okC3 : ∀ r ∈ CK, r.ok K H3 (keyIn (FK.map KRow.kv)) (keyIn (CK.map CRow.kv)) rank N := fun r hr => (((okC r hr).kpN k1 loA).kpN k2 lo2).kpN k3 lo3
  refine init_2 O ha3 hD3 hN okC3 dn3 fun σ H4 k4 => ?_
  have nn : ∀ T, H2 T = none → H1 T = none := fun T h => k2.none_of (not2 (fun e => by rw [e, hD] at h; cases h) (fun e => by
    obtain ⟨ps, h', _⟩ := tb2.a
    rw [← e, h] at h'
    cases h')) h
  have dn4 : Done H1 H3 (CK.map CRow.row) kvs2 := paired_imp (fun _ _ g => by
    obtain ⟨e, T, ys, e1, e2, e3⟩ := g
    exact ⟨e, T, ys, e1, nn T e2, e3⟩) dn3
  refine q H4 D1 D2 kvs1 kvs2 ?_ (tb3.kp0 k4) (k4.at_ List.not_mem_nil ha3) nD1 nD2 d12 (k4.at_ List.not_mem_nil hD13) (k4.at_ List.not_mem_nil hD3) (up1 ((dn.kp k3 lo3).kp k4 fun b m => nomatch m)) (up1 (dn4.kp k4 fun b m => nomatch m))
  intro b o n hb
  have n1 : b ≠ a := fun e => n (by rw [e]; exact List.mem_cons_self)
  have n2 : b ≠ Pt.a := fun e => n (by rw [e]; exact List.mem_cons_of_mem _ List.mem_cons_self)
  have n3 : b ≠ Pt.b := fun e => n (by rw [e]; exact List.mem_cons_of_mem _ (List.mem_cons_of_mem _ List.mem_cons_self))
  exact k4 b o List.not_mem_nil (k3 b o (not2 (ne_of_none hb nD2) n3) (k2 b o (not2 (ne_of_none hb nD1) n2) (k1 b o (fun m => n1 (List.mem_singleton.mp m)) hb)))
theorem p_Schema___init__ (K : PySem.W.Frag) (C : Addr) (O : Own K C) (Pt : Tb) (vs : List V) (H : Hp) (Q : VK) (E : XK) (h : sp_Schema___init__ K Pt vs H Q E) : t_Schema___init__ K C Pt { nx := fun _ H' => Q .non H', rt := Q } (start ["self", "kinds", "choices", "root", "some", "name", "row"] vs) H := by
  unfold sp_Schema___init__ at h
  obtain ⟨a, ka, cv, root, dx, s, FK, CK, rank, N, rfl, ha, hk, hcv, lk, lc, nk, nc, okK, okC, hN, hs, sok, tb, q⟩ := h
  obtain ⟨cl, n1, n2, n3, _, _⟩ := O.Schema
  have ha0 := ha
  rcases hcv with ⟨rfl, rfl⟩ | ⟨ca, rfl, hc, cak⟩
  · walk_at "go"
    all_goals try exact absurd rfl (by assumption)
    rename_i p3 n3' p1 n1' p2 n2' pt nt
    have e31 : p3 ≠ p1 := ne_of_none upd_same n1'
    rw [upd_ne e31.symm] at n1'
    have e12 : p1 ≠ p2 := ne_of_none upd_same n2'
    have e32 : p3 ≠ p2 := fun e => by
      rw [upd_ne e12.symm, e, upd_same] at n2'
      cases n2'
    rw [upd_ne e12.symm, upd_ne e32.symm] at n2'
    have e2t : p2 ≠ pt := ne_of_none upd_same nt
    have e1t : p1 ≠ pt := fun e => by
      rw [upd_ne e2t.symm, e, upd_same] at nt
      cases nt
    have e3t : p3 ≠ pt := fun e => by
      rw [upd_ne e2t.symm, upd_ne e1t.symm, e, upd_same] at nt
      cases nt
    rw [upd_ne e2t.symm, upd_ne e1t.symm, upd_ne e3t.symm] at nt
    have a1 := ne_of_none ha n1'
    have a2 := ne_of_none ha n2'
    have a3 := ne_of_none ha n3'
    have k1 := ne_of_none hk n1'
    have k2 := ne_of_none hk n2'
    have k3 := ne_of_none hk n3'
    have kt := ne_of_none hk nt
    have ak : a ≠ ka := fun e => by rw [e, hk] at ha; cases ha
    refine init_all (CK := []) O (a := a) (H := H) (ca := p3) ?_ ha upd_same ?_ ?_ ?_ ?_ n1' n2' e12 k1.symm e31.symm k2.symm e32.symm k3.symm lk lc nk nc okK okC hN hs sok tb q
    · exact (((((((Kp.refl.upd_new n3').upd_new n1').upd_new n2').upd_new nt).upd_in List.mem_cons_self).upd_in List.mem_cons_self).upd_in List.mem_cons_self)
    · rw [upd_ne a1.symm, upd_ne a1.symm, upd_ne a1.symm, upd_ne e1t, upd_ne e12, upd_same]
    · rw [upd_ne a2.symm, upd_ne a2.symm, upd_ne a2.symm, upd_ne e2t, upd_same]
    · rw [upd_ne ak.symm, upd_ne ak.symm, upd_ne ak.symm, upd_ne kt, upd_ne k2, upd_ne k1, upd_ne k3, hk]
    · rw [upd_ne a3.symm, upd_ne a3.symm, upd_ne a3.symm, upd_ne e3t, upd_ne e32, upd_ne e31, upd_same]
      rfl
  · walk_at "go"
    all_goals try exact absurd (by assumption) (fun e => by cases e)
    rename_i p1 n1' p2 n2' pt nt
    have e12 : p1 ≠ p2 := ne_of_none upd_same n2'
    rw [upd_ne e12.symm] at n2'
    have e2t : p2 ≠ pt := ne_of_none upd_same nt
    have e1t : p1 ≠ pt := fun e => by
      rw [upd_ne e2t.symm, e, upd_same] at nt
      cases nt
    rw [upd_ne e2t.symm, upd_ne e1t.symm] at nt
    have a1 := ne_of_none ha n1'
    have a2 := ne_of_none ha n2'
    have k1 := ne_of_none hk n1'
    have k2 := ne_of_none hk n2'
    have kt := ne_of_none hk nt
    have c1 := ne_of_none hc n1'
    have c2 := ne_of_none hc n2'
    have ct := ne_of_none hc nt
    have ak : a ≠ ka := fun e => by rw [e, hk] at ha; cases ha
    have ac : a ≠ ca := fun e => by rw [e, hc] at ha; cases ha
    refine init_all (CK := CK) O (a := a) (H := H) (ca := ca) ?_ ha upd_same ?_ ?_ ?_ ?_ n1' n2' e12 k1.symm c1.symm k2.symm c2.symm cak lk lc nk nc okK okC hN hs sok tb q
    · exact ((((((Kp.refl.upd_new n1').upd_new n2').upd_new nt).upd_in List.mem_cons_self).upd_in List.mem_cons_self).upd_in List.mem_cons_self)
    · rw [upd_ne a1.symm, upd_ne a1.symm, upd_ne a1.symm, upd_ne e1t, upd_ne e12, upd_same]
    · rw [upd_ne a2.symm, upd_ne a2.symm, upd_ne a2.symm, upd_ne e2t, upd_same]
    · rw [upd_ne ak.symm, upd_ne ak.symm, upd_ne ak.symm, upd_ne kt, upd_ne k2, upd_ne k1, hk]
    · rw [upd_ne ac.symm, upd_ne ac.symm, upd_ne ac.symm, upd_ne ct, upd_ne c2, upd_ne c1, hc]
end K02

-- imports: PS1 PS2 PS3 PS4 PS5 PS6
/-! ## k21: turning, plain -/
namespace K02
open PySem PySem.Spec PyProof.Rows L2 Kb
theorem strip_not {s : Srt} (h : Flt s) : isM (strip s) = false := by
  cases s with
  | maybe s =>
    show isM s = false
    cases s with
    | maybe s' => exact absurd rfl (h.2 s')
    | _ => rfl
  | _ => rfl
theorem flt_strip {s : Srt} (h : Flt s) : Flt (strip s) := by
  cases s with
  | maybe s => exact h.1
  | _ => exact h
theorem strip_id {s : Srt} (h : isM s = false) : strip s = s := by
  cases s with
  | maybe s => cases h
  | _ => rfl
theorem strip_strip {s : Srt} (h : Flt s) : strip (strip s) = strip s := strip_id (strip_not h)
theorem firstR_congr {f g : Nat → PyData → Option Ref} : ∀ {ds : List PyData} {k : Nat}, (∀ k e, e ∈ ds → f k e = g k e) → firstR f k ds = firstR g k ds
  | [], _, _ => rfl
  | e :: ds, k, h => by
    unfold firstR
    rw [h k e List.mem_cons_self, firstR_congr fun k e m => h k e (List.mem_cons_of_mem _ m)]
theorem refu_in {n : Nat} {p : List PyData} {o s : Srt} {d : PyData} (h : d ≠ .none) : refu (n + 1) p (.maybe o) s d = refu n (p ++ [insD]) o (strip s) d := by
  cases d <;> first | rfl | exact absurd rfl h
theorem refuB_row {go : List PyData → Srt → Srt → PyData → Option Ref} {p : List PyData} {k m : Int} {s s' : Srt} {ds : List PyData} : refuB go p (.row k s) (.row m s') (.tuple ds) = if (m < (ds.length : Int)) then some (p, ("most" : Str)) else firstR (fun k e => go (p ++ [.int k]) s s' e) 0 ds := rfl
/-- how deep is told is of no matter -/
theorem refu_fuel : ∀ {n m : Nat} {p : List PyData} {o s : Srt} {d : PyData}, o.dep < n → o.dep < m → refu n p o s d = refu m p o s d
  | 0, _, _, _, _, _, h, _ => absurd h (Nat.not_lt_zero _)
  | _ + 1, 0, _, _, _, _, _, h => absurd h (Nat.not_lt_zero _)
  | n + 1, m + 1, p, o, s, d, h1, h2 => by
    cases o with
    | maybe o =>
      have g1 : o.dep < n := Nat.lt_of_succ_lt_succ h1
      have g2 : o.dep < m := Nat.lt_of_succ_lt_succ h2
      by_cases e : d = .none
      · rw [e]
        rfl
      · rw [refu_in e, refu_in e]
        exact refu_fuel g1 g2
    | row k o =>
      have g1 : o.dep < n := Nat.lt_of_succ_lt_succ h1
      have g2 : o.dep < m := Nat.lt_of_succ_lt_succ h2
      show refuB (refu n) p (.row k o) (strip s) d = refuB (refu m) p (.row k o) (strip s) d
      cases strip s with
      | row m' s' =>
        cases d with
        | tuple ds =>
          rw [refuB_row, refuB_row, firstR_congr fun k e _ => refu_fuel (p := p ++ [.int k]) (s := s') (d := e) g1 g2]
        | _ => rfl
      | _ => cases d <;> rfl
    | num a b =>
      show refuB (refu n) p (.num a b) (strip s) d = refuB (refu m) p (.num a b) (strip s) d
      cases strip s <;> cases d <;> rfl
    | truth =>
      show refuB (refu n) p .truth (strip s) d = refuB (refu m) p .truth (strip s) d
      cases strip s <;> cases d <;> rfl
    | text a =>
      show refuB (refu n) p (.text a) (strip s) d = refuB (refu m) p (.text a) (strip s) d
      cases strip s <;> cases d <;> rfl
    | node a =>
      show refuB (refu n) p (.node a) (strip s) d = refuB (refu m) p (.node a) (strip s) d
      cases strip s <;> cases d <;> rfl
    | pick a =>
      show refuB (refu n) p (.pick a) (strip s) d = refuB (refu m) p (.pick a) (strip s) d
      cases strip s <;> cases d <;> rfl
theorem firstI_spread {n : Nat} {p : List PyData} {s s' : Srt} : ∀ {ds : List PyData} {k : Nat}, firstI n (spread p s s' k ds) = firstR (fun k e => refu n (p ++ [.int k]) s s' e) k ds
  | [], _ => rfl
  | e :: ds, k => by
    unfold spread firstI firstR
    rw [firstI_spread]
theorem firstI_one {n : Nat} {i : Itm} : firstI n [i] = refu n i.p i.o i.n i.d := by
  unfold firstI firstI
  cases refu n i.p i.o i.n i.d <;> rfl
theorem firstI_app {n : Nat} {bs : List Itm} : ∀ {as : List Itm}, firstI n (as ++ bs) = match firstI n as with
    | some r => some r
    | none => firstI n bs
  | [] => rfl
  | i :: as => by
    have ih := firstI_app (n := n) (as := as) (bs := bs)
    show (match refu n i.p i.o i.n i.d with | some r => some r | none => firstI n (as ++ bs)) = match (match refu n i.p i.o i.n i.d with | some r => some r | none => firstI n as) with | some r => some r | none => firstI n bs
    rw [ih]
    cases refu n i.p i.o i.n i.d <;> rfl
theorem kidsB_refu {p : List PyData} {o n : Srt} {d : PyData} (dp : o.dep ≤ 8) : match kidsB p o n d with
    | .error r => refuB (refu 9) p o n d = some r
    | .ok cs => refuB (refu 9) p o n d = firstI 10 cs := by
  cases o with
  | num a b =>
    cases n with
    | num lo hi =>
      cases d with
      | int i =>
        show match (if withinB i lo hi then Except.ok [] else .error (p, "bounds") : Except Ref (List Itm)) with
          | .error r => (if withinB i lo hi then none else some (p, ("bounds" : Str))) = some r
          | .ok cs => (if withinB i lo hi then none else some (p, ("bounds" : Str))) = firstI 10 cs
        cases withinB i lo hi <;> rfl
      | _ => rfl
    | _ => cases d <;> rfl
  | truth =>
    cases n <;> cases d <;> rfl
  | text a =>
    cases n with
    | text m =>
      cases d with
      | str z =>
        show match (if (m < (z.length : Int)) then .error (p, "most") else Except.ok [] : Except Ref (List Itm)) with
          | .error r => (if (m < (z.length : Int)) then some (p, ("most" : Str)) else none) = some r
          | .ok cs => (if (m < (z.length : Int)) then some (p, ("most" : Str)) else none) = firstI 10 cs
        by_cases h : m < (z.length : Int)
        · rw [if_pos h, if_pos h]
        · rw [if_neg h, if_neg h]
          rfl
      | _ => rfl
    | _ => cases d <;> rfl
  | row k s =>
    cases n with
    | row m s' =>
      cases d with
      | tuple ds =>
        rw [refuB_row]
        show match (if (m < (ds.length : Int)) then .error (p, "most") else Except.ok (spread p s s' 0 ds) : Except Ref (List Itm)) with
          | .error r => (if (m < (ds.length : Int)) then some (p, ("most" : Str)) else firstR (fun k e => refu 9 (p ++ [.int k]) s s' e) 0 ds) = some r
          | .ok cs => (if (m < (ds.length : Int)) then some (p, ("most" : Str)) else firstR (fun k e => refu 9 (p ++ [.int k]) s s' e) 0 ds) = firstI 10 cs
        by_cases h : m < (ds.length : Int)
        · rw [if_pos h, if_pos h]
        · rw [if_neg h, if_neg h]
          show _ = firstI 10 (spread p s s' 0 ds)
          rw [firstI_spread]
          have g1 : s.dep < 9 := by
            have : s.dep + 1 ≤ 8 := dp
            omega
          exact firstR_congr fun k e _ => refu_fuel g1 (by omega)
      | _ => rfl
    | _ => cases d <;> rfl
  | maybe s => cases n <;> cases d <;> rfl
  | node k => cases n <;> cases d <;> rfl
  | pick k => cases n <;> cases d <;> rfl
theorem kids_in {p : List PyData} {o n : Srt} {d : PyData} (h : d ≠ .none) : kids ⟨p, .maybe o, n, d⟩ = .ok [⟨p ++ [insD], o, strip n, d⟩] := by
  cases d <;> first | rfl | exact absurd rfl h
theorem kids_non {p : List PyData} {o n : Srt} : kids ⟨p, .maybe o, n, .none⟩ = if isM n then .ok [] else .error (p, "nothing") := rfl
theorem refu_non {k : Nat} {p : List PyData} {o n : Srt} : refu (k + 1) p (.maybe o) n .none = if isM n then none else some (p, ("nothing" : Str)) := rfl
theorem kids_new {p : List PyData} {o n : Srt} {d : PyData} (h : isM o = false) : kids ⟨p, o, .maybe n, d⟩ = .ok [⟨p, o, n, d⟩] := by
  cases o <;> first | rfl | cases h
theorem kids_base {p : List PyData} {o n : Srt} {d : PyData} (h : isM o = false) (h2 : isM n = false) : kids ⟨p, o, n, d⟩ = kidsB p o n d := by
  cases o <;> first | (cases h; done) | (cases n <;> first | rfl | (cases h2; done))
theorem refu_base {k : Nat} {p : List PyData} {o n : Srt} {d : PyData} (h : isM o = false) : refu (k + 1) p o n d = refuB (refu k) p o (strip n) d := by
  cases o <;> first | rfl | cases h
/-- what goes into a place, and what is refused at it -/
theorem kids_refu {i : Itm} (fn : Flt i.n) (dp : i.o.dep ≤ 8) : match kids i with
    | .error r => refu 10 i.p i.o i.n i.d = some r
    | .ok cs => refu 10 i.p i.o i.n i.d = firstI 10 cs := by
  obtain ⟨p, o, n, d⟩ := i
  have fn : Flt n := fn
  have dp : o.dep ≤ 8 := dp
  show match kids ⟨p, o, n, d⟩ with
    | .error r => refu 10 p o n d = some r
    | .ok cs => refu 10 p o n d = firstI 10 cs
  cases em : isM o with
  | true =>
    cases o with
    | maybe o =>
      by_cases e : d = .none
      · subst e
        rw [kids_non, refu_non]
        cases isM n <;> rfl
      · rw [kids_in e, refu_in e]
        show _ = firstI 10 [_]
        rw [firstI_one]
        have : o.dep + 1 ≤ 8 := dp
        exact refu_fuel (by omega) (by omega)
    | _ => cases em
  | false =>
    rw [refu_base em]
    cases en : isM n with
    | true =>
      cases n with
      | maybe n =>
        rw [kids_new em]
        show _ = firstI 10 [_]
        rw [firstI_one]
        show refuB (refu 9) p o n d = refu 10 p o n d
        have : strip n = n := strip_id (strip_not (s := .maybe n) fn)
        rw [refu_base em, this]
      | _ => cases en
    | false =>
      rw [kids_base em en, strip_id en]
      exact kidsB_refu dp
/-- how much there is to go through at a place -/
def wt (i : Itm) : Nat := psz i.d * (4 * (i.o.dep + 1)) + if isM i.n then 1 else 0
def wts : List Itm → Nat
  | [] => 0
  | i :: is => wt i + wts is
theorem wts_app {as bs : List Itm} : wts (as ++ bs) = wts as + wts bs := by
  induction as with
  | nil => exact (Nat.zero_add _).symm
  | cons a as ih =>
    show wt a + wts (as ++ bs) = wt a + wts as + wts bs
    rw [ih, Nat.add_assoc]
theorem size_pos (d : PyData) : 1 ≤ psz d := by
  cases d with
  | tuple ds => exact Nat.le_add_right 1 _
  | _ => exact Nat.le_refl 1
theorem wts_spread {p : List PyData} {s s' : Srt} : ∀ {ds : List PyData} {k : Nat}, wts (spread p s s' k ds) ≤ pszs ds * (4 * (s.dep + 2))
  | [], _ => Nat.zero_le _
  | e :: ds, k => by
    unfold spread wts
    have ih := wts_spread (p := p) (s := s) (s' := s') (ds := ds) (k := k + 1)
    have h1 : wt ⟨p ++ [.int k], s, s', e⟩ ≤ psz e * (4 * (s.dep + 2)) := by
      unfold wt
      show psz e * (4 * (s.dep + 1)) + (if isM s' then 1 else 0) ≤ _
      have z := size_pos e
      have b : (if isM s' = true then 1 else 0) ≤ 1 := by split <;> omega
      have h4 : 4 * (s.dep + 2) = 4 * (s.dep + 1) + 4 := by omega
      rw [h4, Nat.mul_add (psz e) (4 * (s.dep + 1)) 4]
      exact Nat.add_le_add_left (by omega) _
    have hs : pszs (e :: ds) = psz e + pszs ds := rfl
    rw [hs, Nat.add_mul]
    generalize psz e * (4 * (s.dep + 2)) = a at h1 ⊢
    generalize pszs ds * (4 * (s.dep + 2)) = b at ih ⊢
    omega
theorem kids_wt {i : Itm} (fn : Flt i.n) {cs : List Itm} (h : kids i = .ok cs) : wts cs < wt i := by
  obtain ⟨p, o, n, d⟩ := i
  have fn : Flt n := fn
  have zz := size_pos d
  have pos : 0 < wt ⟨p, o, n, d⟩ := by
    unfold wt
    show 0 < psz d * (4 * (o.dep + 1)) + _
    have : 0 < psz d * (4 * (o.dep + 1)) := Nat.mul_pos (by omega) (by omega)
    omega
  cases em : isM o with
  | true =>
    cases o with
    | maybe o =>
      by_cases e : d = .none
      · subst e
        rw [kids_non] at h
        cases en : isM n with
        | true => rw [en] at h; cases h; exact pos
        | false => rw [en] at h; cases h
      · rw [kids_in e] at h
        cases h
        show wt ⟨p ++ [insD], o, strip n, d⟩ + 0 < wt ⟨p, .maybe o, n, d⟩
        unfold wt
        show psz d * (4 * (o.dep + 1)) + (if isM (strip n) then 1 else 0) + 0 < psz d * (4 * (o.dep + 1 + 1)) + _
        rw [strip_not fn]
        have h4 : 4 * (o.dep + 1 + 1) = 4 * (o.dep + 1) + 4 := by omega
        rw [h4, Nat.mul_add (psz d) (4 * (o.dep + 1)) 4]
        exact Nat.lt_of_lt_of_le (Nat.add_lt_add_left (show 0 < psz d * 4 by omega) _) (Nat.le_add_right _ _)
    | _ => cases em
  | false =>
    cases en : isM n with
    | true =>
      cases n with
      | maybe n =>
        rw [kids_new em] at h
        cases h
        show wt ⟨p, o, n, d⟩ + 0 < wt ⟨p, o, .maybe n, d⟩
        unfold wt
        have : isM n = false := strip_not (s := .maybe n) fn
        show psz d * (4 * (o.dep + 1)) + (if isM n then 1 else 0) + 0 < psz d * (4 * (o.dep + 1)) + 1
        rw [this]
        show _ + 0 + 0 < _
        omega
      | _ => cases en
    | false =>
      rw [kids_base em en] at h
      have nil : cs = [] → wts cs < wt ⟨p, o, n, d⟩ := fun e => by rw [e]; exact pos
      cases o with
      | row k s =>
        cases n with
        | row m s' =>
          cases d with
          | tuple ds =>
            have h : (if (m < (ds.length : Int)) then .error (p, "most") else Except.ok (spread p s s' 0 ds) : Except Ref (List Itm)) = .ok cs := h
            by_cases g : m < (ds.length : Int)
            · rw [if_pos g] at h
              cases h
            · rw [if_neg g] at h
              cases h
              have w := wts_spread (p := p) (s := s) (s' := s') (ds := ds) (k := 0)
              unfold wt
              show _ < psz (PyData.tuple ds) * (4 * (s.dep + 1 + 1)) + _
              have : psz (PyData.tuple ds) = 1 + pszs ds := rfl
              rw [this, Nat.add_mul]
              have : s.dep + 1 + 1 = s.dep + 2 := rfl
              rw [this]
              omega
          | _ => cases h
        | _ => cases d <;> cases h
      | num a b =>
        cases n with
        | num lo hi =>
          cases d with
          | int j =>
            have h : (if withinB j lo hi then Except.ok [] else .error (p, "bounds") : Except Ref (List Itm)) = .ok cs := h
            cases g : withinB j lo hi with
            | true => rw [g] at h; cases h; exact pos
            | false => rw [g] at h; cases h
          | _ => cases h
        | _ => cases d <;> cases h
      | truth =>
        cases n with
        | truth => cases d <;> (cases h; exact pos)
        | _ => cases d <;> cases h
      | text a =>
        cases n with
        | text m =>
          cases d with
          | str z =>
            have h : (if (m < (z.length : Int)) then .error (p, "most") else Except.ok [] : Except Ref (List Itm)) = .ok cs := h
            by_cases g : m < (z.length : Int)
            · rw [if_pos g] at h; cases h
            · rw [if_neg g] at h; cases h; exact pos
          | _ => cases h
        | _ => cases d <;> cases h
      | maybe s => cases em
      | node k => cases n <;> cases d <;> cases h
      | pick k => cases n <;> cases d <;> cases h
end K02

-- imports: PS1 PS2 PS3 PS4 PS5 PS6 PU1
/-! ## k21: turning, the walk -/
namespace K02
open PySem PySem.Spec PyProof.Rows L2 Kb
theorem len_NoTurn___init__ (K : PySem.W.Frag) : ∀ vs H Q E, sp_NoTurn___init__ K vs H Q E → vs.length = ["self", "path", "why"].length := by
  intro vs H Q E h
  unfold sp_NoTurn___init__ at h
  exact spInit2_len vs H Q E h
theorem p_NoTurn___init__ (K : PySem.W.Frag) (x : XCls K (cAt K "NoTurn")) (n1 : PySem.W.findIn K (.ref (cAt K "NoTurn")) "path" = some none) (n2 : PySem.W.findIn K (.ref (cAt K "NoTurn")) "why" = some none) (vs : List V) (H : Hp) (Q : VK) (E : XK) (h : sp_NoTurn___init__ K vs H Q E) :
    t_NoTurn___init__ K { nx := fun _ H' => Q .non H', rt := Q } (start ["self", "path", "why"] vs) H := by
  unfold sp_NoTurn___init__ spInit2 at h
  obtain ⟨a, p, w, rfl, ha, q⟩ := h
  unfold t_NoTurn___init__
  refine ⟨_, rfl, _, rfl, ?_⟩
  refine ⟨sz_of' (by simp), fun t nt => ?_⟩
  refine gTup_go (SqT.of upd_same) rfl ?_
  have ta : t ≠ a := (ne_of_none ha nt).symm
  refine ⟨_, _, rfl, _, rfl, a, cAt K "NoTurn", rfl, x.o, n1, .inl ⟨(upd_ne ta.symm).trans ha, fun d nd da => ?_⟩⟩
  have td : t ≠ d := fun e => by
    rw [e, upd_same] at nd
    cases nd
  refine ⟨_, _, rfl, _, rfl, a, cAt K "NoTurn", rfl, x.o, n2, .inr ⟨d, _, upd_same, (upd_ne da).trans upd_same, by simp, ?_⟩⟩
  exact ⟨rfl, q t d nt ((upd_ne td.symm).symm.trans nd) da td ta⟩
theorem len_Turning___init__ (K : PySem.W.Frag) : ∀ vs H Q E, sp_Turning___init__ K vs H Q E → vs.length = ["self", "old", "new"].length := by
  intro vs H Q E h
  unfold sp_Turning___init__ at h
  obtain ⟨_, _, _, _, _, rfl, _⟩ := h
  rfl
theorem p_Turning___init__ (K : PySem.W.Frag) (C : Addr) (O : Own K C) (vs : List V) (H : Hp) (Q : VK) (E : XK) (h : sp_Turning___init__ K vs H Q E) : t_Turning___init__ K C { nx := fun _ H' => Q .non H', rt := Q } (start ["self", "old", "new", "kind"] vs) H := by
  unfold sp_Turning___init__ at h
  obtain ⟨t, a, b, s, dx, rfl, ht, ⟨dy, D1, D2, root, hb, h1, hs⟩, q⟩ := h
  obtain ⟨cl, n1, n2, n3, _, _⟩ := O.Turning
  obtain ⟨cl2, m1, m2, m3, _, _⟩ := O.Schema
  unfold schF at hb
  walk_at "go"
  obtain ⟨H1, e1⟩ : ∃ H1, H1 = upd (upd H t (.ins (cAt K "Turning") dx [("old", .ref a)])) t (.ins (cAt K "Turning") dx [("old", .ref a), ("new", .ref b)]) := ⟨_, rfl⟩
  have k1 : Kp [t] H H1 := by rw [e1]; exact (Kp.refl.upd_in List.mem_cons_self).upd_in List.mem_cons_self
  have ht1 : H1 t = some (.ins (cAt K "Turning") dx [("old", .ref a), ("new", .ref b)]) := by rw [e1]; exact upd_same
  have tD : t ≠ D1 := fun e => by rw [e, h1] at ht; cases ht
  have h11 : H1 D1 = some (.dK []) := k1.at_ (fun m => tD (List.mem_singleton.mp m).symm) h1
  show sFldU K (tVar 0) (tLockE (tDc (iKeys (tUn (rFldU K "kinds") (tVar 2))) (gName 3) tYes (tVar 3) tDNewK [3])) "twins" _ _ _
  rw [show upd (upd H t (.ins (cAt K "Turning") dx [("old", .ref a)])) t (.ins (cAt K "Turning") dx [("old", .ref a), ("new", .ref b)]) = H1 from e1.symm]
  by_cases tb : t = b
  · rw [tb, hb] at ht
    have e := Option.some.inj ht
    injection e with _ _ e3
    cases e3
  have hb1 := k1.at_ (fun m => tb (List.mem_singleton.mp m).symm) hb
  unfold sFldU
  refine ⟨D1, .dK [], h11, trivial, fun od => ?_⟩
  have bD : b ≠ D1 := fun e => by rw [e, h1] at hb; cases hb
  have hb2 := (upd_ne (o := .frz od (.dK [])) bD).trans hb1
  refine ⟨_, rfl, ?_⟩
  refine fld_go hb2 cl2 m1 lk_here ?_
  refine ⟨D1, od, rfl, .inl ⟨[], upd_same, fun T nT => ?_⟩⟩
  refine ⟨fun i m H' => i = 0 ∧ H' = upd (upd H1 D1 (.frz od (.dK []))) T (.dK []), ⟨0, rfl, rfl⟩, ?_⟩
  rintro i m H' ⟨rfl, rfl⟩
  have DT : D1 ≠ T := fun e => by rw [← e, upd_same] at nT; cases nT
  have TD' : (upd (upd H1 D1 (.frz od (.dK []))) T (.dK [])) D1 = some (.frz od (.dK [])) := (upd_ne DT).trans upd_same
  refine .inl ⟨⟨TD', Nat.le_refl _⟩, TD', ?_⟩
  have hT3 : (upd (upd (upd H1 D1 (.frz od (.dK []))) T (.dK [])) D1 (.dK [])) t = some (.ins (cAt K "Turning") dx [("old", .ref a), ("new", .ref b)]) := by
    have tT : t ≠ T := fun e => by
      rw [← e, upd_ne tD, ht1] at nT
      cases nT
    rw [upd_ne tD, upd_ne tT, upd_ne tD]
    exact ht1
  have hT4 : (upd (upd (upd H1 D1 (.frz od (.dK []))) T (.dK [])) D1 (.dK [])) T = some (.dK []) := (upd_ne DT.symm).trans upd_same
  have nT1 : H1 T = none := (upd_ne DT.symm).symm.trans nT
  have k3 : Kp [t] H (upd (upd (upd H1 D1 (.frz od (.dK []))) T (.dK [])) D1 (.dK [])) := by
    intro x u n e
    have e1 := k1 x u n e
    by_cases x1 : x = D1
    · rw [x1] at e1 ⊢
      rw [h11] at e1
      rw [upd_same]
      exact e1
    · rw [upd_ne x1, upd_ne (fun z => by rw [z, nT1] at e1; cases e1), upd_ne x1]
      exact e1
  have tT : T ≠ t := fun e => by rw [e, ht1] at nT1; cases nT1
  generalize upd (upd (upd H1 D1 (.frz od (.dK []))) T (.dK [])) D1 (.dK []) = H4 at hT3 hT4 k3 ⊢
  walk_at "go"
  exact q _ T (k3.upd_in List.mem_cons_self) (k1.none_of (fun m => tT (List.mem_singleton.mp m)) nT1) upd_same ((upd_ne tT).trans hT4)
end K02

-- imports: PS1 PS2 PS3 PS4 PS5 PS6 PU1 PU2
/-! ## k21: what goes into a place -/
namespace K02
open PySem PySem.Spec PyProof.Rows L2 Kb
def NoT (H : Hp) (b : Addr) : Prop := ∀ u, H b = some u → (∀ xs, u ≠ .tup xs) ∧ ∀ o xs, u ≠ .frz o (.tup xs)
theorem noT_lst {H : Hp} {b : Addr} {xs : List V} (h : H b = some (.lst xs)) : NoT H b := fun u e => by
  rw [h] at e
  cases e
  exact ⟨(fun _ e => by cases e), fun _ _ e => by cases e⟩
theorem one {H : Hp} {b : Addr} {P : Hp → Addr → Prop} (h : P H b) : ∀ x ∈ [b], P H x := fun x m => by rw [List.mem_singleton.mp m]; exact h
theorem sqT_kpT {K : PySem.W.Frag} {H H' : Hp} {M : List Addr} {a : Addr} {xs : List V} (k : Kp M H H') (l : ∀ b ∈ M, NoT H b) (h : SqT K H a xs) : SqT K H' a xs := by
  rcases h with (h | ⟨o, h⟩) | h
  · exact .inl (.inl (k _ _ (fun z => (l a z _ h).1 _ rfl) h))
  · exact .inl (.inr ⟨o, k _ _ (fun z => (l a z _ h).2 _ _ rfl) h⟩)
  · exact .inr h
theorem SrtV.kpT {K : PySem.W.Frag} {H H' : Hp} {M : List Addr} (k : Kp M H H') (l : ∀ b ∈ M, NoT H b) : ∀ {s : Srt} {x : V}, SrtV K H s x → SrtV K H' s x
  | .num _ _, _, ⟨a, h, g⟩ => ⟨a, h, sqT_kpT k l g⟩
  | .truth, _, ⟨a, h, g⟩ => ⟨a, h, sqT_kpT k l g⟩
  | .text _, _, ⟨a, h, g⟩ => ⟨a, h, sqT_kpT k l g⟩
  | .row _ s, _, ⟨a, y, h, g, r⟩ => ⟨a, y, h, sqT_kpT k l g, SrtV.kpT k l (s := s) r⟩
  | .maybe s, _, ⟨a, y, h, g, r⟩ => ⟨a, y, h, sqT_kpT k l g, SrtV.kpT k l (s := s) r⟩
  | .node _, _, ⟨a, h, g⟩ => ⟨a, h, sqT_kpT k l g⟩
  | .pick _, _, ⟨a, h, g⟩ => ⟨a, h, sqT_kpT k l g⟩
def wrd : Srt → Str
  | .num _ _ => "number"
  | .truth => "truth"
  | .text _ => "text"
  | .row _ _ => "row"
  | .maybe _ => "maybe"
  | .node _ => "node"
  | .pick _ => "choice"
theorem srtV_wrd {K : PySem.W.Frag} {H : Hp} : ∀ {s : Srt} {x : V}, SrtV K H s x → ∃ a r, x = .ref a ∧ SqT K H a (.str (wrd s) :: r)
  | .num _ _, _, ⟨a, h, g⟩ => ⟨a, _, h, g⟩
  | .truth, _, ⟨a, h, g⟩ => ⟨a, _, h, g⟩
  | .text _, _, ⟨a, h, g⟩ => ⟨a, _, h, g⟩
  | .row _ _, _, ⟨a, _, h, g, _⟩ => ⟨a, _, h, g⟩
  | .maybe _, _, ⟨a, _, h, g, _⟩ => ⟨a, _, h, g⟩
  | .node _, _, ⟨a, h, g⟩ => ⟨a, _, h, g⟩
  | .pick _, _, ⟨a, h, g⟩ => ⟨a, _, h, g⟩
theorem wrd_maybe {s : Srt} (h : isM s = false) : wrd s ≠ "maybe" := by
  cases s with
  | num _ _ => show ("number" : Str) ≠ "maybe"; decide +kernel
  | truth => show ("truth" : Str) ≠ "maybe"; decide +kernel
  | text _ => show ("text" : Str) ≠ "maybe"; decide +kernel
  | row _ _ => show ("row" : Str) ≠ "maybe"; decide +kernel
  | maybe _ => cases h
  | node _ => show ("node" : Str) ≠ "maybe"; decide +kernel
  | pick _ => show ("choice" : Str) ≠ "maybe"; decide +kernel
theorem dp_none {K : PySem.W.Frag} {H : Hp} {x : V} {d : PyData} (h : Dp K H x d) : x = .non ↔ d = .none := by
  cases h <;> simp
section
variable {K : PySem.W.Frag} {H H' : Hp}
mutual
theorem dp_kp0 (k : Kp [] H H') : ∀ {d : PyData} {v : V}, Dp K H v d → Dp K H' v d
  | .none, _, h => by cases h; exact .non
  | .bool b, _, h => by cases h; exact .bl b
  | .int i, _, h => by cases h; exact .int i
  | .str x, _, h => by cases h; exact .str x
  | .list ds, _, h => by
    cases h with
    | lst hx hs => exact .lst (k.sqL List.not_mem_nil hx) (dpAll_kp0 k hs)
  | .tuple ds, _, h => by
    cases h with
    | tup hx hs => exact .tup (k.sqT List.not_mem_nil hx) (dpAll_kp0 k hs)
  | .dict _, _, h => by cases h
theorem dpAll_kp0 (k : Kp [] H H') : ∀ {ds : List PyData} {vs : List V}, DpAll K H vs ds → DpAll K H' vs ds
  | [], _, h => by cases h; exact .nil
  | d :: ds, _, h => by
    cases h with
    | cons a b => exact .cons (dp_kp0 k a) (dpAll_kp0 k b)
end
theorem dpAll_app {xs ys : List V} {ds es : List PyData} (h1 : DpAll K H xs ds) (h2 : DpAll K H ys es) : DpAll K H (xs ++ ys) (ds ++ es) := by
  induction xs generalizing ds with
  | nil => cases h1; exact h2
  | cons x xs ih =>
    cases h1 with
    | cons a b => exact .cons a (ih b)
theorem dpAll_len : ∀ {xs : List V} {ds : List PyData}, DpAll K H xs ds → xs.length = ds.length
  | [], _, h => by cases h; rfl
  | x :: xs, _, h => by
    cases h with
    | cons a b => rw [List.length_cons, List.length_cons, dpAll_len b]
theorem noLs_app : ∀ {a b : List PyData}, noLs (a ++ b) = (noLs a && noLs b)
  | [], _ => rfl
  | d :: a, b => by
    show (noL d && noLs (a ++ b)) = (noL d && noLs a && noLs b)
    rw [noLs_app, Bool.and_assoc]
theorem PathOk.snoc {n : Nat} {p : List PyData} {d : PyData} (h : PathOk n p) (hd : noL d = true) : PathOk (n + 1) (p ++ [d]) := by
  refine ⟨by rw [List.length_append]; exact Nat.succ_le_succ h.1, ?_⟩
  rw [noLs_app, h.2]
  show (true && (noL d && true)) = true
  rw [hd]
  rfl
theorem PathOk.mono {n m : Nat} {p : List PyData} (h : PathOk n p) (l : n ≤ m) : PathOk m p := ⟨Nat.le_trans h.1 l, h.2⟩
theorem of_noL : ∀ {s : Srt} {d : PyData}, Of s d → noL d = true
  | .num _ _, _, ⟨_, h⟩ => by subst h; rfl
  | .truth, _, ⟨_, h⟩ => by subst h; rfl
  | .text _, _, ⟨_, h, _⟩ => by subst h; rfl
  | .row _ s, _, ⟨ds, h, _, hs⟩ => by
    subst h
    show noLs ds = true
    have : ∀ l : List PyData, (∀ e ∈ l, e ∈ ds) → noLs l = true := fun l => by
      induction l with
      | nil => exact fun _ => rfl
      | cons e l ih =>
        intro m
        show (noL e && noLs l) = true
        rw [of_noL (hs e (m e List.mem_cons_self)), ih fun x hx => m x (List.mem_cons_of_mem _ hx)]
        rfl
    exact this ds fun _ m => m
  | .maybe s, _, h => by
    rcases h with h | h
    · subst h; rfl
    · exact of_noL h.2
mutual
theorem dp_kpT {M : List Addr} (k : Kp M H H') (l : ∀ b ∈ M, NoT H b) : ∀ {d : PyData} {v : V}, noL d = true → Dp K H v d → Dp K H' v d
  | .none, _, _, h => by cases h; exact .non
  | .bool b, _, _, h => by cases h; exact .bl b
  | .int i, _, _, h => by cases h; exact .int i
  | .str x, _, _, h => by cases h; exact .str x
  | .list ds, _, n, _ => by cases n
  | .tuple ds, _, n, h => by
    cases h with
    | tup hx hs => exact .tup (sqT_kpT k l hx) (dpAll_kpT k l n hs)
  | .dict _, _, _, h => by cases h
theorem dpAll_kpT {M : List Addr} (k : Kp M H H') (l : ∀ b ∈ M, NoT H b) : ∀ {ds : List PyData} {vs : List V}, noLs ds = true → DpAll K H vs ds → DpAll K H' vs ds
  | [], _, _, h => by cases h; exact .nil
  | d :: ds, _, n, h => by
    have n : (noL d && noLs ds) = true := n
    rw [Bool.and_eq_true] at n
    cases h with
    | cons a b => exact .cons (dp_kpT k l n.1 a) (dpAll_kpT k l n.2 b)
end
theorem ItmV.kpT {M : List Addr} {i : Itm} {v : V} (h : ItmV K H i v) (k : Kp M H H') (l : ∀ b ∈ M, NoT H b) : ItmV K H' i v := by
  obtain ⟨t, pa, o, n, x, e, ht, hp, ho, hn, hx⟩ := h.ex
  exact ⟨⟨t, pa, o, n, x, e, sqT_kpT k l ht, dp_kpT k l h.lp.2 hp, ho.kpT k l, hn.kpT k l, dp_kpT k l (of_noL h.of) hx⟩, h.of, h.fo, h.fn, h.lp⟩
theorem SrtV.kp0' (k : Kp [] H H') {s : Srt} {x : V} (h : SrtV K H s x) : SrtV K H' s x := h.kp0 k
theorem ItmV.kp0 {i : Itm} {v : V} (h : ItmV K H i v) (k : Kp [] H H') : ItmV K H' i v := by
  obtain ⟨t, pa, o, n, x, e, ht, hp, ho, hn, hx⟩ := h.ex
  exact ⟨⟨t, pa, o, n, x, e, k.sqT List.not_mem_nil ht, dp_kp0 k hp, ho.kp0 k, hn.kp0 k, dp_kp0 k hx⟩, h.of, h.fo, h.fn, h.lp⟩
end
theorem insD_dp {K : PySem.W.Frag} {C : Addr} {H : Hp} (O : Own K C) : Dp K H (.ref (cAt K "INSIDE")) insD := .tup O.gt_INSIDE.sqT (.cons (.str _) .nil)
/-- NoTurn raised -/
theorem turn_raise {K : PySem.W.Frag} {H : Hp} {p : List PyData} {w : Str} {E : XK} {pa a : Addr} (hp : Dp K H (.ref pa) (.tuple p)) (q : ExT K p w H E) (na : H a = none) :
    sp_NoTurn___init__ K (.ref a :: ([.ref pa, .str w] ++ [])) (upd H a (exo a (cAt K "NoTurn") none))
      (fun v H2 => v = .non ∧ ∃ (d : Addr) (fs : List (Str × V)), H2 a = some (exo a (cAt K "NoTurn") (some d)) ∧ H2 d = some (exd d fs) ∧ H d = none ∧ E (.ref (cAt K "NoTurn")) (some d) (upd (del H2 a) d (.xd fs))) (fun _ _ _ => False) := by
  unfold sp_NoTurn___init__
  refine (mkO2_go (Z := E) fun t d nt nd td => ?_).2 a na
  have k : Kp [] H (upd (upd H t (.tup [.ref pa, .str w])) d (.xd [("why", .str w), ("path", .ref pa)])) := (Kp.refl.upd_new nt).upd_new nd
  exact q _ d pa k upd_same (dp_kp0 k hp)
theorem len_Turning_beneath_maybe (K : PySem.W.Frag) : ∀ vs H Q E, sp_Turning_beneath_maybe K vs H Q E → vs.length = ["self", "here", "old", "new", "thing"].length := by
  intro vs H Q E h
  unfold sp_Turning_beneath_maybe at h
  obtain ⟨_, _, _, _, _, _, _, rfl, _⟩ := h
  rfl
theorem p_Turning_beneath_maybe (K : PySem.W.Frag) (C : Addr) (O : Own K C) (vs : List V) (H : Hp) (Q : VK) (E : XK) (h : sp_Turning_beneath_maybe K vs H Q E) : t_Turning_beneath_maybe K C E { nx := fun _ H' => Q .non H', rt := Q } (start ["self", "here", "old", "new", "thing", "inner"] vs) H := by
  unfold sp_Turning_beneath_maybe at h
  obtain ⟨t, pa, o, n, x, i, s, rfl, eo, hp, ho, hn, hx, of, fo, fn, lp, q⟩ := h
  rw [eo] at ho
  obtain ⟨ao, yo, rfl, hao, hyo⟩ := ho
  have xd := dp_none hx
  have ei : i = ⟨i.p, .maybe s, i.n, i.d⟩ := by rw [← eo]
  have app : ∀ {G : Hp} {P : Addr}, Kp [] H G → SqT K G P [.ref (cAt K "INSIDE")] → ∀ {Q' : VK}, (∀ H' p, Kp [] G H' → Dp K H' (.ref p) (.tuple (i.p ++ [insD])) → Q' (.ref p) H') → rAddA K (.ref pa) (.ref P) G Q' := fun {G P} kG hP {Q'} qq => by
    cases hp with
    | tup hs hd =>
      have ld := dpAll_len hd
      have l90 := lp.1
      refine addA_go (kG.sqT List.not_mem_nil hs) hP (by simp only [List.length_cons, List.length_nil]; omega) fun H' p k' hp' => ?_
      exact qq H' p k' (.tup hp' (dpAll_app (dpAll_kp0 (kG.trans k') hd) (.cons (insD_dp O) .nil)))
  have one : ∀ {G : Hp} {pp : Addr} {v : V} {n : Srt} {L t : Addr} , i.d ≠ .none → n = strip i.n → Kp [] H G → Dp K G (.ref pp) (.tuple (i.p ++ [insD])) → SrtV K G n v → G t = some (.tup [.ref pp, yo, v, x]) → G L = some (.lst [.ref t]) → Q (.ref L) G := fun {G pp v n L t} nd en kG hpp hv ht hL => by
    have of2 : Of s i.d := by
      rw [eo] at of
      rcases of with h | h
      · exact absurd h nd
      · exact h.2
    have q2 := q
    unfold Goes at q2
    rw [ei, kids_in nd] at q2
    refine q2 G L [.ref t] kG hL (.cons ⟨⟨t, pp, yo, v, x, rfl, SqT.of ht, hpp, hyo.kp0 kG, by rw [← en]; exact hv, dp_kp0 kG hx⟩, of2, ?_, flt_strip fn, ?_⟩ .nil)
    · rw [eo] at fo
      exact fo.1
    · exact (lp.snoc rfl).mono (by decide)
  cases em : isM i.n with
  | true =>
    cases en : i.n with
    | maybe m =>
      rw [en] at hn
      obtain ⟨an, yn, rfl, han, hyn⟩ := hn
      have es : m = strip i.n := by rw [en]; rfl
      walk_at "go"
      · rename_i nx P nP
        refine app (Kp.refl.upd_new' nP) (SqT.of upd_same) fun H2 pp k2 hpp => ?_
        have k02 := (Kp.refl.upd_new' nP).trans k2
        have hao2 := k02.sqT List.not_mem_nil hao
        walk_at "go"
        rename_i t1 nt1 L nL
        have kA := k02.upd_new' (o := .tup [.ref pp, yo, yn, x]) nt1
        have kB := kA.upd_new' (o := .lst [.ref t1]) nL
        have k2B := (Kp.refl (M := []).upd_new' (o := .tup [.ref pp, yo, yn, x]) nt1).upd_new' (o := .lst [.ref t1]) nL
        exact one (fun e => nx (xd.mpr e)) es kB (dp_kp0 k2B hpp) (hyn.kp0 kB) ((upd_ne (ne_of_none upd_same nL)).trans upd_same) upd_same
      · rename_i h _ _
        exact absurd rfl h
      · rename_i hxn _ L nL
        have q2 := q
        unfold Goes at q2
        rw [ei, xd.mp hxn, kids_non, em] at q2
        exact q2 _ L [] (Kp.refl.upd_new' nL) upd_same .nil
    | _ => rw [en] at em; cases em
  | false =>
    obtain ⟨an, rn, rfl, han⟩ := srtV_wrd hn
    have nw := wrd_maybe em
    walk_at "go"
    · rename_i h
      exact absurd h nw
    · rename_i h nx P nP
      refine app (Kp.refl.upd_new' nP) (SqT.of upd_same) fun H2 pp k2 hpp => ?_
      have k02 := (Kp.refl.upd_new' nP).trans k2
      have hao2 := k02.sqT List.not_mem_nil hao
      walk_at "go"
      rename_i t1 nt1 L nL
      have kA := k02.upd_new' (o := .tup [.ref pp, yo, .ref an, x]) nt1
      have kB := kA.upd_new' (o := .lst [.ref t1]) nL
      have k2B := (Kp.refl (M := []).upd_new' (o := .tup [.ref pp, yo, .ref an, x]) nt1).upd_new' (o := .lst [.ref t1]) nL
      exact one (fun e => nx (xd.mpr e)) (strip_id em).symm kB (dp_kp0 k2B hpp) (hn.kp0 kB) ((upd_ne (ne_of_none upd_same nL)).trans upd_same) upd_same
    · rename_i h hxn h2 a na
      have q2 := q
      unfold Goes at q2
      rw [ei, xd.mp hxn, kids_non, em] at q2
      exact turn_raise hp q2 na
    · rename_i h _ h2 _ _
      exact absurd h2 nw
end K02

-- imports: PS1 PS2 PS3 PS4 PS5 PS6 PU1 PU2 PU3
/-! ## k21: what goes into a place, whole -/
namespace K02
open PySem PySem.Spec PyProof.Rows L2 Kb
theorem len_Turning_beneath (K : PySem.W.Frag) : ∀ vs H Q E, sp_Turning_beneath K vs H Q E → vs.length = ["self", "here", "old", "new", "thing"].length := by
  intro vs H Q E h
  unfold sp_Turning_beneath at h
  obtain ⟨_, _, _, _, _, _, _, _, rfl, _⟩ := h
  rfl
theorem beneath_maybe_go {K : PySem.W.Frag} {H : Hp} {Q : VK} {E : XK} {t pa : Addr} {o n x : V} {i : Itm} {s : Srt} (eo : i.o = .maybe s) (hp : Dp K H (.ref pa) (.tuple i.p)) (ho : SrtV K H i.o o) (hn : SrtV K H i.n n) (hx : Dp K H x i.d) (of : Of i.o i.d) (fo : Flt i.o) (fn : Flt i.n) (lp : PathOk 90 i.p) (q : Goes K i H Q E) :
    sp_Turning_beneath_maybe K [.ref t, .ref pa, o, n, x] H Q E := by
  unfold sp_Turning_beneath_maybe
  exact ⟨t, pa, o, n, x, i, s, rfl, eo, hp, ho, hn, hx, of, fo, fn, lp, q⟩
theorem kidsB_ne {p : List PyData} {o n : Srt} {d : PyData} (h : wrd o ≠ wrd n) (fo : Flt o) (h2 : isM o = false) : kidsB p o n d = .error (p, "sort") := by
  cases o with
  | num a b => cases n <;> first | exact absurd rfl h | (cases d <;> rfl)
  | truth => cases n <;> first | exact absurd rfl h | (cases d <;> rfl)
  | text a => cases n <;> first | exact absurd rfl h | (cases d <;> rfl)
  | row a b => cases n <;> first | exact absurd rfl h | (cases d <;> rfl)
  | maybe a => cases h2
  | node k => exact fo.elim
  | pick k => exact fo.elim
theorem spread_len {p : List PyData} {s s' : Srt} : ∀ {ds : List PyData} {k : Nat}, (spread p s s' k ds).length = ds.length
  | [], _ => rfl
  | e :: ds, k => by
    unfold spread
    rw [List.length_cons, List.length_cons, spread_len]
theorem spread_ix {p : List PyData} {s s' : Srt} : ∀ {ds : List PyData} {k i : Nat} {e : PyData}, ds[i]? = some e → (spread p s s' k ds)[i]? = some ⟨p ++ [.int ((k + i : Nat) : Int)], s, s', e⟩
  | [], _, _, _, h => by simp at h
  | d :: ds, k, 0, e, h => by
    cases h
    rfl
  | d :: ds, k, i + 1, e, h => by
    unfold spread
    rw [List.getElem?_cons_succ, spread_ix (k := k + 1) (i := i) h]
    rw [show k + 1 + i = k + (i + 1) by omega]
theorem dpAll_ix {K : PySem.W.Frag} {H : Hp} : ∀ {xs : List V} {ds : List PyData} {i : Nat} {x : V}, DpAll K H xs ds → xs[i]? = some x → ∃ d, ds[i]? = some d ∧ Dp K H x d
  | [], _, _, _, _, h => by simp at h
  | y :: xs, _, 0, x, h, e => by
    cases h with
    | cons a b => cases e; exact ⟨_, rfl, a⟩
  | y :: xs, _, i + 1, x, h, e => by
    cases h with
    | cons a b => exact dpAll_ix (i := i) b e
section
variable {K : PySem.W.Frag} {C : Addr} {H : Hp} {Q : VK} {E : XK} {t pa ao an : Addr} {x : V} {i : Itm} {u5 u6 : Option V}
theorem beneath_row {k m : Int} {s s' : Srt} {ds : List PyData} (hp : Dp K H (.ref pa) (.tuple i.p)) (ho : SrtV K H (.row k s) (.ref ao)) (hn : SrtV K H (.row m s') (.ref an)) (hx : Dp K H x (.tuple ds)) (of : Of (.row k s) (.tuple ds)) (fo : Flt s) (fn : Flt s') (lp : PathOk 90 i.p)
    (q : ∀ H' L xs, Kp [] H H' → H' L = some (.lst xs) → Paired (ItmV K H') (spread i.p s s' 0 ds) xs → Q (.ref L) H') :
    tLc (iEnumV K (tVar 4)) (gTup K 2 (gCons (gName 5) (gCons (gName 6) gNil))) tYes (tTup (tCons (tOp (rAddA K) (tVar 1) (tTup (tCons (tVar 5) tNil))) (tCons (tOp (rIxU K) (tVar 2) (tC (.int 2))) (tCons (tOp (rIxU K) (tVar 3) (tC (.int 2))) (tCons (tVar 6) tNil))))) [5, 6] [some (.ref t), some (.ref pa), some (.ref ao), some (.ref an), some x, u5, u6] H Q := by
  obtain ⟨ao', yo, e1, hao, hyo⟩ := ho
  cases e1
  obtain ⟨an', yn, e2, han, hyn⟩ := hn
  cases e2
  obtain ⟨ds', e3, ld, ofs⟩ := of
  cases e3
  cases hx with
  | @tup xa xs _ hxs hds =>
    have lx := dpAll_len hds
    refine enumQ_go rfl (.inr hxs) fun J G w hG => ?_
    refine fun F nF => ?_
    refine lc_acc w (fun j acc H' => Kp [] H H' ∧ Paired (ItmV K H') ((spread i.p s s' 0 ds).take j) acc) ⟨Kp.refl.upd_new' nF, .nil⟩ (fun j acc H' _ h => hG H' h.1) (fun j y acc Ha Hb hj hl hF P Y => ?_) (fun acc Hc hl hF P => ?_)
    · obtain ⟨kb, pr⟩ := P
      obtain ⟨T, z, rfl, nT, rfl, ez⟩ := Y
      have kT := kb.upd_new' (o := .tup [.int (0 + (j : Nat)), z]) nT
      have kbT := (Kp.refl (M := []) (H := Ha)).upd_new' (o := .tup [.int (0 + (j : Nat)), z]) nT
      have hT : (upd Ha T (.tup [.int (0 + (j : Nat)), z])) T = some (.tup [.int (0 + (j : Nat)), z]) := upd_same
      have hF1 := kbT.at_ List.not_mem_nil hF
      have TF : T ≠ F := (ne_of_none hF nT).symm
      rw [show (0 : Int) + (j : Nat) = (j : Int) by omega] at kT kbT hT hF1 ⊢
      generalize upd Ha T (.tup [.int (j : Int), z]) = H1 at kT kbT hT hF1 ⊢
      obtain ⟨e, ee, he⟩ := dpAll_ix hds ez
      have hj1000 : j < 1000 := by
        have : j < xs.length := hj
        omega
      refine gTup_go (SqT.of hT) rfl ?_
      have hao1 := kT.sqT List.not_mem_nil hao
      have han1 := kT.sqT List.not_mem_nil han
      walk_at "go"
      rename_i P nP
      have kP := (Kp.refl (M := []) (H := H1)).upd_new' (o := .tup [.int (j : Int)]) nP
      cases hp with
      | @tup _ ps _ hps hpd =>
        have lps := dpAll_len hpd
        have l90 := lp.1
        refine addA_go ((kT.trans kP).sqT List.not_mem_nil hps) (SqT.of upd_same) (by simp only [List.length_cons, List.length_nil]; omega) fun H2 pp k2 hpp => ?_
        have k12 := kP.trans k2
        have kH2 := kT.trans k12
        have hao2 := k12.sqT List.not_mem_nil hao1
        have han2 := k12.sqT List.not_mem_nil han1
        walk_at "go"
        rename_i t2 nt2
        have k2t := (Kp.refl (M := []) (H := H2)).upd_new' (o := .tup [.ref pp, yo, yn, z]) nt2
        have ht2 : (upd H2 t2 (.tup [.ref pp, yo, yn, z])) t2 = some (.tup [.ref pp, yo, yn, z]) := upd_same
        have hF3 := (k12.trans k2t).at_ List.not_mem_nil hF1
        have kH3 := kH2.trans k2t
        have k13 := (kbT.trans k12).trans k2t
        generalize upd H2 t2 (.tup [.ref pp, yo, yn, z]) = H3 at k2t ht2 hF3 kH3 k13 ⊢
        have it : ItmV K H3 ⟨i.p ++ [.int (j : Int)], s, s', e⟩ (.ref t2) := ⟨⟨t2, pp, yo, yn, z, rfl, SqT.of ht2, dp_kp0 k2t (.tup hpp (dpAll_app (dpAll_kp0 kH2 hpd) (.cons (.int _) .nil))), hyo.kp0 kH3, hyn.kp0 kH3, dp_kp0 kH3 he⟩, ofs e (List.mem_of_getElem? ee), fo, fn, (lp.snoc rfl).mono (by decide)⟩
        have kF : Kp [F] H3 (upd H3 F (.lst (acc ++ [.ref t2]))) := Kp.refl.upd_in List.mem_cons_self
        have lF : ∀ b ∈ [F], NoT H3 b := one (P := NoT) (noT_lst hF3)
        refine acc_go hl (by omega) hF3 ⟨kH3.upd_new nF, ?_⟩
        have es := spread_ix (p := i.p) (s := s) (s' := s') (k := 0) ee
        rw [Nat.zero_add] at es
        rw [take_snoc es]
        exact paired_snoc (paired_imp (fun _ _ g => (g.kp0 k13).kpT kF lF) pr) (it.kpT kF lF)
    · obtain ⟨kb, pr⟩ := P
      rw [lx, ← spread_len (p := i.p) (s := s) (s' := s') (ds := ds) (k := 0), List.take_length] at pr
      exact q Hc F acc kb hF pr
theorem ExT.kp {K : PySem.W.Frag} {p : List PyData} {w : Str} {H G : Hp} {E : XK} (q : ExT K p w H E) (k : Kp [] H G) : ExT K p w G E := fun H' dd pa k' => q H' dd pa (k.trans k')
theorem inV_no {z : Str} (h1 : z ≠ "text") (h2 : z ≠ "row") : inV (.str z) [.str "text", .str "row"] = false := by
  rw [show ([.str "text", .str "row"] : List V) = (["text", "row"] : List Str).map V.str from rfl, inV_strs]
  simp [h1, h2]
theorem inV_yes {z : Str} (h : z = "text" ∨ z = "row") : inV (.str z) [.str "text", .str "row"] = true := by
  rw [show ([.str "text", .str "row"] : List V) = (["text", "row"] : List Str).map V.str from rfl, inV_strs]
  simp [h]
theorem beneath_0 (hp : Dp K H (.ref pa) (.tuple i.p)) (ho : SrtV K H i.o (.ref ao)) (hn : SrtV K H i.n (.ref an)) (hx : Dp K H x i.d) (of : Of i.o i.d) (fo : Flt i.o) (fn : Flt i.n) (lp : PathOk 90 i.p) (ew : wrd i.o = wrd i.n) (em : isM i.o = false) (en : isM i.n = false) (q : Goes K i H Q E) :
    b_Turning_beneath_0 K C E { nx := fun _ H' => Q .non H', rt := Q } [some (.ref t), some (.ref pa), some (.ref ao), some (.ref an), some x, u5, u6] H := by
  have ek : kids i = kidsB i.p i.o i.n i.d := kids_base em en
  unfold Goes at q
  rw [ek] at q
  unfold b_Turning_beneath_0
  cases eo : i.o with
  | num a b =>
    rw [eo] at ho of q ew
    cases en' : i.n with
    | num lo hi =>
      rw [en'] at hn q
      obtain ⟨ao', e, hao⟩ := ho
      cases e
      obtain ⟨an', e, han⟩ := hn
      cases e
      obtain ⟨j, ed⟩ := of
      rw [ed] at hx q
      cases hx
      have q : match (if withinB j lo hi then Except.ok [] else .error (i.p, "bounds") : Except Ref (List Itm)) with
        | .error (p, w) => ExT K p w H E
        | .ok cs => ∀ H' L xs, Kp [] H H' → H' L = some (.lst xs) → Paired (ItmV K H') cs xs → Q (.ref L) H' := q
      walk_at "go"
      show sp_is_within K [.int j, oV lo, oV hi] H _ _
      refine within_go ?_
      change ∃ k, TruV K (.bl (withinB j lo hi)) H k ∧ _
      cases hB : withinB j lo hi with
      | true =>
        rw [hB] at q
        refine ⟨true, rfl, ?_⟩
        walk_at "go"
        rename_i P nP
        refine inT_go (SqT.of upd_same) rfl rfl ?_
        rw [inV_no (by decide +kernel) (by decide +kernel)]
        have kP := (Kp.refl (M := []) (H := H)).upd_new' (o := .tup [.str "text", .str "row"]) nP
        have hao2 := kP.sqT List.not_mem_nil hao
        walk_at "go"
        unfold b_Turning_beneath_1
        walk_at "go"
        · rename_i h
          exact absurd h (by decide +kernel)
        · rename_i L nL
          exact q _ L [] (kP.upd_new' nL) upd_same .nil
      | false =>
        rw [hB] at q
        refine ⟨false, rfl, ?_⟩
        walk_at "go"
        rename_i a na
        exact turn_raise hp q na
    | truth => rw [en'] at ew; exact absurd ew (by show ("number" : Str) ≠ "truth"; decide +kernel)
    | text _ => rw [en'] at ew; exact absurd ew (by show ("number" : Str) ≠ "text"; decide +kernel)
    | row _ _ => rw [en'] at ew; exact absurd ew (by show ("number" : Str) ≠ "row"; decide +kernel)
    | maybe _ => rw [en'] at en; cases en
    | node _ => rw [en'] at fn; exact fn.elim
    | pick _ => rw [en'] at fn; exact fn.elim
  | truth =>
    rw [eo] at ho of q ew
    cases en' : i.n with
    | truth =>
      rw [en'] at hn q
      obtain ⟨ao', e, hao⟩ := ho
      cases e
      obtain ⟨an', e, han⟩ := hn
      cases e
      obtain ⟨j, ed⟩ := of
      rw [ed] at hx q
      cases hx
      walk_at "go"
      all_goals first
        | (rename_i h; exact absurd h (by decide +kernel))
        | skip
      rename_i P nP
      refine inT_go (SqT.of upd_same) rfl rfl ?_
      rw [inV_no (by decide +kernel) (by decide +kernel)]
      have kP := (Kp.refl (M := []) (H := H)).upd_new' (o := .tup [.str "text", .str "row"]) nP
      have hao2 := kP.sqT List.not_mem_nil hao
      walk_at "go"
      unfold b_Turning_beneath_1
      walk_at "go"
      all_goals first
        | (rename_i h; exact absurd h (by decide +kernel))
        | skip
      rename_i L nL
      exact q _ L [] (kP.upd_new' nL) upd_same .nil
    | num _ _ => rw [en'] at ew; exact absurd ew (by show ("truth" : Str) ≠ "number"; decide +kernel)
    | text _ => rw [en'] at ew; exact absurd ew (by show ("truth" : Str) ≠ "text"; decide +kernel)
    | row _ _ => rw [en'] at ew; exact absurd ew (by show ("truth" : Str) ≠ "row"; decide +kernel)
    | maybe _ => rw [en'] at en; cases en
    | node _ => rw [en'] at fn; exact fn.elim
    | pick _ => rw [en'] at fn; exact fn.elim
  | text a =>
    rw [eo] at ho of q ew
    cases en' : i.n with
    | text m =>
      rw [en'] at hn q
      obtain ⟨ao', e, hao⟩ := ho
      cases e
      obtain ⟨an', e, han⟩ := hn
      cases e
      obtain ⟨z, ed, lz, _⟩ := of
      rw [ed] at hx q
      cases hx
      have q : match (if (m < (z.length : Int)) then .error (i.p, "most") else Except.ok [] : Except Ref (List Itm)) with
        | .error (p, w) => ExT K p w H E
        | .ok cs => ∀ H' L xs, Kp [] H H' → H' L = some (.lst xs) → Paired (ItmV K H') cs xs → Q (.ref L) H' := q
      walk_at "go"
      all_goals first
        | (rename_i h; exact absurd h (by decide +kernel))
        | skip
      rename_i P nP
      refine inT_go (SqT.of upd_same) rfl rfl ?_
      rw [inV_yes (.inl rfl)]
      have kP := (Kp.refl (M := []) (H := H)).upd_new' (o := .tup [.str "text", .str "row"]) nP
      have hao2 := kP.sqT List.not_mem_nil hao
      have han2 := kP.sqT List.not_mem_nil han
      walk_at "go"
      · rename_i hm a na
        rw [if_pos hm] at q
        exact turn_raise (dp_kp0 kP hp) (q.kp kP) na
      · rename_i hm
        rw [if_neg hm] at q
        unfold b_Turning_beneath_1
        walk_at "go"
        all_goals first
          | (rename_i h; exact absurd h (by decide +kernel))
          | skip
        rename_i L nL
        exact q _ L [] (kP.upd_new' nL) upd_same .nil
    | num _ _ => rw [en'] at ew; exact absurd ew (by show ("text" : Str) ≠ "number"; decide +kernel)
    | truth => rw [en'] at ew; exact absurd ew (by show ("text" : Str) ≠ "truth"; decide +kernel)
    | row _ _ => rw [en'] at ew; exact absurd ew (by show ("text" : Str) ≠ "row"; decide +kernel)
    | maybe _ => rw [en'] at en; cases en
    | node _ => rw [en'] at fn; exact fn.elim
    | pick _ => rw [en'] at fn; exact fn.elim
  | row k s =>
    rw [eo] at ho of q ew fo
    cases en' : i.n with
    | row m s' =>
      rw [en'] at hn q fn
      have ho' := ho
      have hn' := hn
      have of' := of
      have hx' := hx
      obtain ⟨ao', yo, e, hao, hyo⟩ := ho
      cases e
      obtain ⟨an', yn, e, han, hyn⟩ := hn
      cases e
      obtain ⟨ds, ed, lds, ofs⟩ := of
      rw [ed] at hx hx' of' q
      cases hx with
      | @tup xa xs _ hxs hds =>
        have q : match (if (m < (ds.length : Int)) then .error (i.p, "most") else Except.ok (spread i.p s s' 0 ds) : Except Ref (List Itm)) with
          | .error (p, w) => ExT K p w H E
          | .ok cs => ∀ H' L xs, Kp [] H H' → H' L = some (.lst xs) → Paired (ItmV K H') cs xs → Q (.ref L) H' := q
        walk_at "go"
        all_goals first
          | (rename_i h; exact absurd h (by decide +kernel))
          | skip
        rename_i P nP
        refine inT_go (SqT.of upd_same) rfl rfl ?_
        rw [inV_yes (.inr rfl)]
        have kP := (Kp.refl (M := []) (H := H)).upd_new' (o := .tup [.str "text", .str "row"]) nP
        have hao2 := kP.sqT List.not_mem_nil hao
        have han2 := kP.sqT List.not_mem_nil han
        have hxs2 := kP.sqT List.not_mem_nil hxs
        have lx := dpAll_len hds
        walk_at "go"
        · rename_i hm a na
          rw [if_pos (by rw [← lx]; exact hm)] at q
          exact turn_raise (dp_kp0 kP hp) (q.kp kP) na
        · rename_i hm
          rw [if_neg (by rw [← lx]; exact hm)] at q
          unfold b_Turning_beneath_1
          refine ⟨_, rfl, ?_⟩
          refine ixT0_go hao2 ?_
          refine eqS_go ?_
          rw [decide_eq_true rfl]
          refine ⟨_, rfl, ?_⟩
          refine iteT ?_
          refine beneath_row (i := i) (dp_kp0 kP hp) (ho'.kp0 kP) (hn'.kp0 kP) (dp_kp0 kP hx') of' fo fn lp fun H' L ys k' hL pr => ?_
          exact q H' L ys (kP.trans k') hL pr
    | num _ _ => rw [en'] at ew; exact absurd ew (by show ("row" : Str) ≠ "number"; decide +kernel)
    | truth => rw [en'] at ew; exact absurd ew (by show ("row" : Str) ≠ "truth"; decide +kernel)
    | text _ => rw [en'] at ew; exact absurd ew (by show ("row" : Str) ≠ "text"; decide +kernel)
    | maybe _ => rw [en'] at en; cases en
    | node _ => rw [en'] at fn; exact fn.elim
    | pick _ => rw [en'] at fn; exact fn.elim
  | maybe s => rw [eo] at em; cases em
  | node k => rw [eo] at fo; exact fo.elim
  | pick k => rw [eo] at fo; exact fo.elim
end
theorem p_Turning_beneath (K : PySem.W.Frag) (C : Addr) (O : Own K C) (vs : List V) (H : Hp) (Q : VK) (E : XK) (h : sp_Turning_beneath K vs H Q E) : t_Turning_beneath K C E { nx := fun _ H' => Q .non H', rt := Q } (start ["self", "here", "old", "new", "thing", "k", "one"] vs) H := by
  unfold sp_Turning_beneath at h
  obtain ⟨t, pa, o, n, x, i, a, b, rfl, ⟨dx, T, ht, hT⟩, hp, ho, hn, hx, of, fo, fn, lp, q⟩ := h
  obtain ⟨cl, n1, n2, n3, _, _⟩ := O.Turning
  obtain ⟨ao, ro, rfl, hao⟩ := srtV_wrd ho
  obtain ⟨an, rn, rfl, han⟩ := srtV_wrd hn
  cases em : isM i.o with
  | true =>
    cases eo : i.o with
    | maybe s =>
      rw [eo] at hao
      walk_at "go"
      show sp_Turning_beneath_maybe K [.ref t, .ref pa, .ref ao, .ref an, x] H _ _
      exact beneath_maybe_go eo hp ho hn hx of fo fn lp q
    | _ => rw [eo] at em; cases em
  | false =>
    have nwo := wrd_maybe em
    cases en : isM i.n with
    | true =>
      cases en' : i.n with
      | maybe m =>
        rw [en'] at han hn
        obtain ⟨an', yn, e1, han', hyn⟩ := hn
        cases e1
        walk_at "go"
        · rename_i h
          exact absurd h nwo
        · rename_i h t1 nt1 L nL
          have ei : i = ⟨i.p, i.o, .maybe m, i.d⟩ := by rw [← en']
          have kA := (Kp.refl (M := []) (H := H)).upd_new' (o := .tup [.ref pa, .ref ao, yn, x]) nt1
          have kB := kA.upd_new' (o := .lst [.ref t1]) nL
          have q2 := q
          unfold Goes at q2
          rw [ei, kids_new em] at q2
          rw [en'] at fn
          exact q2 _ L [.ref t1] kB upd_same (.cons ⟨⟨t1, pa, .ref ao, yn, x, rfl, SqT.of ((upd_ne (ne_of_none upd_same nL)).trans upd_same), dp_kp0 kB hp, ho.kp0 kB, hyn.kp0 kB, dp_kp0 kB hx⟩, of, fo, fn.1, lp.mono (by decide)⟩ .nil)
      | _ => rw [en'] at en; cases en
    | false =>
      have nwn := wrd_maybe en
      have ek : kids i = kidsB i.p i.o i.n i.d := kids_base em en
      unfold t_Turning_beneath
      walk_at "go"
      · rename_i h
        exact absurd h nwo
      · rename_i h
        exact absurd h nwn
      · rename_i h a na
        have q2 := q
        unfold Goes at q2
        rw [ek, kidsB_ne h fo em] at q2
        exact turn_raise hp q2 na
      · rename_i h
        exact beneath_0 hp ho hn hx of fo fn lp h em en q
end K02

-- imports: PS1 PS2 PS3 PS4 PS5 PS6 PU1 PU2 PU3 PU4
/-! ## k21: gone through -/
namespace K02
open PySem PySem.Spec PyProof.Rows L2 Kb
theorem beneath_go {K : PySem.W.Frag} {H : Hp} {Q : VK} {E : XK} {t pa a b : Addr} {o n x : V} {i : Itm} (tr : Trg K H t a b) (hp : Dp K H (.ref pa) (.tuple i.p)) (ho : SrtV K H i.o o) (hn : SrtV K H i.n n) (hx : Dp K H x i.d) (of : Of i.o i.d) (fo : Flt i.o) (fn : Flt i.n) (lp : PathOk 90 i.p) (q : Goes K i H Q E) :
    sp_Turning_beneath K [.ref t, .ref pa, o, n, x] H Q E := by
  unfold sp_Turning_beneath
  exact ⟨t, pa, o, n, x, i, a, b, rfl, tr, hp, ho, hn, hx, of, fo, fn, lp, q⟩
theorem len_Turning_go_through (K : PySem.W.Frag) : ∀ vs H Q E, sp_Turning_go_through K vs H Q E → vs.length = ["self", "thing"].length := by
  intro vs H Q E h
  unfold sp_Turning_go_through at h
  obtain ⟨_, _, _, _, _, _, _, rfl, _⟩ := h
  rfl
/-- paths grow no faster than sorts get less deep -/
def DepOk (i : Itm) : Prop := i.p.length + i.o.dep ≤ 8
theorem dep_spread {p : List PyData} {s s' : Srt} {m : Nat} (h : p.length + 1 + s.dep ≤ m) : ∀ {ds : List PyData} {k : Nat}, ∀ c ∈ spread p s s' k ds, c.p.length + c.o.dep ≤ m
  | [], _, _, h => by cases h
  | e :: ds, k, c, hc => by
    unfold spread at hc
    rcases List.mem_cons.mp hc with rfl | hc
    · show (p ++ [PyData.int k]).length + s.dep ≤ m
      rw [List.length_append]
      exact h
    · exact dep_spread h c hc
theorem kids_dep {i : Itm} (fn : Flt i.n) {cs : List Itm} (h : kids i = .ok cs) (d8 : DepOk i) : ∀ c ∈ cs, DepOk c := by
  obtain ⟨p, o, n, d⟩ := i
  have fn : Flt n := fn
  have d8 : p.length + o.dep ≤ 8 := d8
  have nil : cs = [] → ∀ c ∈ cs, DepOk c := fun e c hc => by rw [e] at hc; cases hc
  cases em : isM o with
  | true =>
    cases o with
    | maybe o =>
      by_cases e : d = .none
      · subst e
        rw [kids_non] at h
        cases en : isM n with
        | true => rw [en] at h; cases h; exact nil rfl
        | false => rw [en] at h; cases h
      · rw [kids_in e] at h
        cases h
        intro c hc
        rw [List.mem_singleton.mp hc]
        show (p ++ [insD]).length + o.dep ≤ 8
        rw [List.length_append]
        have : p.length + (o.dep + 1) ≤ 8 := d8
        show p.length + 1 + o.dep ≤ 8
        omega
    | _ => cases em
  | false =>
    cases en : isM n with
    | true =>
      cases n with
      | maybe n =>
        rw [kids_new em] at h
        cases h
        intro c hc
        rw [List.mem_singleton.mp hc]
        exact d8
      | _ => cases en
    | false =>
      rw [kids_base em en] at h
      cases o with
      | row k s =>
        cases n with
        | row m s' =>
          cases d with
          | tuple ds =>
            have h : (if (m < (ds.length : Int)) then .error (p, "most") else Except.ok (spread p s s' 0 ds) : Except Ref (List Itm)) = .ok cs := h
            by_cases g : m < (ds.length : Int)
            · rw [if_pos g] at h
              cases h
            · rw [if_neg g] at h
              cases h
              have : p.length + (s.dep + 1) ≤ 8 := d8
              exact dep_spread (by omega)
          | _ => cases h
        | _ => cases d <;> cases h
      | num a b =>
        cases n with
        | num lo hi =>
          cases d with
          | int j =>
            have h : (if withinB j lo hi then Except.ok [] else .error (p, "bounds") : Except Ref (List Itm)) = .ok cs := h
            cases g : withinB j lo hi with
            | true => rw [g] at h; cases h; exact nil rfl
            | false => rw [g] at h; cases h
          | _ => cases h
        | _ => cases d <;> cases h
      | truth =>
        cases n with
        | truth => cases d <;> (cases h; exact nil rfl)
        | _ => cases d <;> cases h
      | text a =>
        cases n with
        | text m =>
          cases d with
          | str z =>
            have h : (if (m < (z.length : Int)) then .error (p, "most") else Except.ok [] : Except Ref (List Itm)) = .ok cs := h
            by_cases g : m < (z.length : Int)
            · rw [if_pos g] at h; cases h
            · rw [if_neg g] at h; cases h; exact nil rfl
          | _ => cases h
        | _ => cases d <;> cases h
      | maybe s => cases em
      | node k => cases n <;> cases d <;> cases h
      | pick k => cases n <;> cases d <;> cases h
theorem wt_pos (i : Itm) : 1 ≤ wt i := by
  unfold wt
  have z := size_pos i.d
  have : 1 * 1 ≤ psz i.d * (4 * (i.o.dep + 1)) := Nat.mul_le_mul z (by omega)
  omega
theorem len_wts : ∀ is : List Itm, is.length ≤ wts is
  | [] => Nat.le_refl _
  | i :: is => by
    have := len_wts is
    have := wt_pos i
    show is.length + 1 ≤ wt i + wts is
    omega
theorem p_Turning_go_through (K : PySem.W.Frag) (C : Addr) (O : Own K C) (vs : List V) (H : Hp) (Q : VK) (E : XK) (h : sp_Turning_go_through K vs H Q E) : t_Turning_go_through K C E { nx := fun _ H' => Q .non H', rt := Q } (start ["self", "thing", "waiting", "here", "old", "new", "one"] vs) H := by
  unfold sp_Turning_go_through at h
  obtain ⟨t, x, a, b, so, sn, d, rfl, tr, ⟨dx1, A1, A2, r1, ha, hA, hr1⟩, ⟨dx2, B1, B2, r2, hb, hB, hr2⟩, hx, of, fo, fn, dp, sz, q⟩ := h
  obtain ⟨dx, T, ht, hT⟩ := id tr
  obtain ⟨cl, n1, n2, n3, _, _⟩ := O.Turning
  obtain ⟨cl2, m1, m2, m3, _, _⟩ := O.Schema
  unfold schF at ha hb
  walk_at "go"
  rename_i p1 np1 p2 np2 L nL
  have k1 : Kp [] H (upd H p1 (.tup [])) := Kp.refl.upd_new' np1
  have k2 := k1.upd_new' (o := .tup [.ref p1, r1, r2, x]) np2
  have k3 := k2.upd_new' (o := .lst [.ref p2]) nL
  have hL : (upd (upd (upd H p1 (.tup [])) p2 (.tup [.ref p1, r1, r2, x])) L (.lst [.ref p2])) L = some (.lst [.ref p2]) := upd_same
  have h2 : (upd (upd (upd H p1 (.tup [])) p2 (.tup [.ref p1, r1, r2, x])) L (.lst [.ref p2])) p2 = some (.tup [.ref p1, r1, r2, x]) := (upd_ne (ne_of_none upd_same nL)).trans upd_same
  have h1 : (upd (upd (upd H p1 (.tup [])) p2 (.tup [.ref p1, r1, r2, x])) L (.lst [.ref p2])) p1 = some (.tup []) := (upd_ne (ne_of_none ((upd_ne (ne_of_none upd_same np2)).trans upd_same) nL)).trans ((upd_ne (ne_of_none upd_same np2)).trans upd_same)
  have nL0 : H L = none := k2.none_of List.not_mem_nil nL
  generalize upd (upd (upd H p1 (.tup [])) p2 (.tup [.ref p1, r1, r2, x])) L (.lst [.ref p2]) = H1 at k3 hL h2 h1 ⊢
  have it0 : ItmV K H1 ⟨[], so, sn, d⟩ (.ref p2) := ⟨⟨p2, p1, r1, r2, x, rfl, SqT.of h2, .tup (SqT.of h1) .nil, hr1.kp0 k3, hr2.kp0 k3, dp_kp0 k3 hx⟩, of, fo, fn, ⟨Nat.zero_le _, rfl⟩⟩
  have w0 : wt ⟨[], so, sn, d⟩ ≤ 4000000 := by
    unfold wt
    show psz d * (4 * (so.dep + 1)) + (if isM sn then 1 else 0) ≤ _
    have b : (if isM sn = true then 1 else 0) ≤ 1 := by split <;> omega
    have : psz d * (4 * (so.dep + 1)) ≤ 100000 * 36 := Nat.mul_le_mul sz (by omega)
    omega
  refine ⟨fun m σ H' => Kp [] H H' ∧ ∃ its ys u3 u4 u5 u6, σ = [some (.ref t), some x, some (.ref L), u3, u4, u5, u6] ∧ H' L = some (.lst ys) ∧ Paired (ItmV K H') its ys.reverse ∧ m = wts its ∧ wts its ≤ 4000000 ∧ firstI 10 its = refu 10 [] so sn d ∧ ∀ c ∈ its, DepOk c, ⟨_, k3, [⟨[], so, sn, d⟩], _, _, _, _, _, rfl, hL, .cons it0 .nil, rfl, by show wt _ + 0 ≤ _; exact w0, firstI_one, fun c hc => by rw [List.mem_singleton.mp hc]; show 0 + so.dep ≤ 8; omega⟩, ?_⟩
  rintro m σ H2 ⟨kH, its, ys, u3, u4, u5, u6, rfl, hL2, pr, rfl, w4, fR, d8⟩
  walk_at "go"
  rename_i e ne
  have ke := (Kp.refl (M := []) (H := H2)).upd_new' (o := .lst []) ne
  have hL3 := ke.at_ List.not_mem_nil hL2
  refine neXE_go (SqL.of hL3) (SqL.of upd_same) ?_
  have kH3 := kH.trans ke
  have pr3 := paired_imp (fun _ _ g => ItmV.kp0 g ke) pr
  generalize upd H2 e (.lst []) = H3 at ke hL3 kH3 pr3 ⊢
  cases its with
  | nil =>
    have ey : ys = [] := by
      have := paired_len pr3
      rw [List.length_nil, List.length_reverse] at this
      exact List.length_eq_zero_iff.mp this.symm
    subst ey
    walk_at "go"
    have fR : (none : Option Ref) = refu 10 [] so sn d := fR
    rw [← fR] at q
    exact q H3 kH3
  | cons i its =>
    obtain ⟨v, vs, ev⟩ : ∃ v vs, ys.reverse = v :: vs := by
      cases e : ys.reverse with
      | nil =>
        rw [e] at pr3
        cases pr3
      | cons v vs => exact ⟨v, vs, rfl⟩
    have ey : ys = vs.reverse ++ [v] := by
      rw [← List.reverse_reverse ys, ev, List.reverse_cons]
    subst ey
    rw [ev] at pr3
    have pv : ItmV K H3 i v ∧ Paired (ItmV K H3) its vs := by
      cases pr3 with
      | cons a b => exact ⟨a, b⟩
    obtain ⟨iv, pvs⟩ := pv
    have lvs := paired_len pvs
    have lw := len_wts (i :: its)
    have lw2 : its.length + 1 ≤ 4000000 := by
      have : (i :: its).length = its.length + 1 := rfl
      omega
    refine ⟨true, by simp, ?_⟩
    show ∃ N, _
    refine ⟨_, fun σ' H' h => h, ?_⟩
    refine ⟨_, rfl, ?_⟩
    refine And.intro (ty_lst (SqL.of hL3)) ?_
    refine popE_go hL3 ?_
    obtain ⟨t1, pa, o, n, x1, rfl, ht1, hpa, ho, hn, hx1⟩ := iv.ex
    have kL : Kp [L] H3 (upd H3 L (.lst vs.reverse)) := Kp.refl.upd_in List.mem_cons_self
    have lL : ∀ b ∈ [L], NoT H3 b := one (P := NoT) (noT_lst hL3)
    have hL4 : (upd H3 L (.lst vs.reverse)) L = some (.lst vs.reverse) := upd_same
    have kH4 : Kp [] H (upd H3 L (.lst vs.reverse)) := kH3.upd_new nL0
    generalize upd H3 L (.lst vs.reverse) = H4 at kL hL4 kH4 ⊢
    have pvs4 := paired_imp (fun _ _ g => ItmV.kpT g kL lL) pvs
    refine gTup_go (sqT_kpT kL lL ht1) rfl ?_
    have tr4 : Trg K H4 t a b := ⟨dx, T, kH4.at_ List.not_mem_nil ht, kH4.at_ List.not_mem_nil hT⟩
    obtain ⟨dx', T', ht4, hT4⟩ := id tr4
    walk_at "go"
    show sp_Turning_beneath K [.ref t, .ref pa, o, n, x1] H4 _ _
    have di := d8 i List.mem_cons_self
    have fR2 : (match refu 10 i.p i.o i.n i.d with | some r => some r | none => firstI 10 its) = refu 10 [] so sn d := fR
    have kr := kids_refu (i := i) iv.fn (by unfold DepOk at di; omega)
    refine beneath_go tr4 (dp_kpT kL lL iv.lp.2 hpa) (ho.kpT kL lL) (hn.kpT kL lL) (dp_kpT kL lL (of_noL iv.of) hx1) iv.of iv.fo iv.fn ⟨by unfold DepOk at di; omega, iv.lp.2⟩ ?_
    unfold Goes
    cases ek : kids i with
    | error r =>
      obtain ⟨p, w⟩ := r
      rw [ek] at kr
      have kr : refu 10 i.p i.o i.n i.d = some (p, w) := kr
      rw [kr] at fR2
      have fR2 : some (p, w) = refu 10 [] so sn d := fR2
      rw [← fR2] at q
      exact ExT.kp q kH4
    | ok cs =>
      rw [ek] at kr
      have kr : refu 10 i.p i.o i.n i.d = firstI 10 cs := kr
      have wk := kids_wt iv.fn ek
      have dk := kids_dep iv.fn ek di
      show ∀ H' L xs, Kp [] H4 H' → H' L = some (.lst xs) → Paired (ItmV K H') cs xs → _
      intro H5 L5 xs k5 hL5 pc
      have lcs := paired_len pc
      have lwc := len_wts cs
      have wsum : wts (i :: its) = wt i + wts its := rfl
      have lwi := len_wts its
      refine ⟨L5, xs, rfl, SqL.of hL5, fun L6 nL6 => ?_⟩
      have k6 := (Kp.refl (M := []) (H := H5)).upd_new' (o := .lst xs.reverse) nL6
      have hL6 : (upd H5 L6 (.lst xs.reverse)) L6 = some (.lst xs.reverse) := upd_same
      have hLL := (k5.trans k6).at_ List.not_mem_nil hL4
      have kH6 := (kH4.trans k5).trans k6
      have k46 := k5.trans k6
      generalize upd H5 L6 (.lst xs.reverse) = H6 at k6 hL6 hLL kH6 k46 ⊢
      walk_at "go"
      refine ext_go hLL hL6 (by rw [List.length_reverse, List.length_reverse]; omega) ?_
      have kF : Kp [L] H6 (upd H6 L (.lst (vs.reverse ++ xs.reverse))) := Kp.refl.upd_in List.mem_cons_self
      have lF : ∀ b ∈ [L], NoT H6 b := one (P := NoT) (noT_lst hLL)
      have papp : ∀ {as bs : List Itm} {us ws : List V} {G : Hp}, Paired (ItmV K G) as us → Paired (ItmV K G) bs ws → Paired (ItmV K G) (as ++ bs) (us ++ ws) := by
        intro as bs us ws G h1 h2
        induction h1 with
        | nil => exact h2
        | cons a _ ih => exact .cons a ih
      refine ⟨wts (cs ++ its), by rw [wts_app]; omega, kH6.upd_new nL0, cs ++ its, vs.reverse ++ xs.reverse, _, _, _, _, rfl, upd_same, ?_, rfl, by rw [wts_app]; omega, ?_, fun c hc => ?_⟩
      · rw [List.reverse_append, List.reverse_reverse, List.reverse_reverse]
        exact papp (paired_imp (fun _ _ g => (ItmV.kp0 g k6).kpT kF lF) pc) (paired_imp (fun _ _ g => (ItmV.kp0 g k46).kpT kF lF) pvs4)
      · rw [firstI_app, ← kr]
        exact fR2
      · rcases List.mem_append.mp hc with hc | hc
        · exact dk c hc
        · exact d8 c (List.mem_cons_of_mem _ hc)
end K02

-- imports: PS1 PS2 PS3 PS4 PS5 PS6 PU1 PU2 PU3 PU4 PU5
/-! ## k21: turned -/
namespace K02
open PySem PySem.Spec PyProof.Rows L2 Kb
theorem no_Turning_turn (K : PySem.W.Frag) {vs : List V} {H : Hp} {Q : VK} {E : XK} (h : sp_Turning_turn K 0 vs H Q E) : False := by
  unfold sp_Turning_turn at h
  exact h
theorem len_Turning_turn (K : PySem.W.Frag) (n : Nat) : ∀ vs H Q E, sp_Turning_turn K (n + 1) vs H Q E → vs.length = ["self", "old", "new", "thing"].length := by
  intro vs H Q E h
  unfold sp_Turning_turn at h
  obtain ⟨_, _, _, _, _, _, _, _, _, _, rfl, _⟩ := h
  rfl
theorem turn_go {K : PySem.W.Frag} {n : Nat} {H : Hp} {Q : VK} {E : XK} {t a b : Addr} {o s x : V} {so sn : Srt} {d : PyData} {p : List PyData} (tr : Trg K H t a b) (ho : SrtV K H so o) (hn : SrtV K H sn s) (hx : Dp K H x d) (of : Of so d) (fo : Flt so) (fn : Flt sn) (dp : so.dep ≤ n) (hr : refu (n + 1) p so sn d = none) (q : ∀ H' y, Kp [] H H' → Dp K H' y d → Q y H') :
    sp_Turning_turn K (n + 1) [.ref t, o, s, x] H Q E := by
  unfold sp_Turning_turn
  exact ⟨t, o, s, x, so, sn, d, p, a, b, rfl, tr, ho, hn, hx, of, fo, fn, dp, hr, q⟩
theorem firstR_none {f : Nat → PyData → Option Ref} : ∀ {ds : List PyData} {k : Nat}, firstR f k ds = none → ∀ e ∈ ds, ∃ j, f j e = none
  | [], _, _, _, h => by cases h
  | d :: ds, k, h, e, he => by
    unfold firstR at h
    cases ef : f k d with
    | some r => rw [ef] at h; cases h
    | none =>
      rw [ef] at h
      rcases List.mem_cons.mp he with rfl | he
      · exact ⟨k, ef⟩
      · exact firstR_none h e he
/-- a row that isn't refused -/
theorem row_none {go : List PyData → Srt → Srt → PyData → Option Ref} {p : List PyData} {k : Int} {s n : Srt} {d : PyData} (h : refuB go p (.row k s) n d = none) : ∃ m s' ds, n = .row m s' ∧ d = .tuple ds ∧ ∀ e ∈ ds, ∃ p', go p' s s' e = none := by
  cases n with
  | row m s' =>
    cases d with
    | tuple ds =>
      rw [refuB_row] at h
      by_cases g : m < (ds.length : Int)
      · rw [if_pos g] at h
        cases h
      · rw [if_neg g] at h
        refine ⟨m, s', ds, rfl, rfl, fun e he => ?_⟩
        obtain ⟨j, hj⟩ := firstR_none h e he
        exact ⟨_, hj⟩
    | _ => cases h
  | _ => cases d <;> cases h
theorem noLs_take : ∀ {ds : List PyData} {j : Nat}, noLs ds = true → noLs (ds.take j) = true
  | [], _, _ => by rw [List.take_nil]; rfl
  | d :: ds, 0, _ => rfl
  | d :: ds, j + 1, h => by
    have h : (noL d && noLs ds) = true := h
    rw [Bool.and_eq_true] at h
    show (noL d && noLs (ds.take j)) = true
    rw [h.1, noLs_take h.2]
    rfl
section
variable {K : PySem.W.Frag} {C : Addr} {n : Nat} {H : Hp} {Q : VK} {E : XK} {t a b : Addr} {o s x : V} {so sn : Srt} {d : PyData} {u4 u5 u6 : Option V}
theorem turn_0 (O : Own K C) (tr : Trg K H t a b) (ho : SrtV K H so o) (hn : SrtV K H sn s) (hx : Dp K H x d) (of : Of so d) (fo : Flt so) (fn : Flt sn) (em : isM so = false)
    (hr : ∀ k s1, so = .row k s1 → s1.dep + 1 ≤ n ∧ ∃ m s2 ds, sn = .row m s2 ∧ d = .tuple ds ∧ ∀ e ∈ ds, ∃ p, refu n p s1 s2 e = none) (q : ∀ H' y, Kp [] H H' → Dp K H' y d → Q y H') :
    b_Turning_turn_0 K C n { nx := fun _ H' => Q .non H', rt := Q } [some (.ref t), some o, some s, some x, u4, u5, u6] H := by
  obtain ⟨cl, n1, n2, n3, _, _⟩ := O.Turning
  unfold b_Turning_turn_0
  cases so with
  | row k s1 =>
    obtain ⟨d1, m, s2, ds, rfl, rfl, hd⟩ := hr k s1 rfl
    obtain ⟨ds', e3, ld, ofs⟩ := of
    cases e3
    obtain ⟨ao, yo, rfl, hao, hyo⟩ := ho
    obtain ⟨an, yn, rfl, han, hyn⟩ := hn
    obtain ⟨n, rfl⟩ : ∃ n', n = n' + 1 := ⟨n - 1, by omega⟩
    cases hx with
    | @tup xa xs _ hxs hds =>
      have lx := dpAll_len hds
      obtain ⟨dx, T, ht, hT⟩ := id tr
      refine ⟨_, rfl, ?_⟩
      refine ixT0_go hao ?_
      refine eqS_go ?_
      rw [decide_eq_true rfl]
      refine ⟨_, rfl, ?_⟩
      refine iteT ?_
      refine ⟨_, rfl, xa, rfl, ⟨_, hxs⟩, fun F nF => ?_⟩
      refine lc_acc (walk_tup (xs := xs)) (fun j acc H' => Kp [] H H' ∧ DpAll K H' acc (ds.take j)) ⟨Kp.refl.upd_new' nF, .nil⟩ (fun j acc H' _ h => h.1.sqT List.not_mem_nil hxs) (fun j y acc Ha Hb hj hl hD P Y => ?_) (fun acc Hc hl hF P => ?_)
      · obtain ⟨kb, pr⟩ := P
        obtain ⟨rfl, ey⟩ := Y
        obtain ⟨e, ee, he⟩ := dpAll_ix hds ey
        obtain ⟨p', hp'⟩ := hd e (List.mem_of_getElem? ee)
        have tr2 : Trg K Hb t a b := ⟨dx, T, kb.at_ List.not_mem_nil ht, kb.at_ List.not_mem_nil hT⟩
        have ht2 := kb.at_ List.not_mem_nil ht
        have hao2 := kb.sqT List.not_mem_nil hao
        have han2 := kb.sqT List.not_mem_nil han
        refine ⟨rfl, ?_⟩
        walk_at "go"
        show sp_Turning_turn K (n + 1) [.ref t, yo, yn, y] Hb _ _
        refine turn_go tr2 (hyo.kp0 kb) (hyn.kp0 kb) (dp_kp0 kb he) (ofs e (List.mem_of_getElem? ee)) fo fn (by omega) hp' fun H2 z k2 hz => ?_
        have hF2 := k2.at_ List.not_mem_nil hD
        have nl : noLs ds = true := of_noL (s := .row k s1) ⟨ds, rfl, ld, ofs⟩
        have kF : Kp [F] H2 (upd H2 F (.lst (acc ++ [z]))) := Kp.refl.upd_in List.mem_cons_self
        have lF : ∀ b ∈ [F], NoT H2 b := one (P := NoT) (noT_lst hF2)
        have ne : noL e = true := of_noL (ofs e (List.mem_of_getElem? ee))
        have hj' : j < xs.length := hj
        refine acc_go hl (by omega) hF2 ⟨(kb.trans k2).upd_new nF, ?_⟩
        rw [take_snoc ee]
        exact dpAll_app (dpAll_kpT kF lF (noLs_take nl) (dpAll_kp0 k2 pr)) (.cons (dp_kpT kF lF ne hz) .nil)
      · obtain ⟨kb, pr⟩ := P
        rw [lx, List.take_length] at pr
        walk_at "go"
        rename_i P nP
        have kP := (Kp.refl (M := []) (H := Hc)).upd_new' (o := .tup acc) nP
        exact q _ _ (kb.upd_new' nP) (.tup (SqT.of upd_same) (dpAll_kp0 kP pr))
  | num _ _ =>
    obtain ⟨ao, rfl, hao⟩ := ho
    walk_at "go"
    all_goals first
      | (rename_i h; exact absurd h (by decide +kernel))
      | exact q _ _ Kp.refl hx
  | truth =>
    obtain ⟨ao, rfl, hao⟩ := ho
    walk_at "go"
    all_goals first
      | (rename_i h; exact absurd h (by decide +kernel))
      | exact q _ _ Kp.refl hx
  | text _ =>
    obtain ⟨ao, rfl, hao⟩ := ho
    walk_at "go"
    all_goals first
      | (rename_i h; exact absurd h (by decide +kernel))
      | exact q _ _ Kp.refl hx
  | maybe _ => cases em
  | node _ => exact fo.elim
  | pick _ => exact fo.elim
end
theorem p_Turning_turn (K : PySem.W.Frag) (C : Addr) (O : Own K C) (n : Nat) (vs : List V) (H : Hp) (Q : VK) (E : XK) (h : sp_Turning_turn K (n + 1) vs H Q E) : t_Turning_turn K C n { nx := fun _ H' => Q .non H', rt := Q } (start ["self", "old", "new", "thing", "mine", "yours", "one"] vs) H := by
  unfold sp_Turning_turn at h
  obtain ⟨t, o, s, x, so, sn, d, p, a, b, rfl, tr, ho, hn, hx, of, fo, fn, dp, hr, q⟩ := h
  have nstrip : ∀ {s : V}, SrtV K H sn s → isM sn = false → SrtV K H (strip sn) s := fun h e => by rw [strip_id e]; exact h
  -- the new sort, stripped
  have fin : ∀ {so' : Srt} {o' : V} {u4 u5 u6 : Option V}, SrtV K H so' o' → Of so' d → Flt so' → isM so' = false → (∀ k s1, so' = .row k s1 → s1.dep + 1 ≤ n ∧ ∃ m s2 ds, strip sn = .row m s2 ∧ d = .tuple ds ∧ ∀ e ∈ ds, ∃ p, refu n p s1 s2 e = none) →
      (tSeq (tIfS (tTest (tOp (rEqU K) (tOp (rIxU K) (tVar 2) (tC (.int 0))) (tC (.str (PySem.Str.ofString "maybe")))))
 (tAsg (tOp (rIxU K) (tVar 2) (tC (.int 1))) (gName 2))
 tNext)
 (b_Turning_turn_0 K C n)) { nx := fun _ H' => Q .non H', rt := Q } [some (.ref t), some o', some s, some x, u4, u5, u6] H := fun {so' o' u4 u5 u6} ho' of' fo' em' hr' => by
    cases en : isM sn with
    | true =>
      cases es : sn with
      | maybe m =>
        rw [es] at hn
        obtain ⟨an, yn, rfl, han, hyn⟩ := hn
        walk_at "go"
        · exact turn_0 O tr ho' (show SrtV K H (strip sn) yn by rw [es]; exact hyn) hx of' fo' (flt_strip fn) em' hr' q
      | _ => rw [es] at en; cases en
    | false =>
      obtain ⟨an, rn, rfl, han⟩ := srtV_wrd hn
      have nw := wrd_maybe en
      walk_at "go"
      · rename_i h
        exact absurd h nw
      · exact turn_0 O tr ho' (nstrip hn en) hx of' fo' (flt_strip fn) em' hr' q
  cases em : isM so with
  | true =>
    cases es : so with
    | maybe s0 =>
      rw [es] at ho of fo hr dp
      obtain ⟨ao, yo, rfl, hao, hyo⟩ := ho
      have xd := dp_none hx
      unfold t_Turning_turn
      walk_at "go"
      · rename_i h
        exact q H .non Kp.refl (by rw [← h]; exact hx)
      · rename_i h
        have nd : d ≠ .none := fun e => h (xd.mpr e)
        rw [refu_in nd] at hr
        have of2 : Of s0 d := by
          rcases of with h | h
          · exact absurd h nd
          · exact h.2
        have ms : isM s0 = false := by
          cases s0 with
          | maybe s' => exact absurd rfl (fo.2 s')
          | _ => rfl
        have d1 : s0.dep + 1 ≤ n := dp
        obtain ⟨n, rfl⟩ : ∃ n', n = n' + 1 := ⟨n - 1, by omega⟩
        have f := fin (u4 := none) (u5 := none) (u6 := none) hyo of2 fo.1 ms fun k s1 e => by
          subst e
          have d2 : s1.dep + 1 + 1 ≤ n + 1 := d1
          refine ⟨by omega, ?_⟩
          rw [refu_base (by rfl), strip_id (strip_not fn)] at hr
          obtain ⟨m, s', ds, e1, e2, h⟩ := row_none hr
          exact ⟨m, s', ds, e1, e2, fun e he => by
            obtain ⟨p', hp'⟩ := h e he
            exact ⟨p', by rw [← hp']; exact refu_fuel (by omega) (by omega)⟩⟩
        obtain ⟨v, e, hv⟩ := f
        cases e
        exact hv
    | _ => rw [es] at em; cases em
  | false =>
    obtain ⟨ao, ro, rfl, hao⟩ := srtV_wrd ho
    have nw := wrd_maybe em
    unfold t_Turning_turn
    refine ⟨_, rfl, ?_⟩
    refine ixT0_go hao ?_
    refine eqS_go ?_
    rw [decide_eq_false nw]
    refine ⟨_, rfl, ?_⟩
    refine iteF ?_
    refine fin ho of fo em fun k s1 e => ?_
    subst e
    have d1 : s1.dep + 1 ≤ n := dp
    refine ⟨d1, ?_⟩
    rw [refu_base em] at hr
    obtain ⟨m, s', ds, e1, e2, h⟩ := row_none hr
    exact ⟨m, s', ds, e1, e2, h⟩
end K02

-- imports: PS1 PS2 PS3 PS4 PS5 PS6 PU1 PU2 PU3 PU4 PU5 PU6
/-! ## k21: turned, whole -/
namespace K02
open PySem PySem.Spec PyProof.Rows L2 Kb
theorem len_turned (K : PySem.W.Frag) : ∀ vs H Q E, sp_turned K vs H Q E → vs.length = ["old", "new", "thing"].length := by
  intro vs H Q E h
  unfold sp_turned at h
  obtain ⟨_, _, _, _, _, _, rfl, _⟩ := h
  rfl
theorem turned_go {K : PySem.W.Frag} {H : Hp} {Q : VK} {E : XK} {a b : Addr} {x : V} {so sn : Srt} {d : PyData} (ha : Sch K H a so) (hb : Sch K H b sn) (hx : Dp K H x d) (of : Of so d) (fo : Flt so) (fn : Flt sn) (dp : so.dep ≤ 3) (sz : psz d ≤ 100000)
    (q : match refu 10 [] so sn d with | some (p, w) => ExT K p w H E | none => ∀ H' y, Kp [] H H' → Dp K H' y d → Q y H') : sp_turned K [.ref a, .ref b, x] H Q E := by
  unfold sp_turned
  exact ⟨a, b, x, so, sn, d, rfl, ha, hb, hx, of, fo, fn, dp, sz, q⟩
theorem Sch.kp {K : PySem.W.Frag} {H H' : Hp} {M : List Addr} {a : Addr} {s : Srt} (h : Sch K H a s) (k : Kp M H H') (f : ∀ b ∈ M, H b = none) : Sch K H' a s := by
  obtain ⟨dx, D1, D2, root, h1, h2, h3⟩ := h
  have nm : ∀ {b : Addr} {u : HO}, H b = some u → b ∉ M := fun h m => by rw [f _ m] at h; cases h
  exact ⟨dx, D1, D2, root, k _ _ (nm h1) h1, k _ _ (nm h2) h2, h3.kpT k fun b m u e => by rw [f b m] at e; cases e⟩
theorem Sch.kp0 {K : PySem.W.Frag} {H H' : Hp} {a : Addr} {s : Srt} (h : Sch K H a s) (k : Kp [] H H') : Sch K H' a s := h.kp k fun _ m => nomatch m
theorem p_turned (K : PySem.W.Frag) (C : Addr) (O : Own K C) (vs : List V) (H : Hp) (Q : VK) (E : XK) (h : sp_turned K vs H Q E) : t_turned K C E { nx := fun _ H' => Q .non H', rt := Q } (start ["old", "new", "thing", "turning", "kind", "twins", "node", "twin"] vs) H := by
  unfold sp_turned at h
  obtain ⟨a, b, x, so, sn, d, rfl, ha, hb, hx, of, fo, fn, dp, sz, q⟩ := h
  obtain ⟨cl, n1, n2, n3, _, _⟩ := O.Turning
  obtain ⟨cl2, m1, m2, m3, _, _⟩ := O.Schema
  walk_at "go"
  rename_i z dx nz nd ne
  show sp_Turning___init__ K [.ref z, .ref a, .ref b] _ _ _
  have jm := (Kp.refl (M := []) (H := H)).upd_new (o := .own z) nd
  have jm := jm.upd_new (o := .ins (cAt K "Turning") dx []) nz
  have hz : (upd (upd H dx (.own z)) z (.ins (cAt K "Turning") dx [])) z = some (.ins (cAt K "Turning") dx []) := upd_same
  generalize upd (upd H dx (.own z)) z (.ins (cAt K "Turning") dx []) = H1 at jm hz ⊢
  unfold sp_Turning___init__
  refine ⟨z, a, b, sn, dx, rfl, hz, hb.kp0 jm, fun H2 T k2 nT hz2 hT2 => ⟨rfl, ?_⟩⟩
  have k02 : Kp [] H H2 := jm.drop k2 fun y m => .inr (by rw [List.mem_singleton.mp m]; exact nz)
  have tr : Trg K H2 z a b := ⟨dx, T, hz2, hT2⟩
  have ha2 := ha.kp0 k02
  have hb2 := hb.kp0 k02
  walk_at "go"
  show sp_Turning_go_through K [.ref z, x] H2 _ _
  unfold sp_Turning_go_through
  refine ⟨z, x, a, b, so, sn, d, rfl, tr, ha2, hb2, dp_kp0 k02 hx, of, fo, fn, by omega, sz, ?_⟩
  cases er : refu 10 [] so sn d with
  | some r =>
    obtain ⟨p, w⟩ := r
    rw [er] at q
    exact ExT.kp q k02
  | none =>
    rw [er] at q
    show ∀ H', Kp [] H2 H' → _
    intro H3 k3
    have k03 := k02.trans k3
    have hz3 := k3.at_ List.not_mem_nil hz2
    have hT3 := k3.at_ List.not_mem_nil hT2
    walk_at "go"
    have zT : z ≠ T := fun e => by rw [e, hT3] at hz3; cases hz3
    refine ⟨T, .dK [], hT3, trivial, fun od => ?_⟩
    refine ⟨_, rfl, ?_⟩
    refine fld_go ((upd_ne zT).trans hz3) cl n3 (by walk_at "lk") ?_
    refine ⟨T, od, [], rfl, upd_same, ?_⟩
    refine for_it walk_items (fun i σ H' => σ = [some (.ref a), some (.ref b), some x, some (.ref z), none, none, none, none] ∧ H' = upd H3 T (.frz od (.dK []))) ⟨rfl, rfl⟩ (fun i σ H' _ h => by rw [h.2]; exact upd_same) (fun i y σ Ha Hb hi _ _ => absurd hi (Nat.not_lt_zero _)) (fun σ H' h => ?_)
    obtain ⟨rfl, rfl⟩ := h
    refine ⟨upd_same, ?_⟩
    have eH : upd (upd H3 T (.frz od (.dK []))) T (.dK []) = H3 := by
      funext y
      by_cases e : y = T
      · rw [e, upd_same, hT3]
      · rw [upd_ne e, upd_ne e]
    rw [eH]
    obtain ⟨dxa, A1, A2, r1, ha3, hA3, hr1⟩ := ha.kp0 k03
    obtain ⟨dxb, B1, B2, r2, hb3, hB3, hr2⟩ := hb.kp0 k03
    unfold schF at ha3 hb3
    walk_at "go"
    show sp_Turning_turn K 4 [.ref z, r1, r2, x] H3 _ _
    refine turn_go (n := 3) (a := a) (b := b) ⟨dx, T, hz3, hT3⟩ hr1 hr2 (dp_kp0 k03 hx) of fo fn dp (p := []) (by rw [← er]; exact refu_fuel (by omega) (by omega)) fun H4 y k4 hy => ?_
    exact q H4 y (k03.trans k4) hy
end K02

-- imports: PS1 PS2 PS3 PS4 PS5 PS6 PU1 PU2 PU3 PU4 PU5 PU6 PU7
/-! ## k21: draws -/
namespace K02
open PySem PySem.Spec PyProof.Rows L2 Kb
section
variable {K : PySem.W.Frag} {Q : VK} {E : XK} {H0 H H' : Hp} {S p : Addr} {o : HO} {M : List Addr}
theorem Wl.new (w : Wl H S) (np : H p = none) : Wl (upd H p o) S := by
  obtain ⟨d, x, h⟩ := w
  exact ⟨d, x, (upd_ne (ne_of_none h np)).trans h⟩
theorem Wl.ne (w : Wl H S) (np : H p = none) : p ≠ S := by
  obtain ⟨d, x, h⟩ := w
  exact (ne_of_none h np).symm
theorem Wl.off (w : Wl H S) (np : p ≠ S) : Wl (upd H p o) S := by
  obtain ⟨d, x, h⟩ := w
  exact ⟨d, x, (upd_ne np.symm).trans h⟩
theorem Wl.kp (w : Wl H S) (k : Kp M H H') (nm : S ∉ M) : Wl H' S := by
  obtain ⟨d, x, h⟩ := w
  exact ⟨d, x, k.at_ nm h⟩
theorem Wl.noT (w : Wl H S) : ∀ b ∈ [S], NoT H b := by
  obtain ⟨d, x, h⟩ := w
  exact one (P := NoT) (noT_lst h)
/-- drawing since H0: all that stood there stands, but for the well -/
def SW (H0 : Hp) (S : Addr) (H : Hp) : Prop := Kp [S] H0 H ∧ Wl H S
theorem SW.new (sc : SW H0 S H) (np : H p = none) : SW H0 S (upd H p o) := ⟨sc.1.upd_new' np, sc.2.new np⟩
theorem SW.nm (sc : SW H0 S H) (np : H p = none) : p ∉ [S] := nm_cons (sc.2.ne np) List.not_mem_nil
theorem SW.was (sc : SW H0 S H) (np : H p = none) : H0 p = none := sc.1.none_of (sc.nm np) np
theorem SW.upd (sc : SW H0 S H) (np : H0 p = none) (ne : p ∉ [S]) : SW H0 S (upd H p o) := ⟨sc.1.upd_new np, sc.2.off fun e => ne (by rw [e]; exact List.mem_cons_self)⟩
theorem SW.kp (sc : SW H0 S H) (k : Kp [] H H') : SW H0 S H' := ⟨sc.1.trans (k.mono fun a z => absurd z List.not_mem_nil), sc.2.kp k List.not_mem_nil⟩
theorem SW.more (sc : SW H0 S H) (k : Kp [S] H H') (w : Wl H' S) : SW H0 S H' := ⟨sc.1.trans k, w⟩
theorem draw_go {i : Int} (sc : SW H0 S H) (h0 : 0 < i) (h1 : i.natAbs.log2 < 9000) (q : ∀ H' r, SW H0 S H' → Kp [S] H H' → 0 ≤ r → r < i → Q (.int r) H') : sp_law_draw K [.ref S, .int i] H Q E := by
  unfold sp_law_draw
  exact ⟨S, i, rfl, sc.2, h0, h1, fun H' r k w a b => q H' r ⟨sc.1.trans k, w⟩ k a b⟩
theorem divW_go {i j : Int} (h0 : 0 < j) (h1 : j.natAbs.log2 < 9000) (q : Q (.int (i / j)) H) : rDivW (.int i) (.int j) H Q := by
  unfold rDivW
  exact ⟨_, _, rfl, rfl, ⟨h0, h1⟩, q⟩
end
theorem log_small {i : Int} (h0 : 0 < i) (h : i < 18446744073709551616) : i.natAbs.log2 < 9000 := by
  have e : i.natAbs ≠ 0 := by omega
  rw [Nat.log2_lt e]
  have : i.natAbs < 2 ^ 64 := by
    have : (2 : Nat) ^ 64 = 18446744073709551616 := by decide
    omega
  exact Nat.lt_trans this (by exact Nat.pow_lt_pow_right (by decide) (by decide))
theorem log_great {i : Int} (h0 : 0 < i) (h : i ≤ 4 * GREAT) : i.natAbs.log2 < 9000 := by
  have e : i.natAbs ≠ 0 := by omega
  rw [Nat.log2_lt e]
  have g : (4 * GREAT : Int) < 2 ^ 300 := by decide +kernel
  have : i.natAbs < 2 ^ 300 := by
    have : ((2 ^ 300 : Nat) : Int) = 2 ^ 300 := by decide +kernel
    omega
  exact Nat.lt_trans this (Nat.pow_lt_pow_right (by decide) (by decide))
theorem len_law_draw (K : PySem.W.Frag) : ∀ vs H Q E, sp_law_draw K vs H Q E → vs.length = ["_law_well", "_law_many"].length := by
  intro vs H Q E h
  unfold sp_law_draw at h
  obtain ⟨_, _, rfl, _⟩ := h
  rfl
theorem SOk.mono {M M' : Int} (hM : M ≤ M') : ∀ {s : Srt} {d d' : Nat}, SOk M s d → d ≤ d' → SOk M' s d'
  | .num lo hi, _, _, ⟨a, b, c⟩, _ => ⟨a, fun l e => ⟨by have := b l e; omega, by have := b l e; omega⟩, fun l e => ⟨by have := c l e; omega, by have := c l e; omega⟩⟩
  | .truth, _, _, _, _ => trivial
  | .text _, _, _, h, _ => h
  | .row n s, 0, _, h, _ => h.elim
  | .row n s, _ + 1, 0, _, l => absurd l (Nat.not_succ_le_zero _)
  | .row n s, _ + 1, _ + 1, ⟨a, b, c⟩, l => ⟨a, b, c.mono hM (Nat.le_of_succ_le_succ l)⟩
  | .maybe s, 0, _, h, _ => h.elim
  | .maybe s, _ + 1, 0, _, l => absurd l (Nat.not_succ_le_zero _)
  | .maybe s, _ + 1, _ + 1, ⟨a, b⟩, l => ⟨a.mono hM (Nat.le_of_succ_le_succ l), b⟩
  | .node _, _, _, h, _ => h.elim
  | .pick _, _, _, h, _ => h.elim
theorem SOk.flt {M : Int} : ∀ {s : Srt} {d : Nat}, SOk M s d → Flt s
  | .num _ _, _, _ => trivial
  | .truth, _, _ => trivial
  | .text _, _, _ => trivial
  | .row _ s, 0, h => h.elim
  | .row _ s, _ + 1, h => h.2.2.flt
  | .maybe s, 0, h => h.elim
  | .maybe s, _ + 1, h => ⟨h.1.flt, h.2⟩
  | .node _, _, h => h.elim
  | .pick _, _, h => h.elim
theorem SOk.dep {M : Int} : ∀ {s : Srt} {d : Nat}, SOk M s d → s.dep ≤ d
  | .num _ _, _, _ => Nat.zero_le _
  | .truth, _, _ => Nat.zero_le _
  | .text _, _, _ => Nat.zero_le _
  | .row _ s, 0, h => h.elim
  | .row _ s, _ + 1, h => Nat.succ_le_succ h.2.2.dep
  | .maybe s, 0, h => h.elim
  | .maybe s, _ + 1, h => Nat.succ_le_succ h.1.dep
  | .node _, _, h => h.elim
  | .pick _, _, h => h.elim
theorem SOk.ok {M : Int} (hM : M ≤ GREAT) {nk ck : Str → Prop} : ∀ {s : Srt} {d : Nat}, SOk M s d → s.ok nk ck d
  | .num lo hi, _, ⟨a, b, c⟩ => ⟨a, fun l e => ⟨by have := b l e; omega, by have := b l e; omega⟩, fun l e => ⟨by have := c l e; omega, by have := c l e; omega⟩⟩
  | .truth, _, _ => trivial
  | .text _, _, h => h
  | .row _ s, 0, h => h.elim
  | .row _ s, _ + 1, h => ⟨h.1, h.2.1, h.2.2.ok hM⟩
  | .maybe s, 0, h => h.elim
  | .maybe s, _ + 1, h => ⟨h.1.ok hM, h.2⟩
  | .node _, _, h => h.elim
  | .pick _, _, h => h.elim
theorem SrtV.wl {K : PySem.W.Frag} {H H' : Hp} {S : Addr} {s : Srt} {x : V} (h : SrtV K H s x) (w : Wl H S) (k : Kp [S] H H') : SrtV K H' s x := h.kpT k w.noT
theorem ix_mem {α : Type} {xs : List α} {i : Int} (h0 : 0 ≤ i) (h1 : i < xs.length) : ∃ x, x ∈ xs ∧ atI xs i = some x := by
  have h : i.toNat < xs.length := by omega
  refine ⟨xs[i.toNat], List.getElem_mem h, ?_⟩
  have e : (i.toNat : Int) = i := by omega
  have := atI_nat (List.getElem?_eq_getElem h)
  rw [e] at this
  exact this
/-- what stands in a list, whichever is drawn -/
theorem ixP_go {K : PySem.W.Frag} {H : Hp} {Q : VK} {a : Addr} {xs : List V} {r : Int} (P : V → Prop) (h : H a = some (.lst xs)) (h0 : 0 ≤ r) (h1 : r < xs.length) (hp : ∀ x ∈ xs, P x) (q : ∀ x, P x → Q x H) : rIxU K (.ref a) (.int r) H Q := by
  obtain ⟨x, m, e⟩ := ix_mem h0 h1
  exact ixL_go (SqL.of h) e (q x (hp x m))
theorem bound_go {K : PySem.W.Frag} {H0 H : Hp} {Q : VK} {E : XK} {S : Addr} (sc : SW H0 S H) (q : ∀ H' o, SW H0 S H' → Kp [S] H H' → InB FAR o → Q (oV o) H') : sp_law_bound K [.ref S] H Q E := by
  unfold sp_law_bound
  exact ⟨S, rfl, sc.2, fun H' o k w i => q H' o (sc.more k w) k i⟩
theorem oV_some {o : Option Int} (h : ¬ oV o = .non) : ∃ l, o = some l := by
  cases o with
  | none => exact absurd rfl h
  | some l => exact ⟨l, rfl⟩
theorem oV_none {o : Option Int} (h : oV o = .non) : o = none := by
  cases o with
  | none => rfl
  | some l => cases h
theorem SW.sqT {K : PySem.W.Frag} {H0 H : Hp} {S a : Addr} {xs : List V} (sc : SW H0 S H) (w : Wl H0 S) (h : SqT K H0 a xs) : SqT K H a xs := sqT_kpT sc.1 w.noT h
end K02

/-! steps of k21: draws -/
local macro_rules | `(tactic| walk_at "sd") => `(tactic| first
  | assumption
  | (refine' K02.SW.new ?k1 ?k2; (case k2 => assumption); (case k1 => walk_at "sd"))
  | fail)
local macro_rules | `(tactic| walk_at "t") => `(tactic| first
  | assumption
  | exact SqT.of (by walk_at "h")
  | (refine' K02.SW.sqT ?k1 ?k2 ?k3; (case k2 => assumption); (case k1 => walk_at "sd"); (case k3 => assumption))
  | (refine Kp.sqT (by assumption) ?_ ?_ <;> first | assumption | walk_at "nm" | walk_at "t")
  | fail)
local macro_rules | `(tactic| walk_at "tk") => `(tactic| first
  | (refine' K02.draw_go ?k1 ?k2 ?k3 (fun H1 r1 sc1 k1 h0 h1 => ?kq); (case k1 => walk_at "sd"); (case k2 => walk_at "c"); (case k3 => first | exact K02.log_small (by walk_at "c") (by walk_at "c") | walk_at "c"))
  | (refine' K02.bound_go ?k1 (fun H1 o1 sc1 k1 i1 => ?kq); (case k1 => walk_at "sd"))
  | (refine' K02.ixT0_go ?k1 ?kq; (case k1 => assumption))
  | (refine' K02.ixT1_go ?k1 ?kq; (case k1 => assumption))
  | (refine' K02.ixT2_go ?k1 ?kq; (case k1 => assumption))
  | (refine' Kb.min2_go ?kq)
  | (refine' Kb.max2_go ?kq)
  | (refine' K02.divW_go ?k1 ?k2 ?kq; (case k1 => walk_at "c"); (case k2 => first | decide | walk_at "c"))
  | fail)
local macro_rules | `(tactic| walk_at "nm") => `(tactic| first
  | assumption
  | exact List.not_mem_nil
  | (refine' K02.SW.nm ?k1 ?k2; (case k2 => assumption); (case k1 => walk_at "sd"))
  | (refine' nm_cons ?kn ?km; (case kn => walk_at "ne"); (case km => walk_at "nm"))
  | fail)
local macro_rules | `(tactic| walk_at "go") => `(tactic| repeat' first | walk_at "tk" | walk_at "s")

-- imports: PS1 PS2 PS3 PS4 PS5 PS6 PU1 PU2 PU3 PU4 PU5 PU6 PU7 PL0
/-! ## k21: a draw, a bound, a leaf -/
namespace K02
open PySem PySem.Spec PyProof.Rows L2 Kb
theorem p_law_draw (K : PySem.W.Frag) (vs : List V) (H : Hp) (Q : VK) (E : XK) (h : sp_law_draw K vs H Q E) : t_law_draw K { nx := fun _ H' => Q .non H', rt := Q } (start ["_law_well", "_law_many", "_law_found_here", "_law_low"] vs) H := by
  unfold sp_law_draw at h
  obtain ⟨S, m, rfl, ⟨c, k, hS⟩, m0, ml, q⟩ := h
  unfold t_law_draw
  walk_at "go"
  all_goals exact q _ _ (Kp.refl.upd_in List.mem_cons_self) ⟨_, _, upd_same⟩ (Int.emod_nonneg _ (by omega)) (Int.emod_lt_of_pos _ m0)
theorem len_law_bound (K : PySem.W.Frag) : ∀ vs H Q E, sp_law_bound K vs H Q E → vs.length = ["_law_well"].length := by
  intro vs H Q E h
  unfold sp_law_bound at h
  obtain ⟨_, rfl, _⟩ := h
  rfl
theorem p_law_bound (K : PySem.W.Frag) (vs : List V) (H : Hp) (Q : VK) (E : XK) (h : sp_law_bound K vs H Q E) : t_law_bound K { nx := fun _ H' => Q .non H', rt := Q } (start ["_law_well", "_law_way"] vs) H := by
  unfold sp_law_bound at h
  obtain ⟨S, rfl, w, q⟩ := h
  have sc0 : SW H S H := ⟨Kp.refl, w⟩
  unfold t_law_bound
  walk_at "go"
  rename_i H1 r1 sc1 k1 a0 a1 H2 r2 sc2 k2 b0 b1 H3 r3 sc3 k3 c0 c1 p np
  have e1 : (10 : Int) ^ Int.toNat 59 = 100000000000000000000000000000000000000000000000000000000000 := by decide +kernel
  have e2 : (10 : Int) ^ Int.toNat 30 = 1000000000000000000000000000000 := by decide +kernel
  rw [e1, e2]
  refine ixP_go (fun x => ∃ o, x = oV o ∧ InB FAR o) upd_same a0 (by simp only [List.length_cons, List.length_nil]; omega) (fun x m => ?_) (fun x hx => ?_)
  · simp only [List.mem_cons, List.not_mem_nil, or_false] at m
    have num : ∀ i : Int, -FAR ≤ i → i ≤ FAR → ∃ o, V.int i = oV o ∧ InB FAR o := fun i h0 h1 => ⟨some i, rfl, fun l e => by cases e; exact ⟨h0, h1⟩⟩
    rcases m with rfl | rfl | rfl | rfl | rfl | rfl
    · exact ⟨none, rfl, fun l e => nomatch e⟩
    all_goals exact num _ (by unfold FAR; omega) (by unfold FAR; omega)
  · obtain ⟨o, rfl, ho⟩ := hx
    have s := sc3.new (o := .lst [V.non, V.int (r2 - 4), V.int 0, V.int 1, V.int (100000000000000000000000000000000000000000000000000000000000 * (1 + r3)), V.int (0 - 1000000000000000000000000000000)]) np
    exact q _ o s.1 s.2 ho
theorem len_law_leaf (K : PySem.W.Frag) : ∀ vs H Q E, sp_law_leaf K vs H Q E → vs.length = ["_law_well"].length := by
  intro vs H Q E h
  unfold sp_law_leaf at h
  obtain ⟨_, rfl, _⟩ := h
  rfl
theorem p_law_leaf (K : PySem.W.Frag) (vs : List V) (H : Hp) (Q : VK) (E : XK) (h : sp_law_leaf K vs H Q E) : t_law_leaf K { nx := fun _ H' => Q .non H', rt := Q } (start ["_law_well", "_law_way", "_law_low", "_law_high"] vs) H := by
  unfold sp_law_leaf at h
  obtain ⟨S, rfl, w, q⟩ := h
  have sc0 : SW H S H := ⟨Kp.refl, w⟩
  have fin : ∀ {G : Hp} {p : Addr} (lo hi : Option Int), SW H S G → G p = none → (∀ l h, lo = some l → hi = some h → l ≤ h) → InB FAR lo → InB FAR hi → Q (.ref p) (upd G p (.tup [.str "number", oV lo, oV hi])) := fun {G p} lo hi s np a b c =>
    q _ _ (.num lo hi) (s.new np).1 (s.new np).2 ⟨p, rfl, SqT.of upd_same⟩ ⟨a, b, c⟩
  unfold t_law_leaf
  walk_at "go"
  · rename_i H1 r1 sc1 k1 h0 h1 _ p np
    exact q _ _ .truth (sc1.new np).1 (sc1.new np).2 ⟨p, rfl, SqT.of upd_same⟩ trivial
  · rename_i H1 r1 sc1 k1 h0 h1 _ _ p np H2 r2 sc2 k2 c0 c1
    refine ixP_go (fun x => ∃ n : Int, x = .int n ∧ 0 ≤ n ∧ n ≤ 40) (k2.at_ (sc1.nm np) upd_same) c0 (by simp only [List.length_cons, List.length_nil]; omega) (fun x m => ?_) (fun x hx => ?_)
    · simp only [List.mem_cons, List.not_mem_nil, or_false] at m
      rcases m with rfl | rfl | rfl | rfl | rfl <;> exact ⟨_, rfl, by omega, by omega⟩
    · obtain ⟨n, rfl, n0, n1⟩ := hx
      walk_at "go"
      rename_i p2 np2
      exact q _ _ (.text n) (sc2.new np2).1 (sc2.new np2).2 ⟨p2, rfl, SqT.of upd_same⟩ ⟨n0, n1⟩
  · rename_i H1 r1 sc1 k1 h0 h1 _ _ H2 o1 sc2 k2 i1 H3 o2 sc3 k3 i2 g1 g2
    obtain ⟨l, rfl⟩ := oV_some g1
    obtain ⟨u, rfl⟩ := oV_some g2
    simp only [oV]
    walk_at "go"
    · rename_i g p np
      exact fin (some u) (some l) sc3 np (fun a b e1 e2 => by cases e1; cases e2; omega) i2 i1
    · rename_i g p np
      exact fin (some l) (some u) sc3 np (fun a b e1 e2 => by cases e1; cases e2; omega) i1 i2
  · rename_i H1 r1 sc1 k1 h0 h1 _ _ H2 o1 sc2 k2 i1 H3 o2 sc3 k3 i2 g1 g2 p np
    obtain rfl := oV_none g2
    exact fin o1 none sc3 np (fun a b e1 e2 => nomatch e2) i1 i2
  · rename_i H1 r1 sc1 k1 h0 h1 _ _ H2 o1 sc2 k2 i1 H3 o2 sc3 k3 i2 g1 p np
    obtain rfl := oV_none g1
    exact fin none o2 sc3 np (fun a b e1 e2 => nomatch e1) i1 i2
end K02

-- imports: PS1 PS2 PS3 PS4 PS5 PS6 PU1 PU2 PU3 PU4 PU5 PU6 PU7 PL0 PL1
/-! ## k21: a sort, a near one -/
namespace K02
open PySem PySem.Spec PyProof.Rows L2 Kb
theorem no_law_sort (K : PySem.W.Frag) {vs : List V} {H : Hp} {Q : VK} {E : XK} (h : sp_law_sort K 0 vs H Q E) : False := by
  unfold sp_law_sort at h
  exact h
theorem len_law_sort (K : PySem.W.Frag) (n : Nat) : ∀ vs H Q E, sp_law_sort K (n + 1) vs H Q E → vs.length = ["_law_well", "_law_deep"].length := by
  intro vs H Q E h
  unfold sp_law_sort at h
  obtain ⟨_, _, rfl, _⟩ := h
  rfl
theorem leaf_go {K : PySem.W.Frag} {H0 H : Hp} {Q : VK} {E : XK} {S : Addr} (sc : SW H0 S H) (q : ∀ H' x s, SW H0 S H' → Kp [S] H H' → SrtV K H' s x → SOk FAR s 0 → Q x H') : sp_law_leaf K [.ref S] H Q E := by
  unfold sp_law_leaf
  exact ⟨S, rfl, sc.2, fun H' x s k w a b => q H' x s (sc.more k w) k a b⟩
theorem srt_go {K : PySem.W.Frag} {H0 H : Hp} {Q : VK} {E : XK} {S : Addr} {n d : Nat} {i : Int} (sc : SW H0 S H) (e : i = d) (l : d ≤ n) (q : ∀ H' x s, SW H0 S H' → Kp [S] H H' → SrtV K H' s x → SOk FAR s d → Q x H') : sp_law_sort K (n + 1) [.ref S, .int i] H Q E := by
  unfold sp_law_sort
  subst e
  exact ⟨S, d, rfl, sc.2, l, fun H' x s k w a b => q H' x s (sc.more k w) k a b⟩
theorem near_go {K : PySem.W.Frag} {H0 H : Hp} {Q : VK} {E : XK} {S : Addr} {n d : Nat} {i : Int} {x : V} {s : Srt} (sc : SW H0 S H) (hx : SrtV K H s x) (ho : SOk FAR s d) (e : i = d) (l : d ≤ n) (l2 : d ≤ 2) (q : ∀ H' x s, SW H0 S H' → Kp [S] H H' → SrtV K H' s x → SOk (FAR + 1) s d → Q x H') : sp_law_near K (n + 1) [.ref S, x, .int i] H Q E := by
  unfold sp_law_near
  subst e
  exact ⟨S, x, s, d, rfl, sc.2, hx, ho, l, l2, fun H' x s k w a b => q H' x s (sc.more k w) k a b⟩
theorem wrd_is {s : Srt} (h : wrd s ≠ "maybe") : ∀ s', s ≠ .maybe s' := fun s' e => by subst e; exact h rfl
theorem p_law_sort (K : PySem.W.Frag) (n : Nat) (vs : List V) (H : Hp) (Q : VK) (E : XK) (h : sp_law_sort K (n + 1) vs H Q E) : t_law_sort K n { nx := fun _ H' => Q .non H', rt := Q } (start ["_law_well", "_law_deep", "_law_way", "_law_inner"] vs) H := by
  unfold sp_law_sort at h
  obtain ⟨S, d, rfl, w, dn, q⟩ := h
  have sc0 : SW H S H := ⟨Kp.refl, w⟩
  have leaf : ∀ {G : Hp}, SW H S G → sp_law_leaf K [.ref S] G Q (fun _ _ _ => False) := fun {G} sc => leaf_go sc fun H' x s sc' _ hx ho => q H' x s sc'.1 sc'.2 hx (ho.mono (Int.le_refl _) (Nat.zero_le _))
  unfold t_law_sort
  walk_at "go"
  · rename_i H1 r1 sc1 k1 h0 h1 g
    exact leaf sc1
  · rename_i H1 r1 sc1 k1 h0 h1 g g2
    exact leaf sc1
  · rename_i H1 r1 sc1 k1 h0 h1 g g2
    obtain ⟨d, rfl⟩ : ∃ d', d = d' + 1 := ⟨d - 1, by omega⟩
    obtain ⟨n, rfl⟩ : ∃ n', n = n' + 1 := ⟨n - 1, by omega⟩
    show sp_law_sort K (n + 1) [.ref S, .int (((d + 1 : Nat) : Int) - 1)] H1 _ _
    refine srt_go sc1 (d := d) (by omega) (by omega) fun H2 x s sc2 k2 hx ok => ?_
    obtain ⟨a, rr, ex, ha⟩ := srtV_wrd hx
    subst ex
    have hx' : SrtV K H2 s (.ref a) := hx
    walk_at "go"
    · rename_i g3 p np H3 r3 sc3 k3 c0 c1
      refine ixP_go (fun x => ∃ n : Int, x = .int n ∧ 0 ≤ n ∧ n ≤ 20) (k3.at_ (sc2.nm np) upd_same) c0 (by simp only [List.length_cons, List.length_nil]; omega) (fun x m => ?_) (fun x hx => ?_)
      · simp only [List.mem_cons, List.not_mem_nil, or_false] at m
        rcases m with rfl | rfl | rfl | rfl | rfl <;> exact ⟨_, rfl, by omega, by omega⟩
      · obtain ⟨n, rfl, n0, n1⟩ := hx
        walk_at "go"
        rename_i p2 np2
        have h3 : SrtV K (upd H3 p2 (.tup [.str "row", .int n, .ref a])) s (.ref a) := ((hx'.kpT ((Kp.refl (M := [S])).upd_new' np) sc2.2.noT).kpT k3 (sc2.2.new np).noT).kpT ((Kp.refl (M := [S])).upd_new' np2) sc3.2.noT
        exact q _ _ (.row n s) (sc3.new np2).1 (sc3.new np2).2 ⟨p2, .ref a, rfl, SqT.of upd_same, h3⟩ ⟨n0, n1, ok⟩
    · exact q _ _ s sc2.1 sc2.2 hx' (ok.mono (Int.le_refl _) (Nat.le_succ _))
    · rename_i g3 g4 p2 np2
      have h3 : SrtV K (upd H2 p2 (.tup [.str "maybe", .ref a])) s (.ref a) := hx'.kpT ((Kp.refl (M := [S])).upd_new' np2) sc2.2.noT
      exact q _ _ (.maybe s) (sc2.new np2).1 (sc2.new np2).2 ⟨p2, .ref a, rfl, SqT.of upd_same, h3⟩ ⟨ok, wrd_is g4⟩
theorem slA1_go {K : PySem.W.Frag} {H : Hp} {Q : VK} {a : Addr} {x y z : V} (h : SqT K H a [x, y, z]) (q : ∀ p, H p = none → Q (.ref p) (upd H p (.tup [y, z]))) : rSlA K (.ref a) (some 1) none H Q :=
  ⟨a, _, rfl, h, fun e => absurd e.1 (show ¬ HT.sIx 3 0 (some 1) = 0 by decide), fun _ p np => q p np⟩
section
variable {K : PySem.W.Frag} {n d : Nat} {H0 H : Hp} {Q : VK} {S a : Addr} {r : Int} {u4 u5 u6 u7 : Option V}
set_option maxHeartbeats 4000000 in
theorem near_num {lo hi : Option Int} (sc : SW H0 S H) (w : Wl H0 S) (ha : SqT K H0 a [.str "number", oV lo, oV hi]) (ok : SOk FAR (.num lo hi) d) (self : ∀ {G : Hp}, SW H0 S G → Q (.ref a) G)
    (fin : ∀ {G : Hp} {p : Addr} (lo hi : Option Int), SW H0 S G → G p = none → (∀ l h, lo = some l → hi = some h → l ≤ h) → InB (FAR + 1) lo → InB (FAR + 1) hi → Q (.ref p) (upd G p (.tup [.str "number", oV lo, oV hi]))) :
    b_law_near_0 K n { nx := fun _ H' => Q .non H', rt := Q } [some (.ref S), some (.ref a), some (.int d), some (.int r), u4, u5, u6, u7] H := by
  obtain ⟨ok1, ok2, ok3⟩ := ok
  have inS : ∀ {M : Int} (i : Int), -M ≤ i → i ≤ M → InB M (some i) := fun i a b l e => by cases e; exact ⟨a, b⟩
  have inN : ∀ {M : Int}, InB M none := fun l e => nomatch e
  have inM : ∀ {o : Option Int}, InB FAR o → InB (FAR + 1) o := fun h l e => by have := h l e; exact ⟨by omega, by omega⟩
  unfold b_law_near_0
  cases lo with
  | none =>
    cases hi with
    | none =>
      have ha : SqT K H0 a [.str "number", .non, .non] := ha
      walk_at "go"
      dsimp only [tNoPart]
      refine slA1_go (sc.sqT w ha) fun p np => ?_
      walk_at "go"
      all_goals first
        | (rename_i h; exact absurd rfl h)
        | (rename_i h; cases h; done)
        | exact self (by walk_at "sd")
        | exact fin none none (by walk_at "sd") (by assumption) (fun _ _ e1 _ => nomatch e1) inN inN
        | exact fin _ none (by walk_at "sd") (by assumption) (fun _ _ _ e2 => nomatch e2) (inM (by assumption)) inN
        | trace_state
    | some u =>
      have ha : SqT K H0 a [.str "number", .non, .int u] := ha
      have hu := ok3 u rfl
      walk_at "go"
      dsimp only [tNoPart]
      refine slA1_go (sc.sqT w ha) fun p np => ?_
      walk_at "go"
      all_goals first
        | (rename_i h; exact absurd rfl h)
        | (rename_i h; cases h; done)
        | exact self (by walk_at "sd")
        | exact fin none (some u) (by walk_at "sd") (by assumption) (fun _ _ e1 _ => nomatch e1) inN (inS _ (by omega) (by omega))
        | exact fin none (some (u - 1)) (by walk_at "sd") (by assumption) (fun _ _ e1 _ => nomatch e1) inN (inS _ (by omega) (by omega))
        | exact fin _ none (by walk_at "sd") (by assumption) (fun _ _ _ e2 => nomatch e2) (inM (by assumption)) inN
        | trace_state
  | some l =>
    have hl := ok2 l rfl
    cases hi with
    | none =>
      have ha : SqT K H0 a [.str "number", .int l, .non] := ha
      walk_at "go"
      dsimp only [tNoPart]
      refine slA1_go (sc.sqT w ha) fun p np => ?_
      walk_at "go"
      all_goals first
        | (rename_i h; exact absurd rfl h)
        | (rename_i h; cases h; done)
        | exact self (by walk_at "sd")
        | exact fin (some l) none (by walk_at "sd") (by assumption) (fun _ _ _ e2 => nomatch e2) (inS _ (by omega) (by omega)) inN
        | exact fin (some (l + 1)) none (by walk_at "sd") (by assumption) (fun _ _ _ e2 => nomatch e2) (inS _ (by omega) (by omega)) inN
        | exact fin _ none (by walk_at "sd") (by assumption) (fun _ _ _ e2 => nomatch e2) (inM (by assumption)) inN
        | trace_state
    | some u =>
      have ha : SqT K H0 a [.str "number", .int l, .int u] := ha
      have hu := ok3 u rfl
      walk_at "go"
      dsimp only [tNoPart]
      refine slA1_go (sc.sqT w ha) fun p np => ?_
      walk_at "go"
      all_goals first
        | (rename_i h; exact absurd rfl h)
        | (rename_i h; cases h; done)
        | exact self (by walk_at "sd")
        | exact fin (some l) (some u) (by walk_at "sd") (by assumption) (fun _ _ e1 e2 => by cases e1; cases e2; assumption) (inS _ (by omega) (by omega)) (inS _ (by omega) (by omega))
        | exact fin (some (l + 1)) (some u) (by walk_at "sd") (by assumption) (fun _ _ e1 e2 => by cases e1; cases e2; assumption) (inS _ (by omega) (by omega)) (inS _ (by omega) (by omega))
        | exact fin (some l) (some (u - 1)) (by walk_at "sd") (by assumption) (fun _ _ e1 e2 => by cases e1; cases e2; assumption) (inS _ (by omega) (by omega)) (inS _ (by omega) (by omega))
        | exact fin (some (l + 1)) (some (u - 1)) (by walk_at "sd") (by assumption) (fun _ _ e1 e2 => by cases e1; cases e2; assumption) (inS _ (by omega) (by omega)) (inS _ (by omega) (by omega))
        | exact fin _ none (by walk_at "sd") (by assumption) (fun _ _ _ e2 => nomatch e2) (inM (by assumption)) inN
        | trace_state
end
theorem no_law_near (K : PySem.W.Frag) {vs : List V} {H : Hp} {Q : VK} {E : XK} (h : sp_law_near K 0 vs H Q E) : False := by
  unfold sp_law_near at h
  exact h
theorem len_law_near (K : PySem.W.Frag) (n : Nat) : ∀ vs H Q E, sp_law_near K (n + 1) vs H Q E → vs.length = ["_law_well", "_law_sort_here", "_law_deep"].length := by
  intro vs H Q E h
  unfold sp_law_near at h
  obtain ⟨_, _, _, _, rfl, _⟩ := h
  rfl
set_option maxHeartbeats 4000000 in
theorem p_law_near (K : PySem.W.Frag) (n : Nat) (vs : List V) (H : Hp) (Q : VK) (E : XK) (h : sp_law_near K (n + 1) vs H Q E) : t_law_near K n { nx := fun _ H' => Q .non H', rt := Q } (start ["_law_well", "_law_sort_here", "_law_deep", "_law_way", "_law_inner", "_law_most", "_law_low", "_law_high"] vs) H := by
  unfold sp_law_near at h
  obtain ⟨S, x, s, d, rfl, w, hx, ok, dn, d2, q⟩ := h
  have sc0 : SW H S H := ⟨Kp.refl, w⟩
  have qw : ∀ {G : Hp} {y : V} {s' : Srt}, SW H S G → SrtV K G s' y → SOk (FAR + 1) s' d → Q y G := fun {G y s'} sc h1 h2 => q G y s' sc.1 sc.2 h1 h2
  have srt : ∀ {G : Hp}, SW H S G → sp_law_sort K 3 [.ref S, .int d] G Q (fun _ _ _ => False) := fun {G} sc => srt_go sc rfl d2 fun H' x s sc' _ hx ho => qw sc' hx (ho.mono (by omega) (Nat.le_refl _))
  have ok1 : SOk (FAR + 1) s d := ok.mono (by omega) (Nat.le_refl _)
  have self : ∀ {G : Hp}, SW H S G → Q x G := fun {G} sc => qw sc (hx.kpT sc.1 w.noT) ok1
  have may : ∀ {G : Hp} {p : Addr}, SW H S G → G p = none → 0 < (d : Int) → (∀ d', SOk (FAR + 1) s d') → (∀ s', s ≠ .maybe s') → Q (.ref p) (upd G p (.tup [.str "maybe", x])) := fun {G p} sc np l h1 h2 => by
    obtain ⟨d, rfl⟩ : ∃ d', d = d' + 1 := ⟨d - 1, by omega⟩
    exact qw (s' := .maybe s) (sc.new np) ⟨p, x, rfl, SqT.of upd_same, (hx.kpT sc.1 w.noT).kpT ((Kp.refl (M := [S])).upd_new' np) sc.2.noT⟩ ⟨h1 d, h2⟩
  cases s with
  | node _ => exact ok.elim
  | pick _ => exact ok.elim
  | truth =>
    obtain ⟨a, rfl, ha⟩ := hx
    unfold t_law_near
    walk_at "go"
    all_goals first
      | exact srt (by assumption)
      | exact may (by assumption) (by assumption) (by assumption) (fun _ => trivial) (fun _ e => nomatch e)
      | (rename_i h; exact absurd h (by decide +kernel))
      | (unfold b_law_near_0
         walk_at "go"
         all_goals exact self (by assumption))
      | trace_state
  | text m =>
    obtain ⟨a, rfl, ha⟩ := hx
    have fin : ∀ {G : Hp} {p : Addr} (n : Int), SW H S G → G p = none → 0 ≤ n → n ≤ 40 → Q (.ref p) (upd G p (.tup [.str "text", .int n])) := fun {G p} n sc np a b =>
      qw (s' := .text n) (sc.new np) ⟨p, rfl, SqT.of upd_same⟩ ⟨a, b⟩
    unfold t_law_near
    walk_at "go"
    all_goals first
      | exact srt (by assumption)
      | exact may (by assumption) (by assumption) (by assumption) (fun _ => ok) (fun _ e => nomatch e)
      | (rename_i h; exact absurd h (by decide +kernel))
      | skip
    all_goals rename_i p np H2 r2 sc2 k2 c0 c1
    all_goals
      refine ixP_go (fun x => ∃ j : Int, x = .int j) (k2.at_ (SW.nm (by assumption) np) upd_same) c0 (by simp only [List.length_cons, List.length_nil]; omega) (fun x m => ?_) (fun x hx => ?_)
      · simp only [List.mem_cons, List.not_mem_nil, or_false] at m
        rcases m with rfl | rfl | rfl <;> exact ⟨_, rfl⟩
      · obtain ⟨j, rfl⟩ := hx
        walk_at "go"
        rename_i p3 np3
        exact fin _ sc2 np3 (by split <;> (try split) <;> omega) (by split <;> (try split) <;> omega)
  | row m s0 =>
    obtain ⟨a, y, rfl, ha, hy⟩ := hx
    cases d with
    | zero => exact ok.elim
    | succ d =>
    obtain ⟨n, rfl⟩ : ∃ n', n = n' + 1 := ⟨n - 1, by omega⟩
    unfold t_law_near
    walk_at "go"
    all_goals first
      | exact srt (by assumption)
      | (rename_i h _ _; exact absurd rfl h)
      | skip
    all_goals rename_i p np H2 r2 sc2 k2 c0 c1
    all_goals
      refine ixP_go (fun x => ∃ j : Int, x = .int j) (k2.at_ (SW.nm (by assumption) np) upd_same) c0 (by simp only [List.length_cons, List.length_nil]; omega) (fun x m => ?_) (fun x hx => ?_)
      · simp only [List.mem_cons, List.not_mem_nil, or_false] at m
        rcases m with rfl | rfl | rfl | rfl <;> exact ⟨_, rfl⟩
      · obtain ⟨j, rfl⟩ := hx
        walk_at "go"
        show sp_law_near K (n + 1) [.ref S, y, .int (((d + 1 : Nat) : Int) - 1)] H2 _ _
        refine near_go sc2 (d := d) (hy.kpT sc2.1 w.noT) ok.2.2 (by omega) (by omega) (by omega) fun H3 y3 s3 sc3 k3 hy3 ok3 => ?_
        walk_at "go"
        rename_i p3 np3
        exact qw (s' := .row _ s3) (sc3.new np3) ⟨p3, y3, rfl, SqT.of upd_same, hy3.kpT ((Kp.refl (M := [S])).upd_new' np3) sc3.2.noT⟩ ⟨by split <;> (try split) <;> omega, by split <;> (try split) <;> omega, ok3⟩
  | maybe s0 =>
    obtain ⟨a, y, rfl, ha, hy⟩ := hx
    cases d with
    | zero => exact ok.elim
    | succ d =>
    obtain ⟨n, rfl⟩ : ∃ n', n = n' + 1 := ⟨n - 1, by omega⟩
    unfold t_law_near
    walk_at "go"
    · exact srt (by assumption)
    · rename_i H1 r1 sc1 k1 c0 c1 g
      show sp_law_near K (n + 1) [.ref S, y, .int (((d + 1 : Nat) : Int) - 1)] H1 _ _
      refine near_go sc1 (d := d) (hy.kpT sc1.1 w.noT) ok.1 (by omega) (by omega) (by omega) fun H3 y3 s3 sc3 k3 hy3 ok3 => ?_
      obtain ⟨b, rr, ey, hb⟩ := srtV_wrd hy3
      subst ey
      have hy4 : SrtV K H3 s3 (.ref b) := hy3
      have self3 : Q (.ref b) H3 := qw sc3 hy4 (ok3.mono (Int.le_refl _) (Nat.le_succ _))
      walk_at "go"
      · exact self3
      · exact self3
      · rename_i g3 _ p3 np3
        exact qw (s' := .maybe s3) (sc3.new np3) ⟨p3, .ref b, rfl, SqT.of upd_same, hy4.kpT ((Kp.refl (M := [S])).upd_new' np3) sc3.2.noT⟩ ⟨ok3, wrd_is g3⟩
  | num lo hi =>
    obtain ⟨a, rfl, ha⟩ := hx
    have fin : ∀ {G : Hp} {p : Addr} (lo hi : Option Int), SW H S G → G p = none → (∀ l h, lo = some l → hi = some h → l ≤ h) → InB (FAR + 1) lo → InB (FAR + 1) hi → Q (.ref p) (upd G p (.tup [.str "number", oV lo, oV hi])) := fun {G p} lo hi s np a b c =>
      qw (s' := .num lo hi) (s.new np) ⟨p, rfl, SqT.of upd_same⟩ ⟨a, b, c⟩
    unfold t_law_near
    walk_at "go"
    all_goals first
      | exact srt (by assumption)
      | exact may (by assumption) (by assumption) (by assumption) (fun _ => ok1) (fun _ e => nomatch e)
      | exact near_num (by assumption) w ha ok self fin
      | (rename_i h _ _ _ _ _ _ _ _; exact absurd h (by decide +kernel))
      | trace_state
end K02

-- imports: PS1 PS2 PS3 PS4 PS5 PS6 PU1 PU2 PU3 PU4 PU5 PU6 PU7 PL0 PL1
/-! ## k21: a thing -/
namespace K02
open PySem PySem.Spec PyProof.Rows L2 Kb
theorem no_law_thing (K : PySem.W.Frag) {vs : List V} {H : Hp} {Q : VK} {E : XK} (h : sp_law_thing K 0 vs H Q E) : False := by
  unfold sp_law_thing at h
  exact h
theorem len_law_thing (K : PySem.W.Frag) (n : Nat) : ∀ vs H Q E, sp_law_thing K (n + 1) vs H Q E → vs.length = ["_law_well", "_law_sort_here"].length := by
  intro vs H Q E h
  unfold sp_law_thing at h
  obtain ⟨_, _, _, _, rfl, _⟩ := h
  rfl
theorem thing_go {K : PySem.W.Frag} {H0 H : Hp} {Q : VK} {E : XK} {S : Addr} {n d : Nat} {x : V} {s : Srt} (sc : SW H0 S H) (hx : SrtV K H s x) (ho : SOk FAR s d) (l : d ≤ n) (q : ∀ H' y e, SW H0 S H' → Kp [S] H H' → Dp K H' y e → Of s e → Fit s e → psz e ≤ 7 ^ d → Q y H') : sp_law_thing K (n + 1) [.ref S, x] H Q E := by
  unfold sp_law_thing
  exact ⟨S, x, s, d, rfl, sc.2, hx, ho, l, fun H' y e k w a b f c => q H' y e (sc.more k w) k a b f c⟩
theorem of_ne {s : Srt} {e : PyData} (h : Of s e) (m : isM s = false) : e ≠ .none := by
  cases s with
  | num _ _ => obtain ⟨_, rfl⟩ := h; exact fun e => nomatch e
  | truth => obtain ⟨_, rfl⟩ := h; exact fun e => nomatch e
  | text _ => obtain ⟨_, rfl, _⟩ := h; exact fun e => nomatch e
  | row _ _ => obtain ⟨_, rfl, _⟩ := h; exact fun e => nomatch e
  | maybe _ => cases m
  | node _ => exact h.elim
  | pick _ => exact h.elim
theorem join_cs : ∀ cs : List Nat, TL.joinL [] (cs.map fun c => [c]) = cs
  | [] => rfl
  | [_] => rfl
  | c :: d :: r => by
    have e := join_cs (d :: r)
    show [c] ++ ([] ++ TL.joinL [] ((d :: r).map fun c => [c])) = _
    rw [e]
    rfl
theorem joined (cs : List Nat) : (Txt.join (PySem.Str.ofString "") (cs.map fun c => (⟨#[c]⟩ : Str))).cps.toList = cs := by
  have e1 : TL.tl (Txt.join (PySem.Str.ofString "") (cs.map fun c => (⟨#[c]⟩ : Str))) = TL.joinL [] ((cs.map fun c => (⟨#[c]⟩ : Str)).map TL.tl) := by
    rw [TL.join_eq, TL.tl_join]
    rfl
  rw [List.map_map] at e1
  exact e1.trans (join_cs cs)
theorem sum_cs : ∀ cs : List Nat, ((cs.map fun c => (⟨#[c]⟩ : Str)).map (·.length)).sum = cs.length
  | [] => rfl
  | c :: r => by
    simp only [List.map_cons, List.sum_cons, List.length_cons]
    rw [sum_cs r]
    show 1 + _ = _
    omega
theorem joined_len (cs : List Nat) : (Txt.join (PySem.Str.ofString "") (cs.map fun c => (⟨#[c]⟩ : Str))).length = cs.length := by
  show (Txt.join (PySem.Str.ofString "") (cs.map fun c => (⟨#[c]⟩ : Str))).cps.size = _
  rw [← Array.length_toList, joined]
theorem pszs_app {ds : List PyData} {e : PyData} : pszs (ds ++ [e]) = pszs ds + psz e := by
  induction ds with
  | nil => exact Nat.add_comm (psz e) 0
  | cons d ds ih =>
    show psz d + pszs (ds ++ [e]) = psz d + pszs ds + psz e
    rw [ih, Nat.add_assoc]
set_option maxHeartbeats 4000000 in
theorem p_law_thing (K : PySem.W.Frag) (n : Nat) (vs : List V) (H : Hp) (Q : VK) (E : XK) (h : sp_law_thing K (n + 1) vs H Q E) : t_law_thing K n { nx := fun _ H' => Q .non H', rt := Q } (start ["_law_well", "_law_sort_here", "_law_many", "_law_far", "_law_low", "_law_high", "_law_some", "_law_k"] vs) H := by
  unfold sp_law_thing at h
  obtain ⟨S, x, s, d, rfl, w, hx, ok, dn, q⟩ := h
  have sc0 : SW H S H := ⟨Kp.refl, w⟩
  have qw : ∀ {G : Hp} {y : V} {e : PyData}, SW H S G → Dp K G y e → Of s e → Fit s e → psz e ≤ 7 ^ d → Q y G := fun {G y e} sc h1 h2 h4 h3 => q G y e sc.1 sc.2 h1 h2 h4 h3
  have one : 1 ≤ 7 ^ d := Nat.pos_of_ne_zero (by simp)
  cases s with
  | node _ => exact ok.elim
  | pick _ => exact ok.elim
  | truth =>
    obtain ⟨a, rfl, ha⟩ := hx
    unfold t_law_thing
    walk_at "go"
    exact qw (by assumption) (.bl _) ⟨_, rfl⟩ trivial one
  | text m =>
    obtain ⟨a, rfl, ha⟩ := hx
    have m0 : 0 ≤ m := ok.1
    have m1 : m ≤ 40 := ok.2
    unfold t_law_thing
    walk_at "go"
    all_goals first
      | (rename_i h; exact absurd h (by decide +kernel))
      | skip
    rename_i H1 r1 sc1 k1 c0 c1 p np H2 r2 sc2 k2 d0 d1
    refine ixP_go (fun x => ∃ j : Int, x = .int j ∧ 0 ≤ j ∧ j ≤ m) (k2.at_ (sc1.nm np) upd_same) d0 (by simp only [List.length_cons, List.length_nil]; omega) (fun x m => ?_) (fun x hx => ?_)
    · simp only [List.mem_cons, List.not_mem_nil, or_false] at m
      rcases m with rfl | rfl | rfl
      · exact ⟨0, rfl, by omega, by omega⟩
      · exact ⟨_, rfl, by omega, by omega⟩
      · exact ⟨_, rfl, by omega, by omega⟩
    obtain ⟨j, rfl, hj0, hj⟩ := hx
    walk_at "go"
    rename_i D nD
    have nDm := sc2.nm nD
    refine lc_acc walk_range (fun i acc H' => SW H2 S H' ∧ ∃ cs : List Nat, acc = (cs.map fun c => (⟨#[c]⟩ : Str)).map V.str ∧ cs.length = i ∧ ∀ c ∈ cs, c < 128) ⟨⟨Kp.refl.upd_new nD, sc2.2.new nD⟩, [], rfl, rfl, fun y h => nomatch h⟩ (fun _ _ _ _ _ => trivial) (fun i x acc Hc Hd hi hl' hD hP hY => ?_) (fun acc Hc hl' hD hP => ?_)
    · obtain ⟨scb, cs, rfl, y1, y2⟩ := hP
      obtain ⟨rfl, rfl⟩ := hY
      refine ⟨rfl, ?_⟩
      have hi8 : i < 41 := by omega
      walk_at "go"
      rename_i H3 r3 sc3 k3 r4 r5
      obtain ⟨c, hc, ec⟩ := ix_mem (xs := (PySem.Str.ofString "xY \"\\{~0").cps.toList) r4 (by
        show r3 < 8
        omega)
      have hc8 : ∀ c ∈ (PySem.Str.ofString "xY \"\\{~0").cps.toList, c < 128 := by decide +kernel
      refine ixS_go (c := c) (by decide +kernel) ec ?_
      refine acc_go hl' (by omega) (k3.at_ nDm hD) ⟨sc3.upd nD nDm, cs ++ [c], by simp, by simp [y1], fun y hy => ?_⟩
      rcases List.mem_append.mp hy with hy | hy
      · exact y2 y hy
      · rw [List.mem_singleton.mp hy]
        exact hc8 c hc
    · obtain ⟨scb, cs, rfl, y1, y2⟩ := hP
      refine ⟨_, _, cs.map fun c => ⟨#[c]⟩, rfl, rfl, .inl (SqL.of hD), ?_, ?_⟩
      · rw [sum_cs, List.length_map]
        show cs.length + cs.length * 0 ≤ 16777216
        omega
      exact qw (sc2.more scb.1 scb.2) (.str _) ⟨_, rfl, by rw [joined_len]; omega, by rw [joined]; exact y2⟩ (fun z e => by cases e; rw [joined_len]; omega) one
  | row m s0 =>
    obtain ⟨a, y, rfl, ha, hy⟩ := hx
    cases d with
    | zero => exact ok.elim
    | succ d =>
    obtain ⟨n, rfl⟩ : ∃ n', n = n' + 1 := ⟨n - 1, by omega⟩
    have m0 : 0 ≤ m := ok.1
    have m1 : m ≤ 20 := ok.2.1
    unfold t_law_thing
    walk_at "go"
    all_goals first
      | (rename_i h; exact absurd h (by decide +kernel))
      | skip
    rename_i H1 r1 sc1 k1 c0 c1 p np H2 r2 sc2 k2 d0 d1
    refine ixP_go (fun x => ∃ j : Int, x = .int j ∧ 0 ≤ j ∧ j ≤ 6 ∧ j ≤ m) (k2.at_ (sc1.nm np) upd_same) d0 (by simp only [List.length_cons, List.length_nil]; omega) (fun x mm => ?_) (fun x hx => ?_)
    · simp only [List.mem_cons, List.not_mem_nil, or_false] at mm
      have m6 : 0 ≤ (if m < 6 then m else 6) ∧ (if m < 6 then m else 6) ≤ 6 ∧ (if m < 6 then m else 6) ≤ m := by split <;> omega
      rcases mm with rfl | rfl | rfl
      · exact ⟨0, rfl, by omega, by omega, by omega⟩
      · exact ⟨_, rfl, m6.1, m6.2.1, m6.2.2⟩
      · exact ⟨_, rfl, by omega, by omega, by omega⟩
    obtain ⟨j, rfl, hj0, hj, hjm⟩ := hx
    walk_at "go"
    rename_i D nD
    have nDm := sc2.nm nD
    refine lc_acc walk_range (fun i acc H' => SW H2 S H' ∧ ∃ ds : List PyData, DpAll K H' acc ds ∧ acc.length = i ∧ (∀ e ∈ ds, Of s0 e ∧ Fit s0 e) ∧ pszs ds ≤ i * 7 ^ d) ⟨⟨Kp.refl.upd_new nD, sc2.2.new nD⟩, [], .nil, rfl, (fun y h => nomatch h), Nat.zero_le _⟩ (fun _ _ _ _ _ => trivial) (fun i x acc Hc Hd hi hl' hD hP hY => ?_) (fun acc Hc hl' hD hP => ?_)
    · obtain ⟨scb, ds, y1, y2, y3, y4⟩ := hP
      obtain ⟨rfl, rfl⟩ := hY
      refine ⟨rfl, ?_⟩
      have hi8 : i < 7 := by omega
      have sch : SW H S Hd := sc2.more scb.1 scb.2
      walk_at "go"
      show sp_law_thing K (n + 1) [.ref S, y] Hd _ _
      refine thing_go sch (hy.kpT sch.1 w.noT) ok.2.2 (by omega) fun H3 z e sc3 k3 hz of ft sz => ?_
      have sc23 : SW H2 S H3 := scb.more k3 sc3.2
      have hD3 := k3.at_ nDm hD
      have ld := dpAll_len y1
      have nl : noLs ds = true := of_noL (s := .row 0 s0) ⟨ds, rfl, by omega, fun e he => (y3 e he).1⟩
      have kF : Kp [D] H3 (upd H3 D (.lst (acc ++ [z]))) := Kp.refl.upd_in List.mem_cons_self
      have lF : ∀ b ∈ [D], NoT H3 b := K02.one (P := NoT) (noT_lst hD3)
      refine acc_go hl' (by omega) hD3 ⟨sc23.upd nD nDm, ds ++ [e], dpAll_app (dpAll_kpT kF lF nl (dpAll_kpT k3 scb.2.noT nl y1)) (.cons (dp_kpT kF lF (of_noL of) hz) .nil), by simp [y2], fun y hy => ?_, ?_⟩
      · rcases List.mem_append.mp hy with hy | hy
        · exact y3 y hy
        · rw [List.mem_singleton.mp hy]
          exact ⟨of, ft⟩
      · rw [pszs_app, Nat.succ_mul]
        exact Nat.add_le_add y4 sz
    · obtain ⟨scb, ds, y1, y2, y3, y4⟩ := hP
      have ld := dpAll_len y1
      have sch : SW H S Hc := sc2.more scb.1 scb.2
      walk_at "go"
      rename_i P nP
      refine qw (sch.new nP) (.tup (SqT.of upd_same) (dpAll_kp0 ((Kp.refl (M := [])).upd_new' nP) y1)) ⟨ds, rfl, by omega, fun e he => (y3 e he).1⟩ (fun ds' e => by cases e; exact ⟨by omega, fun e he => (y3 e he).2⟩) ?_
      show 1 + pszs ds ≤ 7 ^ (d + 1)
      have l6 : j.toNat * 7 ^ d ≤ 6 * 7 ^ d := Nat.mul_le_mul_right _ (by omega)
      have p1 : 1 ≤ 7 ^ d := Nat.pos_of_ne_zero (by simp)
      rw [Nat.pow_succ]
      omega
  | maybe s0 =>
    obtain ⟨a, y, rfl, ha, hy⟩ := hx
    cases d with
    | zero => exact ok.elim
    | succ d =>
    obtain ⟨n, rfl⟩ : ∃ n', n = n' + 1 := ⟨n - 1, by omega⟩
    unfold t_law_thing
    walk_at "go"
    all_goals first
      | (rename_i h; exact absurd h (by decide +kernel))
      | exact qw (by assumption) .non (.inl rfl) (.inl rfl) one
      | skip
    rename_i H1 r1 sc1 k1 c0 c1 g
    show sp_law_thing K (n + 1) [.ref S, y] H1 _ _
    refine thing_go sc1 (hy.kpT sc1.1 w.noT) ok.1 (by omega) fun H2 z e sc2 k2 hz of ft sz => ?_
    have nm : isM s0 = false := by
      cases s0 with
      | maybe s' => exact absurd rfl (ok.2 s')
      | _ => rfl
    exact qw sc2 hz (.inr ⟨of_ne of nm, of⟩) (.inr ft) (Nat.le_trans sz (Nat.pow_le_pow_right (by decide) (Nat.le_succ _)))
  | num lo hi =>
    obtain ⟨a, rfl, ha⟩ := hx
    have e3 : (10 : Int) ^ Int.toNat 60 = 1000000000000000000000000000000000000000000000000000000000000 := by decide +kernel
    have cut : ∀ {G : Hp} {b : Addr} {r : Int} {xs : List V}, SW H S G → G b = some (.lst xs) → 0 ≤ r → r < xs.length → (∀ x ∈ xs, ∃ i : Int, x = .int i ∧ withinB i lo hi = true) → rIxU K (.ref b) (.int r) G Q := fun {G b r xs} sc hb h0 h1 hp =>
      ixP_go (fun x => ∃ i : Int, x = .int i ∧ withinB i lo hi = true) hb h0 h1 hp fun x hx => by
        obtain ⟨i, rfl, hi⟩ := hx
        exact qw sc (.int i) ⟨i, rfl⟩ (fun i' e => by cases e; exact hi) one
    have wi : ∀ i : Int, (∀ l, lo = some l → l ≤ i) → (∀ u, hi = some u → i ≤ u) → withinB i lo hi = true := fun i a b => by
      unfold withinB
      cases lo <;> cases hi <;> simp <;> first | exact b _ rfl | exact a _ rfl | exact ⟨a _ rfl, b _ rfl⟩ | skip
    obtain ⟨o1, o2, o3⟩ := ok
    unfold FAR at o2 o3
    cases lo with
    | none =>
      cases hi with
      | none =>
        have ha : SqT K H a [.str "number", .non, .non] := ha
        unfold t_law_thing
        walk_at "go"
        all_goals first
          | exact absurd (by assumption : PySem.Str.ofString "number" = PySem.Str.ofString "maybe") (by decide +kernel)
          | (rename_i h; exact absurd h (by decide +kernel))
          | skip
        rename_i H1 r1 sc1 k1 c0 c1 p np H2 r2 sc2 k2 d0 d1
        exact cut sc2 (k2.at_ (sc1.nm np) upd_same) d0 (by simp only [List.length_cons, List.length_nil]; omega) (fun x m => by simp only [List.mem_cons, List.not_mem_nil, or_false] at m; rcases m with rfl | rfl | rfl | rfl | rfl <;> exact ⟨_, rfl, wi _ (fun l e => by cases e <;> (try split) <;> (try split) <;> omega) (fun u e => by cases e <;> (try split) <;> (try split) <;> omega)⟩)
      | some u =>
        have ha : SqT K H a [.str "number", .non, .int u] := ha
        have hu := o3 u rfl
        unfold t_law_thing
        walk_at "go"
        all_goals first
          | exact absurd (by assumption : PySem.Str.ofString "number" = PySem.Str.ofString "maybe") (by decide +kernel)
          | (rename_i h; exact absurd h (by decide +kernel))
          | skip
        show sp_law_draw K [.ref S, .int _] H _ _
        rw [e3]
        refine draw_go sc0 (by omega) (log_great (by omega) (by unfold GREAT; omega)) fun H1 r1 sc1 k1 c0 c1 => ?_
        walk_at "go"
        rename_i p np H2 r2 sc2 k2 d0 d1
        exact cut sc2 (k2.at_ (sc1.nm np) upd_same) d0 (by simp only [List.length_cons, List.length_nil]; omega) (fun x m => by simp only [List.mem_cons, List.not_mem_nil, or_false] at m; rcases m with rfl | rfl | rfl | rfl | rfl <;> exact ⟨_, rfl, wi _ (fun l e => by cases e <;> (try split) <;> (try split) <;> omega) (fun u e => by cases e <;> (try split) <;> (try split) <;> omega)⟩)
    | some l =>
      cases hi with
      | none =>
        have ha : SqT K H a [.str "number", .int l, .non] := ha
        have hl := o2 l rfl
        unfold t_law_thing
        walk_at "go"
        all_goals first
          | exact absurd (by assumption : PySem.Str.ofString "number" = PySem.Str.ofString "maybe") (by decide +kernel)
          | (rename_i h; exact absurd h (by decide +kernel))
          | skip
        show sp_law_draw K [.ref S, .int _] H _ _
        rw [e3]
        refine draw_go sc0 (by omega) (log_great (by omega) (by unfold GREAT; omega)) fun H1 r1 sc1 k1 c0 c1 => ?_
        walk_at "go"
        rename_i p np H2 r2 sc2 k2 d0 d1
        exact cut sc2 (k2.at_ (sc1.nm np) upd_same) d0 (by simp only [List.length_cons, List.length_nil]; omega) (fun x m => by simp only [List.mem_cons, List.not_mem_nil, or_false] at m; rcases m with rfl | rfl | rfl | rfl | rfl <;> exact ⟨_, rfl, wi _ (fun l e => by cases e <;> (try split) <;> (try split) <;> omega) (fun u e => by cases e <;> (try split) <;> (try split) <;> omega)⟩)
      | some u =>
        have ha : SqT K H a [.str "number", .int l, .int u] := ha
        have hl := o2 l rfl
        have hu := o3 u rfl
        have hlu := o1 l u rfl rfl
        unfold t_law_thing
        walk_at "go"
        all_goals first
          | exact absurd (by assumption : PySem.Str.ofString "number" = PySem.Str.ofString "maybe") (by decide +kernel)
          | (rename_i h; exact absurd h (by decide +kernel))
          | skip
        show sp_law_draw K [.ref S, .int _] H _ _
        refine draw_go sc0 (by omega) (log_great (by omega) (by unfold GREAT; omega)) fun H1 r1 sc1 k1 c0 c1 => ?_
        walk_at "go"
        rename_i p np H2 r2 sc2 k2 d0 d1
        exact cut sc2 (k2.at_ (sc1.nm np) upd_same) d0 (by simp only [List.length_cons, List.length_nil]; omega) (fun x m => by simp only [List.mem_cons, List.not_mem_nil, or_false] at m; rcases m with rfl | rfl | rfl | rfl | rfl <;> exact ⟨_, rfl, wi _ (fun l e => by cases e <;> (try split) <;> (try split) <;> omega) (fun u e => by cases e <;> (try split) <;> (try split) <;> omega)⟩)
end K02

-- imports: PS1 PS2 PS3 PS4 PS5 PS6 PU1 PU2 PU3 PU4 PU5 PU6 PU7 PL0 PL1
/-! ## k21: within; due, of rows -/
namespace K02
open PySem PySem.Spec PyProof.Rows L2 Kb
theorem len_law_within (K : PySem.W.Frag) : ∀ vs H Q E, sp_law_within K vs H Q E → vs.length = ["_law_thing_here", "_law_low", "_law_high"].length := by
  intro vs H Q E h
  unfold sp_law_within at h
  obtain ⟨_, _, _, rfl, _⟩ := h
  rfl
theorem p_law_within (K : PySem.W.Frag) (vs : List V) (H : Hp) (Q : VK) (E : XK) (h : sp_law_within K vs H Q E) : t_law_within K { nx := fun _ H' => Q .non H', rt := Q } (start ["_law_thing_here", "_law_low", "_law_high"] vs) H := by
  unfold sp_law_within at h
  obtain ⟨i, lo, hi, rfl, q⟩ := h
  have fin : ∀ {b : Bool}, withinB i lo hi = b → Q (.bl b) H := fun e => by rw [← e]; exact q
  unfold t_law_within
  cases lo <;> cases hi <;> simp only [oV] <;> walk_at "go"
  all_goals first
    | (rename_i h; exact absurd rfl h)
    | (rename_i h; cases h; done)
    | exact fin (by simp [withinB, *])
theorem enumT_go {K : PySem.W.Frag} {a : Addr} {xs : List V} {H : Hp} {n : Nat} {σ : L2.St} {R : It → Hp → Prop} (e : σ[n]? = some (some (.ref a))) (h : SqT K H a xs)
    (q : ∀ J, Walk J xs.length (fun H' => SqT K H' a xs) (fun i H v H' => ∃ T x, v = .ref T ∧ H T = none ∧ H' = upd H T (.tup [.int (0 + (i : Nat)), x]) ∧ xs[i]? = some x) → R J H) : iEnumV K (tVar n) σ H R := by
  unfold iEnumV
  exact ⟨_, e, a, rfl, .inr ⟨xs, h, q _ (walk_enumS (S := fun H ys => SqT K H a ys))⟩⟩
theorem no_law_due (K : PySem.W.Frag) {vs : List V} {H : Hp} {Q : VK} {E : XK} (h : sp_law_due K 0 vs H Q E) : False := by
  unfold sp_law_due at h
  exact h
theorem len_law_due (K : PySem.W.Frag) (n : Nat) : ∀ vs H Q E, sp_law_due K (n + 1) vs H Q E → vs.length = ["_law_path", "_law_old", "_law_new", "_law_thing_here"].length := by
  intro vs H Q E h
  unfold sp_law_due at h
  obtain ⟨_, _, _, _, _, _, _, _, rfl, _⟩ := h
  rfl
theorem due_go {K : PySem.W.Frag} {n : Nat} {H : Hp} {Q : VK} {E : XK} {pa : Addr} {o s x : V} {p : List PyData} {so sn : Srt} {d : PyData} (hp : Dp K H (.ref pa) (.tuple p)) (ho : SrtV K H so o) (hn : SrtV K H sn s) (hx : Dp K H x d) (of : Of so d) (fo : Flt so) (fn : Flt sn) (dp : so.dep ≤ n) (n8 : n ≤ 8) (lp : PathOk (80 - 4 * n) p)
    (q : ∀ H' y, Kp [] H H' → Dp K H' y (resD (refu 10 p so sn d) d) → Q y H') : sp_law_due K (n + 1) [.ref pa, o, s, x] H Q E := by
  unfold sp_law_due
  exact ⟨pa, o, s, x, p, so, sn, d, rfl, hp, ho, hn, hx, of, fo, fn, dp, n8, lp, q⟩
theorem firstR_at {f : Nat → PyData → Option Ref} {r : Ref} : ∀ {ds : List PyData} {k i : Nat} {e : PyData}, (∀ j e, j < i → ds[j]? = some e → f (k + j) e = none) → ds[i]? = some e → f (k + i) e = some r → firstR f k ds = some r
  | [], _, _, _, _, h, _ => by simp at h
  | d :: ds, k, 0, e, _, h, g => by
    cases h
    unfold firstR
    rw [show f k d = some r from g]
  | d :: ds, k, i + 1, e, p, h, g => by
    unfold firstR
    rw [show f k d = none from p 0 d (Nat.succ_pos _) rfl]
    refine firstR_at (i := i) (fun j e' hj he' => ?_) h ?_
    · have := p (j + 1) e' (Nat.succ_lt_succ hj) he'
      rw [show k + 1 + j = k + (j + 1) by omega]
      exact this
    · rw [show k + 1 + i = k + (i + 1) by omega]
      exact g
theorem firstR_all {f : Nat → PyData → Option Ref} : ∀ {ds : List PyData} {k : Nat}, (∀ j e, ds[j]? = some e → f (k + j) e = none) → firstR f k ds = none
  | [], _, _ => rfl
  | d :: ds, k, p => by
    unfold firstR
    rw [show f k d = none from p 0 d rfl]
    refine firstR_all fun j e' he' => ?_
    have := p (j + 1) e' he'
    rw [show k + 1 + j = k + (j + 1) by omega]
    exact this
/-- what is due is one of two tuples -/
theorem resD_tup {K : PySem.W.Frag} {H : Hp} {y : V} {r : Option Ref} {d : PyData} (h : Dp K H y (resD r d)) : ∃ a, y = .ref a ∧ ((r = none ∧ ∃ v, SqT K H a [.str "told", v] ∧ Dp K H v d) ∨ ∃ p w, r = some (p, w) ∧ ∃ v, SqT K H a [.str "refused", v, .str w]) := by
  cases r with
  | none =>
    cases h with
    | tup hs hd =>
      cases hd with
      | cons a b =>
        cases a
        cases b with
        | cons a b =>
          cases b
          exact ⟨_, rfl, .inl ⟨rfl, _, hs, a⟩⟩
  | some r =>
    obtain ⟨p, w⟩ := r
    cases h with
    | tup hs hd =>
      cases hd with
      | cons a b =>
        cases a
        cases b with
        | cons a b =>
          cases b with
          | cons c b =>
            cases c
            cases b
            exact ⟨_, rfl, .inr ⟨p, w, rfl, _, hs⟩⟩
section
variable {K : PySem.W.Frag} {n : Nat} {H : Hp} {Q : VK} {pa ao an : Addr} {x : V} {p : List PyData} {u4 u5 u6 u7 : Option V}
set_option maxHeartbeats 4000000 in
theorem due_2 {k m : Int} {s1 s2 : Srt} {ds : List PyData} (hp : Dp K H (.ref pa) (.tuple p)) (ho : SrtV K H (.row k s1) (.ref ao)) (hn : SrtV K H (.row m s2) (.ref an)) (hx : Dp K H x (.tuple ds)) (of : Of (.row k s1) (.tuple ds)) (fo : Flt s1) (fn : Flt s2) (dp : s1.dep + 1 ≤ n) (n8 : n ≤ 8) (lp : PathOk (82 - 4 * n) p)
    (q : ∀ H' y, Kp [] H H' → Dp K H' y (resD (firstR (fun k e => refu 9 (p ++ [.int k]) s1 s2 e) 0 ds) (.tuple ds)) → Q y H') :
    b_law_due_2 K n { nx := fun _ H' => Q .non H', rt := Q } [some (.ref pa), some (.ref ao), some (.ref an), some x, u4, u5, u6, u7] H := by
  obtain ⟨n, rfl⟩ : ∃ n', n = n' + 1 := ⟨n - 1, by omega⟩
  obtain ⟨ao', yo, e1, hao, hyo⟩ := ho
  cases e1
  obtain ⟨an', yn, e2, han, hyn⟩ := hn
  cases e2
  obtain ⟨ds', e3, ld, ofs⟩ := of
  cases e3
  cases hx with
  | @tup xa xs _ hxs hds =>
    cases hp with
    | @tup _ ps _ hps hpd =>
    have lps := dpAll_len hpd
    have l90 := lp.1
    have lx := dpAll_len hds
    have nl : noLs ds = true := of_noL (s := .row k s1) ⟨ds, rfl, ld, ofs⟩
    unfold b_law_due_2
    walk_at "go"
    rename_i F nF
    have k0 := (Kp.refl (M := []) (H := H)).upd_new' (o := .lst []) nF
    refine enumT_go rfl (k0.sqT List.not_mem_nil hxs) fun J w => ?_
    refine for_it w (fun i σ H' => ∃ acc u5 u6 u7, σ = [some (.ref pa), some (.ref ao), some (.ref an), some (.ref xa), some (.ref F), u5, u6, u7] ∧ Kp [] H H' ∧ H' F = some (.lst acc) ∧ DpAll K H' acc (ds.take i) ∧ (∀ j e, j < i → ds[j]? = some e → refu 9 (p ++ [.int j]) s1 s2 e = none)) ⟨[], _, _, _, rfl, k0, upd_same, .nil, fun j e h => absurd h (Nat.not_lt_zero _)⟩ (fun i σ H' _ h => ?_) ?_ (fun σ H' h => ?_)
    · obtain ⟨_, _, _, _, _, kb, _⟩ := h
      exact kb.sqT List.not_mem_nil hxs
    · rintro i y σ Ha Hb hi ⟨acc, u5, u6, u7, rfl, kb, hF, pr, no⟩ ⟨T, z, rfl, nT, rfl, ez⟩
      have kbT := (Kp.refl (M := []) (H := Ha)).upd_new' (o := .tup [.int (0 + (i : Nat)), z]) nT
      have hT : (upd Ha T (.tup [.int (0 + (i : Nat)), z])) T = some (.tup [.int (0 + (i : Nat)), z]) := upd_same
      rw [show (0 : Int) + (i : Nat) = (i : Int) by omega] at kbT hT ⊢
      have kT := kb.trans kbT
      have hF1 := kbT.at_ List.not_mem_nil hF
      generalize upd Ha T (.tup [.int (i : Int), z]) = H1 at kT kbT hT hF1 ⊢
      obtain ⟨e, ee, he⟩ := dpAll_ix hds ez
      have hi1000 : i < 1000 := by
        have : i < xs.length := hi
        omega
      refine gTup_go (SqT.of hT) rfl ?_
      have hao1 := kT.sqT List.not_mem_nil hao
      have han1 := kT.sqT List.not_mem_nil han
      walk_at "go"
      rename_i P nP
      have kP := (Kp.refl (M := []) (H := H1)).upd_new' (o := .tup [.int (i : Int)]) nP
      refine addA_go ((kT.trans kP).sqT List.not_mem_nil hps) (SqT.of upd_same) (by simp only [List.length_cons, List.length_nil]; omega) fun H2 pp k2 hpp => ?_
      have k12 := kP.trans k2
      have kH2 := kT.trans k12
      have hao2 := k12.sqT List.not_mem_nil hao1
      have han2 := k12.sqT List.not_mem_nil han1
      walk_at "go"
      show sp_law_due K (n + 1) [.ref pp, yo, yn, z] H2 _ _
      refine due_go (p := p ++ [.int (i : Int)]) (.tup hpp (dpAll_app (dpAll_kp0 kH2 hpd) (.cons (.int _) .nil))) (hyo.kp0 kH2) (hyn.kp0 kH2) (dp_kp0 kH2 he) (ofs e (List.mem_of_getElem? ee)) fo fn (by omega) (by omega) ((lp.snoc rfl).mono (by omega)) fun H3 y3 k3 hy3 => ?_
      have kH3 := kH2.trans k3
      have hF3 := (k12.trans k3).at_ List.not_mem_nil hF1
      rw [refu_fuel (m := 9) (by omega) (by omega)] at hy3
      obtain ⟨b, rfl, h3⟩ := resD_tup hy3
      rcases h3 with ⟨er, v, hb, hv⟩ | ⟨p3, w3, er, v, hb⟩
      · have kF : Kp [F] H3 (upd H3 F (.lst (acc ++ [v]))) := Kp.refl.upd_in List.mem_cons_self
        have lF : ∀ b ∈ [F], NoT H3 b := one (P := NoT) (noT_lst hF3)
        have la : acc.length < 1001 := by
          have := dpAll_len pr
          rw [List.length_take] at this
          omega
        walk_at "go"
        refine ⟨acc ++ [v], _, _, _, rfl, kH3.upd_new nF, upd_same, ?_, fun j e' hj he' => ?_⟩
        · rw [take_snoc ee]
          have n2 : noLs (ds.take i) = true := noLs_take nl
          exact dpAll_app (dpAll_kpT kF lF n2 (dpAll_kp0 ((kbT.trans k12).trans k3) pr)) (.cons (dp_kpT kF lF (of_noL (ofs e (List.mem_of_getElem? ee))) hv) .nil)
        · rcases Nat.lt_succ_iff_lt_or_eq.mp hj with h | h
          · exact no j e' h he'
          · subst h
            rw [ee] at he'
            cases he'
            exact er
      · have fr : firstR (fun k e => refu 9 (p ++ [.int k]) s1 s2 e) 0 ds = some (p3, w3) := firstR_at (i := i) (fun j e' hj he' => by rw [Nat.zero_add]; exact no j e' hj he') ee (by rw [Nat.zero_add]; exact er)
        rw [fr] at q
        rw [er] at hy3
        walk_at "go"
        exact q _ _ kH3 hy3
    · obtain ⟨acc, u5, u6, u7, rfl, kb, hF, pr, no⟩ := h
      rw [lx, List.take_length] at pr
      rw [firstR_all fun j e he => by
        rw [Nat.zero_add]
        have : j < ds.length := by
          rcases Nat.lt_or_ge j ds.length with h | h
          · exact h
          · rw [List.getElem?_eq_none h] at he
            cases he
        exact no j e (by omega) he] at q
      walk_at "go"
      rename_i p1 np1 p2 np2
      have k2 := (Kp.refl (M := []) (H := upd H' p1 (.tup acc))).upd_new' (o := .tup [.str "told", .ref p1]) np2
      have k1 := (Kp.refl (M := []) (H := H')).upd_new' (o := .tup acc) np1
      exact q _ _ ((kb.trans k1).trans k2) (.tup (SqT.of upd_same) (.cons (.str _) (.cons (dp_kp0 k2 (.tup (SqT.of upd_same) (dpAll_kp0 k1 pr))) .nil)))
end
end K02

-- imports: PS1 PS2 PS3 PS4 PS5 PS6 PU1 PU2 PU3 PU4 PU5 PU6 PU7 PL0 PL1 PL4
/-! ## k21: due -/
namespace K02
open PySem PySem.Spec PyProof.Rows L2 Kb
theorem refuB_sort {go : List PyData → Srt → Srt → PyData → Option Ref} {p : List PyData} {so sn : Srt} {d : PyData} (h : wrd so ≠ wrd sn) : refuB go p so sn d = some (p, ("sort" : Str)) := by
  cases so <;> cases sn <;> first | exact absurd rfl h | (cases d <;> rfl)
theorem refu_strip {k : Nat} {p : List PyData} {o n : Srt} {d : PyData} (h : isM o = false) (fn : Flt n) : refu (k + 1) p o (strip n) d = refu (k + 1) p o n d := by
  rw [refu_base h, refu_base h, strip_strip fn]
section
variable {K : PySem.W.Frag} {n : Nat} {H : Hp} {Q : VK} {pa : Addr} {o s x : V} {p : List PyData} {so sn : Srt} {d : PyData} {u4 u5 u6 u7 : Option V}
set_option maxHeartbeats 4000000 in
theorem due_1 (hp : Dp K H (.ref pa) (.tuple p)) (ho : SrtV K H so o) (hn : SrtV K H sn s) (hx : Dp K H x d) (of : Of so d) (fo : Flt so) (fn : Flt sn) (em : isM so = false) (en : isM sn = false) (dp : so.dep ≤ n) (n8 : n ≤ 8) (lp : PathOk (82 - 4 * n) p)
    (q : ∀ H' y, Kp [] H H' → Dp K H' y (resD (refuB (refu 9) p so sn d) d) → Q y H') :
    b_law_due_1 K n { nx := fun _ H' => Q .non H', rt := Q } [some (.ref pa), some o, some s, some x, u4, u5, u6, u7] H := by
  have told : ∀ {G : Hp} {P : Addr}, Kp [] H G → G P = none → refuB (refu 9) p so sn d = none → Q (.ref P) (upd G P (.tup [.str "told", x])) := fun {G P} k np e => by
    rw [e] at q
    have k2 := (Kp.refl (M := []) (H := G)).upd_new' (o := .tup [.str "told", x]) np
    exact q _ _ (k.trans k2) (.tup (SqT.of upd_same) (.cons (.str _) (.cons (dp_kp0 (k.trans k2) hx) .nil)))
  have refd : ∀ {G : Hp} {P : Addr} {w : Str}, Kp [] H G → G P = none → refuB (refu 9) p so sn d = some (p, w) → Q (.ref P) (upd G P (.tup [.str "refused", .ref pa, .str w])) := fun {G P w} k np e => by
    rw [e] at q
    have k2 := (Kp.refl (M := []) (H := G)).upd_new' (o := .tup [.str "refused", .ref pa, .str w]) np
    exact q _ _ (k.trans k2) (.tup (SqT.of upd_same) (.cons (.str _) (.cons (dp_kp0 (k.trans k2) hp) (.cons (.str _) .nil))))
  by_cases hw : wrd so = wrd sn
  · cases so with
    | node _ => exact fo.elim
    | pick _ => exact fo.elim
    | maybe _ => cases em
    | truth =>
      cases sn with
      | truth =>
        obtain ⟨ao, rfl, hao⟩ := ho
        obtain ⟨an, rfl, han⟩ := hn
        unfold b_law_due_1
        walk_at "go"
        rename_i P nP
        show rInU K (.str "truth") (.ref P) (upd H P (.lst [.str "text", .str "row"])) _
        refine inL_go (SqL.of upd_same) rfl rfl ?_
        rw [show inV (.str "truth") [.str "text", .str "row"] = false by decide +kernel]
        have k1 := (Kp.refl (M := []) (H := H)).upd_new' (o := .lst [.str "text", .str "row"]) nP
        have hao1 := k1.sqT List.not_mem_nil hao
        have han1 := k1.sqT List.not_mem_nil han
        walk_at "go"
        rename_i p2 np2
        exact told k1 np2 (by obtain ⟨b, rfl⟩ := of; rfl)
      | _ => exact absurd hw (by dsimp only [wrd]; decide +kernel)
    | num a b =>
      cases sn with
      | num lo hi =>
        obtain ⟨ao, rfl, hao⟩ := ho
        obtain ⟨an, rfl, han⟩ := hn
        obtain ⟨i, rfl⟩ := of
        cases hx
        unfold b_law_due_1
        walk_at "go"
        show sp_law_within K [.int i, oV lo, oV hi] H _ _
        unfold sp_law_within
        refine ⟨i, lo, hi, rfl, ?_⟩
        walk_at "go"
        · rename_i hb P nP
          exact refd Kp.refl nP (by
            have hb : withinB i lo hi = false := by simpa using hb
            show (if withinB i lo hi then none else some (p, ("bounds" : Str))) = _
            rw [hb]; rfl)
        · rename_i hb P nP
          have e : refuB (refu 9) p (.num a b) (.num lo hi) (.int i) = none := by
            have hb : withinB i lo hi = true := by simpa using hb
            show (if withinB i lo hi then none else some (p, ("bounds" : Str))) = none
            rw [hb]; rfl
          show rInU K (.str "number") (.ref P) (upd H P (.lst [.str "text", .str "row"])) _
          refine inL_go (SqL.of upd_same) rfl rfl ?_
          rw [show inV (.str "number") [.str "text", .str "row"] = false by decide +kernel]
          have k1 := (Kp.refl (M := []) (H := H)).upd_new' (o := .lst [.str "text", .str "row"]) nP
          have hao1 := k1.sqT List.not_mem_nil hao
          have han1 := k1.sqT List.not_mem_nil han
          walk_at "go"
          rename_i p2 np2
          exact told k1 np2 e
      | _ => exact absurd hw (by dsimp only [wrd]; decide +kernel)
    | text a =>
      cases sn with
      | text m =>
        obtain ⟨ao, rfl, hao⟩ := ho
        obtain ⟨an, rfl, han⟩ := hn
        obtain ⟨z, rfl, lz, _⟩ := of
        cases hx
        unfold b_law_due_1
        walk_at "go"
        rename_i P nP
        show rInU K (.str "text") (.ref P) (upd H P (.lst [.str "text", .str "row"])) _
        refine inL_go (SqL.of upd_same) rfl rfl ?_
        rw [show inV (.str "text") [.str "text", .str "row"] = true by decide +kernel]
        have k1 := (Kp.refl (M := []) (H := H)).upd_new' (o := .lst [.str "text", .str "row"]) nP
        have hao1 := k1.sqT List.not_mem_nil hao
        have han1 := k1.sqT List.not_mem_nil han
        walk_at "go"
        · rename_i h p2 np2
          exact refd k1 np2 (by
            show (if m < (z.length : Int) then some (p, ("most" : Str)) else none) = _
            rw [if_pos h])
        · rename_i h p2 np2
          exact told k1 np2 (by
            show (if m < (z.length : Int) then some (p, ("most" : Str)) else none) = _
            rw [if_neg h])
      | _ => exact absurd hw (by dsimp only [wrd]; decide +kernel)
    | row k s1 =>
      cases sn with
      | row m s2 =>
        have ho' := ho
        have hn' := hn
        obtain ⟨ao, yo, rfl, hao, hyo⟩ := ho
        obtain ⟨an, yn, rfl, han, hyn⟩ := hn
        have of' := of
        obtain ⟨ds, rfl, ld, ofs⟩ := of
        have hx' := hx
        cases hx with
        | @tup xa xs _ hxs hds =>
        have lx := dpAll_len hds
        unfold b_law_due_1
        walk_at "go"
        rename_i P nP
        show rInU K (.str "row") (.ref P) (upd H P (.lst [.str "text", .str "row"])) _
        refine inL_go (SqL.of upd_same) rfl rfl ?_
        rw [show inV (.str "row") [.str "text", .str "row"] = true by decide +kernel]
        have k1 := (Kp.refl (M := []) (H := H)).upd_new' (o := .lst [.str "text", .str "row"]) nP
        have hao1 := k1.sqT List.not_mem_nil hao
        have han1 := k1.sqT List.not_mem_nil han
        have hxs1 := k1.sqT List.not_mem_nil hxs
        walk_at "go"
        · rename_i h p2 np2
          exact refd k1 np2 (by rw [refuB_row, ← lx, if_pos h])
        · rename_i h _ _
          exact absurd rfl h
        · rename_i h _
          rw [refuB_row, ← lx, if_neg h] at q
          exact due_2 (dp_kp0 k1 hp) (ho'.kp0 k1) (hn'.kp0 k1) (dp_kp0 k1 hx') of' fo fn dp n8 lp fun H' y k hy => q H' y (k1.trans k) hy
      | _ => exact absurd hw (by dsimp only [wrd]; decide +kernel)
  · have e := refuB_sort (go := refu 9) (p := p) (d := d) hw
    obtain ⟨ao, ro, rfl, hao⟩ := srtV_wrd ho
    obtain ⟨an, rn, rfl, han⟩ := srtV_wrd hn
    unfold b_law_due_1
    refine ⟨_, rfl, ?_⟩
    refine ixT0_go hao ?_
    refine ⟨_, rfl, ?_⟩
    refine ixT0_go han ?_
    refine neS_go ?_
    rw [decide_eq_false hw]
    walk_at "go"
    rename_i P nP
    exact refd Kp.refl nP e
theorem due_0 (hp : Dp K H (.ref pa) (.tuple p)) (ho : SrtV K H so o) (hn : SrtV K H sn s) (hx : Dp K H x d) (of : Of so d) (fo : Flt so) (fn : Flt sn) (em : isM so = false) (dp : so.dep ≤ n) (n8 : n ≤ 8) (lp : PathOk (82 - 4 * n) p)
    (q : ∀ H' y, Kp [] H H' → Dp K H' y (resD (refuB (refu 9) p so (strip sn) d) d) → Q y H') :
    b_law_due_0 K n { nx := fun _ H' => Q .non H', rt := Q } [some (.ref pa), some o, some s, some x, u4, u5, u6, u7] H := by
  unfold b_law_due_0
  cases en : isM sn with
  | true =>
    cases es : sn with
    | maybe m =>
      rw [es] at hn q fn
      obtain ⟨an, yn, rfl, han, hyn⟩ := hn
      walk_at "go"
      exact due_1 hp ho hyn hx of fo fn.1 em (strip_not (s := .maybe m) fn) dp n8 lp q
    | _ => rw [es] at en; cases en
  | false =>
    obtain ⟨an, rn, rfl, han⟩ := srtV_wrd hn
    have nw := wrd_maybe en
    rw [strip_id en] at q
    walk_at "go"
    · rename_i h
      exact absurd h nw
    · exact due_1 hp ho hn hx of fo fn em en dp n8 lp q
end
theorem p_law_due (K : PySem.W.Frag) (n : Nat) (vs : List V) (H : Hp) (Q : VK) (E : XK) (h : sp_law_due K (n + 1) vs H Q E) : t_law_due K n { nx := fun _ H' => Q .non H', rt := Q } (start ["_law_path", "_law_old", "_law_new", "_law_thing_here", "_law_found_here", "_law_k", "_law_one", "_law_part"] vs) H := by
  unfold sp_law_due at h
  obtain ⟨pa, o, s, x, p, so, sn, d, rfl, hp, ho, hn, hx, of, fo, fn, dp, n8, lp, q⟩ := h
  unfold t_law_due
  have xd := dp_none hx
  cases em : isM so with
  | false =>
    obtain ⟨ao, ro, rfl, hao⟩ := srtV_wrd ho
    have nw := wrd_maybe em
    rw [refu_base em] at q
    walk_at "go"
    all_goals first
      | exact absurd (by assumption) nw
      | exact due_0 hp ho hn hx of fo fn em dp n8 (lp.mono (by omega)) q
      | trace_state
  | true =>
    cases es : so with
    | maybe s0 =>
      rw [es] at ho of fo dp q
      obtain ⟨ao, yo, rfl, hao, hyo⟩ := ho
      obtain ⟨an, rn, en, han⟩ := srtV_wrd hn
      subst en
      have fin : ∀ {G : Hp} {P : Addr} {r : Option Ref} {vs : List V} {ds : List PyData}, refu 10 p (.maybe s0) sn d = r → resD r d = .tuple ds → G P = none → Kp [] H G → DpAll K (upd G P (.tup vs)) vs ds → Q (.ref P) (upd G P (.tup vs)) := fun {G P r vs ds} e1 e2 np k h => by
        rw [e1, e2] at q
        exact q _ _ (k.upd_new' np) (.tup (SqT.of upd_same) h)
      walk_at "go"
      · rename_i hxn hm P nP
        have dn := xd.mp hxn
        subst dn
        have ms : isM sn = true := by
          cases e : isM sn with
          | true => rfl
          | false => exact absurd hm (wrd_maybe e)
        exact fin (by rw [refu_non, ms]) rfl nP Kp.refl (.cons (.str _) (.cons .non .nil))
      · rename_i hxn hm P nP
        have dn := xd.mp hxn
        subst dn
        have ms : isM sn = false := by
          cases sn with
          | maybe _ => exact absurd rfl hm
          | _ => rfl
        exact fin (by rw [refu_non, ms]) rfl nP Kp.refl (.cons (.str _) (.cons (dp_kp0 ((Kp.refl (M := [])).upd_new' nP) hp) (.cons (.str _) .nil)))
      · rename_i hxn P1 nP1 P2 nP2
        have nd : d ≠ .none := fun e => hxn (xd.mpr e)
        have of2 : Of s0 d := by
          rcases of with h | h
          · exact absurd h nd
          · exact h.2
        have ms : isM s0 = false := by
          cases s0 with
          | maybe s' => exact absurd rfl (fo.2 s')
          | _ => rfl
        have d1 : s0.dep + 1 ≤ n := dp
        rw [refu_in nd, refu_strip (k := 8) ms fn] at q
        have k1 := (Kp.refl (M := []) (H := H)).upd_new' (o := .tup [.str "inside"]) nP1
        have k2 := (Kp.refl (M := []) (H := upd H P1 (.tup [.str "inside"]))).upd_new' (o := .tup [.ref P1]) nP2
        have k12 := k1.trans k2
        have l90 := lp.1
        cases hp with
        | @tup _ ps _ hps hpd =>
        have lps := dpAll_len hpd
        refine addA_go (k12.sqT List.not_mem_nil hps) (SqT.of upd_same) (by simp only [List.length_cons, List.length_nil]; omega) fun H2 pp k3 hpp => ?_
        have k13 := k12.trans k3
        have hao2 := k13.sqT List.not_mem_nil hao
        walk_at "go"
        have ins : Dp K H2 (.ref P1) insD := dp_kp0 (k2.trans k3) (.tup (SqT.of upd_same) (.cons (.str _) .nil))
        refine due_0 (p := p ++ [insD]) (.tup hpp (dpAll_app (dpAll_kp0 k13 hpd) (.cons ins .nil))) (hyo.kp0 k13) (hn.kp0 k13) (dp_kp0 k13 hx) of2 fo.1 fn ms (by omega) n8 ((lp.snoc rfl).mono (by omega)) fun H' y k hy => ?_
        rw [← refu_base (k := 9) ms, refu_fuel (m := 9) (by omega) (by omega)] at hy
        exact q _ _ (k13.trans k) hy
    | _ => rw [es] at em; cases em
end K02

-- imports: PS1 PS2 PS3 PS4 PS5 PS6 PU1 PU2 PU3 PU4 PU5 PU6 PU7 PL0
/-! ## k21: same -/
namespace K02
open PySem PySem.Spec PyProof.Rows L2 Kb
theorem no_law_same (K : PySem.W.Frag) {vs : List V} {H : Hp} {Q : VK} {E : XK} (h : sp_law_same K 0 vs H Q E) : False := by
  unfold sp_law_same at h
  exact h
theorem len_law_same (K : PySem.W.Frag) (n : Nat) : ∀ vs H Q E, sp_law_same K (n + 1) vs H Q E → vs.length = ["_law_found_here", "_law_due_here"].length := by
  intro vs H Q E h
  unfold sp_law_same at h
  obtain ⟨_, _, _, rfl, _⟩ := h
  rfl
theorem same_go {K : PySem.W.Frag} {n : Nat} {H : Hp} {Q : VK} {E : XK} {x y : V} {d : PyData} (hx : Dp K H x d) (hy : Dp K H y d) (pl : pln d = true) (dp : tdp d ≤ n) (n8 : n ≤ 8) (sz : psz d ≤ 200000) (q : ∀ H', Kp [] H H' → Q (.bl true) H') : sp_law_same K (n + 1) [x, y] H Q E := by
  unfold sp_law_same
  exact ⟨x, y, d, rfl, hx, hy, pl, dp, n8, sz, q⟩
theorem walk_zipT {K : PySem.W.Frag} {a b : Addr} {xs ys : List V} {n : Nat} (hn : n = min xs.length ys.length) : Walk (RZ.ItzT K a b) n (fun H => SqT K H a xs ∧ SqT K H b ys) (YPair (fun i => xs[i]?) (fun i => ys[i]?)) := by
  subst hn
  refine ⟨fun i _ hi q => ?_, fun _ q => ⟨xs, ys, q.1, q.2, by omega⟩, fun i H v H' _ q y => ?_⟩
  · have h1 : i < xs.length := by omega
    have h2 : i < ys.length := by omega
    exact ⟨xs, ys, xs[i], ys[i], q.1, q.2, by simp [h1], by simp [h2]⟩
  · obtain ⟨T, x, z, h1, h2, h3, h4, h5⟩ := y
    exact ⟨T, x, z, h1, h2, h3, h4 xs q.1, h5 ys q.2⟩
theorem in_pl {e : PyData} : ∀ {ds : List PyData}, pln (.tuple ds) = true → e ∈ ds → pln e = true ∧ tdp e < tdp (.tuple ds) ∧ psz e < psz (.tuple ds) ∧ ds.length < psz (.tuple ds)
  | [], _, m => nomatch m
  | d :: ds, h, m => by
    have h : (pln d && plns ds) = true := h
    rw [Bool.and_eq_true] at h
    have zz := size_pos d
    have e1 : psz (.tuple (d :: ds)) = 1 + (psz d + pszs ds) := rfl
    have e2 : tdp (.tuple (d :: ds)) = max (tdp d) (tdps ds) + 1 := rfl
    have e3 : psz (.tuple ds) = 1 + pszs ds := rfl
    have e4 : tdp (.tuple ds) = tdps ds + 1 := rfl
    have e5 : (d :: ds).length = ds.length + 1 := rfl
    rcases List.mem_cons.mp m with rfl | m
    · refine ⟨h.1, by omega, by omega, ?_⟩
      have : ∀ l : List PyData, l.length ≤ pszs l := fun l => by
        induction l with
        | nil => exact Nat.zero_le _
        | cons a l ih =>
          have := size_pos a
          show l.length + 1 ≤ psz a + pszs l
          omega
      have := this ds
      omega
    · have ih := in_pl (ds := ds) h.2 m
      exact ⟨ih.1, by omega, by omega, by omega⟩
local macro_rules | `(tactic| walk_at "ty") => `(tactic| exact K02.sqT_ty (by assumption))
theorem p_law_same (K : PySem.W.Frag) (n : Nat) (vs : List V) (H : Hp) (Q : VK) (E : XK) (h : sp_law_same K (n + 1) vs H Q E) : t_law_same K n { nx := fun _ H' => Q .non H', rt := Q } (start ["_law_found_here", "_law_due_here", "_law_one", "_law_other"] vs) H := by
  unfold sp_law_same at h
  obtain ⟨x, y, d, rfl, hx, hy, pl, dp, n8, sz, q⟩ := h
  unfold t_law_same
  cases d with
  | none =>
    cases hx
    cases hy
    walk_at "go"
    all_goals
      show Q (.bl _) H
      simp only [decide_true]
      exact q H Kp.refl
  | bool b =>
    cases hx
    cases hy
    walk_at "go"
    all_goals
      show Q (.bl _) H
      simp only [decide_true]
      exact q H Kp.refl
  | int i =>
    cases hx
    cases hy
    walk_at "go"
    all_goals
      show Q (.bl _) H
      simp only [decide_true]
      exact q H Kp.refl
  | str z =>
    cases hx
    cases hy
    walk_at "go"
    all_goals
      show Q (.bl _) H
      simp only [decide_true]
      exact q H Kp.refl
  | list _ => cases pl
  | dict _ => cases pl
  | tuple ds =>
    cases hx with
    | @tup xa xs _ hxs hds =>
    cases hy with
    | @tup ya ys _ hys hes =>
    have lx := dpAll_len hds
    have ly := dpAll_len hes
    walk_at "go"
    · rename_i h
      exact absurd (by rw [lx, ly]) h
    refine ⟨xa, ya, xs, ys, rfl, .inr ⟨hxs, hys, fun D nD => ?_⟩⟩
    refine lc_acc (walk_zipT (xs := xs) (ys := ys) (n := ds.length) (by omega)) (fun j acc H' => Kp [] H H' ∧ acc = (List.replicate j true).map V.bl) ⟨Kp.refl.upd_new' nD, rfl⟩ (fun j acc H' _ h => ⟨h.1.sqT List.not_mem_nil hxs, h.1.sqT List.not_mem_nil hys⟩) (fun j x acc Hc Hd hj hl' hD hP hY => ?_) (fun acc Hc hl' hD hP => ?_)
    · obtain ⟨kb, rfl⟩ := hP
      obtain ⟨T, v, z, rfl, nT, rfl, ev, ez⟩ := hY
      obtain ⟨e, ee, he⟩ := dpAll_ix hds ev
      obtain ⟨e', ee', he'⟩ := dpAll_ix hes ez
      rw [ee] at ee'
      cases ee'
      have m := List.mem_of_getElem? ee
      have kT := (Kp.refl (M := []) (H := Hc)).upd_new' (o := .tup [v, z]) nT
      have kb2 := kb.trans kT
      walk_at "go"
      show sp_law_same K n [v, z] _ _ _
      obtain ⟨g1, g2, g3, g4⟩ := in_pl pl m
      obtain ⟨n, rfl⟩ : ∃ n', n = n' + 1 := ⟨n - 1, by omega⟩
      refine same_go (dp_kp0 kb2 he) (dp_kp0 kb2 he') g1 (by omega) (by omega) (by omega) fun H' k => ?_
      refine acc_go hl' (by omega) (k.at_ List.not_mem_nil (kT.at_ List.not_mem_nil hD)) ⟨(kb2.trans k).upd_new nD, ?_⟩
      rw [List.replicate_succ', List.map_append]
      rfl
    · obtain ⟨kb, rfl⟩ := hP
      walk_at "go"
      refine all_go (bs := List.replicate ds.length true) (SqL.of hD) ?_
      rw [show (List.replicate ds.length true).all id = true by simp]
      exact q _ kb
end K02

-- imports: PS1 PS2 PS3 PS4 PS5 PS6 PU1 PU2 PU3 PU4 PU5 PU6 PU7 PL0
/-! ## k21: found -/
namespace K02
open PySem PySem.Spec PyProof.Rows L2 Kb
theorem len_law_found (K : PySem.W.Frag) : ∀ vs H Q E, sp_law_found K vs H Q E → vs.length = ["_law_old", "_law_new", "_law_thing_here"].length := by
  intro vs H Q E h
  unfold sp_law_found at h
  obtain ⟨_, _, _, _, _, _, rfl, _⟩ := h
  rfl
theorem found_go {K : PySem.W.Frag} {H : Hp} {Q : VK} {E : XK} {a b : Addr} {x : V} {so sn : Srt} {d : PyData} (ha : Sch K H a so) (hb : Sch K H b sn) (hx : Dp K H x d) (of : Of so d) (fo : Flt so) (fn : Flt sn) (dp : so.dep ≤ 3) (sz : psz d ≤ 100000)
    (q : ∀ H' y, Kp [] H H' → Dp K H' y (resD (refu 10 [] so sn d) d) → Q y H') : sp_law_found K [.ref a, .ref b, x] H Q E := by
  unfold sp_law_found
  exact ⟨a, b, x, so, sn, d, rfl, ha, hb, hx, of, fo, fn, dp, sz, q⟩
theorem p_law_found (K : PySem.W.Frag) (B : XK2 K) (vs : List V) (H : Hp) (Q : VK) (E : XK) (h : sp_law_found K vs H Q E) : t_law_found K { nx := fun _ H' => Q .non H', rt := Q } (start ["_law_old", "_law_new", "_law_thing_here", "_law_found_here", "e", "_law_others"] vs) H := by
  unfold sp_law_found at h
  obtain ⟨a, b, x, so, sn, d, rfl, ha, hb, hx, of, fo, fn, dp, sz, q⟩ := h
  unfold t_law_found
  walk_at "go"
  show sp_turned K [.ref a, .ref b, x] H _ _
  refine turned_go ha hb hx of fo fn dp sz ?_
  cases er : refu 10 [] so sn d with
  | none =>
    show ∀ H' y, Kp [] H H' → _
    intro H1 y k1 hy
    rw [er] at q
    walk_at "go"
    rename_i P nP
    have k2 := (Kp.refl (M := []) (H := H1)).upd_new' (o := .tup [.str "told", y]) nP
    exact q _ _ (k1.trans k2) (.tup (SqT.of upd_same) (.cons (.str _) (.cons (dp_kp0 k2 hy) .nil)))
  | some r =>
    obtain ⟨p, w⟩ := r
    rw [er] at q
    show ExT K p w H _
    intro H1 dd pa k1 hd hpa
    refine ⟨true, B.ew, fun _ ex na => ?_, fun z => nomatch z⟩
    walk_at "go"
    rename_i _ P nP
    have hd1 : (upd H1 P (.tup [.ref (cAt K "NoBytes"), .ref (cAt K "NoEdition"), .ref (cAt K "NoLine"), .ref (cAt K "NoMeeting"), .ref (cAt K "NoQuestion"), .ref (cAt K "NoSchema"), .ref (cAt K "NoText"), .ref (cAt K "NoThing"), .ref (cAt K "NoWire")])) dd = some (.xd [("why", .str w), ("path", .ref pa)]) := (upd_ne (ne_of_none hd nP)).trans hd
    have kP := (Kp.refl (M := []) (H := H1)).upd_new' (o := .tup [.ref (cAt K "NoBytes"), .ref (cAt K "NoEdition"), .ref (cAt K "NoLine"), .ref (cAt K "NoMeeting"), .ref (cAt K "NoQuestion"), .ref (cAt K "NoSchema"), .ref (cAt K "NoText"), .ref (cAt K "NoThing"), .ref (cAt K "NoWire")]) nP
    have hpa1 := dp_kp0 kP hpa
    have k2 := k1.trans kP
    have kit : PySem.W.kitAny K (.ref (cAt K "NoTurn")) [.ref (cAt K "NoBytes"), .ref (cAt K "NoEdition"), .ref (cAt K "NoLine"), .ref (cAt K "NoMeeting"), .ref (cAt K "NoQuestion"), .ref (cAt K "NoSchema"), .ref (cAt K "NoText"), .ref (cAt K "NoThing"), .ref (cAt K "NoWire")] = some false := by
      simp only [PySem.W.kitAny, B.n1, B.n2, B.n3, B.n4, B.n5, B.n6, B.n7, B.n8, B.n9]
    refine Or.inr ⟨_, P, _, [.ref (cAt K "NoBytes"), .ref (cAt K "NoEdition"), .ref (cAt K "NoLine"), .ref (cAt K "NoMeeting"), .ref (cAt K "NoQuestion"), .ref (cAt K "NoSchema"), .ref (cAt K "NoText"), .ref (cAt K "NoThing"), .ref (cAt K "NoWire")], false, dd, _, rfl, rfl, rfl, hd1, B.x, upd_same, (.cons (.own _) (.cons (.own _) (.cons (.own _) (.cons (.own _) (.cons (.own _) (.cons (.own _) (.cons (.own _) (.cons (.own _) (.cons (.own _) .nil))))))))), kit, ?_⟩
    generalize upd H1 P (.tup [.ref (cAt K "NoBytes"), .ref (cAt K "NoEdition"), .ref (cAt K "NoLine"), .ref (cAt K "NoMeeting"), .ref (cAt K "NoQuestion"), .ref (cAt K "NoSchema"), .ref (cAt K "NoText"), .ref (cAt K "NoThing"), .ref (cAt K "NoWire")]) = H2 at hd1 kP hpa1 k2 ⊢
    walk_at "go"
    refine Or.inl ⟨_, .ref (cAt K "NoTurn"), _, true, dd, _, rfl, rfl, rfl, hd1, B.x, fun u r => r, B.kt, ?_⟩
    walk_at "go"
    refine Or.inl ⟨_, .ty "ValueError", _, true, dd, _, rfl, rfl, rfl, hd1, B.x, fun u r => r, B.kv, ?_⟩
    walk_at "go"
    refine ⟨dd, _, _, rfl, hd1, by walk_at "lk", ?_⟩
    walk_at "go"
    refine ⟨dd, _, _, rfl, hd1, by walk_at "lk", ?_⟩
    walk_at "go"
    rename_i P2 nP2
    have k3 := (Kp.refl (M := []) (H := H2)).upd_new' (o := .tup [.str "refused", .ref pa, .str w]) nP2
    exact q _ _ (k2.trans k3) (.tup (SqT.of upd_same) (.cons (.str _) (.cons (dp_kp0 k3 hpa1) (.cons (.str _) .nil))))
end K02

-- imports: PS1 PS2 PS3 PS4 PS5 PS6 PU1 PU2 PU3 PU4 PU5 PU6 PU7 PL0
/-! ## k21: what is due is plain; a thing goes over to its own sort -/
namespace K02
open PySem PySem.Spec PyProof.Rows L2 Kb
theorem plns_all : ∀ {ds : List PyData}, (∀ e ∈ ds, pln e = true) → plns ds = true
  | [], _ => rfl
  | d :: ds, h => by
    show (pln d && plns ds) = true
    rw [h d List.mem_cons_self, plns_all fun e he => h e (List.mem_cons_of_mem _ he)]
    rfl
theorem tdps_all {n : Nat} : ∀ {ds : List PyData}, (∀ e ∈ ds, tdp e ≤ n) → tdps ds ≤ n
  | [], _ => Nat.zero_le _
  | d :: ds, h => by
    have a := h d List.mem_cons_self
    have b := tdps_all fun e he => h e (List.mem_cons_of_mem _ he)
    show max (tdp d) (tdps ds) ≤ n
    omega
theorem of_pln : ∀ {s : Srt} {d : PyData}, Of s d → pln d = true
  | .num _ _, _, ⟨_, h⟩ => by subst h; rfl
  | .truth, _, ⟨_, h⟩ => by subst h; rfl
  | .text _, _, ⟨z, h, _, g⟩ => by
    subst h
    show (z.cps.toList.all fun c => decide (c < 128)) = true
    rw [List.all_eq_true]
    exact fun c hc => decide_eq_true (g c hc)
  | .row _ s, _, ⟨ds, h, _, hs⟩ => by
    subst h
    exact plns_all fun e he => of_pln (hs e he)
  | .maybe s, _, h => by
    rcases h with h | h
    · subst h; rfl
    · exact of_pln h.2
theorem of_tdp : ∀ {s : Srt} {d : PyData}, Of s d → tdp d ≤ s.dep
  | .num _ _, _, ⟨_, h⟩ => by subst h; exact Nat.zero_le _
  | .truth, _, ⟨_, h⟩ => by subst h; exact Nat.zero_le _
  | .text _, _, ⟨z, h, _, g⟩ => by subst h; exact Nat.zero_le _
  | .row _ s, _, ⟨ds, h, _, hs⟩ => by
    subst h
    exact Nat.succ_le_succ (tdps_all fun e he => of_tdp (hs e he))
  | .maybe s, _, h => by
    rcases h with h | h
    · subst h; exact Nat.zero_le _
    · exact Nat.le_succ_of_le (of_tdp h.2)
theorem refu_self : ∀ {s : Srt} {k : Nat} {p : List PyData} {d : PyData}, Of s d → Flt s → Fit s d → s.dep < k → refu k p s s d = none
  | _, 0, _, _, _, _, _, h => absurd h (Nat.not_lt_zero _)
  | .num lo hi, k + 1, p, _, ⟨i, h⟩, _, ft, _ => by
    subst h
    show (if withinB i lo hi then none else some (p, ("bounds" : Str))) = none
    rw [ft i rfl]
    rfl
  | .truth, k + 1, p, _, ⟨_, h⟩, _, _, _ => by subst h; rfl
  | .text n, k + 1, p, _, ⟨z, h, _⟩, _, ft, _ => by
    subst h
    have := ft z rfl
    show (if n < (z.length : Int) then some (p, ("most" : Str)) else none) = none
    rw [if_neg (by omega)]
  | .row n s, k + 1, p, _, ⟨ds, h, _, hs⟩, fl, ft, hk => by
    subst h
    obtain ⟨f1, f2⟩ := ft ds rfl
    have hk : s.dep + 1 < k + 1 := hk
    show refuB (refu k) p (.row n s) (.row n s) (.tuple ds) = none
    rw [refuB_row, if_neg (by omega)]
    have : ∀ (l : List PyData) (j : Nat), (∀ e ∈ l, e ∈ ds) → firstR (fun j e => refu k (p ++ [.int j]) s s e) j l = none := fun l => by
      induction l with
      | nil => exact fun _ _ => rfl
      | cons e l ih =>
        intro j m
        unfold firstR
        have me := m e List.mem_cons_self
        rw [show refu k (p ++ [.int j]) s s e = none from refu_self (hs e me) fl (f2 e me) (by omega)]
        exact ih (j + 1) fun x hx => m x (List.mem_cons_of_mem _ hx)
    exact this ds 0 fun _ m => m
  | .maybe s, k + 1, p, d, of, fl, ft, hk => by
    have hk : s.dep + 1 < k + 1 := hk
    by_cases e : d = .none
    · subst e
      rfl
    · rw [refu_in e]
      rcases of with h | h
      · exact absurd h e
      · rcases ft with f | f
        · exact absurd f e
        · exact refu_self h.2 fl.1 f (by omega)
end K02

-- imports: PS1 PS2 PS3 PS4 PS5 PS6 PU1 PU2 PU3 PU4 PU5 PU6 PU7 PL0 PL9
/-! ## k21: places that are refused are plain -/
namespace K02
open PySem PySem.Spec PyProof.Rows L2 Kb
structure PGood (p : List PyData) (c : Nat) : Prop where
  gp : plns p = true
  gt : tdps p ≤ 1
  gs : pszs p ≤ c
theorem plns_app : ∀ {a b : List PyData}, plns (a ++ b) = (plns a && plns b)
  | [], _ => rfl
  | d :: a, b => by
    show (pln d && plns (a ++ b)) = (pln d && plns a && plns b)
    rw [plns_app, Bool.and_assoc]
theorem tdps_app : ∀ {a b : List PyData}, tdps (a ++ b) = max (tdps a) (tdps b)
  | [], b => by
    show tdps b = max 0 (tdps b)
    omega
  | d :: a, b => by
    show max (tdp d) (tdps (a ++ b)) = max (max (tdp d) (tdps a)) (tdps b)
    rw [tdps_app]
    omega
theorem pszs_snoc {ds : List PyData} {e : PyData} : pszs (ds ++ [e]) = pszs ds + psz e := by
  induction ds with
  | nil => exact Nat.add_comm (psz e) 0
  | cons d ds ih =>
    show psz d + pszs (ds ++ [e]) = psz d + pszs ds + psz e
    rw [ih, Nat.add_assoc]
theorem PGood.snoc {p : List PyData} {c : Nat} {d : PyData} (h : PGood p c) (a : pln d = true) (b : tdp d ≤ 1) (s : psz d ≤ 2) : PGood (p ++ [d]) (c + 2) := by
  have := h.gt
  have := h.gs
  refine ⟨?_, ?_, ?_⟩
  · rw [plns_app, h.gp]
    show (true && (pln d && true)) = true
    rw [a]
    rfl
  · rw [tdps_app]
    show max (tdps p) (max (tdp d) 0) ≤ 1
    omega
  · rw [pszs_snoc]
    omega
theorem PGood.mono {p : List PyData} {c c' : Nat} (h : PGood p c) (l : c ≤ c') : PGood p c' := ⟨h.gp, h.gt, Nat.le_trans h.gs l⟩
def RGood (c : Nat) : Option Ref → Prop
  | none => True
  | some (p, w) => PGood p c ∧ pln (.str w) = true
theorem RGood.mono {r : Option Ref} {c c' : Nat} (h : RGood c r) (l : c ≤ c') : RGood c' r := by
  cases r with
  | none => trivial
  | some r => exact ⟨h.1.mono l, h.2⟩
theorem firstR_good {f : Nat → PyData → Option Ref} {c : Nat} : ∀ {ds : List PyData} {k : Nat}, (∀ k e, RGood c (f k e)) → RGood c (firstR f k ds)
  | [], _, _ => trivial
  | d :: ds, k, h => by
    unfold firstR
    cases e : f k d with
    | none => exact firstR_good h
    | some r =>
      have := h k d
      rw [e] at this
      exact this
theorem refuB_good {go : List PyData → Srt → Srt → PyData → Option Ref} {p : List PyData} {c C : Nat} {so sn : Srt} {d : PyData} (h : PGood p c) (hC : c ≤ C) (hg : ∀ p s s' d, PGood p (c + 2) → RGood C (go p s s' d)) : RGood C (refuB go p so sn d) := by
  have hw : ∀ w : Str, pln (.str w) = true → RGood C (some (p, w)) := fun w e => ⟨h.mono hC, e⟩
  have srt : RGood C (some (p, ("sort" : Str))) := hw _ (by decide +kernel)
  have ite : ∀ {P : Prop} [Decidable P] {a b : Option Ref}, RGood C a → RGood C b → RGood C (if P then a else b) := fun {P _ a b} h1 h2 => by
    split
    · exact h1
    · exact h2
  cases so <;> cases sn <;> cases d <;> first
    | exact srt
    | exact trivial
    | exact ite trivial (hw _ (by decide +kernel))
    | exact ite (hw _ (by decide +kernel)) trivial
    | exact ite (hw _ (by decide +kernel)) (firstR_good fun k e => hg _ _ _ _ (h.snoc rfl (Nat.zero_le _) (by show 1 ≤ 2; omega)))
theorem refu_good : ∀ {k : Nat} {p : List PyData} {c : Nat} {o s : Srt} {d : PyData}, PGood p c → RGood (c + 2 * k) (refu k p o s d)
  | 0, p, c, o, s, d, h => ⟨h, by decide +kernel⟩
  | k + 1, p, c, o, s, d, h => by
    have hg : ∀ (p : List PyData) (s s' : Srt) (d : PyData), PGood p (c + 2) → RGood (c + 2 * (k + 1)) (refu k p s s' d) := fun p s s' d h => (refu_good h).mono (by omega)
    cases em : isM o with
    | false =>
      rw [refu_base em]
      exact refuB_good h (by omega) hg
    | true =>
      cases o with
      | maybe o =>
        by_cases e : d = .none
        · subst e
          rw [refu_non]
          split
          · trivial
          · exact ⟨h.mono (by omega), by decide +kernel⟩
        · rw [refu_in e]
          exact hg _ _ _ _ (h.snoc (by decide +kernel) (by decide) (by decide))
      | _ => cases em
/-- what is due is plain, and small -/
theorem due_small {s sn : Srt} {d : PyData} {c : Nat} (of : Of s d) (dp : s.dep ≤ 3) (sz : psz d ≤ c) (hc : c ≤ 100000) : pln (resD (refu 10 [] s sn d) d) = true ∧ tdp (resD (refu 10 [] s sn d) d) ≤ 5 ∧ psz (resD (refu 10 [] s sn d) d) ≤ 200000 := by
  have g : RGood (0 + 2 * 10) (refu 10 [] s sn d) := refu_good ⟨rfl, Nat.zero_le _, Nat.zero_le _⟩
  cases e : refu 10 [] s sn d with
  | none =>
    have h1 := of_pln of
    have h2 := of_tdp of
    refine ⟨?_, ?_, ?_⟩
    · show (pln (.str "told") && (pln d && true)) = true
      rw [h1]
      decide +kernel
    · show max 0 (max (tdp d) 0) + 1 ≤ 5
      omega
    · show 1 + (1 + (psz d + 0)) ≤ 200000
      omega
  | some r =>
    obtain ⟨p, w⟩ := r
    rw [e] at g
    obtain ⟨⟨h1, h2, h3⟩, hw⟩ := g
    refine ⟨?_, ?_, ?_⟩
    · show (pln (.str "refused") && (plns p && (pln (.str w) && true))) = true
      rw [h1, hw]
      decide +kernel
    · show max 0 (max (tdps p + 1) (max 0 0)) + 1 ≤ 5
      omega
    · show 1 + (1 + ((1 + pszs p) + (1 + 0))) ≤ 200000
      omega
end K02

-- imports: PS1 PS2 PS3 PS4 PS5 PS6 PU1 PU2 PU3 PU4 PU5 PU6 PU7 PL0 PL1 PL2 PL3 PL4 PL5 PL6 PL7 PL9 PL10
/-! ## k21: the law as a whole -/
namespace K02
open PySem PySem.Spec PyProof.Rows L2 Kb
open LamX (TabS)
theorem len_law (K : PySem.W.Frag) (Pt : Tb) : ∀ vs H Q E, sp_law K Pt vs H Q E → vs.length = ["_law_script"].length := by
  intro _ _ _ _ h
  unfold sp_law at h
  obtain ⟨_, _, rfl, _⟩ := h
  rfl
section
variable {K : PySem.W.Frag} {H H' : Hp} {Q : VK} {E : XK} {Pt : Tb} {S : Addr}
theorem Sch.wl {a : Addr} {s : Srt} (h : Sch K H a s) (w : Wl H S) (k : Kp [S] H H') : Sch K H' a s := by
  obtain ⟨dx, D1, D2, root, h1, h2, h3⟩ := h
  obtain ⟨c, i, hS⟩ := id w
  have n : ∀ {b : Addr} {o : HO}, H b = some o → (∀ xs, o ≠ .lst xs) → b ∉ [S] := fun h n m => by
    rw [List.mem_singleton.mp m, hS] at h
    exact n _ (Option.some.inj h).symm
  exact ⟨dx, D1, D2, root, k _ _ (n h1 fun _ e => by cases e) h1, k _ _ (n h2 fun _ e => by cases e) h2, h3.wl w k⟩
theorem Tbl.wl (tb : Tbl Pt H) (w : Wl H S) (k : Kp [S] H H') : Tbl Pt H' := by
  obtain ⟨c, i, hS⟩ := id w
  have nm : ∀ {P : Addr} {q : Str}, TabS H P q → P ∉ [S] := fun t m => tabS_ne t hS (fun ps e => by cases e) (List.mem_singleton.mp m).symm
  have nc : ∀ a ∈ [S], ∀ c z, H a ≠ some (LamX.CodeO c z) := fun a m φ z e => by
    rw [List.mem_singleton.mp m, hS] at e
    cases e
  exact ⟨tabS_kp tb.a k (nm tb.a) nc, tabS_kp tb.b k (nm tb.b) nc, tb.ab⟩
theorem noT_tab {P : Addr} {qn : Str} (t : TabS H P qn) : NoT H P := fun u e => by
  obtain ⟨ps, h1, _⟩ := t
  rw [h1] at e
  cases e
  exact ⟨(fun _ e => by cases e), fun _ _ e => by cases e⟩
theorem made2_go {z D1 dx : Addr} {root : V} {s : Srt} (h1 : H D1 = some (.dK [])) (hs : SrtV K H s root) (ok : SOk (FAR + 1) s 2) (tb : Tbl Pt H) (hz : H z = some (.ins (cAt K "Schema") dx []))
    (q : ∀ H', Tbl Pt H' → Sch K H' z s → (∀ u v, SrtV K H u v → SrtV K H' u v) → (∀ b xs, H b = some (.lst xs) → H' b = some (.lst xs)) → (∀ b u, b ≠ z → Sch K H b u → Sch K H' b u) → Q .non H') : sp_Schema___init__ K Pt [.ref z, .ref D1, .non, root] H Q E := by
  unfold sp_Schema___init__
  refine ⟨z, D1, .non, root, dx, s, [], [], (fun _ => 0), 0, rfl, hz, h1, .inl ⟨rfl, rfl⟩, Nat.zero_le _, Nat.zero_le _, List.nodup_nil, List.nodup_nil, (fun r hr => nomatch hr), (fun r hr => nomatch hr), Nat.zero_le _, hs, (ok.mono (Int.le_refl _) (by omega)).ok (by decide +kernel), tb, fun H' E1 E2 kvs1 kvs2 k tb' ha n1 n2 E12 g1 g2 d1 d2 => ?_⟩
  have fm : ∀ b ∈ [z, Pt.a, Pt.b], NoT H b := fun b m => by
    rcases List.mem_cons.mp m with rfl | m
    · intro u e
      rw [hz] at e
      cases e
      exact ⟨(fun _ e => by cases e), fun _ _ e => by cases e⟩
    · rcases List.mem_cons.mp m with rfl | m
      · exact noT_tab tb.a
      · rw [List.mem_singleton.mp m]
        exact noT_tab tb.b
  have e1 : kvs1 = [] := by cases d1; rfl
  subst e1
  have nl : ∀ b o, H b = some o → (∀ ps, o ≠ .tbl ps) → b ≠ z → b ∉ [z, Pt.a, Pt.b] := fun b o h n bz m => by
    rcases List.mem_cons.mp m with m | m
    · exact bz m
    · rcases List.mem_cons.mp m with m | m
      · exact tabS_ne tb.a h n m
      · exact tabS_ne tb.b h n (List.mem_singleton.mp m)
  refine q H' tb' ⟨dx, E1, E2, root, ha, g1, hs.kpT k fm⟩ (fun u v h => h.kpT k fm) (fun b xs h => k _ _ (nl b _ h (fun _ e => by cases e) fun e => by rw [e, hz] at h; cases h) h) fun b u bz h => ?_
  obtain ⟨dx', D1', D2', root', a1, a2, a3⟩ := h
  exact ⟨dx', D1', D2', root', k _ _ (nl b _ a1 (fun _ e => by cases e) bz) a1, k _ _ (nl D1' _ a2 (fun _ e => by cases e) fun e => by rw [e, hz] at a2; cases a2) a2, a3.kpT k fm⟩
theorem mk_in {G : Hp} {z D dx : Addr} {root : V} {s : Srt} (nD : G D = none) (nz : upd G D (.dK []) z = none) (nd : upd G D (.dK []) dx = none) (ne : dx ≠ z) (hs : SrtV K G s root) (ok : SOk (FAR + 1) s 2) (tb : Tbl Pt G)
    (q : ∀ H', Tbl Pt H' → Sch K H' z s → (∀ u v, SrtV K G u v → SrtV K H' u v) → (∀ b xs, G b = some (.lst xs) → H' b = some (.lst xs)) → (∀ b u, Sch K G b u → Sch K H' b u) → Q .non H') : sp_Schema___init__ K Pt [.ref z, .ref D, .non, root] (upd (upd (upd G D (.dK [])) dx (.own z)) z (.ins (cAt K "Schema") dx [])) Q E := by
  have zD : z ≠ D := fun e => by rw [e, upd_same] at nz; cases nz
  have dD : dx ≠ D := fun e => by rw [e, upd_same] at nd; cases nd
  have gz : G z = none := by rw [upd_ne zD] at nz; exact nz
  have gd : G dx = none := by rw [upd_ne dD] at nd; exact nd
  have k : Kp [] G (upd (upd (upd G D (.dK [])) dx (.own z)) z (.ins (cAt K "Schema") dx [])) := ((Kp.refl.upd_new nD).upd_new gd).upd_new gz
  refine made2_go (by rw [upd_ne zD.symm, upd_ne dD.symm]; exact upd_same) (hs.kp0 k) ok (tb.kp0 k) upd_same fun H' t b s2 l c => q H' t b (fun u v h => s2 u v (h.kp0 k)) (fun b xs h => l b xs (k _ _ List.not_mem_nil h)) fun b u h => c b u (fun e => ?_) (h.kp0 k)
  obtain ⟨_, _, _, _, h1, _, _⟩ := h
  rw [e, gz] at h1
  cases h1
theorem law_in {D : Ends} {G : Hp} {S a1 a2 : Addr} {x y : V} {s s' : Srt} {u0 u1 u7 u8 u9 : Option V} (w : Wl G S) (hs : SrtV K G s x) (ok : SOk FAR s 2) (hs' : SrtV K G s' y) (ok' : SOk (FAR + 1) s' 2) (h1 : Sch K G a1 s) (h2 : Sch K G a2 s')
    (q : ∀ G' u8 u9, Kp [S] G G' → Wl G' S → D.nx [u0, u1, some (.ref S), some x, some y, some (.ref a1), some (.ref a2), u7, u8, u9] G') :
 (tSeq (tAsg (tCall (sp_law_thing K 4) [] E0 (tCons (tVar 2) (tCons (tVar 3) tNil))) (gName 8))
 (tSeq (tAsg (tCall (sp_law_due K 4) [] E0 (tCons (tTup tNil) (tCons (tVar 3) (tCons (tVar 4) (tCons (tVar 8) tNil))))) (gName 9))
 (tSeq (tIfS (tNot (tTru K (tCall (sp_law_same K 6) [] E0 (tCons (tCall (sp_law_found K) [] E0 (tCons (tVar 5) (tCons (tVar 6) (tCons (tVar 8) tNil)))) (tCons (tVar 9) tNil)))))
 (tRet (tC (.bl false)))
 tNext)
 (tIfS (tNot (tTru K (tCall (sp_law_same K 6) [] E0 (tCons (tCall (sp_law_found K) [] E0 (tCons (tVar 5) (tCons (tVar 5) (tCons (tVar 8) tNil)))) (tCons (tTup (tCons (tC (.str (PySem.Str.ofString "told"))) (tCons (tVar 8) tNil))) tNil)))))
 (tRet (tC (.bl false)))
 tNext)))) D [u0, u1, some (.ref S), some x, some y, some (.ref a1), some (.ref a2), u7, u8, u9] G := by
  have sc0 : SW G S G := ⟨Kp.refl, w⟩
  have fs := ok.flt
  have fs' := ok'.flt
  have dp := ok.dep
  walk_at "go"
  show sp_law_thing K 4 [.ref S, x] G _ _
  refine thing_go sc0 hs ok (by omega) fun H1 z d sc1 k1 hz of ft sz => ?_
  have sz' : psz d ≤ 49 := sz
  have b1 := h1.wl w k1
  have b2 := h2.wl w k1
  have c1 := hs.wl w k1
  have c2 := hs'.wl w k1
  walk_at "go"
  rename_i T nT
  have kT := (Kp.refl (M := []) (H := H1)).upd_new' (o := .tup []) nT
  have hT : SqT K (upd H1 T (.tup [])) T [] := SqT.of upd_same
  have sc2 := sc1.new (o := .tup []) nT
  generalize upd H1 T (.tup []) = H2 at kT hT sc2 ⊢
  show sp_law_due K 4 [.ref T, x, y, z] H2 _ _
  refine due_go (p := []) (.tup hT .nil) (c1.kp0 kT) (c2.kp0 kT) (dp_kp0 kT hz) of fs fs' (by omega) (by omega) ⟨Nat.zero_le _, rfl⟩ fun H3 r k3 hr => ?_
  have k13 := kT.trans k3
  have sc3 := sc2.kp k3
  walk_at "go"
  show sp_law_found K [.ref a1, .ref a2, z] H3 _ _
  refine found_go (b1.kp0 k13) (b2.kp0 k13) (dp_kp0 k13 hz) of fs fs' (by omega) (by omega) fun H4 r4 k4 hr4 => ?_
  have k14 := k13.trans k4
  have sc4 := sc3.kp k4
  obtain ⟨g1, g2, g3⟩ := due_small (sn := s') of (by omega) sz' (by omega)
  walk_at "go"
  show sp_law_same K 6 [r4, r] H4 _ _
  refine same_go (n := 5) hr4 (dp_kp0 k4 hr) g1 g2 (by omega) g3 fun H5 k5 => ?_
  have k15 := k14.trans k5
  have sc5 := sc4.kp k5
  walk_at "go"
  show sp_law_found K [.ref a1, .ref a1, z] H5 _ _
  have self : refu 10 [] s s d = none := refu_self of fs ft (by omega)
  refine found_go (b1.kp0 k15) (b1.kp0 k15) (dp_kp0 k15 hz) of fs fs (by omega) (by omega) fun H6 r6 k6 hr6 => ?_
  obtain ⟨e1, e2, e3⟩ := due_small (sn := s) of (by omega) sz' (by omega)
  rw [self] at hr6 e1 e2 e3
  have k16 := k15.trans k6
  have sc6 := sc5.kp k6
  walk_at "go"
  rename_i P nP
  have kP := (Kp.refl (M := []) (H := H6)).upd_new' (o := .tup [.str "told", z]) nP
  show sp_law_same K 6 [r6, .ref P] (upd H6 P (.tup [.str "told", z])) _ _
  refine same_go (n := 5) (dp_kp0 kP hr6) (.tup (SqT.of upd_same) (.cons (.str _) (.cons (dp_kp0 (k16.trans kP) hz) .nil))) e1 e2 (by omega) e3 fun H7 k7 => ?_
  have sc7 := (sc6.new (o := .tup [.str "told", z]) nP).kp k7
  walk_at "go"
  exact q _ _ _ sc7.1 sc7.2
end
theorem p_law (K : PySem.W.Frag) (C : Addr) (O : Own K C) (Pt : Tb) (vs : List V) (H : Hp) (Q : VK) (E : XK) (h : sp_law K Pt vs H Q E) : t_law K C Pt { nx := fun _ H' => Q .non H', rt := Q } (start ["_law_script", "_law_cell", "_law_well", "_law_sort_here", "_law_other", "_law_old", "_law_new", "_law_turn", "_law_thing_here", "_law_due_here"] vs) H := by
  unfold sp_law at h
  obtain ⟨a, ns, rfl, hS, nl, tb, q⟩ := h
  unfold t_law
  walk_at "go"
  rename_i p1 np1
  have k1 := (Kp.refl (M := []) (H := H)).upd_new' (o := .lst [.int 0]) np1
  refine addLS_go (k1.sqL List.not_mem_nil hS) (SqL.of upd_same) (by rw [List.length_map]; show _ + 1 ≤ _; omega) fun p2 np2 => ?_
  walk_at "go"
  rename_i p3 np3
  have cm : ∀ v ∈ cutV (ns.map V.int ++ [.int 0]) none (some 8), ∃ i, v = V.int i := fun v m => by
    unfold cutV at m
    have m := List.mem_of_mem_drop (List.mem_of_mem_take m)
    rcases List.mem_append.mp m with m | m
    · obtain ⟨i, _, e⟩ := List.mem_map.mp m
      exact ⟨i, e.symm⟩
    · exact ⟨0, List.mem_singleton.mp m⟩
  have k3 := (k1.upd_new' (o := .lst (ns.map V.int ++ [.int 0])) np2).upd_new' (o := .lst (cutV (ns.map V.int ++ [.int 0]) none (some 8))) np3
  have h3 : (upd (upd (upd H p1 (.lst [.int 0])) p2 (.lst (ns.map V.int ++ [.int 0]))) p3 (.lst (cutV (ns.map V.int ++ [.int 0]) none (some 8)))) p3 = some (.lst (cutV (ns.map V.int ++ [.int 0]) none (some 8))) := upd_same
  generalize cutV (ns.map V.int ++ [.int 0]) none (some 8) = L at cm k3 h3 ⊢
  generalize upd (upd (upd H p1 (.lst [.int 0])) p2 (.lst (ns.map V.int ++ [.int 0]))) p3 (.lst L) = H3 at k3 h3 ⊢
  have tb3 := Tbl.kp0 tb k3
  refine ⟨⟨_, SqL.of h3⟩, ?_⟩
  refine for_it (walk_list (xs := L)) (fun i σ H' => ∃ u1 u2 u3 u4 u5 u6 u7 u8 u9, σ = [some (.ref a), u1, u2, u3, u4, u5, u6, u7, u8, u9] ∧ Tbl Pt H' ∧ H' p3 = some (.lst L)) ⟨_, _, _, _, _, _, _, _, _, rfl, tb3, h3⟩ (fun i σ H' _ ⟨_, _, _, _, _, _, _, _, _, _, _, k⟩ => SqL.of k) ?_ (fun σ H' h => ?_)
  · rintro i x σ Ha Hb hi ⟨u1, u2, u3, u4, u5, u6, u7, u8, u9, rfl, tba, hp⟩ ⟨eH, ex⟩
    subst eH
    obtain ⟨c, rfl⟩ := cm x (List.mem_of_getElem? ex)
    walk_at "go"
    rename_i S nS
    have kS := (Kp.refl (M := []) (H := _)).upd_new' (o := .lst [.int c, .int 0]) nS
    have wS : Wl (upd Hb S (.lst [.int c, .int 0])) S := ⟨_, _, upd_same⟩
    have tb4 := Tbl.kp0 tba kS
    have hp4 := kS.at_ List.not_mem_nil hp
    have pS : p3 ∉ [S] := nm_cons (ne_of_none hp nS) List.not_mem_nil
    generalize upd Hb S (.lst [.int c, .int 0]) = H4 at kS wS tb4 hp4 ⊢
    have sc4 : SW H4 S H4 := ⟨Kp.refl, wS⟩
    show sp_law_sort K 3 [.ref S, .int 2] H4 _ _
    refine srt_go (n := 2) (d := 2) sc4 rfl (by omega) fun H5 sx s sc5 k5 hs ok => ?_
    walk_at "go"
    show sp_law_near K 4 [.ref S, sx, .int 2] H5 _ _
    refine near_go (n := 3) (d := 2) sc5 hs ok rfl (by omega) (by omega) fun H6 sy s' sc6 k6 hs' ok' => ?_
    have hs6 := hs.wl sc5.2 k6
    have tb6 := tb4.wl wS sc6.1
    have hp6 := sc6.1.at_ pS hp4
    walk_at "go"
    rename_i D nD z dx nz nd ne
    have jm := (Kp.refl (M := []) (H := H6)).upd_new' (o := .dK []) nD
    have jm2 := ((Kp.refl (M := []) (H := upd H6 D (.dK []))).upd_new' (o := .own z) nd)
    clear jm jm2
    show sp_Schema___init__ K Pt [.ref z, .ref D, .non, sx] _ _ _
    refine mk_in nD nz nd ne hs6 (ok.mono (by omega) (Nat.le_refl _)) tb6 fun H7 tb7 b1 s7 l7 _ => ?_
    have w7 : Wl H7 S := let ⟨d, x, h⟩ := sc6.2; ⟨d, x, l7 _ _ h⟩
    have hx7 := s7 _ _ hs6
    have hy7 := s7 _ _ hs'
    have hp7 := l7 _ _ hp6
    clear s7 l7
    walk_at "go"
    rename_i D' nD' z' dx' nz' nd' ne'
    show sp_Schema___init__ K Pt [.ref z', .ref D', .non, sy] _ _ _
    refine mk_in nD' nz' nd' ne' hy7 ok' tb7 fun H8 tb8 b2 s8 l8 c8 => ?_
    have w8 : Wl H8 S := let ⟨d, x, h⟩ := w7; ⟨d, x, l8 _ _ h⟩
    have hx8 := s8 _ _ hx7
    have hy8 := s8 _ _ hy7
    have hp8 := l8 _ _ hp7
    have b18 := c8 _ _ b1
    clear s8 l8 c8
    walk_at "go"
    refine for_it walk_range (fun i σ H' => ∃ u7 u8 u9, σ = [some (.ref a), some (.int c), some (.ref S), some sx, some sy, some (.ref z), some (.ref z'), u7, u8, u9] ∧ Kp [S] H8 H' ∧ Wl H' S) ⟨_, _, _, rfl, Kp.refl, w8⟩ (fun _ _ _ _ _ => trivial) ?_ (fun σ H' h => ?_)
    · rintro k x σ Hc Hd hk ⟨v7, v8, v9, rfl, kc, wc⟩ ⟨eH, ex⟩
      subst eH
      subst ex
      refine law_in wc (hx8.wl w8 kc) ok (hy8.wl w8 kc) ok' (b18.wl w8 kc) (b2.wl w8 kc) ?_
      exact fun G' x8 x9 kG wG => ⟨_, _, _, rfl, kc.trans kG, wG⟩
    · obtain ⟨v7, v8, v9, rfl, kc, wc⟩ := h
      exact ⟨_, _, _, _, _, _, _, _, _, rfl, tb8.wl w8 kc, kc.at_ pS hp8⟩
  · exact q _
theorem tab0 {H : Hp} {P : Addr} {q : Str} (h : H P = some (.tbl #[])) : TabS H P q := ⟨#[], h, trivial, fun pos cv e => by cases e⟩
theorem law_end (K : PySem.W.Frag) (Pt : Tb) (H : Hp) (a : Addr) (ns : List Int) (hl : ns.length ≤ 63) (ha : H Pt.a = some (.tbl #[])) (hb : H Pt.b = some (.tbl #[])) (ab : Pt.a ≠ Pt.b) (hS : SqL K H a (ns.map V.int)) : sp_law K Pt [.ref a] H (fun v _ => v = .bl true) fun _ _ _ => False :=
  ⟨a, ns, rfl, hS, hl, ⟨tab0 ha, tab0 hb, ab⟩, fun _ => rfl⟩
end K02

namespace K02
open PySem PySem.Spec PyProof.Rows L2 Kb
def topS (i : Nat) : Stmt := PySem.Challenge.pw_thingwires_k21_plain_things_turned.main.body.getD i (.Pass ⟨0, 0, 0, 0⟩)
abbrev s_NoTurn___init__ : Stmt := inClass (topS 6) 0
abbrev s_is_whole : Stmt := topS 15
abbrev s_is_within : Stmt := topS 16
abbrev s_is_row : Stmt := topS 17
abbrev s_left_of : Stmt := topS 20
abbrev s_Turning___init__ : Stmt := inClass (topS 29) 0
abbrev s_Turning_beneath_maybe : Stmt := inClass (topS 29) 3
abbrev s_Turning_beneath : Stmt := inClass (topS 29) 2
abbrev s_Turning_go_through : Stmt := inClass (topS 29) 1
abbrev s_Turning_turn : Stmt := inClass (topS 29) 7
abbrev s_turned : Stmt := topS 30
abbrev s_is_name : Stmt := topS 38
abbrev s_is_bounds : Stmt := topS 39
abbrev s_is_known : Stmt := topS 40
abbrev s_is_sort : Stmt := topS 41
abbrev s_is_default : Stmt := topS 42
abbrev s_refuse_if : Stmt := topS 43
abbrev s_look_at_heading : Stmt := topS 44
abbrev s_look_at_part : Stmt := topS 45
abbrev s_Schema_take_kind : Stmt := inClass (topS 46) 1
abbrev s_Schema_take_choice : Stmt := inClass (topS 46) 2
abbrev s_Schema_comes_back : Stmt := inClass (topS 46) 3
abbrev s_Schema___init__ : Stmt := inClass (topS 46) 0
abbrev s_law_draw : Stmt := topS 48
abbrev s_law_bound : Stmt := topS 49
abbrev s_law_leaf : Stmt := topS 50
abbrev s_law_sort : Stmt := topS 51
abbrev s_law_near : Stmt := topS 52
abbrev s_law_thing : Stmt := topS 53
abbrev s_law_within : Stmt := topS 54
abbrev s_law_due : Stmt := topS 55
abbrev s_law_same : Stmt := topS 56
abbrev s_law_found : Stmt := topS 57
abbrev s_law : Stmt := topS 58
structure Txt (K : PySem.W.Frag) (mg : Str → Option Value) (C : Addr) : Prop where
  m_ValueError : mg "ValueError" = none
  m_abs : mg "abs" = none
  m_all : mg "all" = none
  m_bool : mg "bool" = none
  m_enumerate : mg "enumerate" = none
  m_int : mg "int" = none
  m_isinstance : mg "isinstance" = none
  m_len : mg "len" = none
  m_list : mg "list" = none
  m_max : mg "max" = none
  m_min : mg "min" = none
  m_range : mg "range" = none
  m_sorted : mg "sorted" = none
  m_str : mg "str" = none
  m_tuple : mg "tuple" = none
  m_zip : mg "zip" = none
  c_GREATEST : ∃ t, mg "GREATEST" = some (.int 999999999999999999999999999999999999999999999999999999999999 t)
  c_LETTERS : ∃ t, mg "LETTERS" = some (.str (PySem.Str.ofString "abcdefghijklmnopqrstuvwxyz") t)
  c_MOST_SIGNS : ∃ t, mg "MOST_SIGNS" = some (.int 8 t)
  c_MOST_NUMBER : ∃ t, mg "MOST_NUMBER" = some (.int 99 t)
  c_MOST_TEXT : ∃ t, mg "MOST_TEXT" = some (.int 40 t)
  c_MOST_ROW : ∃ t, mg "MOST_ROW" = some (.int 20 t)
  c_MOST_DEEP : ∃ t, mg "MOST_DEEP" = some (.int 3 t)
  g_WireError : mg "WireError" = some (.ref (cAt K "WireError"))
  g_NoTurn : mg "NoTurn" = some (.ref (cAt K "NoTurn"))
  x_NoTurn : XCls K (cAt K "NoTurn")
  xn_NoTurn_path : PySem.W.findIn K (.ref (cAt K "NoTurn")) "path" = some none
  xn_NoTurn_why : PySem.W.findIn K (.ref (cAt K "NoTurn")) "why" = some none
  g_NoBytes : mg "NoBytes" = some (.ref (cAt K "NoBytes"))
  g_NoEdition : mg "NoEdition" = some (.ref (cAt K "NoEdition"))
  g_NoLine : mg "NoLine" = some (.ref (cAt K "NoLine"))
  g_NoMeeting : mg "NoMeeting" = some (.ref (cAt K "NoMeeting"))
  g_NoQuestion : mg "NoQuestion" = some (.ref (cAt K "NoQuestion"))
  g_NoSchema : mg "NoSchema" = some (.ref (cAt K "NoSchema"))
  g_NoText : mg "NoText" = some (.ref (cAt K "NoText"))
  g_NoThing : mg "NoThing" = some (.ref (cAt K "NoThing"))
  g_NoWire : mg "NoWire" = some (.ref (cAt K "NoWire"))
  kit_NoTurn_NoBytes : PySem.W.kitOne K (.ref (cAt K "NoTurn")) (.ref (cAt K "NoBytes")) = some false
  kit_NoTurn_NoEdition : PySem.W.kitOne K (.ref (cAt K "NoTurn")) (.ref (cAt K "NoEdition")) = some false
  kit_NoTurn_NoLine : PySem.W.kitOne K (.ref (cAt K "NoTurn")) (.ref (cAt K "NoLine")) = some false
  kit_NoTurn_NoMeeting : PySem.W.kitOne K (.ref (cAt K "NoTurn")) (.ref (cAt K "NoMeeting")) = some false
  kit_NoTurn_NoQuestion : PySem.W.kitOne K (.ref (cAt K "NoTurn")) (.ref (cAt K "NoQuestion")) = some false
  kit_NoTurn_NoSchema : PySem.W.kitOne K (.ref (cAt K "NoTurn")) (.ref (cAt K "NoSchema")) = some false
  kit_NoTurn_NoText : PySem.W.kitOne K (.ref (cAt K "NoTurn")) (.ref (cAt K "NoText")) = some false
  kit_NoTurn_NoThing : PySem.W.kitOne K (.ref (cAt K "NoTurn")) (.ref (cAt K "NoThing")) = some false
  kit_NoTurn_NoWire : PySem.W.kitOne K (.ref (cAt K "NoTurn")) (.ref (cAt K "NoWire")) = some false
  kit_NoTurn_NoTurn : PySem.W.kitOne K (.ref (cAt K "NoTurn")) (.ref (cAt K "NoTurn")) = some true
  kit_NoTurn_ValueError : PySem.W.kitOne K (.ref (cAt K "NoTurn")) (.type "ValueError") = some true
  exm_NoTurn_WireError : PySem.W.exmOne K (.ref (cAt K "NoTurn")) (.ref (cAt K "WireError")) = some true
  xk : XK2 K
  g_INSIDE : mg "INSIDE" = some (.ref (cAt K "INSIDE"))
  own : Own K C
  g_Turning : mg "Turning" = some (.ref (cAt K "Turning"))
  mk_Turning : PySem.W.makesIn K (cAt K "Turning") = true
  kc_Turning : PySem.W.keepIn K (.ref (cAt K "Turning")) = true
  g_Schema : mg "Schema" = some (.ref (cAt K "Schema"))
  mk_Schema : PySem.W.makesIn K (cAt K "Schema") = true
  kc_Schema : PySem.W.keepIn K (.ref (cAt K "Schema")) = true
  d_NoTurn___init__ : DefI K (cAt K "NoTurn") s_NoTurn___init__ "NoTurn.__init__"
  d_is_whole : Def K mg s_is_whole "is_whole"
  d_is_within : Def K mg s_is_within "is_within"
  d_is_row : Def K mg s_is_row "is_row"
  d_left_of : Def K mg s_left_of "left_of"
  d_Turning___init__ : DefD K (cAt K "Turning") s_Turning___init__ "Turning.__init__" []
  d_Turning_beneath_maybe : DefM K (cAt K "Turning") s_Turning_beneath_maybe "beneath_maybe" "Turning.beneath_maybe"
  d_Turning_beneath : DefM K (cAt K "Turning") s_Turning_beneath "beneath" "Turning.beneath"
  d_Turning_go_through : DefM K (cAt K "Turning") s_Turning_go_through "go_through" "Turning.go_through"
  d_Turning_turn : DefM K (cAt K "Turning") s_Turning_turn "turn" "Turning.turn"
  d_turned : Def K mg s_turned "turned"
  d_is_name : Def K mg s_is_name "is_name"
  d_is_bounds : Def K mg s_is_bounds "is_bounds"
  d_is_known : Def K mg s_is_known "is_known"
  d_is_sort : DefF K mg s_is_sort "is_sort" [.int 0]
  d_is_default : Def K mg s_is_default "is_default"
  d_refuse_if : Def K mg s_refuse_if "refuse_if"
  d_look_at_heading : Def K mg s_look_at_heading "look_at_heading"
  d_look_at_part : Def K mg s_look_at_part "look_at_part"
  d_Schema_comes_back : DefM K (cAt K "Schema") s_Schema_comes_back "comes_back" "Schema.comes_back"
  d_Schema___init__ : DefK K (cAt K "Schema") s_Schema___init__ "Schema.__init__" [("choices", .non)]
  d_law_draw : Def K mg s_law_draw "_law_draw"
  d_law_bound : Def K mg s_law_bound "_law_bound"
  d_law_leaf : Def K mg s_law_leaf "_law_leaf"
  d_law_sort : Def K mg s_law_sort "_law_sort"
  d_law_near : Def K mg s_law_near "_law_near"
  d_law_thing : Def K mg s_law_thing "_law_thing"
  d_law_within : Def K mg s_law_within "_law_within"
  d_law_due : Def K mg s_law_due "_law_due"
  d_law_same : Def K mg s_law_same "_law_same"
  d_law_found : Def K mg s_law_found "_law_found"
  d_law : Def K mg s_law "law"
structure Tbs (K : PySem.W.Frag) (mg : Str → Option Value) (base : Heap) (Pt : Tb) : Prop where
  e_Schema_take_kind : ∃ c, DefMC K (cAt K "Schema") s_Schema_take_kind "take_kind" "Schema.take_kind" c ∧ LamX.TabB base mg c Pt.a
  e_Schema_take_choice : ∃ c, DefMC K (cAt K "Schema") s_Schema_take_choice "take_choice" "Schema.take_choice" c ∧ LamX.TabB base mg c Pt.b
theorem sc_NoTurn___init__ : FnScope ["self", "path", "why"] ["self", "path", "why"] (defScope s_NoTurn___init__) := ⟨rfl, rfl, rfl, by decide +kernel, rfl, by decide +kernel, by decide +kernel⟩
theorem ok_NoTurn___init__ {P : Program} {w : World} {K : PySem.W.Frag} {mg : Str → Option Value} {base : Heap} {C : Addr} (T : Txt K mg C) : CalI P w K mg base 1 (cAt K "NoTurn") ["self", "path", "why"] (sp_NoTurn___init__ K) := by
  refine CalI.of (st := s_NoTurn___init__) T.d_NoTurn___init__ sc_NoTurn___init__ (fun _ _ _ _ _ _ us hl => match us, hl with | [_, _, _], _ => rfl) (len_NoTurn___init__ K) fun f cdv A outer s H vs Q E hr h => ⟨t_NoTurn___init__ K, ?_, p_NoTurn___init__ K T.x_NoTurn T.xn_NoTurn_path T.xn_NoTurn_why vs H Q E h⟩
  exact (pss_one (ps_asg (pe_tup (pa_cons (pv 1) (pa_cons (pv 2) pa_nil))) (pg_tup (by rfl) (pgs_cons (pg_ost (pv 0)) (pgs_cons (pg_ost (pv 0)) pgs_nil)))))

theorem sc_is_whole : FnScope ["thing"] ["thing"] (defScope s_is_whole) := ⟨rfl, rfl, rfl, by decide +kernel, rfl, by decide +kernel, by decide +kernel⟩
theorem ok_is_whole {P : Program} {w : World} {K : PySem.W.Frag} {mg : Str → Option Value} {base : Heap} {C : Addr} (T : Txt K mg C) : Cal P w K mg base CX0 1 "is_whole" ["thing"] (sp_is_whole K) := by
  refine Cal.of (st := s_is_whole) T.d_is_whole sc_is_whole (fun _ _ _ _ _ _ us hl => match us, hl with | [_], _ => rfl) (len_is_whole K) fun f cdv A outer s H vs Q E hr h => ⟨t_is_whole K, ?_, p_is_whole K vs H Q E h⟩
  exact (pss_one (ps_ret (pe_and (pe_callB u_isi (by rfl) T.m_isinstance (by decide +kernel) (pa_cons (pv 0) (pa_cons (pe_bltn (v := .ty "int") (by rfl) T.m_int (by decide +kernel) rfl) pa_nil))) (pe_one (pe_not (pe_callB u_isi (by rfl) T.m_isinstance (by decide +kernel) (pa_cons (pv 0) (pa_cons (pe_bltn (v := .ty "bool") (by rfl) T.m_bool (by decide +kernel) rfl) pa_nil))))))))

theorem sc_is_within : FnScope ["thing", "low", "high"] ["thing", "low", "high"] (defScope s_is_within) := ⟨rfl, rfl, rfl, by decide +kernel, rfl, by decide +kernel, by decide +kernel⟩
theorem ok_is_within {P : Program} {w : World} {K : PySem.W.Frag} {mg : Str → Option Value} {base : Heap} {C : Addr} (T : Txt K mg C) : Cal P w K mg base CX0 2 "is_within" ["thing", "low", "high"] (sp_is_within K) := by
  refine Cal.of (st := s_is_within) T.d_is_within sc_is_within (fun _ _ _ _ _ _ us hl => match us, hl with | [_, _, _], _ => rfl) (len_is_within K) fun f cdv A outer s H vs Q E hr h => ⟨t_is_within K, ?_, p_is_within K vs H Q E h⟩
  exact (pss_cons (ps_if (PW.pt (pw_or (pt_not (pt_truth (pe_callC (ok_is_whole T) (hr.mono (by omega)) (by rfl) pass0 (pa_cons (pv 0) pa_nil)) (by intro _; rfl))) (pw_or1 (PW.pt (pw_and (pt_cmpR u_notN (pv 1) pe_non (nomark _)) (pw_and1 (pt_cmpR u_lt (pv 0) (pv 1) (nomark _))))))))
 (pss_one (ps_ret pe_bl))
 pss_nil)
 (pss_one (ps_ret (pe_or (pe_cmpR u_isN (pv 2) pe_non (nomark _)) (pe_one (pe_cmpR u_le (pv 0) (pv 2) (nomark _)))))))

theorem sc_is_row : FnScope ["thing"] ["thing"] (defScope s_is_row) := ⟨rfl, rfl, rfl, by decide +kernel, rfl, by decide +kernel, by decide +kernel⟩
theorem ok_is_row {P : Program} {w : World} {K : PySem.W.Frag} {mg : Str → Option Value} {base : Heap} {C : Addr} (T : Txt K mg C) : Cal P w K mg base CX0 1 "is_row" ["thing"] (sp_is_row K) := by
  refine Cal.of (st := s_is_row) T.d_is_row sc_is_row (fun _ _ _ _ _ _ us hl => match us, hl with | [_], _ => rfl) (len_is_row K) fun f cdv A outer s H vs Q E hr h => ⟨t_is_row K, ?_, p_is_row K vs H Q E h⟩
  exact (pss_one (ps_ret (pe_callB u_isi (by rfl) T.m_isinstance (by decide +kernel) (pa_cons (pv 0) (pa_cons (pe_tup (pa_cons (pe_bltn (v := .ty "list") (by rfl) T.m_list (by decide +kernel) rfl) (pa_cons (pe_bltn (v := .ty "tuple") (by rfl) T.m_tuple (by decide +kernel) rfl) pa_nil))) pa_nil)))))

theorem sc_left_of : FnScope ["field"] ["field"] (defScope s_left_of) := ⟨rfl, rfl, rfl, by decide +kernel, rfl, by decide +kernel, by decide +kernel⟩
theorem ok_left_of {P : Program} {w : World} {K : PySem.W.Frag} {mg : Str → Option Value} {base : Heap} {C : Addr} (T : Txt K mg C) : Cal P w K mg base CX0 1 "left_of" ["field"] (sp_left_of K) := by
  refine Cal.of (st := s_left_of) T.d_left_of sc_left_of (fun _ _ _ _ _ _ us hl => match us, hl with | [_], _ => rfl) (len_left_of K) fun f cdv A outer s H vs Q E hr h => ⟨t_left_of K, ?_, p_left_of K vs H Q E h⟩
  exact (pss_one (ps_ret (pe_slice sl_tupA (pv 0) (po_some pe_int) po_none)))

theorem sc_Turning___init__ : FnScope ["self", "old", "new", "kind"] ["self", "old", "new"] (defScope s_Turning___init__) := ⟨rfl, rfl, rfl, by decide +kernel, rfl, by decide +kernel, by decide +kernel⟩
theorem ok_Turning___init__ {P : Program} {w : World} {K : PySem.W.Frag} {mg : Str → Option Value} {base : Heap} {C : Addr} (T : Txt K mg C) : CalD P w K mg base CX0 1 (cAt K "Turning") s_Turning___init__ "Turning.__init__" [] ["self", "old", "new"] (sp_Turning___init__ K) := by
  refine CalD.of T.d_Turning___init__ sc_Turning___init__ (len_Turning___init__ K) fun f cdv A outer s H vs Q E hr h => ⟨t_Turning___init__ K C, ?_, p_Turning___init__ K C T.own vs H Q E h⟩
  exact (pss_cons (ps_fldU (pv 0) (pv 1) rfl)
 (pss_cons (ps_fldU (pv 0) (pv 2) rfl)
 (pss_one (ps_fldU (pv 0) (pe_lock (pe_dc (own := [("kind", 3)]) (g := (gName 3)) (tt := tYes) rfl sc_Turning___init__.nd (pi_keys (pe_fldU (pv 2) (by rfl))) (blkOk_by (N := ["self", "old", "new", "kind"]) (sc := (defScope s_Turning___init__)) (own := [("kind", 3)]) (by decide +kernel)) (fun _ _ _ _ _ => (pg_name (i := 3) sc_Turning___init__.nd rfl (by first | exact Or.inl rfl | exact Or.inr rfl))) (fun _ _ _ _ _ => pts_nil) (fun _ _ _ _ _ => (pv 3)) (fun _ _ _ _ _ => pe_dnewK))) rfl))))

theorem sc_Turning_beneath_maybe : FnScope ["self", "here", "old", "new", "thing", "inner"] ["self", "here", "old", "new", "thing"] (defScope s_Turning_beneath_maybe) := ⟨rfl, rfl, rfl, by decide +kernel, rfl, by decide +kernel, by decide +kernel⟩
theorem ok_Turning_beneath_maybe {P : Program} {w : World} {K : PySem.W.Frag} {mg : Str → Option Value} {base : Heap} {C : Addr} (T : Txt K mg C) : CalM P w K mg base (L2.CX P w) 3 (cAt K "Turning") "beneath_maybe" ["self", "here", "old", "new", "thing"] (sp_Turning_beneath_maybe K) := by
  refine CalM.ofX (st := s_Turning_beneath_maybe) T.d_Turning_beneath_maybe sc_Turning_beneath_maybe (fun _ _ _ _ _ _ us hl => match us, hl with | [_, _, _, _, _], _ => rfl) (len_Turning_beneath_maybe K) fun f cdv A outer s H vs Q E hr h => ⟨t_Turning_beneath_maybe K C E, ?_, p_Turning_beneath_maybe K C T.own vs H Q E h⟩
  exact (pss_cons (ps_set (i := 5) sc_Turning_beneath_maybe.nd rfl (by first | exact Or.inl rfl | exact Or.inr rfl) (pv 3))
 (pss_cons (ps_if (pt_cmpR (u_eq hr.units) (pe_ix u_ix (pv 3) pe_int (fun _ _ => rfl)) pe_str (nomark _))
 (pss_one (ps_set (i := 5) sc_Turning_beneath_maybe.nd rfl (by first | exact Or.inl rfl | exact Or.inr rfl) (pe_ix u_ix (pv 3) pe_int (fun _ _ => rfl))))
 pss_nil)
 (pss_cons (ps_if (pt_cmpR u_notN (pv 4) pe_non (nomark _))
 (pss_one (ps_ret (pe_lst (pa_cons (pe_tup (pa_cons (pe_op u_addA (pv 1) (pe_tup (pa_cons (pe_gref (by rfl) T.g_INSIDE) pa_nil))) (pa_cons (pe_ix u_ix (pv 2) pe_int (fun _ _ => rfl)) (pa_cons (pv 5) (pa_cons (pv 4) pa_nil))))) pa_nil))))
 pss_nil)
 (pss_cons (ps_if (pt_cmpR (u_ne hr.units) (pe_ix u_ix (pv 3) pe_int (fun _ _ => rfl)) pe_str (nomark _))
 (pss_one (ps_raiseI rfl T.x_NoTurn (ok_NoTurn___init__ T) (hr.mono (by omega)) (takes_of rfl rfl rfl rfl) (by rfl) T.g_NoTurn (pa_cons (pv 1) (pa_cons pe_str pa_nil))))
 pss_nil)
 (pss_one (ps_ret (pe_lst pa_nil)))))))

theorem sc_Turning_beneath : FnScope ["self", "here", "old", "new", "thing", "k", "one"] ["self", "here", "old", "new", "thing"] (defScope s_Turning_beneath) := ⟨rfl, rfl, rfl, by decide +kernel, rfl, by decide +kernel, by decide +kernel⟩
theorem ok_Turning_beneath {P : Program} {w : World} {K : PySem.W.Frag} {mg : Str → Option Value} {base : Heap} {C : Addr} (T : Txt K mg C) : CalM P w K mg base (L2.CX P w) 4 (cAt K "Turning") "beneath" ["self", "here", "old", "new", "thing"] (sp_Turning_beneath K) := by
  refine CalM.ofX (st := s_Turning_beneath) T.d_Turning_beneath sc_Turning_beneath (fun _ _ _ _ _ _ us hl => match us, hl with | [_, _, _, _, _], _ => rfl) (len_Turning_beneath K) fun f cdv A outer s H vs Q E hr h => ⟨t_Turning_beneath K C E, ?_, p_Turning_beneath K C T.own vs H Q E h⟩
  unfold t_Turning_beneath b_Turning_beneath_0 b_Turning_beneath_1
  exact (pss_cons (ps_if (pt_cmpR (u_eq hr.units) (pe_ix u_ix (pv 2) pe_int (fun _ _ => rfl)) pe_str (nomark _))
 (pss_one (ps_ret (pe_methMS (pv 0) T.own.Turning.cl (ok_Turning_beneath_maybe T) (hr.mono (by omega)) (fun σ => passAt (takes_of rfl rfl rfl rfl) σ) (pa_cons (pv 1) (pa_cons (pv 2) (pa_cons (pv 3) (pa_cons (pv 4) pa_nil)))))))
 pss_nil)
 (pss_cons (ps_if (pt_cmpR (u_eq hr.units) (pe_ix u_ix (pv 3) pe_int (fun _ _ => rfl)) pe_str (nomark _))
 (pss_one (ps_ret (pe_lst (pa_cons (pe_tup (pa_cons (pv 1) (pa_cons (pv 2) (pa_cons (pe_ix u_ix (pv 3) pe_int (fun _ _ => rfl)) (pa_cons (pv 4) pa_nil))))) pa_nil))))
 pss_nil)
 (pss_cons (ps_if (pt_cmpR (u_ne hr.units) (pe_ix u_ix (pv 2) pe_int (fun _ _ => rfl)) (pe_ix u_ix (pv 3) pe_int (fun _ _ => rfl)) (nomark _))
 (pss_one (ps_raiseI rfl T.x_NoTurn (ok_NoTurn___init__ T) (hr.mono (by omega)) (takes_of rfl rfl rfl rfl) (by rfl) T.g_NoTurn (pa_cons (pv 1) (pa_cons pe_str pa_nil))))
 pss_nil)
 (pss_cons (ps_if (PW.pt (pw_and (pt_cmpR (u_eq hr.units) (pe_ix u_ix (pv 2) pe_int (fun _ _ => rfl)) pe_str (nomark _)) (pw_and1 (pt_not (pt_truth (pe_callC (ok_is_within T) (hr.mono (by omega)) (by rfl) pass0 (pa_cons (pv 4) (pa_cons (pe_ix u_ix (pv 3) pe_int (fun _ _ => rfl)) (pa_cons (pe_ix u_ix (pv 3) pe_int (fun _ _ => rfl)) pa_nil)))) (by intro _; rfl))))))
 (pss_one (ps_raiseI rfl T.x_NoTurn (ok_NoTurn___init__ T) (hr.mono (by omega)) (takes_of rfl rfl rfl rfl) (by rfl) T.g_NoTurn (pa_cons (pv 1) (pa_cons pe_str pa_nil))))
 pss_nil)
 (pss_cons (ps_if (PW.pt (pw_and (pt_cmpR u_in (pe_ix u_ix (pv 2) pe_int (fun _ _ => rfl)) (pe_tup (pa_cons pe_str (pa_cons pe_str pa_nil))) (by rfl)) (pw_and1 (pt_cmpR u_gt (pe_callB u_len (by rfl) T.m_len PySem.boot_len (pa_cons (pv 4) pa_nil)) (pe_ix u_ix (pv 3) pe_int (fun _ _ => rfl)) (nomark _)))))
 (pss_one (ps_raiseI rfl T.x_NoTurn (ok_NoTurn___init__ T) (hr.mono (by omega)) (takes_of rfl rfl rfl rfl) (by rfl) T.g_NoTurn (pa_cons (pv 1) (pa_cons pe_str pa_nil))))
 pss_nil)
 (pss_cons (ps_if (pt_cmpR (u_eq hr.units) (pe_ix u_ix (pv 2) pe_int (fun _ _ => rfl)) pe_str (nomark _))
 (pss_one (ps_ret (pe_lc (own := [("k", 5), ("one", 6)]) (g := (gTup K 2 (gCons (gName 5) (gCons (gName 6) gNil)))) (tt := tYes) rfl sc_Turning_beneath.nd (pi_enumV (by rfl) T.m_enumerate (pv 4)) (blkOk_by (N := ["self", "here", "old", "new", "thing", "k", "one"]) (sc := (defScope s_Turning_beneath)) (own := [("k", 5), ("one", 6)]) (by decide +kernel)) (fun _ _ _ _ _ => (pg_tup (by rfl) (pgs_cons (pg_name (i := 5) sc_Turning_beneath.nd rfl (by first | exact Or.inl rfl | exact Or.inr rfl)) (pgs_cons (pg_name (i := 6) sc_Turning_beneath.nd rfl (by first | exact Or.inl rfl | exact Or.inr rfl)) pgs_nil)))) (fun _ _ _ _ _ => pts_nil) (fun _ _ _ _ _ => (pe_tup (pa_cons (pe_op u_addA (pv 1) (pe_tup (pa_cons (pv 5) pa_nil))) (pa_cons (pe_ix u_ix (pv 2) pe_int (fun _ _ => rfl)) (pa_cons (pe_ix u_ix (pv 3) pe_int (fun _ _ => rfl)) (pa_cons (pv 6) pa_nil)))))))))
 pss_nil)
 (pss_cons (ps_if (pt_cmpR (u_eq hr.units) (pe_ix u_ix (pv 2) pe_int (fun _ _ => rfl)) pe_str (nomark _))
 pss_never
 pss_nil)
 (pss_cons (ps_if (pt_cmpR (u_eq hr.units) (pe_ix u_ix (pv 2) pe_int (fun _ _ => rfl)) pe_str (nomark _))
 pss_never
 pss_nil)
 (pss_one (ps_ret (pe_lst pa_nil)))))))))))

theorem sc_Turning_go_through : FnScope ["self", "thing", "waiting", "here", "old", "new", "one"] ["self", "thing"] (defScope s_Turning_go_through) := ⟨rfl, rfl, rfl, by decide +kernel, rfl, by decide +kernel, by decide +kernel⟩
theorem ok_Turning_go_through {P : Program} {w : World} {K : PySem.W.Frag} {mg : Str → Option Value} {base : Heap} {C : Addr} (T : Txt K mg C) : CalM P w K mg base (L2.CX P w) 5 (cAt K "Turning") "go_through" ["self", "thing"] (sp_Turning_go_through K) := by
  refine CalM.ofX (st := s_Turning_go_through) T.d_Turning_go_through sc_Turning_go_through (fun _ _ _ _ _ _ us hl => match us, hl with | [_, _], _ => rfl) (len_Turning_go_through K) fun f cdv A outer s H vs Q E hr h => ⟨t_Turning_go_through K C E, ?_, p_Turning_go_through K C T.own vs H Q E h⟩
  exact (pss_cons (ps_set (i := 2) sc_Turning_go_through.nd rfl (by first | exact Or.inl rfl | exact Or.inr rfl) (pe_lst (pa_cons (pe_tup (pa_cons (pe_tup pa_nil) (pa_cons (pe_fldU (pe_fldU (pv 0) (by rfl)) (by rfl)) (pa_cons (pe_fldU (pe_fldU (pv 0) (by rfl)) (by rfl)) (pa_cons (pv 1) pa_nil))))) pa_nil)))
 (pss_one (ps_while (passes_of rfl) (pt_cmpR (u_neX hr.units) (pv 2) (pe_lst pa_nil) (nomark _))
 (pss_cons (ps_asg (pe_bm0 PySem.F.plainAttrs_list PySem.F.slot_list_pop PySem.F.type_list_pop u_pop (pv 2)) (pg_tup (by rfl) (pgs_cons (pg_name (i := 3) sc_Turning_go_through.nd rfl (by first | exact Or.inl rfl | exact Or.inr rfl)) (pgs_cons (pg_name (i := 4) sc_Turning_go_through.nd rfl (by first | exact Or.inl rfl | exact Or.inr rfl)) (pgs_cons (pg_name (i := 5) sc_Turning_go_through.nd rfl (by first | exact Or.inl rfl | exact Or.inr rfl)) (pgs_cons (pg_name (i := 6) sc_Turning_go_through.nd rfl (by first | exact Or.inl rfl | exact Or.inr rfl)) pgs_nil))))))
 (pss_one (ps_expr (pe_bm PySem.F.plainAttrs_list PySem.F.slot_list_extend PySem.F.type_list_extend u_extend (pv 2) (pa_cons (pe_revL (pe_methMS (pv 0) T.own.Turning.cl (ok_Turning_beneath T) (hr.mono (by omega)) (fun σ => passAt (takes_of rfl rfl rfl rfl) σ) (pa_cons (pv 3) (pa_cons (pv 4) (pa_cons (pv 5) (pa_cons (pv 6) pa_nil)))))) pa_nil))))))))

theorem sc_Turning_turn : FnScope ["self", "old", "new", "thing", "mine", "yours", "one"] ["self", "old", "new", "thing"] (defScope s_Turning_turn) := ⟨rfl, rfl, rfl, by decide +kernel, rfl, by decide +kernel, by decide +kernel⟩
theorem ok_Turning_turn {P : Program} {w : World} {K : PySem.W.Frag} {mg : Str → Option Value} {base : Heap} {C : Addr} (T : Txt K mg C) : ∀ n : Nat, CalF P w K mg base CX0 (1 + n) (cAt K "Turning") s_Turning_turn "turn" "Turning.turn" ["self", "old", "new", "thing"] (sp_Turning_turn K n)
  | 0 => CalF.of (k := 0) T.d_Turning_turn sc_Turning_turn (fun vs H Q E h => (no_Turning_turn K h).elim) fun f cdv A outer s H vs Q E hr h => (no_Turning_turn K h).elim
  | n + 1 => by
    have ih := ok_Turning_turn (P := P) (w := w) (base := base) T n
    refine CalF.of (k := 1 + n) T.d_Turning_turn sc_Turning_turn (len_Turning_turn K n) fun f cdv A outer s H vs Q E hr h => ⟨t_Turning_turn K C n, ?_, p_Turning_turn K C T.own n vs H Q E h⟩
    unfold t_Turning_turn b_Turning_turn_0
    exact (pss_cons (ps_if (pt_cmpR (u_eq hr.units) (pe_ix u_ix (pv 1) pe_int (fun _ _ => rfl)) pe_str (nomark _))
 (pss_cons (ps_if (pt_cmpR u_isN (pv 3) pe_non (nomark _))
 (pss_one (ps_ret pe_non))
 pss_nil)
 (pss_one (ps_set (i := 1) sc_Turning_turn.nd rfl (by first | exact Or.inl rfl | exact Or.inr rfl) (pe_ix u_ix (pv 1) pe_int (fun _ _ => rfl)))))
 pss_nil)
 (pss_cons (ps_if (pt_cmpR (u_eq hr.units) (pe_ix u_ix (pv 2) pe_int (fun _ _ => rfl)) pe_str (nomark _))
 (pss_one (ps_set (i := 2) sc_Turning_turn.nd rfl (by first | exact Or.inl rfl | exact Or.inr rfl) (pe_ix u_ix (pv 2) pe_int (fun _ _ => rfl))))
 pss_nil)
 (pss_cons (ps_if (pt_cmpR (u_eq hr.units) (pe_ix u_ix (pv 1) pe_int (fun _ _ => rfl)) pe_str (nomark _))
 (pss_one (ps_ret (pe_callTy u_tuple (by rfl) T.m_tuple (by decide +kernel) (pa_cons (pe_lc (own := [("one", 6)]) (g := (gName 6)) (tt := tYes) rfl sc_Turning_turn.nd (pi_tup (pv 3)) (blkOk_by (N := ["self", "old", "new", "thing", "mine", "yours", "one"]) (sc := (defScope s_Turning_turn)) (own := [("one", 6)]) (by decide +kernel)) (fun _ _ _ _ _ => (pg_name (i := 6) sc_Turning_turn.nd rfl (by first | exact Or.inl rfl | exact Or.inr rfl))) (fun _ _ _ _ _ => pts_nil) (fun _ _ _ _ _ => (pe_methM (pv 0) T.own.Turning.cl (CalF.calM ih (fun _ _ _ _ _ _ us hl => match us, hl with | [_, _, _, _], _ => rfl)) (hr.mono (by omega)) pass0 (pa_cons (pe_ix u_ix (pv 1) pe_int (fun _ _ => rfl)) (pa_cons (pe_ix u_ix (pv 2) pe_int (fun _ _ => rfl)) (pa_cons (pv 6) pa_nil)))))) pa_nil))))
 pss_nil)
 (pss_cons (ps_if (pt_cmpR (u_eq hr.units) (pe_ix u_ix (pv 1) pe_int (fun _ _ => rfl)) pe_str (nomark _))
 pss_never
 pss_nil)
 (pss_cons (ps_if (pt_cmpR (u_eq hr.units) (pe_ix u_ix (pv 1) pe_int (fun _ _ => rfl)) pe_str (nomark _))
 pss_never
 pss_nil)
 (pss_one (ps_ret (pv 3))))))))

theorem sc_turned : FnScope ["old", "new", "thing", "turning", "kind", "twins", "node", "twin"] ["old", "new", "thing"] (defScope s_turned) := ⟨rfl, rfl, rfl, by decide +kernel, rfl, by decide +kernel, by decide +kernel⟩
theorem ok_turned {P : Program} {w : World} {K : PySem.W.Frag} {mg : Str → Option Value} {base : Heap} {C : Addr} (T : Txt K mg C) : Cal P w K mg base (L2.CX P w) 6 "turned" ["old", "new", "thing"] (sp_turned K) := by
  refine Cal.ofX (st := s_turned) T.d_turned sc_turned (fun _ _ _ _ _ _ us hl => match us, hl with | [_, _, _], _ => rfl) (len_turned K) fun f cdv A outer s H vs Q E hr h => ⟨t_turned K C E, ?_, p_turned K C T.own vs H Q E h⟩
  exact (pss_cons (ps_set (i := 3) sc_turned.nd rfl (by first | exact Or.inl rfl | exact Or.inr rfl) (pe_makeP (n := 2) (ks := []) (fun us ws => us) T.mk_Turning T.kc_Turning (ok_Turning___init__ T) (fun r z => r) (fun _ _ _ _ _ _ us ws h1 h2 => match us, ws, h1, h2 with | [_, _, _], [], _, _ => rfl) (hr.mono (by omega)) (by rfl) T.g_Turning pass0 (pa_cons (pv 0) (pa_cons (pv 1) pa_nil)) pk_nil))
 (pss_cons (ps_expr (pe_methMS (pv 3) T.own.Turning.cl (ok_Turning_go_through T) (hr.mono (by omega)) (fun σ => passAt (takes_of rfl rfl rfl rfl) σ) (pa_cons (pv 2) pa_nil)))
 (pss_cons (ps_lock (ps_for (passes_of rfl) rfl (pi_items (pe_fldU (pv 3) (by rfl))) (pg_tup (by rfl) (pgs_cons (pg_name (i := 4) sc_turned.nd rfl (by first | exact Or.inl rfl | exact Or.inr rfl)) (pgs_cons (pg_name (i := 5) sc_turned.nd rfl (by first | exact Or.inl rfl | exact Or.inr rfl)) pgs_nil)))
 pss_never))
 (pss_one (ps_ret (pe_methM (pv 3) T.own.Turning.cl (CalF.calM (ok_Turning_turn T 4) (fun _ _ _ _ _ _ us hl => match us, hl with | [_, _, _, _], _ => rfl)) (hr.mono (by omega)) pass0 (pa_cons (pe_fldU (pv 0) (by rfl)) (pa_cons (pe_fldU (pv 1) (by rfl)) (pa_cons (pv 2) pa_nil)))))))))

theorem sc_is_name : FnScope ["thing", "sign"] ["thing"] (defScope s_is_name) := ⟨rfl, rfl, rfl, by decide +kernel, rfl, by decide +kernel, by decide +kernel⟩
theorem ok_is_name {P : Program} {w : World} {K : PySem.W.Frag} {mg : Str → Option Value} {base : Heap} {C : Addr} (T : Txt K mg C) : Cal P w K mg base CX0 1 "is_name" ["thing"] (sp_is_name K) := by
  refine Cal.of (st := s_is_name) T.d_is_name sc_is_name (fun _ _ _ _ _ _ us hl => match us, hl with | [_], _ => rfl) (len_is_name K) fun f cdv A outer s H vs Q E hr h => ⟨t_is_name K, ?_, p_is_name K vs H Q E h⟩
  exact (pss_cons (ps_if (PW.pt (pw_or (pt_not (pt_truth (pe_callB u_isi (by rfl) T.m_isinstance (by decide +kernel) (pa_cons (pv 0) (pa_cons (pe_bltn (v := .ty "str") (by rfl) T.m_str (by decide +kernel) rfl) pa_nil))) (by intro _; rfl))) (pw_or1 (pt_not (pt_chain u_le u_le pe_int (pe_callB u_len (by rfl) T.m_len PySem.boot_len (pa_cons (pv 0) pa_nil)) (pe_gint (by rfl) T.c_MOST_SIGNS))))))
 (pss_one (ps_ret pe_bl))
 pss_nil)
 (pss_one (ps_ret (pe_callB (u_all rfl) (by rfl) T.m_all (by decide +kernel) (pa_cons (pe_lc (own := [("sign", 1)]) (g := (gName 1)) (tt := tYes) rfl sc_is_name.nd (pi_str (pv 0)) (blkOk_by (N := ["thing", "sign"]) (sc := (defScope s_is_name)) (own := [("sign", 1)]) (by decide +kernel)) (fun _ _ _ _ _ => (pg_name (i := 1) sc_is_name.nd rfl (by first | exact Or.inl rfl | exact Or.inr rfl))) (fun _ _ _ _ _ => pts_nil) (fun _ _ _ _ _ => (pe_cmpR u_in (pv 1) (pe_gstr (by rfl) T.c_LETTERS) (by rfl)))) pa_nil)))))

theorem sc_is_bounds : FnScope ["low", "high", "one"] ["low", "high"] (defScope s_is_bounds) := ⟨rfl, rfl, rfl, by decide +kernel, rfl, by decide +kernel, by decide +kernel⟩
theorem ok_is_bounds {P : Program} {w : World} {K : PySem.W.Frag} {mg : Str → Option Value} {base : Heap} {C : Addr} (T : Txt K mg C) : Cal P w K mg base CX0 2 "is_bounds" ["low", "high"] (sp_is_bounds K) := by
  refine Cal.of (st := s_is_bounds) T.d_is_bounds sc_is_bounds (fun _ _ _ _ _ _ us hl => match us, hl with | [_, _], _ => rfl) (len_is_bounds K) fun f cdv A outer s H vs Q E hr h => ⟨t_is_bounds K, ?_, p_is_bounds K vs H Q E h⟩
  exact (pss_cons (ps_if (pt_not (pt_truth (pe_callB (u_all rfl) (by rfl) T.m_all (by decide +kernel) (pa_cons (pe_lc (own := [("one", 2)]) (g := (gName 2)) (tt := tYes) rfl sc_is_bounds.nd (pi_tup (pe_tup (pa_cons (pv 0) (pa_cons (pv 1) pa_nil)))) (blkOk_by (N := ["low", "high", "one"]) (sc := (defScope s_is_bounds)) (own := [("one", 2)]) (by decide +kernel)) (fun _ _ _ _ _ => (pg_name (i := 2) sc_is_bounds.nd rfl (by first | exact Or.inl rfl | exact Or.inr rfl))) (fun _ _ _ _ _ => pts_nil) (fun _ _ _ _ _ => (pe_or (pe_cmpR u_isN (pv 2) pe_non (nomark _)) (pe_one (pe_callC (ok_is_whole T) (hr.mono (by omega)) (by rfl) pass0 (pa_cons (pv 2) pa_nil)))))) pa_nil)) (by intro _; rfl)))
 (pss_one (ps_ret pe_bl))
 pss_nil)
 (pss_one (ps_ret (pe_or (pe_cmpR u_isN (pv 0) pe_non (nomark _)) (pe_or (pe_cmpR u_isN (pv 1) pe_non (nomark _)) (pe_one (pe_cmpR u_le (pv 0) (pv 1) (nomark _))))))))

theorem sc_is_known : FnScope ["names", "thing"] ["names", "thing"] (defScope s_is_known) := ⟨rfl, rfl, rfl, by decide +kernel, rfl, by decide +kernel, by decide +kernel⟩
theorem ok_is_known {P : Program} {w : World} {K : PySem.W.Frag} {mg : Str → Option Value} {base : Heap} {C : Addr} (T : Txt K mg C) : Cal P w K mg base CX0 1 "is_known" ["names", "thing"] (sp_is_known K) := by
  refine Cal.of (st := s_is_known) T.d_is_known sc_is_known (fun _ _ _ _ _ _ us hl => match us, hl with | [_, _], _ => rfl) (len_is_known K) fun f cdv A outer s H vs Q E hr h => ⟨t_is_known K, ?_, p_is_known K vs H Q E h⟩
  exact (pss_one (ps_ret (pe_and (pe_callB u_isi (by rfl) T.m_isinstance (by decide +kernel) (pa_cons (pv 1) (pa_cons (pe_bltn (v := .ty "str") (by rfl) T.m_str (by decide +kernel) rfl) pa_nil))) (pe_one (pe_cmp (pc_din (hu_of hr) (pv 1) (pv 0)))))))

theorem sc_is_sort : FnScope ["kinds", "choices", "thing", "deep", "word", "rest"] ["kinds", "choices", "thing", "deep"] (defScope s_is_sort) := ⟨rfl, rfl, rfl, by decide +kernel, rfl, by decide +kernel, by decide +kernel⟩
theorem ok_is_sort {P : Program} {w : World} {K : PySem.W.Frag} {mg : Str → Option Value} {base : Heap} {C : Addr} (T : Txt K mg C) : ∀ n : Nat, CalDf P w K mg base CX0 (3 + n) s_is_sort "is_sort" [.int 0] ["kinds", "choices", "thing", "deep"] (sp_is_sort K n)
  | 0 => CalDf.of (k := 2) T.d_is_sort sc_is_sort (fun vs H Q E h => (no_is_sort K h).elim) fun f cdv A outer s H vs Q E hr h => (no_is_sort K h).elim
  | n + 1 => by
    have ih := ok_is_sort (P := P) (w := w) (base := base) T n
    refine CalDf.of (k := 3 + n) T.d_is_sort sc_is_sort (len_is_sort K n) fun f cdv A outer s H vs Q E hr h => ⟨t_is_sort K n, ?_, p_is_sort K n vs H Q E h⟩
    unfold t_is_sort b_is_sort_0
    exact (pss_cons (ps_if (PW.pt (pw_or (pt_cmpR u_gt (pv 3) (pe_gint (by rfl) T.c_MOST_DEEP) (nomark _)) (pw_or (pt_not (pt_truth (pe_callB u_isi (by rfl) T.m_isinstance (by decide +kernel) (pa_cons (pv 2) (pa_cons (pe_bltn (v := .ty "tuple") (by rfl) T.m_tuple (by decide +kernel) rfl) pa_nil))) (by intro _; rfl))) (pw_or (pt_cmpR (u_eqX hr.units) (pv 2) (pe_tup pa_nil) (nomark _)) (pw_or1 (pt_not (pt_truth (pe_callB u_isi (by rfl) T.m_isinstance (by decide +kernel) (pa_cons (pe_ix u_ix (pv 2) pe_int (fun _ _ => rfl)) (pa_cons (pe_bltn (v := .ty "str") (by rfl) T.m_str (by decide +kernel) rfl) pa_nil))) (by intro _; rfl))))))))
 (pss_one (ps_ret pe_bl))
 pss_nil)
 (pss_cons (ps_asg (pv 2) (pg_star (by rfl) (pgs_cons (pg_name (i := 4) sc_is_sort.nd rfl (by first | exact Or.inl rfl | exact Or.inr rfl)) (pgs_star (pg_name (i := 5) sc_is_sort.nd rfl (by first | exact Or.inl rfl | exact Or.inr rfl))))))
 (pss_cons (ps_if (pt_cmpR (u_eq hr.units) (pv 4) pe_str (nomark _))
 (pss_one (ps_ret (pe_cmpR (u_eqX hr.units) (pv 5) (pe_lst pa_nil) (nomark _))))
 pss_nil)
 (pss_cons (ps_if (pt_cmpR (u_eq hr.units) (pv 4) pe_str (nomark _))
 (pss_one (ps_ret (pe_and (pe_cmpR (u_eq hr.units) (pe_callB u_len (by rfl) T.m_len PySem.boot_len (pa_cons (pv 5) pa_nil)) pe_int (nomark _)) (pe_one (pe_callC (ok_is_bounds T) (hr.mono (by omega)) (by rfl) pass0 (pa_cons (pe_ix u_ix (pv 5) pe_int (fun _ _ => rfl)) (pa_cons (pe_ix u_ix (pv 5) pe_int (fun _ _ => rfl)) pa_nil)))))))
 pss_nil)
 (pss_cons (ps_if (pt_cmpR (u_eq hr.units) (pv 4) pe_str (nomark _))
 (pss_one (ps_ret (pe_and (pe_cmpR (u_eq hr.units) (pe_callB u_len (by rfl) T.m_len PySem.boot_len (pa_cons (pv 5) pa_nil)) pe_int (nomark _)) (pe_one (pe_callC (ok_is_within T) (hr.mono (by omega)) (by rfl) pass0 (pa_cons (pe_ix u_ix (pv 5) pe_int (fun _ _ => rfl)) (pa_cons pe_int (pa_cons (pe_gint (by rfl) T.c_MOST_TEXT) pa_nil))))))))
 pss_nil)
 (pss_cons (ps_if (pt_cmpR (u_eq hr.units) (pv 4) pe_str (nomark _))
 (pss_one (ps_ret (pe_and (pe_cmpR (u_eq hr.units) (pe_callB u_len (by rfl) T.m_len PySem.boot_len (pa_cons (pv 5) pa_nil)) pe_int (nomark _)) (pe_and (pe_callC (ok_is_within T) (hr.mono (by omega)) (by rfl) pass0 (pa_cons (pe_ix u_ix (pv 5) pe_int (fun _ _ => rfl)) (pa_cons pe_int (pa_cons (pe_gint (by rfl) T.c_MOST_ROW) pa_nil)))) (pe_one (pe_callDf 4 1 ih (by simp) rfl (fun _ _ _ _ _ _ _ us its h1 h2 => match us, its, h1, h2 with | [_, _, _, _], [_], _, _ => ⟨_, rfl, rfl⟩) (hr.mono (by omega)) (by rfl) pass0 (pa_cons (pv 0) (pa_cons (pv 1) (pa_cons (pe_ix u_ix (pv 5) pe_int (fun _ _ => rfl)) (pa_cons (pe_op u_add (pv 3) pe_int) pa_nil))))))))))
 pss_nil)
 (pss_cons (ps_if (pt_cmpR (u_ne hr.units) (pe_callB u_len (by rfl) T.m_len PySem.boot_len (pa_cons (pv 5) pa_nil)) pe_int (nomark _))
 (pss_one (ps_ret pe_bl))
 pss_nil)
 (pss_cons (ps_if (pt_cmpR (u_eq hr.units) (pv 4) pe_str (nomark _))
 (pss_one (ps_ret (pe_and (pe_callDf 4 1 ih (by simp) rfl (fun _ _ _ _ _ _ _ us its h1 h2 => match us, its, h1, h2 with | [_, _, _, _], [_], _, _ => ⟨_, rfl, rfl⟩) (hr.mono (by omega)) (by rfl) pass0 (pa_cons (pv 0) (pa_cons (pv 1) (pa_cons (pe_ix u_ix (pv 5) pe_int (fun _ _ => rfl)) (pa_cons (pe_op u_add (pv 3) pe_int) pa_nil))))) (pe_one (pe_cmpR (u_ne hr.units) (pe_ix u_ix (pe_ix u_ix (pv 5) pe_int (fun _ _ => rfl)) pe_int (fun _ _ => rfl)) pe_str (nomark _))))))
 pss_nil)
 (pss_one (ps_ret (pe_or (pe_and (pe_cmpR (u_eq hr.units) (pv 4) pe_str (nomark _)) (pe_one (pe_callC (ok_is_known T) (hr.mono (by omega)) (by rfl) pass0 (pa_cons (pv 0) (pa_cons (pe_ix u_ix (pv 5) pe_int (fun _ _ => rfl)) pa_nil))))) (pe_one (pe_and (pe_cmpR (u_eq hr.units) (pv 4) pe_str (nomark _)) (pe_one (pe_callC (ok_is_known T) (hr.mono (by omega)) (by rfl) pass0 (pa_cons (pv 1) (pa_cons (pe_ix u_ix (pv 5) pe_int (fun _ _ => rfl)) pa_nil)))))))))))))))))

theorem sc_is_default : FnScope ["of", "thing"] ["of", "thing"] (defScope s_is_default) := ⟨rfl, rfl, rfl, by decide +kernel, rfl, by decide +kernel, by decide +kernel⟩
theorem ok_is_default {P : Program} {w : World} {K : PySem.W.Frag} {mg : Str → Option Value} {base : Heap} {C : Addr} (T : Txt K mg C) : Cal P w K mg base CX0 3 "is_default" ["of", "thing"] (sp_is_default K) := by
  refine Cal.of (st := s_is_default) T.d_is_default sc_is_default (fun _ _ _ _ _ _ us hl => match us, hl with | [_, _], _ => rfl) (len_is_default K) fun f cdv A outer s H vs Q E hr h => ⟨t_is_default K, ?_, p_is_default K vs H Q E h⟩
  exact (pss_cons (ps_if (pt_cmpR (u_eq hr.units) (pe_ix u_ix (pv 0) pe_int (fun _ _ => rfl)) pe_str (nomark _))
 (pss_one (ps_ret (pe_and (pe_callC (ok_is_within T) (hr.mono (by omega)) (by rfl) pass0 (pa_cons (pv 1) (pa_cons (pe_ix u_ix (pv 0) pe_int (fun _ _ => rfl)) (pa_cons (pe_ix u_ix (pv 0) pe_int (fun _ _ => rfl)) pa_nil)))) (pe_one (pe_cmpR u_le (pe_callB u_abs (by rfl) T.m_abs (by decide +kernel) (pa_cons (pv 1) pa_nil)) (pe_gint (by rfl) T.c_GREATEST) (nomark _))))))
 pss_nil)
 (pss_cons (ps_if (pt_cmpR (u_eq hr.units) (pe_ix u_ix (pv 0) pe_int (fun _ _ => rfl)) pe_str (nomark _))
 (pss_one (ps_ret (pe_callB u_isi (by rfl) T.m_isinstance (by decide +kernel) (pa_cons (pv 1) (pa_cons (pe_bltn (v := .ty "bool") (by rfl) T.m_bool (by decide +kernel) rfl) pa_nil)))))
 pss_nil)
 (pss_cons (ps_if (pt_cmpR (u_eq hr.units) (pe_ix u_ix (pv 0) pe_int (fun _ _ => rfl)) pe_str (nomark _))
 (pss_one (ps_ret (pe_and (pe_callB u_isi (by rfl) T.m_isinstance (by decide +kernel) (pa_cons (pv 1) (pa_cons (pe_bltn (v := .ty "str") (by rfl) T.m_str (by decide +kernel) rfl) pa_nil))) (pe_one (pe_cmpR u_le (pe_callB u_len (by rfl) T.m_len PySem.boot_len (pa_cons (pv 1) pa_nil)) (pe_ix u_ix (pv 0) pe_int (fun _ _ => rfl)) (nomark _))))))
 pss_nil)
 (pss_cons (ps_if (pt_cmpR (u_eq hr.units) (pe_ix u_ix (pv 0) pe_int (fun _ _ => rfl)) pe_str (nomark _))
 (pss_one (ps_ret (pe_and (pe_callB u_isi (by rfl) T.m_isinstance (by decide +kernel) (pa_cons (pv 1) (pa_cons (pe_bltn (v := .ty "tuple") (by rfl) T.m_tuple (by decide +kernel) rfl) pa_nil))) (pe_one (pe_cmpR (u_eqX hr.units) (pv 1) (pe_tup pa_nil) (nomark _))))))
 pss_nil)
 (pss_one (ps_ret (pe_and (pe_cmpR (u_eq hr.units) (pe_ix u_ix (pv 0) pe_int (fun _ _ => rfl)) pe_str (nomark _)) (pe_one (pe_cmpR u_isN (pv 1) pe_non (nomark _))))))))))

theorem sc_refuse_if : FnScope ["truth", "path", "why"] ["truth", "path", "why"] (defScope s_refuse_if) := ⟨rfl, rfl, rfl, by decide +kernel, rfl, by decide +kernel, by decide +kernel⟩
theorem ok_refuse_if {P : Program} {w : World} {K : PySem.W.Frag} {mg : Str → Option Value} {base : Heap} {C : Addr} (T : Txt K mg C) : Cal P w K mg base CX0 1 "refuse_if" ["truth", "path", "why"] (sp_refuse_if K) := by
  refine Cal.of (st := s_refuse_if) T.d_refuse_if sc_refuse_if (fun _ _ _ _ _ _ us hl => match us, hl with | [_, _, _], _ => rfl) (len_refuse_if K) fun f cdv A outer s H vs Q E hr h => ⟨t_refuse_if K, ?_, p_refuse_if K vs H Q E h⟩
  exact (pss_one (ps_if (pt_truth (pv 0) (by intro _; rfl))
 (pss_one ps_never)
 pss_nil))

theorem sc_look_at_heading : FnScope ["word", "name", "row"] ["word", "name", "row"] (defScope s_look_at_heading) := ⟨rfl, rfl, rfl, by decide +kernel, rfl, by decide +kernel, by decide +kernel⟩
theorem ok_look_at_heading {P : Program} {w : World} {K : PySem.W.Frag} {mg : Str → Option Value} {base : Heap} {C : Addr} (T : Txt K mg C) : Cal P w K mg base CX0 2 "look_at_heading" ["word", "name", "row"] (sp_look_at_heading K) := by
  refine Cal.of (st := s_look_at_heading) T.d_look_at_heading sc_look_at_heading (fun _ _ _ _ _ _ us hl => match us, hl with | [_, _, _], _ => rfl) (len_look_at_heading K) fun f cdv A outer s H vs Q E hr h => ⟨t_look_at_heading K, ?_, p_look_at_heading K vs H Q E h⟩
  exact (pss_cons (ps_expr (pe_callC (ok_refuse_if T) (hr.mono (by omega)) (by rfl) pass0 (pa_cons (pe_not (pe_callC (ok_is_name T) (hr.mono (by omega)) (by rfl) pass0 (pa_cons (pv 1) pa_nil))) (pa_cons (pe_tup (pa_cons (pv 0) (pa_cons (pv 1) (pa_cons (pe_un u_neg pe_int) pa_nil)))) (pa_cons pe_str pa_nil)))))
 (pss_one (ps_expr (pe_callC (ok_refuse_if T) (hr.mono (by omega)) (by rfl) pass0 (pa_cons (pe_not (pe_callC (ok_is_row T) (hr.mono (by omega)) (by rfl) pass0 (pa_cons (pv 2) pa_nil))) (pa_cons (pe_tup (pa_cons (pv 0) (pa_cons (pv 1) (pa_cons (pe_un u_neg pe_int) pa_nil)))) (pa_cons pe_str pa_nil)))))))

theorem sc_look_at_part : FnScope ["path", "part", "ahead", "least", "lengths", "other"] ["path", "part", "ahead", "least", "lengths"] (defScope s_look_at_part) := ⟨rfl, rfl, rfl, by decide +kernel, rfl, by decide +kernel, by decide +kernel⟩
theorem ok_look_at_part {P : Program} {w : World} {K : PySem.W.Frag} {mg : Str → Option Value} {base : Heap} {C : Addr} (T : Txt K mg C) : Cal P w K mg base CX0 3 "look_at_part" ["path", "part", "ahead", "least", "lengths"] (sp_look_at_part K) := by
  refine Cal.of (st := s_look_at_part) T.d_look_at_part sc_look_at_part (fun _ _ _ _ _ _ us hl => match us, hl with | [_, _, _, _, _], _ => rfl) (len_look_at_part K) fun f cdv A outer s H vs Q E hr h => ⟨t_look_at_part K, ?_, p_look_at_part K vs H Q E h⟩
  exact (pss_cons (ps_expr (pe_callC (ok_refuse_if T) (hr.mono (by omega)) (by rfl) pass0 (pa_cons (pe_or (pe_not (pe_callB u_isi (by rfl) T.m_isinstance (by decide +kernel) (pa_cons (pv 1) (pa_cons (pe_bltn (v := .ty "tuple") (by rfl) T.m_tuple (by decide +kernel) rfl) pa_nil)))) (pe_one (pe_cmpR u_notIn (pe_callB u_len (by rfl) T.m_len PySem.boot_len (pa_cons (pv 1) pa_nil)) (pv 4) (by rfl)))) (pa_cons (pv 0) (pa_cons pe_str pa_nil)))))
 (pss_cons (ps_expr (pe_callC (ok_refuse_if T) (hr.mono (by omega)) (by rfl) pass0 (pa_cons (pe_or (pe_not (pe_callC (ok_is_name T) (hr.mono (by omega)) (by rfl) pass0 (pa_cons (pe_ix u_ix (pv 1) pe_int (fun _ _ => rfl)) pa_nil))) (pe_one (pe_cmpR u_in (pe_ix u_ix (pv 1) pe_int (fun _ _ => rfl)) (pe_lc (own := [("other", 5)]) (g := (gName 5)) (tt := tYes) rfl sc_look_at_part.nd (pi_seq (pv 2)) (blkOk_by (N := ["path", "part", "ahead", "least", "lengths", "other"]) (sc := (defScope s_look_at_part)) (own := [("other", 5)]) (by decide +kernel)) (fun _ _ _ _ _ => (pg_name (i := 5) sc_look_at_part.nd rfl (by first | exact Or.inl rfl | exact Or.inr rfl))) (fun _ _ _ _ _ => pts_nil) (fun _ _ _ _ _ => (pe_ix u_ix (pv 5) pe_int (fun _ _ => rfl)))) (by rfl)))) (pa_cons (pv 0) (pa_cons pe_str pa_nil)))))
 (pss_cons (ps_expr (pe_callC (ok_refuse_if T) (hr.mono (by omega)) (by rfl) pass0 (pa_cons (pe_not (pe_callC (ok_is_within T) (hr.mono (by omega)) (by rfl) pass0 (pa_cons (pe_ix u_ix (pv 1) pe_int (fun _ _ => rfl)) (pa_cons (pv 3) (pa_cons (pe_gint (by rfl) T.c_MOST_NUMBER) pa_nil))))) (pa_cons (pv 0) (pa_cons pe_str pa_nil)))))
 (pss_one (ps_expr (pe_callC (ok_refuse_if T) (hr.mono (by omega)) (by rfl) pass0 (pa_cons (pe_cmpR u_in (pe_ix u_ix (pv 1) pe_int (fun _ _ => rfl)) (pe_lc (own := [("other", 5)]) (g := (gName 5)) (tt := tYes) rfl sc_look_at_part.nd (pi_seq (pv 2)) (blkOk_by (N := ["path", "part", "ahead", "least", "lengths", "other"]) (sc := (defScope s_look_at_part)) (own := [("other", 5)]) (by decide +kernel)) (fun _ _ _ _ _ => (pg_name (i := 5) sc_look_at_part.nd rfl (by first | exact Or.inl rfl | exact Or.inr rfl))) (fun _ _ _ _ _ => pts_nil) (fun _ _ _ _ _ => (pe_ix u_ix (pv 5) pe_int (fun _ _ => rfl)))) (by rfl)) (pa_cons (pv 0) (pa_cons pe_str pa_nil)))))))))

theorem sc_Schema_take_kind : FnScope ["self", "kinds", "choices", "name", "row", "place", "field", "path", "left"] ["self", "kinds", "choices", "name", "row"] (defScope s_Schema_take_kind) := ⟨rfl, rfl, rfl, by decide +kernel, rfl, by decide +kernel, by decide +kernel⟩
theorem ok_Schema_take_kind {P : Program} {w : World} {K : PySem.W.Frag} {mg : Str → Option Value} {base : Heap} {C : Addr} {Pt : Tb} (T : Txt K mg C) (B : Tbs K mg base Pt) : CalF P w K mg base CX0 8 (cAt K "Schema") s_Schema_take_kind "take_kind" "Schema.take_kind" ["self", "kinds", "choices", "name", "row"] (sp_Schema_take_kind K Pt) := by
  obtain ⟨c, D, TB⟩ := B.e_Schema_take_kind
  refine CalF.ofC D sc_Schema_take_kind (len_Schema_take_kind K Pt) fun f A outer s H vs Q E hr h => ⟨t_Schema_take_kind K C Pt, ?_, p_Schema_take_kind K C T.own Pt vs H Q E h⟩
  exact (pss_cons (ps_expr (pe_callC (ok_look_at_heading T) (hr.mono (by omega)) (by rfl) pass0 (pa_cons pe_str (pa_cons (pv 3) (pa_cons (pv 4) pa_nil)))))
 (pss_cons (ps_for PassesOwn.never rfl (pi_enumV (by rfl) T.m_enumerate (pv 4)) (pg_tup (by rfl) (pgs_cons (pg_name (i := 5) sc_Schema_take_kind.nd rfl (by first | exact Or.inl rfl | exact Or.inr rfl)) (pgs_cons (pg_name (i := 6) sc_Schema_take_kind.nd rfl (by first | exact Or.inl rfl | exact Or.inr rfl)) pgs_nil)))
 (pss_cons (ps_set (i := 7) sc_Schema_take_kind.nd rfl (by first | exact Or.inl rfl | exact Or.inr rfl) (pe_tup (pa_cons pe_str (pa_cons (pv 3) (pa_cons (pv 5) pa_nil)))))
 (pss_cons (ps_expr (pe_callC (ok_look_at_part T) (hr.mono (by omega)) (by rfl) pass0 (pa_cons (pv 7) (pa_cons (pv 6) (pa_cons (pe_slice u_slV (pv 4) po_none (po_some (pv 5))) (pa_cons pe_int (pa_cons (pe_tup (pa_cons pe_int (pa_cons pe_int pa_nil))) pa_nil)))))))
 (pss_cons (ps_expr (pe_callC (ok_refuse_if T) (hr.mono (by omega)) (by rfl) pass0 (pa_cons (pe_not (pe_callDf 3 0 (ok_is_sort T 4) (by simp) rfl (fun _ _ _ _ _ _ _ us its h1 h2 => match us, its, h1, h2 with | [_, _, _], [_], _, _ => ⟨_, rfl, rfl⟩) (hr.mono (by omega)) (by rfl) pass0 (pa_cons (pv 1) (pa_cons (pv 2) (pa_cons (pe_ix u_ix (pv 6) pe_int (fun _ _ => rfl)) pa_nil))))) (pa_cons (pv 7) (pa_cons pe_str pa_nil)))))
 (pss_one (ps_expr (pe_callC (ok_refuse_if T) (hr.mono (by omega)) (by rfl) pass0 (pa_cons (pe_not (pe_callB (u_all rfl) (by rfl) T.m_all (by decide +kernel) (pa_cons (pe_lc (own := [("left", 8)]) (g := (gName 8)) (tt := tYes) rfl sc_Schema_take_kind.nd (pi_tup (pe_callC (ok_left_of T) (hr.mono (by omega)) (by rfl) pass0 (pa_cons (pv 6) pa_nil))) (blkOk_by (N := ["self", "kinds", "choices", "name", "row", "place", "field", "path", "left"]) (sc := (defScope s_Schema_take_kind)) (own := [("left", 8)]) (by decide +kernel)) (fun _ _ _ _ _ => (pg_name (i := 8) sc_Schema_take_kind.nd rfl (by first | exact Or.inl rfl | exact Or.inr rfl))) (fun _ _ _ _ _ => pts_nil) (fun _ _ _ _ _ => (pe_callC (ok_is_default T) (hr.mono (by omega)) (by rfl) pass0 (pa_cons (pe_ix u_ix (pv 6) pe_int (fun _ _ => rfl)) (pa_cons (pv 8) pa_nil))))) pa_nil))) (pa_cons (pv 7) (pa_cons pe_str pa_nil))))))))))
 (pss_one (ps_dput (hu_of hr) (pe_fldU (pv 0) (by rfl)) (pv 3) (pe_callTy u_tuple (by rfl) T.m_tuple (by decide +kernel) (pa_cons (pe_sortKey (by rfl) T.m_sorted (pv 4) TB rfl rfl (hr.mono (by omega)) (NdefX.nscope_by (by decide +kernel)) (by decide +kernel) rfl rfl (fun _ _ _ _ _ => rfl)) pa_nil)) rfl))))

theorem sc_Schema_take_choice : FnScope ["self", "kinds", "choices", "name", "row", "place", "case", "path", "number", "word", "content"] ["self", "kinds", "choices", "name", "row"] (defScope s_Schema_take_choice) := ⟨rfl, rfl, rfl, by decide +kernel, rfl, by decide +kernel, by decide +kernel⟩
theorem ok_Schema_take_choice {P : Program} {w : World} {K : PySem.W.Frag} {mg : Str → Option Value} {base : Heap} {C : Addr} {Pt : Tb} (T : Txt K mg C) (B : Tbs K mg base Pt) : CalF P w K mg base CX0 8 (cAt K "Schema") s_Schema_take_choice "take_choice" "Schema.take_choice" ["self", "kinds", "choices", "name", "row"] (sp_Schema_take_choice K Pt) := by
  obtain ⟨c, D, TB⟩ := B.e_Schema_take_choice
  refine CalF.ofC D sc_Schema_take_choice (len_Schema_take_choice K Pt) fun f A outer s H vs Q E hr h => ⟨t_Schema_take_choice K C Pt, ?_, p_Schema_take_choice K C T.own Pt vs H Q E h⟩
  exact (pss_cons (ps_expr (pe_callC (ok_look_at_heading T) (hr.mono (by omega)) (by rfl) pass0 (pa_cons pe_str (pa_cons (pv 3) (pa_cons (pv 4) pa_nil)))))
 (pss_cons (ps_expr (pe_callC (ok_refuse_if T) (hr.mono (by omega)) (by rfl) pass0 (pa_cons (pe_cmpR (u_eq hr.units) (pe_callB u_len (by rfl) T.m_len PySem.boot_len (pa_cons (pv 4) pa_nil)) pe_int (nomark _)) (pa_cons (pe_tup (pa_cons pe_str (pa_cons (pv 3) (pa_cons (pe_un u_neg pe_int) pa_nil)))) (pa_cons pe_str pa_nil)))))
 (pss_cons (ps_for PassesOwn.never rfl (pi_enumV (by rfl) T.m_enumerate (pv 4)) (pg_tup (by rfl) (pgs_cons (pg_name (i := 5) sc_Schema_take_choice.nd rfl (by first | exact Or.inl rfl | exact Or.inr rfl)) (pgs_cons (pg_name (i := 6) sc_Schema_take_choice.nd rfl (by first | exact Or.inl rfl | exact Or.inr rfl)) pgs_nil)))
 (pss_cons (ps_set (i := 7) sc_Schema_take_choice.nd rfl (by first | exact Or.inl rfl | exact Or.inr rfl) (pe_tup (pa_cons pe_str (pa_cons (pv 3) (pa_cons (pv 5) pa_nil)))))
 (pss_cons (ps_expr (pe_callC (ok_look_at_part T) (hr.mono (by omega)) (by rfl) pass0 (pa_cons (pv 7) (pa_cons (pv 6) (pa_cons (pe_slice u_slV (pv 4) po_none (po_some (pv 5))) (pa_cons pe_int (pa_cons (pe_tup (pa_cons pe_int pa_nil)) pa_nil)))))))
 (pss_cons (ps_asg (pv 6) (pg_tup (by rfl) (pgs_cons (pg_name (i := 8) sc_Schema_take_choice.nd rfl (by first | exact Or.inl rfl | exact Or.inr rfl)) (pgs_cons (pg_name (i := 9) sc_Schema_take_choice.nd rfl (by first | exact Or.inl rfl | exact Or.inr rfl)) (pgs_cons (pg_name (i := 10) sc_Schema_take_choice.nd rfl (by first | exact Or.inl rfl | exact Or.inr rfl)) pgs_nil)))))
 (pss_cons (ps_expr (pe_callC (ok_refuse_if T) (hr.mono (by omega)) (by rfl) pass0 (pa_cons (pe_and (pe_cmpR u_notN (pv 10) pe_non (nomark _)) (pe_one (pe_not (pe_callDf 3 0 (ok_is_sort T 4) (by simp) rfl (fun _ _ _ _ _ _ _ us its h1 h2 => match us, its, h1, h2 with | [_, _, _], [_], _, _ => ⟨_, rfl, rfl⟩) (hr.mono (by omega)) (by rfl) pass0 (pa_cons (pv 1) (pa_cons (pv 2) (pa_cons (pv 10) pa_nil))))))) (pa_cons (pv 7) (pa_cons pe_str pa_nil)))))
 (pss_one (ps_expr (pe_callC (ok_refuse_if T) (hr.mono (by omega)) (by rfl) pass0 (pa_cons (pe_and (pe_cmpR (u_eq hr.units) (pv 8) pe_int (nomark _)) (pe_one (pe_cmpR u_notN (pv 10) pe_non (nomark _)))) (pa_cons (pv 7) (pa_cons pe_str pa_nil)))))))))))
 (pss_one (ps_dput (hu_of hr) (pe_fldU (pv 0) (by rfl)) (pv 3) (pe_callTy u_tuple (by rfl) T.m_tuple (by decide +kernel) (pa_cons (pe_sortKey (by rfl) T.m_sorted (pv 4) TB rfl rfl (hr.mono (by omega)) (NdefX.nscope_by (by decide +kernel)) (by decide +kernel) rfl rfl (fun _ _ _ _ _ => rfl)) pa_nil)) rfl)))))

theorem sc_Schema_comes_back : FnScope ["self", "name", "seen", "at", "content"] ["self", "name"] (defScope s_Schema_comes_back) := ⟨rfl, rfl, rfl, by decide +kernel, rfl, by decide +kernel, by decide +kernel⟩
theorem ok_Schema_comes_back {P : Program} {w : World} {K : PySem.W.Frag} {mg : Str → Option Value} {base : Heap} {C : Addr} (T : Txt K mg C) : CalF P w K mg base CX0 1 (cAt K "Schema") s_Schema_comes_back "comes_back" "Schema.comes_back" ["self", "name"] (sp_Schema_comes_back K) := by
  refine CalF.of T.d_Schema_comes_back sc_Schema_comes_back (len_Schema_comes_back K) fun f cdv A outer s H vs Q E hr h => ⟨t_Schema_comes_back K C, ?_, p_Schema_comes_back K C T.own vs H Q E h⟩
  exact (pss_cons (ps_set (i := 2) sc_Schema_comes_back.nd rfl (by first | exact Or.inl rfl | exact Or.inr rfl) pe_dnewK)
 (pss_cons (ps_set (i := 3) sc_Schema_comes_back.nd rfl (by first | exact Or.inl rfl | exact Or.inr rfl) (pv 1))
 (pss_cons (ps_while PassesOwn.never (pt_cmp (pc_dnotin (hu_of hr) (pv 3) (pv 2)))
 (pss_cons (ps_dput (hu_of hr) (pv 2) (pv 3) pe_bl rfl)
 (pss_cons (ps_set (i := 4) sc_Schema_comes_back.nd rfl (by first | exact Or.inl rfl | exact Or.inr rfl) (pe_ix u_ix (pe_ix u_ix (pe_dget (hu_of hr) (pe_fldU (pv 0) (by rfl)) (pv 3) (fun _ _ => rfl)) pe_int (fun _ _ => rfl)) pe_int (fun _ _ => rfl)))
 (pss_cons (ps_if (PW.pt (pw_or (pt_cmpR u_isN (pv 4) pe_non (nomark _)) (pw_or1 (pt_cmpR (u_ne hr.units) (pe_ix u_ix (pv 4) pe_int (fun _ _ => rfl)) pe_str (nomark _)))))
 (pss_one (ps_ret pe_bl))
 pss_nil)
 (pss_one (ps_set (i := 3) sc_Schema_comes_back.nd rfl (by first | exact Or.inl rfl | exact Or.inr rfl) (pe_ix u_ix (pv 4) pe_int (fun _ _ => rfl))))))))
 (pss_one (ps_ret (pe_cmpR (u_eq hr.units) (pv 3) (pv 1) (nomark _)))))))

theorem sc_Schema___init__ : FnScope ["self", "kinds", "choices", "root", "some", "name", "row"] ["self", "kinds", "choices", "root"] (defScope s_Schema___init__) := ⟨rfl, rfl, rfl, by decide +kernel, rfl, by decide +kernel, by decide +kernel⟩
theorem ok_Schema___init__ {P : Program} {w : World} {K : PySem.W.Frag} {mg : Str → Option Value} {base : Heap} {C : Addr} {Pt : Tb} (T : Txt K mg C) (B : Tbs K mg base Pt) : CalK P w K mg base CX0 9 (cAt K "Schema") s_Schema___init__ "Schema.__init__" [("choices", .non)] ["self", "kinds", "choices", "root"] (sp_Schema___init__ K Pt) := by
  refine CalK.of T.d_Schema___init__ sc_Schema___init__ (len_Schema___init__ K Pt) fun f cdv A outer s H vs Q E hr h => ⟨t_Schema___init__ K C Pt, ?_, p_Schema___init__ K C T.own Pt vs H Q E h⟩
  unfold t_Schema___init__ b_Schema___init___0 b_Schema___init___1 b_Schema___init___2
  exact (pss_cons (ps_set (i := 4) sc_Schema___init__.nd rfl (by first | exact Or.inl rfl | exact Or.inr rfl) (pe_ifExp (pt_cmpR u_isN (pv 2) pe_non (nomark _)) pe_dnewK (pv 2)))
 (pss_cons (ps_asg (pe_tup (pa_cons pe_dnewK (pa_cons pe_dnewK (pa_cons (pv 3) pa_nil)))) (pg_tup (by rfl) (pgs_cons (pg_attr (pv 0)) (pgs_cons (pg_attr (pv 0)) (pgs_cons (pg_attr (pv 0)) pgs_nil)))))
 (pss_cons (ps_lock (ps_for PassesOwn.never rfl (pi_items (pv 1)) (pg_tup (by rfl) (pgs_cons (pg_name (i := 5) sc_Schema___init__.nd rfl (by first | exact Or.inl rfl | exact Or.inr rfl)) (pgs_cons (pg_name (i := 6) sc_Schema___init__.nd rfl (by first | exact Or.inl rfl | exact Or.inr rfl)) pgs_nil)))
 (pss_one (ps_expr (pe_methM (pv 0) T.own.Schema.cl (CalF.calM (ok_Schema_take_kind T B) (fun _ _ _ _ _ _ us hl => match us, hl with | [_, _, _, _, _], _ => rfl)) (hr.mono (by omega)) pass0 (pa_cons (pv 1) (pa_cons (pv 4) (pa_cons (pv 5) (pa_cons (pv 6) pa_nil)))))))))
 (pss_cons (ps_lock (ps_for PassesOwn.never rfl (pi_items (pv 4)) (pg_tup (by rfl) (pgs_cons (pg_name (i := 5) sc_Schema___init__.nd rfl (by first | exact Or.inl rfl | exact Or.inr rfl)) (pgs_cons (pg_name (i := 6) sc_Schema___init__.nd rfl (by first | exact Or.inl rfl | exact Or.inr rfl)) pgs_nil)))
 (pss_one (ps_expr (pe_methM (pv 0) T.own.Schema.cl (CalF.calM (ok_Schema_take_choice T B) (fun _ _ _ _ _ _ us hl => match us, hl with | [_, _, _, _, _], _ => rfl)) (hr.mono (by omega)) pass0 (pa_cons (pv 1) (pa_cons (pv 4) (pa_cons (pv 5) (pa_cons (pv 6) pa_nil)))))))))
 (pss_cons (ps_expr (pe_callC (ok_refuse_if T) (hr.mono (by omega)) (by rfl) pass0 (pa_cons (pe_not (pe_callDf 3 0 (ok_is_sort T 4) (by simp) rfl (fun _ _ _ _ _ _ _ us its h1 h2 => match us, its, h1, h2 with | [_, _, _], [_], _, _ => ⟨_, rfl, rfl⟩) (hr.mono (by omega)) (by rfl) pass0 (pa_cons (pv 1) (pa_cons (pv 4) (pa_cons (pv 3) pa_nil))))) (pa_cons (pe_tup (pa_cons pe_str pa_nil)) (pa_cons pe_str pa_nil)))))
 (pss_one (ps_lock (ps_for PassesOwn.never rfl (pi_keys (pe_fldU (pv 0) (by rfl))) (pg_name (i := 5) sc_Schema___init__.nd rfl (by first | exact Or.inl rfl | exact Or.inr rfl))
 (pss_one (ps_expr (pe_callC (ok_refuse_if T) (hr.mono (by omega)) (by rfl) pass0 (pa_cons (pe_methM (pv 0) T.own.Schema.cl (CalF.calM (ok_Schema_comes_back T) (fun _ _ _ _ _ _ us hl => match us, hl with | [_, _], _ => rfl)) (hr.mono (by omega)) pass0 (pa_cons (pv 5) pa_nil)) (pa_cons (pe_tup (pa_cons pe_str (pa_cons (pv 5) (pa_cons (pe_un u_neg pe_int) pa_nil)))) (pa_cons pe_str pa_nil))))))))))))))

theorem sc_law_draw : FnScope ["_law_well", "_law_many", "_law_found_here", "_law_low"] ["_law_well", "_law_many"] (defScope s_law_draw) := ⟨rfl, rfl, rfl, by decide +kernel, rfl, by decide +kernel, by decide +kernel⟩
theorem ok_law_draw {P : Program} {w : World} {K : PySem.W.Frag} {mg : Str → Option Value} {base : Heap} {C : Addr} (T : Txt K mg C) : Cal P w K mg base CX0 1 "_law_draw" ["_law_well", "_law_many"] (sp_law_draw K) := by
  refine Cal.of (st := s_law_draw) T.d_law_draw sc_law_draw (fun _ _ _ _ _ _ us hl => match us, hl with | [_, _], _ => rfl) (len_law_draw K) fun f cdv A outer s H vs Q E hr h => ⟨t_law_draw K, ?_, p_law_draw K vs H Q E h⟩
  exact (pss_cons (ps_if (pt_cmpR u_ge (pe_ix u_ix (pv 0) pe_int (fun _ _ => rfl)) (pe_op u_pow pe_int pe_int) (nomark _))
 (pss_cons (ps_set (i := 2) sc_law_draw.nd rfl (by first | exact Or.inl rfl | exact Or.inr rfl) (pe_op u_mod (pe_ix u_ix (pv 0) pe_int (fun _ _ => rfl)) (pv 1)))
 (pss_cons (ps_asg (pe_op u_divW (pe_ix u_ix (pv 0) pe_int (fun _ _ => rfl)) (pv 1)) (pg_sub (pv 0) pe_int u_set))
 (pss_one (ps_ret (pv 2)))))
 pss_nil)
 (pss_cons (ps_asg (pe_op u_add (pe_ix u_ix (pv 0) pe_int (fun _ _ => rfl)) pe_int) (pg_sub (pv 0) pe_int u_set))
 (pss_cons (ps_set (i := 3) sc_law_draw.nd rfl (by first | exact Or.inl rfl | exact Or.inr rfl) (pe_op u_add (pe_op u_mod (pe_ix u_ix (pv 0) pe_int (fun _ _ => rfl)) pe_int) (pe_op u_mul (pe_op u_divW (pe_ix u_ix (pv 0) pe_int (fun _ _ => rfl)) pe_int) pe_int)))
 (pss_cons (ps_set (i := 3) sc_law_draw.nd rfl (by first | exact Or.inl rfl | exact Or.inr rfl) (pe_op u_mod (pe_op u_add (pe_op u_add (pv 3) (pe_op u_mul pe_int (pe_ix u_ix (pv 0) pe_int (fun _ _ => rfl)))) pe_int) pe_int))
 (pss_cons (ps_set (i := 3) sc_law_draw.nd rfl (by first | exact Or.inl rfl | exact Or.inr rfl) (pe_op u_mod (pe_op u_pow (pv 3) pe_int) pe_int))
 (pss_cons (ps_set (i := 3) sc_law_draw.nd rfl (by first | exact Or.inl rfl | exact Or.inr rfl) (pe_op u_mod (pe_op u_mul (pv 3) (pe_op u_add (pe_op u_add (pe_op u_divW (pv 3) pe_int) pe_int) (pe_ix u_ix (pv 0) pe_int (fun _ _ => rfl)))) pe_int))
 (pss_one (ps_ret (pe_op u_mod (pe_op u_divW (pe_op u_mod (pe_op u_mul (pv 3) (pe_op u_add (pe_op u_divW (pv 3) pe_int) pe_int)) pe_int) pe_int) (pv 1))))))))))

theorem sc_law_bound : FnScope ["_law_well", "_law_way"] ["_law_well"] (defScope s_law_bound) := ⟨rfl, rfl, rfl, by decide +kernel, rfl, by decide +kernel, by decide +kernel⟩
theorem ok_law_bound {P : Program} {w : World} {K : PySem.W.Frag} {mg : Str → Option Value} {base : Heap} {C : Addr} (T : Txt K mg C) : Cal P w K mg base CX0 2 "_law_bound" ["_law_well"] (sp_law_bound K) := by
  refine Cal.of (st := s_law_bound) T.d_law_bound sc_law_bound (fun _ _ _ _ _ _ us hl => match us, hl with | [_], _ => rfl) (len_law_bound K) fun f cdv A outer s H vs Q E hr h => ⟨t_law_bound K, ?_, p_law_bound K vs H Q E h⟩
  exact (pss_cons (ps_set (i := 1) sc_law_bound.nd rfl (by first | exact Or.inl rfl | exact Or.inr rfl) (pe_callC (ok_law_draw T) (hr.mono (by omega)) (by rfl) pass0 (pa_cons (pv 0) (pa_cons pe_int pa_nil))))
 (pss_one (ps_ret (pe_ix u_ix (pe_lst (pa_cons pe_non (pa_cons (pe_op u_sub (pe_callC (ok_law_draw T) (hr.mono (by omega)) (by rfl) pass0 (pa_cons (pv 0) (pa_cons pe_int pa_nil))) pe_int) (pa_cons pe_int (pa_cons pe_int (pa_cons (pe_op u_mul (pe_op u_pow pe_int pe_int) (pe_op u_add pe_int (pe_callC (ok_law_draw T) (hr.mono (by omega)) (by rfl) pass0 (pa_cons (pv 0) (pa_cons pe_int pa_nil))))) (pa_cons (pe_op u_sub pe_int (pe_op u_pow pe_int pe_int)) pa_nil))))))) (pv 1) (fun _ _ => rfl)))))

theorem sc_law_leaf : FnScope ["_law_well", "_law_way", "_law_low", "_law_high"] ["_law_well"] (defScope s_law_leaf) := ⟨rfl, rfl, rfl, by decide +kernel, rfl, by decide +kernel, by decide +kernel⟩
theorem ok_law_leaf {P : Program} {w : World} {K : PySem.W.Frag} {mg : Str → Option Value} {base : Heap} {C : Addr} (T : Txt K mg C) : Cal P w K mg base CX0 3 "_law_leaf" ["_law_well"] (sp_law_leaf K) := by
  refine Cal.of (st := s_law_leaf) T.d_law_leaf sc_law_leaf (fun _ _ _ _ _ _ us hl => match us, hl with | [_], _ => rfl) (len_law_leaf K) fun f cdv A outer s H vs Q E hr h => ⟨t_law_leaf K, ?_, p_law_leaf K vs H Q E h⟩
  exact (pss_cons (ps_set (i := 1) sc_law_leaf.nd rfl (by first | exact Or.inl rfl | exact Or.inr rfl) (pe_callC (ok_law_draw T) (hr.mono (by omega)) (by rfl) pass0 (pa_cons (pv 0) (pa_cons pe_int pa_nil))))
 (pss_cons (ps_if (pt_cmpR (u_eq hr.units) (pv 1) pe_int (nomark _))
 (pss_one (ps_ret (pe_tup (pa_cons pe_str pa_nil))))
 pss_nil)
 (pss_cons (ps_if (pt_cmpR (u_eq hr.units) (pv 1) pe_int (nomark _))
 (pss_one (ps_ret (pe_tup (pa_cons pe_str (pa_cons (pe_ix u_ix (pe_lst (pa_cons pe_int (pa_cons pe_int (pa_cons pe_int (pa_cons pe_int (pa_cons pe_int pa_nil)))))) (pe_callC (ok_law_draw T) (hr.mono (by omega)) (by rfl) pass0 (pa_cons (pv 0) (pa_cons pe_int pa_nil))) (fun _ _ => rfl)) pa_nil)))))
 pss_nil)
 (pss_cons (ps_par (i := 2) (j := 3) rfl sc_law_leaf.nd rfl rfl (by decide) rfl rfl (pa_cons (pe_callC (ok_law_bound T) (hr.mono (by omega)) (by rfl) pass0 (pa_cons (pv 0) pa_nil)) (pa_cons (pe_callC (ok_law_bound T) (hr.mono (by omega)) (by rfl) pass0 (pa_cons (pv 0) pa_nil)) pa_nil)) (by rfl))
 (pss_cons (ps_if (PW.pt (pw_and (pt_cmpR u_notN (pv 2) pe_non (nomark _)) (pw_and (pt_cmpR u_notN (pv 3) pe_non (nomark _)) (pw_and1 (pt_cmpR u_gt (pv 2) (pv 3) (nomark _))))))
 (pss_one (ps_ret (pe_tup (pa_cons pe_str (pa_cons (pv 3) (pa_cons (pv 2) pa_nil))))))
 pss_nil)
 (pss_one (ps_ret (pe_tup (pa_cons pe_str (pa_cons (pv 2) (pa_cons (pv 3) pa_nil)))))))))))

theorem sc_law_sort : FnScope ["_law_well", "_law_deep", "_law_way", "_law_inner"] ["_law_well", "_law_deep"] (defScope s_law_sort) := ⟨rfl, rfl, rfl, by decide +kernel, rfl, by decide +kernel, by decide +kernel⟩
theorem ok_law_sort {P : Program} {w : World} {K : PySem.W.Frag} {mg : Str → Option Value} {base : Heap} {C : Addr} (T : Txt K mg C) : ∀ n : Nat, Cal P w K mg base CX0 (4 + n) "_law_sort" ["_law_well", "_law_deep"] (sp_law_sort K n)
  | 0 => Cal.of (k := 3) (st := s_law_sort) T.d_law_sort sc_law_sort (fun _ _ _ _ _ _ us hl => match us, hl with | [_, _], _ => rfl) (fun vs H Q E h => (no_law_sort K h).elim) fun f cdv A outer s H vs Q E hr h => (no_law_sort K h).elim
  | n + 1 => by
    have ih := ok_law_sort (P := P) (w := w) (base := base) T n
    refine Cal.of (k := 4 + n) (st := s_law_sort) T.d_law_sort sc_law_sort (fun _ _ _ _ _ _ us hl => match us, hl with | [_, _], _ => rfl) (len_law_sort K n) fun f cdv A outer s H vs Q E hr h => ⟨t_law_sort K n, ?_, p_law_sort K n vs H Q E h⟩
    exact (pss_cons (ps_set (i := 2) sc_law_sort.nd rfl (by first | exact Or.inl rfl | exact Or.inr rfl) (pe_callC (ok_law_draw T) (hr.mono (by omega)) (by rfl) pass0 (pa_cons (pv 0) (pa_cons pe_int pa_nil))))
 (pss_cons (ps_if (PW.pt (pw_or (pt_cmpR (u_eq hr.units) (pv 1) pe_int (nomark _)) (pw_or1 (pt_cmpR u_lt (pv 2) pe_int (nomark _)))))
 (pss_one (ps_ret (pe_callC (ok_law_leaf T) (hr.mono (by omega)) (by rfl) pass0 (pa_cons (pv 0) pa_nil))))
 pss_nil)
 (pss_cons (ps_set (i := 3) sc_law_sort.nd rfl (by first | exact Or.inl rfl | exact Or.inr rfl) (pe_callC ih (hr.mono (by omega)) (by rfl) pass0 (pa_cons (pv 0) (pa_cons (pe_op u_sub (pv 1) pe_int) pa_nil))))
 (pss_cons (ps_if (pt_cmpR (u_eq hr.units) (pv 2) pe_int (nomark _))
 (pss_one (ps_ret (pe_tup (pa_cons pe_str (pa_cons (pe_ix u_ix (pe_lst (pa_cons pe_int (pa_cons pe_int (pa_cons pe_int (pa_cons pe_int (pa_cons pe_int pa_nil)))))) (pe_callC (ok_law_draw T) (hr.mono (by omega)) (by rfl) pass0 (pa_cons (pv 0) (pa_cons pe_int pa_nil))) (fun _ _ => rfl)) (pa_cons (pv 3) pa_nil))))))
 pss_nil)
 (pss_one (ps_ret (pe_ifExp (pt_cmpR (u_eq hr.units) (pe_ix u_ix (pv 3) pe_int (fun _ _ => rfl)) pe_str (nomark _)) (pv 3) (pe_tup (pa_cons pe_str (pa_cons (pv 3) pa_nil))))))))))

theorem sc_law_near : FnScope ["_law_well", "_law_sort_here", "_law_deep", "_law_way", "_law_inner", "_law_most", "_law_low", "_law_high"] ["_law_well", "_law_sort_here", "_law_deep"] (defScope s_law_near) := ⟨rfl, rfl, rfl, by decide +kernel, rfl, by decide +kernel, by decide +kernel⟩
theorem ok_law_near {P : Program} {w : World} {K : PySem.W.Frag} {mg : Str → Option Value} {base : Heap} {C : Addr} (T : Txt K mg C) : ∀ n : Nat, Cal P w K mg base CX0 (8 + n) "_law_near" ["_law_well", "_law_sort_here", "_law_deep"] (sp_law_near K n)
  | 0 => Cal.of (k := 7) (st := s_law_near) T.d_law_near sc_law_near (fun _ _ _ _ _ _ us hl => match us, hl with | [_, _, _], _ => rfl) (fun vs H Q E h => (no_law_near K h).elim) fun f cdv A outer s H vs Q E hr h => (no_law_near K h).elim
  | n + 1 => by
    have ih := ok_law_near (P := P) (w := w) (base := base) T n
    refine Cal.of (k := 8 + n) (st := s_law_near) T.d_law_near sc_law_near (fun _ _ _ _ _ _ us hl => match us, hl with | [_, _, _], _ => rfl) (len_law_near K n) fun f cdv A outer s H vs Q E hr h => ⟨t_law_near K n, ?_, p_law_near K n vs H Q E h⟩
    unfold t_law_near b_law_near_0
    exact (pss_cons (ps_set (i := 3) sc_law_near.nd rfl (by first | exact Or.inl rfl | exact Or.inr rfl) (pe_callC (ok_law_draw T) (hr.mono (by omega)) (by rfl) pass0 (pa_cons (pv 0) (pa_cons pe_int pa_nil))))
 (pss_cons (ps_if (pt_cmpR (u_eq hr.units) (pv 3) pe_int (nomark _))
 (pss_one (ps_ret (pe_callC (ok_law_sort T 3) (hr.mono (by omega)) (by rfl) pass0 (pa_cons (pv 0) (pa_cons (pv 2) pa_nil)))))
 pss_nil)
 (pss_cons (ps_if (pt_cmpR (u_eq hr.units) (pe_ix u_ix (pv 1) pe_int (fun _ _ => rfl)) pe_str (nomark _))
 (pss_cons (ps_set (i := 4) sc_law_near.nd rfl (by first | exact Or.inl rfl | exact Or.inr rfl) (pe_callC ih (hr.mono (by omega)) (by rfl) pass0 (pa_cons (pv 0) (pa_cons (pe_ix u_ix (pv 1) pe_int (fun _ _ => rfl)) (pa_cons (pe_op u_sub (pv 2) pe_int) pa_nil)))))
 (pss_one (ps_ret (pe_ifExp (PW.pt (pw_or (pt_cmpR (u_eq hr.units) (pe_ix u_ix (pv 4) pe_int (fun _ _ => rfl)) pe_str (nomark _)) (pw_or1 (pt_cmpR (u_eq hr.units) (pv 3) pe_int (nomark _))))) (pv 4) (pe_tup (pa_cons pe_str (pa_cons (pv 4) pa_nil)))))))
 pss_nil)
 (pss_cons (ps_if (PW.pt (pw_and (pt_cmpR (u_eq hr.units) (pv 3) pe_int (nomark _)) (pw_and (pt_cmpR u_gt (pv 2) pe_int (nomark _)) (pw_and1 (pt_cmpR (u_ne hr.units) (pe_ix u_ix (pv 1) pe_int (fun _ _ => rfl)) pe_str (nomark _))))))
 (pss_one (ps_ret (pe_tup (pa_cons pe_str (pa_cons (pv 1) pa_nil)))))
 pss_nil)
 (pss_cons (ps_if (pt_cmpR (u_eq hr.units) (pe_ix u_ix (pv 1) pe_int (fun _ _ => rfl)) pe_str (nomark _))
 (pss_cons (ps_set (i := 5) sc_law_near.nd rfl (by first | exact Or.inl rfl | exact Or.inr rfl) (pe_op u_add (pe_ix u_ix (pv 1) pe_int (fun _ _ => rfl)) (pe_ix u_ix (pe_lst (pa_cons pe_int (pa_cons pe_int (pa_cons (pe_un u_neg pe_int) (pa_cons pe_int pa_nil))))) (pe_callC (ok_law_draw T) (hr.mono (by omega)) (by rfl) pass0 (pa_cons (pv 0) (pa_cons pe_int pa_nil))) (fun _ _ => rfl))))
 (pss_one (ps_ret (pe_tup (pa_cons pe_str (pa_cons (pe_callB (u_min2 rfl) (by rfl) T.m_min (by decide +kernel) (pa_cons pe_int (pa_cons (pe_callB (u_max2 rfl) (by rfl) T.m_max (by decide +kernel) (pa_cons pe_int (pa_cons (pv 5) pa_nil))) pa_nil))) (pa_cons (pe_callC ih (hr.mono (by omega)) (by rfl) pass0 (pa_cons (pv 0) (pa_cons (pe_ix u_ix (pv 1) pe_int (fun _ _ => rfl)) (pa_cons (pe_op u_sub (pv 2) pe_int) pa_nil)))) pa_nil)))))))
 pss_nil)
 (pss_cons (ps_if (pt_cmpR (u_eq hr.units) (pe_ix u_ix (pv 1) pe_int (fun _ _ => rfl)) pe_str (nomark _))
 (pss_one (ps_ret (pe_tup (pa_cons pe_str (pa_cons (pe_callB (u_min2 rfl) (by rfl) T.m_min (by decide +kernel) (pa_cons pe_int (pa_cons (pe_callB (u_max2 rfl) (by rfl) T.m_max (by decide +kernel) (pa_cons pe_int (pa_cons (pe_op u_add (pe_ix u_ix (pv 1) pe_int (fun _ _ => rfl)) (pe_ix u_ix (pe_lst (pa_cons pe_int (pa_cons pe_int (pa_cons (pe_un u_neg pe_int) pa_nil)))) (pe_callC (ok_law_draw T) (hr.mono (by omega)) (by rfl) pass0 (pa_cons (pv 0) (pa_cons pe_int pa_nil))) (fun _ _ => rfl))) pa_nil))) pa_nil))) pa_nil)))))
 pss_nil)
 (pss_cons (ps_if (PW.pt (pw_and (pt_cmpR (u_eq hr.units) (pe_ix u_ix (pv 1) pe_int (fun _ _ => rfl)) pe_str (nomark _)) (pw_and1 (pt_cmpR u_lt (pv 3) pe_int (nomark _)))))
 (pss_cons (ps_asg (pe_slice sl_tupA (pv 1) (po_some pe_int) po_none) (pg_tup (by rfl) (pgs_cons (pg_name (i := 6) sc_law_near.nd rfl (by first | exact Or.inl rfl | exact Or.inr rfl)) (pgs_cons (pg_name (i := 7) sc_law_near.nd rfl (by first | exact Or.inl rfl | exact Or.inr rfl)) pgs_nil))))
 (pss_cons (ps_if (pt_cmpR (u_eq hr.units) (pv 3) pe_int (nomark _))
 (pss_one (ps_set (i := 6) sc_law_near.nd rfl (by first | exact Or.inl rfl | exact Or.inr rfl) (pe_ifExp (pt_cmpR u_isN (pv 6) pe_non (nomark _)) pe_non (pe_op u_add (pv 6) pe_int))))
 pss_nil)
 (pss_cons (ps_if (pt_cmpR (u_eq hr.units) (pv 3) pe_int (nomark _))
 (pss_one (ps_set (i := 7) sc_law_near.nd rfl (by first | exact Or.inl rfl | exact Or.inr rfl) (pe_ifExp (pt_cmpR u_isN (pv 7) pe_non (nomark _)) pe_non (pe_op u_sub (pv 7) pe_int))))
 pss_nil)
 (pss_cons (ps_if (pt_cmpR (u_eq hr.units) (pv 3) pe_int (nomark _))
 (pss_one (ps_par (i := 6) (j := 7) rfl sc_law_near.nd rfl rfl (by decide) rfl rfl (pa_cons (pe_callC (ok_law_bound T) (hr.mono (by omega)) (by rfl) pass0 (pa_cons (pv 0) pa_nil)) (pa_cons pe_non pa_nil)) (by rfl)))
 pss_nil)
 (pss_one (ps_ret (pe_ifExp (PW.pt (pw_or (pt_cmpR u_isN (pv 6) pe_non (nomark _)) (pw_or (pt_cmpR u_isN (pv 7) pe_non (nomark _)) (pw_or1 (pt_cmpR u_le (pv 6) (pv 7) (nomark _)))))) (pe_tup (pa_cons pe_str (pa_cons (pv 6) (pa_cons (pv 7) pa_nil)))) (pv 1))))))))
 pss_nil)
 (pss_one (ps_ret (pv 1))))))))))

theorem sc_law_thing : FnScope ["_law_well", "_law_sort_here", "_law_many", "_law_far", "_law_low", "_law_high", "_law_some", "_law_k"] ["_law_well", "_law_sort_here"] (defScope s_law_thing) := ⟨rfl, rfl, rfl, by decide +kernel, rfl, by decide +kernel, by decide +kernel⟩
theorem ok_law_thing {P : Program} {w : World} {K : PySem.W.Frag} {mg : Str → Option Value} {base : Heap} {C : Addr} (T : Txt K mg C) : ∀ n : Nat, Cal P w K mg base CX0 (2 + n) "_law_thing" ["_law_well", "_law_sort_here"] (sp_law_thing K n)
  | 0 => Cal.of (k := 1) (st := s_law_thing) T.d_law_thing sc_law_thing (fun _ _ _ _ _ _ us hl => match us, hl with | [_, _], _ => rfl) (fun vs H Q E h => (no_law_thing K h).elim) fun f cdv A outer s H vs Q E hr h => (no_law_thing K h).elim
  | n + 1 => by
    have ih := ok_law_thing (P := P) (w := w) (base := base) T n
    refine Cal.of (k := 2 + n) (st := s_law_thing) T.d_law_thing sc_law_thing (fun _ _ _ _ _ _ us hl => match us, hl with | [_, _], _ => rfl) (len_law_thing K n) fun f cdv A outer s H vs Q E hr h => ⟨t_law_thing K n, ?_, p_law_thing K n vs H Q E h⟩
    exact (pss_cons (ps_if (pt_cmpR (u_eq hr.units) (pe_ix u_ix (pv 1) pe_int (fun _ _ => rfl)) pe_str (nomark _))
 (pss_one (ps_ret (pe_cmpR (u_eq hr.units) (pe_callC (ok_law_draw T) (hr.mono (by omega)) (by rfl) pass0 (pa_cons (pv 0) (pa_cons pe_int pa_nil))) pe_int (nomark _))))
 pss_nil)
 (pss_cons (ps_if (pt_cmpR (u_eq hr.units) (pe_ix u_ix (pv 1) pe_int (fun _ _ => rfl)) pe_str (nomark _))
 (pss_cons (ps_set (i := 2) sc_law_thing.nd rfl (by first | exact Or.inl rfl | exact Or.inr rfl) (pe_ix u_ix (pe_lst (pa_cons pe_int (pa_cons (pe_ix u_ix (pv 1) pe_int (fun _ _ => rfl)) (pa_cons (pe_callC (ok_law_draw T) (hr.mono (by omega)) (by rfl) pass0 (pa_cons (pv 0) (pa_cons (pe_op u_add (pe_ix u_ix (pv 1) pe_int (fun _ _ => rfl)) pe_int) pa_nil))) pa_nil)))) (pe_callC (ok_law_draw T) (hr.mono (by omega)) (by rfl) pass0 (pa_cons (pv 0) (pa_cons pe_int pa_nil))) (fun _ _ => rfl)))
 (pss_one (ps_ret (pe_join pe_str (pe_lc (own := [("_law_k", 7)]) (g := (gName 7)) (tt := tYes) rfl sc_law_thing.nd (pi_range1 (by rfl) T.m_range (pa_cons (pv 2) pa_nil)) (blkOk_by (N := ["_law_well", "_law_sort_here", "_law_many", "_law_far", "_law_low", "_law_high", "_law_some", "_law_k"]) (sc := (defScope s_law_thing)) (own := [("_law_k", 7)]) (by decide +kernel)) (fun _ _ _ _ _ => (pg_name (i := 7) sc_law_thing.nd rfl (by first | exact Or.inl rfl | exact Or.inr rfl))) (fun _ _ _ _ _ => pts_nil) (fun _ _ _ _ _ => (pe_ix u_ix pe_str (pe_callC (ok_law_draw T) (hr.mono (by omega)) (by rfl) pass0 (pa_cons (pv 0) (pa_cons pe_int pa_nil))) (fun _ _ => rfl))))))))
 pss_nil)
 (pss_cons (ps_if (pt_cmpR (u_eq hr.units) (pe_ix u_ix (pv 1) pe_int (fun _ _ => rfl)) pe_str (nomark _))
 (pss_cons (ps_set (i := 2) sc_law_thing.nd rfl (by first | exact Or.inl rfl | exact Or.inr rfl) (pe_ix u_ix (pe_lst (pa_cons pe_int (pa_cons (pe_callB (u_min2 rfl) (by rfl) T.m_min (by decide +kernel) (pa_cons pe_int (pa_cons (pe_ix u_ix (pv 1) pe_int (fun _ _ => rfl)) pa_nil))) (pa_cons (pe_callC (ok_law_draw T) (hr.mono (by omega)) (by rfl) pass0 (pa_cons (pv 0) (pa_cons (pe_op u_add (pe_callB (u_min2 rfl) (by rfl) T.m_min (by decide +kernel) (pa_cons pe_int (pa_cons (pe_ix u_ix (pv 1) pe_int (fun _ _ => rfl)) pa_nil))) pe_int) pa_nil))) pa_nil)))) (pe_callC (ok_law_draw T) (hr.mono (by omega)) (by rfl) pass0 (pa_cons (pv 0) (pa_cons pe_int pa_nil))) (fun _ _ => rfl)))
 (pss_one (ps_ret (pe_callTy u_tuple (by rfl) T.m_tuple (by decide +kernel) (pa_cons (pe_lc (own := [("_law_k", 7)]) (g := (gName 7)) (tt := tYes) rfl sc_law_thing.nd (pi_range1 (by rfl) T.m_range (pa_cons (pv 2) pa_nil)) (blkOk_by (N := ["_law_well", "_law_sort_here", "_law_many", "_law_far", "_law_low", "_law_high", "_law_some", "_law_k"]) (sc := (defScope s_law_thing)) (own := [("_law_k", 7)]) (by decide +kernel)) (fun _ _ _ _ _ => (pg_name (i := 7) sc_law_thing.nd rfl (by first | exact Or.inl rfl | exact Or.inr rfl))) (fun _ _ _ _ _ => pts_nil) (fun _ _ _ _ _ => (pe_callC ih (hr.mono (by omega)) (by rfl) pass0 (pa_cons (pv 0) (pa_cons (pe_ix u_ix (pv 1) pe_int (fun _ _ => rfl)) pa_nil))))) pa_nil)))))
 pss_nil)
 (pss_cons (ps_if (pt_cmpR (u_eq hr.units) (pe_ix u_ix (pv 1) pe_int (fun _ _ => rfl)) pe_str (nomark _))
 (pss_one (ps_ret (pe_ifExp (pt_cmpR (u_eq hr.units) (pe_callC (ok_law_draw T) (hr.mono (by omega)) (by rfl) pass0 (pa_cons (pv 0) (pa_cons pe_int pa_nil))) pe_int (nomark _)) pe_non (pe_callC ih (hr.mono (by omega)) (by rfl) pass0 (pa_cons (pv 0) (pa_cons (pe_ix u_ix (pv 1) pe_int (fun _ _ => rfl)) pa_nil))))))
 pss_nil)
 (pss_cons (ps_set (i := 3) sc_law_thing.nd rfl (by first | exact Or.inl rfl | exact Or.inr rfl) (pe_op u_sub (pe_op u_pow pe_int pe_int) pe_int))
 (pss_cons (ps_set (i := 4) sc_law_thing.nd rfl (by first | exact Or.inl rfl | exact Or.inr rfl) (pe_ifExp (pt_cmpR u_isN (pe_ix u_ix (pv 1) pe_int (fun _ _ => rfl)) pe_non (nomark _)) (pe_op u_sub pe_int (pv 3)) (pe_ix u_ix (pv 1) pe_int (fun _ _ => rfl))))
 (pss_cons (ps_set (i := 5) sc_law_thing.nd rfl (by first | exact Or.inl rfl | exact Or.inr rfl) (pe_ifExp (pt_cmpR u_isN (pe_ix u_ix (pv 1) pe_int (fun _ _ => rfl)) pe_non (nomark _)) (pv 3) (pe_ix u_ix (pv 1) pe_int (fun _ _ => rfl))))
 (pss_cons (ps_set (i := 6) sc_law_thing.nd rfl (by first | exact Or.inl rfl | exact Or.inr rfl) (pe_lst (pa_cons (pv 4) (pa_cons (pv 5) (pa_cons (pe_callB (u_min2 rfl) (by rfl) T.m_min (by decide +kernel) (pa_cons (pv 5) (pa_cons (pe_callB (u_max2 rfl) (by rfl) T.m_max (by decide +kernel) (pa_cons (pv 4) (pa_cons pe_int pa_nil))) pa_nil))) (pa_cons (pe_op u_add (pv 4) (pe_callC (ok_law_draw T) (hr.mono (by omega)) (by rfl) pass0 (pa_cons (pv 0) (pa_cons (pe_op u_add (pe_op u_sub (pv 5) (pv 4)) pe_int) pa_nil)))) (pa_cons (pe_callB (u_min2 rfl) (by rfl) T.m_min (by decide +kernel) (pa_cons (pv 5) (pa_cons (pe_op u_add (pv 4) pe_int) pa_nil))) pa_nil)))))))
 (pss_one (ps_ret (pe_ix u_ix (pv 6) (pe_callC (ok_law_draw T) (hr.mono (by omega)) (by rfl) pass0 (pa_cons (pv 0) (pa_cons pe_int pa_nil))) (fun _ _ => rfl))))))))))))

theorem sc_law_within : FnScope ["_law_thing_here", "_law_low", "_law_high"] ["_law_thing_here", "_law_low", "_law_high"] (defScope s_law_within) := ⟨rfl, rfl, rfl, by decide +kernel, rfl, by decide +kernel, by decide +kernel⟩
theorem ok_law_within {P : Program} {w : World} {K : PySem.W.Frag} {mg : Str → Option Value} {base : Heap} {C : Addr} (T : Txt K mg C) : Cal P w K mg base CX0 1 "_law_within" ["_law_thing_here", "_law_low", "_law_high"] (sp_law_within K) := by
  refine Cal.of (st := s_law_within) T.d_law_within sc_law_within (fun _ _ _ _ _ _ us hl => match us, hl with | [_, _, _], _ => rfl) (len_law_within K) fun f cdv A outer s H vs Q E hr h => ⟨t_law_within K, ?_, p_law_within K vs H Q E h⟩
  exact (pss_one (ps_ret (pe_and (pe_or (pe_cmpR u_isN (pv 1) pe_non (nomark _)) (pe_one (pe_cmpR u_le (pv 1) (pv 0) (nomark _)))) (pe_one (pe_or (pe_cmpR u_isN (pv 2) pe_non (nomark _)) (pe_one (pe_cmpR u_le (pv 0) (pv 2) (nomark _))))))))

theorem sc_law_due : FnScope ["_law_path", "_law_old", "_law_new", "_law_thing_here", "_law_found_here", "_law_k", "_law_one", "_law_part"] ["_law_path", "_law_old", "_law_new", "_law_thing_here"] (defScope s_law_due) := ⟨rfl, rfl, rfl, by decide +kernel, rfl, by decide +kernel, by decide +kernel⟩
theorem ok_law_due {P : Program} {w : World} {K : PySem.W.Frag} {mg : Str → Option Value} {base : Heap} {C : Addr} (T : Txt K mg C) : ∀ n : Nat, Cal P w K mg base CX0 (2 + n) "_law_due" ["_law_path", "_law_old", "_law_new", "_law_thing_here"] (sp_law_due K n)
  | 0 => Cal.of (k := 1) (st := s_law_due) T.d_law_due sc_law_due (fun _ _ _ _ _ _ us hl => match us, hl with | [_, _, _, _], _ => rfl) (fun vs H Q E h => (no_law_due K h).elim) fun f cdv A outer s H vs Q E hr h => (no_law_due K h).elim
  | n + 1 => by
    have ih := ok_law_due (P := P) (w := w) (base := base) T n
    refine Cal.of (k := 2 + n) (st := s_law_due) T.d_law_due sc_law_due (fun _ _ _ _ _ _ us hl => match us, hl with | [_, _, _, _], _ => rfl) (len_law_due K n) fun f cdv A outer s H vs Q E hr h => ⟨t_law_due K n, ?_, p_law_due K n vs H Q E h⟩
    unfold t_law_due b_law_due_0 b_law_due_1 b_law_due_2
    exact (pss_cons (ps_if (pt_cmpR (u_eq hr.units) (pe_ix u_ix (pv 1) pe_int (fun _ _ => rfl)) pe_str (nomark _))
 (pss_cons (ps_if (pt_cmpR u_isN (pv 3) pe_non (nomark _))
 (pss_one (ps_ret (pe_ifExp (pt_cmpR (u_eq hr.units) (pe_ix u_ix (pv 2) pe_int (fun _ _ => rfl)) pe_str (nomark _)) (pe_tup (pa_cons pe_str (pa_cons pe_non pa_nil))) (pe_tup (pa_cons pe_str (pa_cons (pv 0) (pa_cons pe_str pa_nil)))))))
 pss_nil)
 (pss_one (ps_par (i := 0) (j := 1) rfl sc_law_due.nd rfl rfl (by decide) rfl rfl (pa_cons (pe_op u_addA (pv 0) (pe_tup (pa_cons (pe_tup (pa_cons pe_str pa_nil)) pa_nil))) (pa_cons (pe_ix u_ix (pv 1) pe_int (fun _ _ => rfl)) pa_nil)) (by rfl))))
 pss_nil)
 (pss_cons (ps_if (pt_cmpR (u_eq hr.units) (pe_ix u_ix (pv 2) pe_int (fun _ _ => rfl)) pe_str (nomark _))
 (pss_one (ps_set (i := 2) sc_law_due.nd rfl (by first | exact Or.inl rfl | exact Or.inr rfl) (pe_ix u_ix (pv 2) pe_int (fun _ _ => rfl))))
 pss_nil)
 (pss_cons (ps_if (pt_cmpR (u_ne hr.units) (pe_ix u_ix (pv 1) pe_int (fun _ _ => rfl)) (pe_ix u_ix (pv 2) pe_int (fun _ _ => rfl)) (nomark _))
 (pss_one (ps_ret (pe_tup (pa_cons pe_str (pa_cons (pv 0) (pa_cons pe_str pa_nil))))))
 pss_nil)
 (pss_cons (ps_if (PW.pt (pw_and (pt_cmpR (u_eq hr.units) (pe_ix u_ix (pv 1) pe_int (fun _ _ => rfl)) pe_str (nomark _)) (pw_and1 (pt_not (pt_truth (pe_callC (ok_law_within T) (hr.mono (by omega)) (by rfl) pass0 (pa_cons (pv 3) (pa_cons (pe_ix u_ix (pv 2) pe_int (fun _ _ => rfl)) (pa_cons (pe_ix u_ix (pv 2) pe_int (fun _ _ => rfl)) pa_nil)))) (by intro _; rfl))))))
 (pss_one (ps_ret (pe_tup (pa_cons pe_str (pa_cons (pv 0) (pa_cons pe_str pa_nil))))))
 pss_nil)
 (pss_cons (ps_if (PW.pt (pw_and (pt_cmpR u_in (pe_ix u_ix (pv 1) pe_int (fun _ _ => rfl)) (pe_lst (pa_cons pe_str (pa_cons pe_str pa_nil))) (by rfl)) (pw_and1 (pt_cmpR u_gt (pe_callB u_len (by rfl) T.m_len PySem.boot_len (pa_cons (pv 3) pa_nil)) (pe_ix u_ix (pv 2) pe_int (fun _ _ => rfl)) (nomark _)))))
 (pss_one (ps_ret (pe_tup (pa_cons pe_str (pa_cons (pv 0) (pa_cons pe_str pa_nil))))))
 pss_nil)
 (pss_cons (ps_if (pt_cmpR (u_ne hr.units) (pe_ix u_ix (pv 1) pe_int (fun _ _ => rfl)) pe_str (nomark _))
 (pss_one (ps_ret (pe_tup (pa_cons pe_str (pa_cons (pv 3) pa_nil)))))
 pss_nil)
 (pss_cons (ps_set (i := 4) sc_law_due.nd rfl (by first | exact Or.inl rfl | exact Or.inr rfl) (pe_lst pa_nil))
 (pss_cons (ps_for PassesOwn.never rfl (pi_enumV (by rfl) T.m_enumerate (pv 3)) (pg_tup (by rfl) (pgs_cons (pg_name (i := 5) sc_law_due.nd rfl (by first | exact Or.inl rfl | exact Or.inr rfl)) (pgs_cons (pg_name (i := 6) sc_law_due.nd rfl (by first | exact Or.inl rfl | exact Or.inr rfl)) pgs_nil)))
 (pss_cons (ps_set (i := 7) sc_law_due.nd rfl (by first | exact Or.inl rfl | exact Or.inr rfl) (pe_callC ih (hr.mono (by omega)) (by rfl) pass0 (pa_cons (pe_op u_addA (pv 0) (pe_tup (pa_cons (pv 5) pa_nil))) (pa_cons (pe_ix u_ix (pv 1) pe_int (fun _ _ => rfl)) (pa_cons (pe_ix u_ix (pv 2) pe_int (fun _ _ => rfl)) (pa_cons (pv 6) pa_nil))))))
 (pss_cons (ps_if (pt_cmpR (u_eq hr.units) (pe_ix u_ix (pv 7) pe_int (fun _ _ => rfl)) pe_str (nomark _))
 (pss_one (ps_ret (pv 7)))
 pss_nil)
 (pss_one (ps_expr (pe_bm PySem.F.plainAttrs_list PySem.F.slot_list_append PySem.F.type_list_append u_append (pv 4) (pa_cons (pe_ix u_ix (pv 7) pe_int (fun _ _ => rfl)) pa_nil)))))))
 (pss_one (ps_ret (pe_tup (pa_cons pe_str (pa_cons (pe_callTy u_tuple (by rfl) T.m_tuple (by decide +kernel) (pa_cons (pv 4) pa_nil)) pa_nil)))))))))))))

theorem sc_law_same : FnScope ["_law_found_here", "_law_due_here", "_law_one", "_law_other"] ["_law_found_here", "_law_due_here"] (defScope s_law_same) := ⟨rfl, rfl, rfl, by decide +kernel, rfl, by decide +kernel, by decide +kernel⟩
theorem ok_law_same {P : Program} {w : World} {K : PySem.W.Frag} {mg : Str → Option Value} {base : Heap} {C : Addr} (T : Txt K mg C) : ∀ n : Nat, Cal P w K mg base CX0 (1 + n) "_law_same" ["_law_found_here", "_law_due_here"] (sp_law_same K n)
  | 0 => Cal.of (k := 0) (st := s_law_same) T.d_law_same sc_law_same (fun _ _ _ _ _ _ us hl => match us, hl with | [_, _], _ => rfl) (fun vs H Q E h => (no_law_same K h).elim) fun f cdv A outer s H vs Q E hr h => (no_law_same K h).elim
  | n + 1 => by
    have ih := ok_law_same (P := P) (w := w) (base := base) T n
    refine Cal.of (k := 1 + n) (st := s_law_same) T.d_law_same sc_law_same (fun _ _ _ _ _ _ us hl => match us, hl with | [_, _], _ => rfl) (len_law_same K n) fun f cdv A outer s H vs Q E hr h => ⟨t_law_same K n, ?_, p_law_same K n vs H Q E h⟩
    exact (pss_cons (ps_if (pt_truth (pe_callB u_isi (by rfl) T.m_isinstance (by decide +kernel) (pa_cons (pv 1) (pa_cons (pe_bltn (v := .ty "tuple") (by rfl) T.m_tuple (by decide +kernel) rfl) pa_nil))) (by intro _; rfl))
 (pss_cons (ps_if (PW.pt (pw_or (pt_not (pt_truth (pe_callB u_isi (by rfl) T.m_isinstance (by decide +kernel) (pa_cons (pv 0) (pa_cons (pe_bltn (v := .ty "tuple") (by rfl) T.m_tuple (by decide +kernel) rfl) pa_nil))) (by intro _; rfl))) (pw_or1 (pt_cmpR (u_ne hr.units) (pe_callB u_len (by rfl) T.m_len PySem.boot_len (pa_cons (pv 0) pa_nil)) (pe_callB u_len (by rfl) T.m_len PySem.boot_len (pa_cons (pv 1) pa_nil)) (nomark _)))))
 (pss_one (ps_ret pe_bl))
 pss_nil)
 (pss_one (ps_ret (pe_callB (u_all rfl) (by rfl) T.m_all (by decide +kernel) (pa_cons (pe_lc (own := [("_law_one", 2), ("_law_other", 3)]) (g := (gTup K 2 (gCons (gName 2) (gCons (gName 3) gNil)))) (tt := tYes) rfl sc_law_same.nd (RZ.pi_zipA (by rfl) T.m_zip (pa_cons (pv 0) (pa_cons (pv 1) pa_nil))) (blkOk_by (N := ["_law_found_here", "_law_due_here", "_law_one", "_law_other"]) (sc := (defScope s_law_same)) (own := [("_law_one", 2), ("_law_other", 3)]) (by decide +kernel)) (fun _ _ _ _ _ => (pg_tup (by rfl) (pgs_cons (pg_name (i := 2) sc_law_same.nd rfl (by first | exact Or.inl rfl | exact Or.inr rfl)) (pgs_cons (pg_name (i := 3) sc_law_same.nd rfl (by first | exact Or.inl rfl | exact Or.inr rfl)) pgs_nil)))) (fun _ _ _ _ _ => pts_nil) (fun _ _ _ _ _ => (pe_callC ih (hr.mono (by omega)) (by rfl) pass0 (pa_cons (pv 2) (pa_cons (pv 3) pa_nil))))) pa_nil)))))
 pss_nil)
 (pss_cons (ps_if (pt_cmpR u_isN (pv 1) pe_non (nomark _))
 (pss_one (ps_ret (pe_cmpR u_isN (pv 0) pe_non (nomark _))))
 pss_nil)
 (pss_cons (ps_if (pt_truth (pe_callB u_isi (by rfl) T.m_isinstance (by decide +kernel) (pa_cons (pv 1) (pa_cons (pe_bltn (v := .ty "str") (by rfl) T.m_str (by decide +kernel) rfl) pa_nil))) (by intro _; rfl))
 (pss_one (ps_ret (pe_and (pe_callB u_isi (by rfl) T.m_isinstance (by decide +kernel) (pa_cons (pv 0) (pa_cons (pe_bltn (v := .ty "str") (by rfl) T.m_str (by decide +kernel) rfl) pa_nil))) (pe_one (pe_cmpR (u_eq hr.units) (pv 0) (pv 1) (nomark _))))))
 pss_nil)
 (pss_one (ps_ret (pe_and (pe_callB u_isi (by rfl) T.m_isinstance (by decide +kernel) (pa_cons (pv 0) (pa_cons (pe_bltn (v := .ty "int") (by rfl) T.m_int (by decide +kernel) rfl) pa_nil))) (pe_and (pe_cmpR (u_eq hr.units) (pe_callB u_isi (by rfl) T.m_isinstance (by decide +kernel) (pa_cons (pv 0) (pa_cons (pe_bltn (v := .ty "bool") (by rfl) T.m_bool (by decide +kernel) rfl) pa_nil))) (pe_callB u_isi (by rfl) T.m_isinstance (by decide +kernel) (pa_cons (pv 1) (pa_cons (pe_bltn (v := .ty "bool") (by rfl) T.m_bool (by decide +kernel) rfl) pa_nil))) (nomark _)) (pe_one (pe_cmpR (u_eq hr.units) (pv 0) (pv 1) (nomark _))))))))))

theorem sc_law_found : FnScope ["_law_old", "_law_new", "_law_thing_here", "_law_found_here", "e", "_law_others"] ["_law_old", "_law_new", "_law_thing_here"] (defScope s_law_found) := ⟨rfl, rfl, rfl, by decide +kernel, rfl, by decide +kernel, by decide +kernel⟩
theorem ok_law_found {P : Program} {w : World} {K : PySem.W.Frag} {mg : Str → Option Value} {base : Heap} {C : Addr} (T : Txt K mg C) : Cal P w K mg base CX0 7 "_law_found" ["_law_old", "_law_new", "_law_thing_here"] (sp_law_found K) := by
  refine Cal.of (st := s_law_found) T.d_law_found sc_law_found (fun _ _ _ _ _ _ us hl => match us, hl with | [_, _, _], _ => rfl) (len_law_found K) fun f cdv A outer s H vs Q E hr h => ⟨t_law_found K, ?_, p_law_found K T.xk vs H Q E h⟩
  exact (pss_cons (ps_try_as (i := 4) (tb := fun W => (tAsg (tCallS (sp_turned K) (WE W) (tCons (tVar 0) (tCons (tVar 1) (tCons (tVar 2) tNil)))) (gName 3))) (ts := fun a cls d => (tSeq (tAsg (tCB (rIsX2 K a cls d) (tCons (tVar 4) (tCons (tTup (tCons (tC (.ref (cAt K "NoBytes"))) (tCons (tC (.ref (cAt K "NoEdition"))) (tCons (tC (.ref (cAt K "NoLine"))) (tCons (tC (.ref (cAt K "NoMeeting"))) (tCons (tC (.ref (cAt K "NoQuestion"))) (tCons (tC (.ref (cAt K "NoSchema"))) (tCons (tC (.ref (cAt K "NoText"))) (tCons (tC (.ref (cAt K "NoThing"))) (tCons (tC (.ref (cAt K "NoWire"))) tNil)))))))))) tNil))) (gName 5))
 (tSeq (tIfS (tOr (tTru K (tVar 5)) (tOr (tNot (tTru K (tCB (rIsX2 K a cls d) (tCons (tVar 4) (tCons (tC (.ref (cAt K "NoTurn"))) tNil))))) (tNot (tTru K (tCB (rIsX2 K a cls d) (tCons (tVar 4) (tCons (tC (.ty "ValueError")) tNil)))))))
 (tRet (tTup (tCons (tC (.str (PySem.Str.ofString "another"))) (tCons (tC .non) tNil))))
 tNext)
 (tRet (tTup (tCons (tC (.str (PySem.Str.ofString "refused"))) (tCons (tXf a cls d (cAt K "NoTurn") "path" (tVar 4)) (tCons (tXf a cls d (cAt K "NoTurn") "why" (tVar 4)) tNil)))))))) (Wout := fun _ _ _ _ => False) rfl rfl sc_law_found.nd rfl rfl ⟨rfl, by decide, Or.inl T.g_WireError⟩ takes_none
 (fun W pn xe tk po => (pss_one (ps_set (i := 3) sc_law_found.nd rfl (by first | exact Or.inl rfl | exact Or.inr rfl) (pe_callCS (ok_turned T) (hr.mono (by omega)) (by rfl) (fun σ => passAt tk σ) (pa_cons (pv 0) (pa_cons (pv 1) (pa_cons (pv 2) pa_nil)))))))
 (fun a oe cls d pn hz hf => (pss_cons (ps_set (i := 5) sc_law_found.nd rfl (by first | exact Or.inl rfl | exact Or.inr rfl) (pe_callB (call_isX2 hz hf) (by rfl) T.m_isinstance (by decide +kernel) (pa_cons (pv 4) (pa_cons (pe_tup (pa_cons (pe_gref (by rfl) T.g_NoBytes) (pa_cons (pe_gref (by rfl) T.g_NoEdition) (pa_cons (pe_gref (by rfl) T.g_NoLine) (pa_cons (pe_gref (by rfl) T.g_NoMeeting) (pa_cons (pe_gref (by rfl) T.g_NoQuestion) (pa_cons (pe_gref (by rfl) T.g_NoSchema) (pa_cons (pe_gref (by rfl) T.g_NoText) (pa_cons (pe_gref (by rfl) T.g_NoThing) (pa_cons (pe_gref (by rfl) T.g_NoWire) pa_nil)))))))))) pa_nil))))
 (pss_cons (ps_if (PW.pt (pw_or (pt_truth (pv 5) (by intro _; rfl)) (pw_or (pt_not (pt_truth (pe_callB (call_isX2 hz hf) (by rfl) T.m_isinstance (by decide +kernel) (pa_cons (pv 4) (pa_cons (pe_gref (by rfl) T.g_NoTurn) pa_nil))) (by intro _; rfl))) (pw_or1 (pt_not (pt_truth (pe_callB (call_isX2 hz hf) (by rfl) T.m_isinstance (by decide +kernel) (pa_cons (pv 4) (pa_cons (pe_bltn (v := .ty "ValueError") (by rfl) T.m_ValueError (by decide +kernel) rfl) pa_nil))) (by intro _; rfl)))))))
 (pss_one (ps_ret (pe_tup (pa_cons pe_str (pa_cons pe_non pa_nil)))))
 pss_nil)
 (pss_one (ps_ret (pe_tup (pa_cons pe_str (pa_cons (pe_xf T.x_NoTurn.xf T.xn_NoTurn_path hz hf (pv 4)) (pa_cons (pe_xf T.x_NoTurn.xf T.xn_NoTurn_why hz hf (pv 4)) pa_nil))))))))))
 (pss_one (ps_ret (pe_tup (pa_cons pe_str (pa_cons (pv 3) pa_nil))))))

theorem sc_law : FnScope ["_law_script", "_law_cell", "_law_well", "_law_sort_here", "_law_other", "_law_old", "_law_new", "_law_turn", "_law_thing_here", "_law_due_here"] ["_law_script"] (defScope s_law) := ⟨rfl, rfl, rfl, by decide +kernel, rfl, by decide +kernel, by decide +kernel⟩
theorem ok_law {P : Program} {w : World} {K : PySem.W.Frag} {mg : Str → Option Value} {base : Heap} {C : Addr} {Pt : Tb} (T : Txt K mg C) (B : Tbs K mg base Pt) : Cal P w K mg base CX0 13 "law" ["_law_script"] (sp_law K Pt) := by
  refine Cal.of (st := s_law) T.d_law sc_law (fun _ _ _ _ _ _ us hl => match us, hl with | [_], _ => rfl) (len_law K Pt) fun f cdv A outer s H vs Q E hr h => ⟨t_law K C Pt, ?_, p_law K C T.own Pt vs H Q E h⟩
  exact (pss_cons (ps_for PassesOwn.never rfl (pi_list (pe_slice u_slL (pe_op u_add (pv 0) (pe_lst (pa_cons pe_int pa_nil))) po_none (po_some pe_int))) (pg_name (i := 1) sc_law.nd rfl (by first | exact Or.inl rfl | exact Or.inr rfl))
 (pss_cons (ps_set (i := 2) sc_law.nd rfl (by first | exact Or.inl rfl | exact Or.inr rfl) (pe_lst (pa_cons (pv 1) (pa_cons pe_int pa_nil))))
 (pss_cons (ps_set (i := 3) sc_law.nd rfl (by first | exact Or.inl rfl | exact Or.inr rfl) (pe_callC (ok_law_sort T 3) (hr.mono (by omega)) (by rfl) pass0 (pa_cons (pv 2) (pa_cons pe_int pa_nil))))
 (pss_cons (ps_set (i := 4) sc_law.nd rfl (by first | exact Or.inl rfl | exact Or.inr rfl) (pe_callC (ok_law_near T 4) (hr.mono (by omega)) (by rfl) pass0 (pa_cons (pv 2) (pa_cons (pv 3) (pa_cons pe_int pa_nil)))))
 (pss_cons (ps_set (i := 5) sc_law.nd rfl (by first | exact Or.inl rfl | exact Or.inr rfl) (pe_makeKO (n := 1) (ks := ["root"]) [("choices", .non)] (fun us mv ws => us ++ mv ++ ws) T.mk_Schema T.kc_Schema (ok_Schema___init__ T B) (by simp) (fun q hq => hq) (fun r d z => ((r.append d).append z)) (fun _ _ _ _ _ _ us mv ws h1 h2 h3 => match us, mv, ws, h1, h2, h3 with | [_, _], [_], [_], _, _, _ => ⟨_, _, _, _, _, _, rfl, rfl, rfl⟩) (hr.mono (by omega)) (by rfl) T.g_Schema pass0 (pa_cons pe_dnewK pa_nil) (pk_cons (pv 3) pk_nil)))
 (pss_cons (ps_set (i := 6) sc_law.nd rfl (by first | exact Or.inl rfl | exact Or.inr rfl) (pe_makeKO (n := 1) (ks := ["root"]) [("choices", .non)] (fun us mv ws => us ++ mv ++ ws) T.mk_Schema T.kc_Schema (ok_Schema___init__ T B) (by simp) (fun q hq => hq) (fun r d z => ((r.append d).append z)) (fun _ _ _ _ _ _ us mv ws h1 h2 h3 => match us, mv, ws, h1, h2, h3 with | [_, _], [_], [_], _, _, _ => ⟨_, _, _, _, _, _, rfl, rfl, rfl⟩) (hr.mono (by omega)) (by rfl) T.g_Schema pass0 (pa_cons pe_dnewK pa_nil) (pk_cons (pv 4) pk_nil)))
 (pss_one (ps_for PassesOwn.never rfl (pi_range1 (by rfl) T.m_range (pa_cons pe_int pa_nil)) (pg_name (i := 7) sc_law.nd rfl (by first | exact Or.inl rfl | exact Or.inr rfl))
 (pss_cons (ps_set (i := 8) sc_law.nd rfl (by first | exact Or.inl rfl | exact Or.inr rfl) (pe_callC (ok_law_thing T 4) (hr.mono (by omega)) (by rfl) pass0 (pa_cons (pv 2) (pa_cons (pv 3) pa_nil))))
 (pss_cons (ps_set (i := 9) sc_law.nd rfl (by first | exact Or.inl rfl | exact Or.inr rfl) (pe_callC (ok_law_due T 4) (hr.mono (by omega)) (by rfl) pass0 (pa_cons (pe_tup pa_nil) (pa_cons (pv 3) (pa_cons (pv 4) (pa_cons (pv 8) pa_nil))))))
 (pss_cons (ps_if (pt_not (pt_truth (pe_callC (ok_law_same T 6) (hr.mono (by omega)) (by rfl) pass0 (pa_cons (pe_callC (ok_law_found T) (hr.mono (by omega)) (by rfl) pass0 (pa_cons (pv 5) (pa_cons (pv 6) (pa_cons (pv 8) pa_nil)))) (pa_cons (pv 9) pa_nil))) (by intro _; rfl)))
 (pss_one (ps_ret pe_bl))
 pss_nil)
 (pss_one (ps_if (pt_not (pt_truth (pe_callC (ok_law_same T 6) (hr.mono (by omega)) (by rfl) pass0 (pa_cons (pe_callC (ok_law_found T) (hr.mono (by omega)) (by rfl) pass0 (pa_cons (pv 5) (pa_cons (pv 5) (pa_cons (pv 8) pa_nil)))) (pa_cons (pe_tup (pa_cons pe_str (pa_cons (pv 8) pa_nil))) pa_nil))) (by intro _; rfl)))
 (pss_one (ps_ret pe_bl))
 pss_nil)))))))))))))
 (pss_one (ps_ret pe_bl)))

theorem txt_mk {K : PySem.W.Frag} {h : Heap} {mg : Str → Option Value} (X : K.In h) (G : h.Ns mainGlobals mg)
    {C_WireError : Addr} {C_NoTurn : Addr} {nm_NoTurn q_NoTurn : Str} {N_NoTurn : Addr} {bs_NoTurn : List Value} {sn_NoTurn : List Str} {sub_NoTurn : List Value} {ab_NoTurn : Bool} {col_NoTurn : Option Bool} {dd_NoTurn : Option Addr} {m0_NoTurn m1_NoTurn m2_NoTurn m3_NoTurn m5_NoTurn : Option Value} {C_NoBytes : Addr} {C_NoEdition : Addr} {C_NoLine : Addr} {C_NoMeeting : Addr} {C_NoQuestion : Addr} {C_NoSchema : Addr} {C_NoText : Addr} {C_NoThing : Addr} {C_NoWire : Addr} {C_INSIDE : Addr} {C : Addr} {C_Turning : Addr} {C_Schema : Addr} {n_INSIDE : Nat} {s_INSIDE : Array (Option Value)} {tk_INSIDE0 : Tok} {f_NoTurn___init__ : Addr} {od_NoTurn___init__ an_NoTurn___init__ : Option Addr} {sl_NoTurn___init__ : Array (Option Value)} {oc_NoTurn___init__ kV_NoTurn___init__ dc_NoTurn___init__ pm_NoTurn___init__ cd_NoTurn___init__ ct_NoTurn___init__ : Value} {f_is_whole : Addr} {od_is_whole an_is_whole : Option Addr} {sl_is_whole : Array (Option Value)} {oc_is_whole kV_is_whole dc_is_whole pm_is_whole cd_is_whole ct_is_whole : Value} {f_is_within : Addr} {od_is_within an_is_within : Option Addr} {sl_is_within : Array (Option Value)} {oc_is_within kV_is_within dc_is_within pm_is_within cd_is_within ct_is_within : Value} {f_is_row : Addr} {od_is_row an_is_row : Option Addr} {sl_is_row : Array (Option Value)} {oc_is_row kV_is_row dc_is_row pm_is_row cd_is_row ct_is_row : Value} {f_left_of : Addr} {od_left_of an_left_of : Option Addr} {sl_left_of : Array (Option Value)} {oc_left_of kV_left_of dc_left_of pm_left_of cd_left_of ct_left_of : Value} {f_Turning___init__ : Addr} {od_Turning___init__ an_Turning___init__ : Option Addr} {sl_Turning___init__ : Array (Option Value)} {oc_Turning___init__ kV_Turning___init__ dc_Turning___init__ pm_Turning___init__ cd_Turning___init__ ct_Turning___init__ : Value} {f_Turning_beneath_maybe : Addr} {od_Turning_beneath_maybe an_Turning_beneath_maybe : Option Addr} {sl_Turning_beneath_maybe : Array (Option Value)} {oc_Turning_beneath_maybe kV_Turning_beneath_maybe dc_Turning_beneath_maybe pm_Turning_beneath_maybe cd_Turning_beneath_maybe ct_Turning_beneath_maybe : Value} {f_Turning_beneath : Addr} {od_Turning_beneath an_Turning_beneath : Option Addr} {sl_Turning_beneath : Array (Option Value)} {oc_Turning_beneath kV_Turning_beneath dc_Turning_beneath pm_Turning_beneath cd_Turning_beneath ct_Turning_beneath : Value} {f_Turning_go_through : Addr} {od_Turning_go_through an_Turning_go_through : Option Addr} {sl_Turning_go_through : Array (Option Value)} {oc_Turning_go_through kV_Turning_go_through dc_Turning_go_through pm_Turning_go_through cd_Turning_go_through ct_Turning_go_through : Value} {f_Turning_turn : Addr} {od_Turning_turn an_Turning_turn : Option Addr} {sl_Turning_turn : Array (Option Value)} {oc_Turning_turn kV_Turning_turn dc_Turning_turn pm_Turning_turn cd_Turning_turn ct_Turning_turn : Value} {f_turned : Addr} {od_turned an_turned : Option Addr} {sl_turned : Array (Option Value)} {oc_turned kV_turned dc_turned pm_turned cd_turned ct_turned : Value} {f_is_name : Addr} {od_is_name an_is_name : Option Addr} {sl_is_name : Array (Option Value)} {oc_is_name kV_is_name dc_is_name pm_is_name cd_is_name ct_is_name : Value} {f_is_bounds : Addr} {od_is_bounds an_is_bounds : Option Addr} {sl_is_bounds : Array (Option Value)} {oc_is_bounds kV_is_bounds dc_is_bounds pm_is_bounds cd_is_bounds ct_is_bounds : Value} {f_is_known : Addr} {od_is_known an_is_known : Option Addr} {sl_is_known : Array (Option Value)} {oc_is_known kV_is_known dc_is_known pm_is_known cd_is_known ct_is_known : Value} {f_is_sort D_is_sort : Addr} {od_is_sort an_is_sort od2_is_sort : Option Addr} {sl_is_sort sl2_is_sort : Array (Option Value)} {oc_is_sort kV_is_sort dc_is_sort pm_is_sort cd_is_sort ct_is_sort oc2_is_sort : Value} {n2_is_sort : Nat} {tk_is_sort : Tok} {f_is_default : Addr} {od_is_default an_is_default : Option Addr} {sl_is_default : Array (Option Value)} {oc_is_default kV_is_default dc_is_default pm_is_default cd_is_default ct_is_default : Value} {f_refuse_if : Addr} {od_refuse_if an_refuse_if : Option Addr} {sl_refuse_if : Array (Option Value)} {oc_refuse_if kV_refuse_if dc_refuse_if pm_refuse_if cd_refuse_if ct_refuse_if : Value} {f_look_at_heading : Addr} {od_look_at_heading an_look_at_heading : Option Addr} {sl_look_at_heading : Array (Option Value)} {oc_look_at_heading kV_look_at_heading dc_look_at_heading pm_look_at_heading cd_look_at_heading ct_look_at_heading : Value} {f_look_at_part : Addr} {od_look_at_part an_look_at_part : Option Addr} {sl_look_at_part : Array (Option Value)} {oc_look_at_part kV_look_at_part dc_look_at_part pm_look_at_part cd_look_at_part ct_look_at_part : Value} {f_Schema_comes_back : Addr} {od_Schema_comes_back an_Schema_comes_back : Option Addr} {sl_Schema_comes_back : Array (Option Value)} {oc_Schema_comes_back kV_Schema_comes_back dc_Schema_comes_back pm_Schema_comes_back cd_Schema_comes_back ct_Schema_comes_back : Value} {f_Schema___init__ D_Schema___init__ : Addr} {od_Schema___init__ an_Schema___init__ : Option Addr} {sl_Schema___init__ : Array (Option Value)} {oc_Schema___init__ dc_Schema___init__ pm_Schema___init__ cd_Schema___init__ ct_Schema___init__ : Value} {f_law_draw : Addr} {od_law_draw an_law_draw : Option Addr} {sl_law_draw : Array (Option Value)} {oc_law_draw kV_law_draw dc_law_draw pm_law_draw cd_law_draw ct_law_draw : Value} {f_law_bound : Addr} {od_law_bound an_law_bound : Option Addr} {sl_law_bound : Array (Option Value)} {oc_law_bound kV_law_bound dc_law_bound pm_law_bound cd_law_bound ct_law_bound : Value} {f_law_leaf : Addr} {od_law_leaf an_law_leaf : Option Addr} {sl_law_leaf : Array (Option Value)} {oc_law_leaf kV_law_leaf dc_law_leaf pm_law_leaf cd_law_leaf ct_law_leaf : Value} {f_law_sort : Addr} {od_law_sort an_law_sort : Option Addr} {sl_law_sort : Array (Option Value)} {oc_law_sort kV_law_sort dc_law_sort pm_law_sort cd_law_sort ct_law_sort : Value} {f_law_near : Addr} {od_law_near an_law_near : Option Addr} {sl_law_near : Array (Option Value)} {oc_law_near kV_law_near dc_law_near pm_law_near cd_law_near ct_law_near : Value} {f_law_thing : Addr} {od_law_thing an_law_thing : Option Addr} {sl_law_thing : Array (Option Value)} {oc_law_thing kV_law_thing dc_law_thing pm_law_thing cd_law_thing ct_law_thing : Value} {f_law_within : Addr} {od_law_within an_law_within : Option Addr} {sl_law_within : Array (Option Value)} {oc_law_within kV_law_within dc_law_within pm_law_within cd_law_within ct_law_within : Value} {f_law_due : Addr} {od_law_due an_law_due : Option Addr} {sl_law_due : Array (Option Value)} {oc_law_due kV_law_due dc_law_due pm_law_due cd_law_due ct_law_due : Value} {f_law_same : Addr} {od_law_same an_law_same : Option Addr} {sl_law_same : Array (Option Value)} {oc_law_same kV_law_same dc_law_same pm_law_same cd_law_same ct_law_same : Value} {f_law_found : Addr} {od_law_found an_law_found : Option Addr} {sl_law_found : Array (Option Value)} {oc_law_found kV_law_found dc_law_found pm_law_found cd_law_found ct_law_found : Value} {f_law : Addr} {od_law an_law : Option Addr} {sl_law : Array (Option Value)} {oc_law kV_law dc_law pm_law cd_law ct_law : Value}
    (z_ValueError : PySem.W.nsIn K mainGlobals "ValueError" = some none) (z_abs : PySem.W.nsIn K mainGlobals "abs" = some none) (z_all : PySem.W.nsIn K mainGlobals "all" = some none) (z_bool : PySem.W.nsIn K mainGlobals "bool" = some none) (z_enumerate : PySem.W.nsIn K mainGlobals "enumerate" = some none) (z_int : PySem.W.nsIn K mainGlobals "int" = some none) (z_isinstance : PySem.W.nsIn K mainGlobals "isinstance" = some none) (z_len : PySem.W.nsIn K mainGlobals "len" = some none) (z_list : PySem.W.nsIn K mainGlobals "list" = some none) (z_max : PySem.W.nsIn K mainGlobals "max" = some none) (z_min : PySem.W.nsIn K mainGlobals "min" = some none) (z_range : PySem.W.nsIn K mainGlobals "range" = some none) (z_sorted : PySem.W.nsIn K mainGlobals "sorted" = some none) (z_str : PySem.W.nsIn K mainGlobals "str" = some none) (z_tuple : PySem.W.nsIn K mainGlobals "tuple" = some none) (z_zip : PySem.W.nsIn K mainGlobals "zip" = some none) {k_GREATEST : Tok} (y_GREATEST : PySem.W.nsIn K mainGlobals "GREATEST" = some (some (.int 999999999999999999999999999999999999999999999999999999999999 k_GREATEST))) {k_LETTERS : Tok} (y_LETTERS : PySem.W.nsIn K mainGlobals "LETTERS" = some (some (.str (PySem.Str.ofString "abcdefghijklmnopqrstuvwxyz") k_LETTERS))) {k_MOST_SIGNS : Tok} (y_MOST_SIGNS : PySem.W.nsIn K mainGlobals "MOST_SIGNS" = some (some (.int 8 k_MOST_SIGNS))) {k_MOST_NUMBER : Tok} (y_MOST_NUMBER : PySem.W.nsIn K mainGlobals "MOST_NUMBER" = some (some (.int 99 k_MOST_NUMBER))) {k_MOST_TEXT : Tok} (y_MOST_TEXT : PySem.W.nsIn K mainGlobals "MOST_TEXT" = some (some (.int 40 k_MOST_TEXT))) {k_MOST_ROW : Tok} (y_MOST_ROW : PySem.W.nsIn K mainGlobals "MOST_ROW" = some (some (.int 20 k_MOST_ROW))) {k_MOST_DEEP : Tok} (y_MOST_DEEP : PySem.W.nsIn K mainGlobals "MOST_DEEP" = some (some (.int 3 k_MOST_DEEP))) (at_WireError : PySem.W.nsIn K mainGlobals "WireError" = some (some (.ref C_WireError))) (at_NoTurn : PySem.W.nsIn K mainGlobals "NoTurn" = some (some (.ref C_NoTurn))) (xl_NoTurn : K.lookup C_NoTurn = some (excClassObj nm_NoTurn q_NoTurn C_NoTurn N_NoTurn bs_NoTurn [.ref C_WireError, .type "ValueError", .type "Exception", .type "BaseException", .type "object"] true sn_NoTurn sub_NoTurn ab_NoTurn col_NoTurn dd_NoTurn m0_NoTurn m1_NoTurn m2_NoTurn m3_NoTurn m5_NoTurn "ValueError.__new__")) (sa_NoTurn : PySem.W.findIn K (.ref C_NoTurn) "__setattr__" = some (some (.builtin "object.__setattr__"))) (eC_NoTurn : PySem.W.subIn K (.ref C_NoTurn) (.type "BaseException") = some true) (tC_NoTurn : PySem.W.typeIn K (.ref C_NoTurn) = some (.type "type")) (kC_NoTurn : PySem.W.keepIn K (.ref C_NoTurn) = true) (ga_NoTurn : PySem.W.findIn K (.ref C_NoTurn) "__getattribute__" = some (some (.builtin "BaseException.__getattribute__"))) (gg_NoTurn : PySem.W.findIn K (.ref C_NoTurn) "__getattr__" = some none) (hd_NoTurn : PySem.W.hasDictIn K C_NoTurn = true) (ic_NoTurn : PySem.W.isClsIn K C_NoTurn = true) (ha_NoTurn : PySem.W.findIn K (.ref C_NoTurn) "__class__" = some (some (.builtin "object.__class__"))) (hn_NoTurn : PySem.W.specialIn K (.builtin "object.__class__") "__get__" = some (some (.builtin "getset_descriptor.__get__"))) (ht_NoTurn : PySem.W.takesIn K (.builtin "object.__class__") = some true) (hm_NoTurn : PySem.W.mroIn K C_NoTurn (.type "object") = some true) (no_NoTurn_path : PySem.W.findIn K (.ref C_NoTurn) "path" = some none) (no_NoTurn_why : PySem.W.findIn K (.ref C_NoTurn) "why" = some none) (at_NoBytes : PySem.W.nsIn K mainGlobals "NoBytes" = some (some (.ref C_NoBytes))) (at_NoEdition : PySem.W.nsIn K mainGlobals "NoEdition" = some (some (.ref C_NoEdition))) (at_NoLine : PySem.W.nsIn K mainGlobals "NoLine" = some (some (.ref C_NoLine))) (at_NoMeeting : PySem.W.nsIn K mainGlobals "NoMeeting" = some (some (.ref C_NoMeeting))) (at_NoQuestion : PySem.W.nsIn K mainGlobals "NoQuestion" = some (some (.ref C_NoQuestion))) (at_NoSchema : PySem.W.nsIn K mainGlobals "NoSchema" = some (some (.ref C_NoSchema))) (at_NoText : PySem.W.nsIn K mainGlobals "NoText" = some (some (.ref C_NoText))) (at_NoThing : PySem.W.nsIn K mainGlobals "NoThing" = some (some (.ref C_NoThing))) (at_NoWire : PySem.W.nsIn K mainGlobals "NoWire" = some (some (.ref C_NoWire))) (kit_NoTurn_NoBytes : PySem.W.kitOne K (.ref C_NoTurn) (.ref C_NoBytes) = some false) (kit_NoTurn_NoEdition : PySem.W.kitOne K (.ref C_NoTurn) (.ref C_NoEdition) = some false) (kit_NoTurn_NoLine : PySem.W.kitOne K (.ref C_NoTurn) (.ref C_NoLine) = some false) (kit_NoTurn_NoMeeting : PySem.W.kitOne K (.ref C_NoTurn) (.ref C_NoMeeting) = some false) (kit_NoTurn_NoQuestion : PySem.W.kitOne K (.ref C_NoTurn) (.ref C_NoQuestion) = some false) (kit_NoTurn_NoSchema : PySem.W.kitOne K (.ref C_NoTurn) (.ref C_NoSchema) = some false) (kit_NoTurn_NoText : PySem.W.kitOne K (.ref C_NoTurn) (.ref C_NoText) = some false) (kit_NoTurn_NoThing : PySem.W.kitOne K (.ref C_NoTurn) (.ref C_NoThing) = some false) (kit_NoTurn_NoWire : PySem.W.kitOne K (.ref C_NoTurn) (.ref C_NoWire) = some false) (kit_NoTurn_NoTurn : PySem.W.kitOne K (.ref C_NoTurn) (.ref C_NoTurn) = some true) (kit_NoTurn_ValueError : PySem.W.kitOne K (.ref C_NoTurn) (.type "ValueError") = some true) (eC_WireError : PySem.W.subIn K (.ref C_WireError) (.type "BaseException") = some true) (tC_WireError : PySem.W.typeIn K (.ref C_WireError) = some (.type "type")) (hd_WireError : PySem.W.hasDictIn K C_WireError = true) (sub_NoTurn_WireError : PySem.W.subIn K (.ref C_NoTurn) (.ref C_WireError) = some true) (at_INSIDE : PySem.W.nsIn K mainGlobals "INSIDE" = some (some (.ref C_INSIDE))) (at_Turning : PySem.W.nsIn K mainGlobals "Turning" = some (some (.ref C_Turning))) (pg_Turning : PySem.W.plainGet K C_Turning Str.empty = true) (hd_Turning : PySem.W.hasDictIn K C_Turning = true) (po_Turning : PySem.W.plainOver K C_Turning = true) (sa_Turning : PySem.W.findIn K (.ref C_Turning) "__setattr__" = some (some (.builtin "object.__setattr__"))) (no_old_Turning : PySem.W.findIn K (.ref C_Turning) "old" = some none) (no_new_Turning : PySem.W.findIn K (.ref C_Turning) "new" = some none) (no_twins_Turning : PySem.W.findIn K (.ref C_Turning) "twins" = some none) (mk_Turning : PySem.W.makesIn K C_Turning = true) (kc_Turning : PySem.W.keepIn K (.ref C_Turning) = true) (mr_Turning : PySem.W.mroIn K C_Turning (.type "object") = some true) (eq_Turning : PySem.W.findIn K (.ref C_Turning) "__eq__" = some (some (.builtin "object.__eq__"))) (ha_Turning : PySem.W.findIn K (.ref C_Turning) "__class__" = some (some (.builtin "object.__class__"))) (hn_Turning : PySem.W.specialIn K (.builtin "object.__class__") "__get__" = some (some (.builtin "getset_descriptor.__get__"))) (ht_Turning : PySem.W.takesIn K (.builtin "object.__class__") = some true) (kb_Turning : PySem.W.kitOne K (.ref C_Turning) (.type "bool") = some false) (at_Schema : PySem.W.nsIn K mainGlobals "Schema" = some (some (.ref C_Schema))) (pg_Schema : PySem.W.plainGet K C_Schema Str.empty = true) (hd_Schema : PySem.W.hasDictIn K C_Schema = true) (po_Schema : PySem.W.plainOver K C_Schema = true) (sa_Schema : PySem.W.findIn K (.ref C_Schema) "__setattr__" = some (some (.builtin "object.__setattr__"))) (no_kinds_Schema : PySem.W.findIn K (.ref C_Schema) "kinds" = some none) (no_choices_Schema : PySem.W.findIn K (.ref C_Schema) "choices" = some none) (no_root_Schema : PySem.W.findIn K (.ref C_Schema) "root" = some none) (mk_Schema : PySem.W.makesIn K C_Schema = true) (kc_Schema : PySem.W.keepIn K (.ref C_Schema) = true) (mr_Schema : PySem.W.mroIn K C_Schema (.type "object") = some true) (eq_Schema : PySem.W.findIn K (.ref C_Schema) "__eq__" = some (some (.builtin "object.__eq__"))) (ha_Schema : PySem.W.findIn K (.ref C_Schema) "__class__" = some (some (.builtin "object.__class__"))) (hn_Schema : PySem.W.specialIn K (.builtin "object.__class__") "__get__" = some (some (.builtin "getset_descriptor.__get__"))) (ht_Schema : PySem.W.takesIn K (.builtin "object.__class__") = some true) (kb_Schema : PySem.W.kitOne K (.ref C_Schema) (.type "bool") = some false) (lk_INSIDE : K.lookup C_INSIDE = some ⟨.type "tuple", none, .seq #[.str (PySem.Str.ofString "inside") tk_INSIDE0] n_INSIDE, s_INSIDE⟩) (a_NoTurn___init__ : PySem.W.findIn K (.ref C_NoTurn) "__init__" = some (some (.ref f_NoTurn___init__))) (i_NoTurn___init__ : PySem.W.typeIn K (.ref f_NoTurn___init__) = some (.type "function")) (l_NoTurn___init__ : K.lookup f_NoTurn___init__ = some ⟨oc_NoTurn___init__, od_NoTurn___init__, .func (PySem.W.fnOf "__init__" "NoTurn.__init__" (defArgs s_NoTurn___init__) (defBody s_NoTurn___init__) (defScope s_NoTurn___init__) .none kV_NoTurn___init__ dc_NoTurn___init__ pm_NoTurn___init__ an_NoTurn___init__ cd_NoTurn___init__ ct_NoTurn___init__), sl_NoTurn___init__⟩) (q_NoTurn___init__ : PySem.W.codeIn K cd_NoTurn___init__ "NoTurn.__init__" = true) (k_NoTurn___init__ : PySem.W.keepIn K (.ref f_NoTurn___init__) = true) (a_is_whole : PySem.W.nsIn K mainGlobals "is_whole" = some (some (.ref f_is_whole))) (l_is_whole : K.lookup f_is_whole = some ⟨oc_is_whole, od_is_whole, .func (PySem.W.fnOf "is_whole" "is_whole" (defArgs s_is_whole) (defBody s_is_whole) (defScope s_is_whole) .none kV_is_whole dc_is_whole pm_is_whole an_is_whole cd_is_whole ct_is_whole), sl_is_whole⟩) (q_is_whole : PySem.W.codeIn K cd_is_whole "is_whole" = true) (k_is_whole : PySem.W.keepIn K (.ref f_is_whole) = true) (a_is_within : PySem.W.nsIn K mainGlobals "is_within" = some (some (.ref f_is_within))) (l_is_within : K.lookup f_is_within = some ⟨oc_is_within, od_is_within, .func (PySem.W.fnOf "is_within" "is_within" (defArgs s_is_within) (defBody s_is_within) (defScope s_is_within) .none kV_is_within dc_is_within pm_is_within an_is_within cd_is_within ct_is_within), sl_is_within⟩) (q_is_within : PySem.W.codeIn K cd_is_within "is_within" = true) (k_is_within : PySem.W.keepIn K (.ref f_is_within) = true) (a_is_row : PySem.W.nsIn K mainGlobals "is_row" = some (some (.ref f_is_row))) (l_is_row : K.lookup f_is_row = some ⟨oc_is_row, od_is_row, .func (PySem.W.fnOf "is_row" "is_row" (defArgs s_is_row) (defBody s_is_row) (defScope s_is_row) .none kV_is_row dc_is_row pm_is_row an_is_row cd_is_row ct_is_row), sl_is_row⟩) (q_is_row : PySem.W.codeIn K cd_is_row "is_row" = true) (k_is_row : PySem.W.keepIn K (.ref f_is_row) = true) (a_left_of : PySem.W.nsIn K mainGlobals "left_of" = some (some (.ref f_left_of))) (l_left_of : K.lookup f_left_of = some ⟨oc_left_of, od_left_of, .func (PySem.W.fnOf "left_of" "left_of" (defArgs s_left_of) (defBody s_left_of) (defScope s_left_of) .none kV_left_of dc_left_of pm_left_of an_left_of cd_left_of ct_left_of), sl_left_of⟩) (q_left_of : PySem.W.codeIn K cd_left_of "left_of" = true) (k_left_of : PySem.W.keepIn K (.ref f_left_of) = true) (a_Turning___init__ : PySem.W.findIn K (.ref C_Turning) "__init__" = some (some (.ref f_Turning___init__))) (i_Turning___init__ : PySem.W.isFn K (.ref f_Turning___init__) = true) (l_Turning___init__ : K.lookup f_Turning___init__ = some ⟨oc_Turning___init__, od_Turning___init__, .func (PySem.W.fnOf "__init__" "Turning.__init__" (defArgs s_Turning___init__) (defBody s_Turning___init__) (defScope s_Turning___init__) .none kV_Turning___init__ dc_Turning___init__ pm_Turning___init__ an_Turning___init__ cd_Turning___init__ ct_Turning___init__), sl_Turning___init__⟩) (q_Turning___init__ : PySem.W.codeIn K cd_Turning___init__ "Turning.__init__" = true) (k_Turning___init__ : PySem.W.keepIn K (.ref f_Turning___init__) = true) (a_Turning_beneath_maybe : PySem.W.findIn K (.ref C_Turning) "beneath_maybe" = some (some (.ref f_Turning_beneath_maybe))) (i_Turning_beneath_maybe : PySem.W.isFn K (.ref f_Turning_beneath_maybe) = true) (l_Turning_beneath_maybe : K.lookup f_Turning_beneath_maybe = some ⟨oc_Turning_beneath_maybe, od_Turning_beneath_maybe, .func (PySem.W.fnOf "beneath_maybe" "Turning.beneath_maybe" (defArgs s_Turning_beneath_maybe) (defBody s_Turning_beneath_maybe) (defScope s_Turning_beneath_maybe) .none kV_Turning_beneath_maybe dc_Turning_beneath_maybe pm_Turning_beneath_maybe an_Turning_beneath_maybe cd_Turning_beneath_maybe ct_Turning_beneath_maybe), sl_Turning_beneath_maybe⟩) (q_Turning_beneath_maybe : PySem.W.codeIn K cd_Turning_beneath_maybe "Turning.beneath_maybe" = true) (k_Turning_beneath_maybe : PySem.W.keepIn K (.ref f_Turning_beneath_maybe) = true) (a_Turning_beneath : PySem.W.findIn K (.ref C_Turning) "beneath" = some (some (.ref f_Turning_beneath))) (i_Turning_beneath : PySem.W.isFn K (.ref f_Turning_beneath) = true) (l_Turning_beneath : K.lookup f_Turning_beneath = some ⟨oc_Turning_beneath, od_Turning_beneath, .func (PySem.W.fnOf "beneath" "Turning.beneath" (defArgs s_Turning_beneath) (defBody s_Turning_beneath) (defScope s_Turning_beneath) .none kV_Turning_beneath dc_Turning_beneath pm_Turning_beneath an_Turning_beneath cd_Turning_beneath ct_Turning_beneath), sl_Turning_beneath⟩) (q_Turning_beneath : PySem.W.codeIn K cd_Turning_beneath "Turning.beneath" = true) (k_Turning_beneath : PySem.W.keepIn K (.ref f_Turning_beneath) = true) (a_Turning_go_through : PySem.W.findIn K (.ref C_Turning) "go_through" = some (some (.ref f_Turning_go_through))) (i_Turning_go_through : PySem.W.isFn K (.ref f_Turning_go_through) = true) (l_Turning_go_through : K.lookup f_Turning_go_through = some ⟨oc_Turning_go_through, od_Turning_go_through, .func (PySem.W.fnOf "go_through" "Turning.go_through" (defArgs s_Turning_go_through) (defBody s_Turning_go_through) (defScope s_Turning_go_through) .none kV_Turning_go_through dc_Turning_go_through pm_Turning_go_through an_Turning_go_through cd_Turning_go_through ct_Turning_go_through), sl_Turning_go_through⟩) (q_Turning_go_through : PySem.W.codeIn K cd_Turning_go_through "Turning.go_through" = true) (k_Turning_go_through : PySem.W.keepIn K (.ref f_Turning_go_through) = true) (a_Turning_turn : PySem.W.findIn K (.ref C_Turning) "turn" = some (some (.ref f_Turning_turn))) (i_Turning_turn : PySem.W.isFn K (.ref f_Turning_turn) = true) (l_Turning_turn : K.lookup f_Turning_turn = some ⟨oc_Turning_turn, od_Turning_turn, .func (PySem.W.fnOf "turn" "Turning.turn" (defArgs s_Turning_turn) (defBody s_Turning_turn) (defScope s_Turning_turn) .none kV_Turning_turn dc_Turning_turn pm_Turning_turn an_Turning_turn cd_Turning_turn ct_Turning_turn), sl_Turning_turn⟩) (q_Turning_turn : PySem.W.codeIn K cd_Turning_turn "Turning.turn" = true) (k_Turning_turn : PySem.W.keepIn K (.ref f_Turning_turn) = true) (a_turned : PySem.W.nsIn K mainGlobals "turned" = some (some (.ref f_turned))) (l_turned : K.lookup f_turned = some ⟨oc_turned, od_turned, .func (PySem.W.fnOf "turned" "turned" (defArgs s_turned) (defBody s_turned) (defScope s_turned) .none kV_turned dc_turned pm_turned an_turned cd_turned ct_turned), sl_turned⟩) (q_turned : PySem.W.codeIn K cd_turned "turned" = true) (k_turned : PySem.W.keepIn K (.ref f_turned) = true) (a_is_name : PySem.W.nsIn K mainGlobals "is_name" = some (some (.ref f_is_name))) (l_is_name : K.lookup f_is_name = some ⟨oc_is_name, od_is_name, .func (PySem.W.fnOf "is_name" "is_name" (defArgs s_is_name) (defBody s_is_name) (defScope s_is_name) .none kV_is_name dc_is_name pm_is_name an_is_name cd_is_name ct_is_name), sl_is_name⟩) (q_is_name : PySem.W.codeIn K cd_is_name "is_name" = true) (k_is_name : PySem.W.keepIn K (.ref f_is_name) = true) (a_is_bounds : PySem.W.nsIn K mainGlobals "is_bounds" = some (some (.ref f_is_bounds))) (l_is_bounds : K.lookup f_is_bounds = some ⟨oc_is_bounds, od_is_bounds, .func (PySem.W.fnOf "is_bounds" "is_bounds" (defArgs s_is_bounds) (defBody s_is_bounds) (defScope s_is_bounds) .none kV_is_bounds dc_is_bounds pm_is_bounds an_is_bounds cd_is_bounds ct_is_bounds), sl_is_bounds⟩) (q_is_bounds : PySem.W.codeIn K cd_is_bounds "is_bounds" = true) (k_is_bounds : PySem.W.keepIn K (.ref f_is_bounds) = true) (a_is_known : PySem.W.nsIn K mainGlobals "is_known" = some (some (.ref f_is_known))) (l_is_known : K.lookup f_is_known = some ⟨oc_is_known, od_is_known, .func (PySem.W.fnOf "is_known" "is_known" (defArgs s_is_known) (defBody s_is_known) (defScope s_is_known) .none kV_is_known dc_is_known pm_is_known an_is_known cd_is_known ct_is_known), sl_is_known⟩) (q_is_known : PySem.W.codeIn K cd_is_known "is_known" = true) (k_is_known : PySem.W.keepIn K (.ref f_is_known) = true) (a_is_sort : PySem.W.nsIn K mainGlobals "is_sort" = some (some (.ref f_is_sort))) (l_is_sort : K.lookup f_is_sort = some ⟨oc_is_sort, od_is_sort, .func (PySem.W.fnOf "is_sort" "is_sort" (defArgs s_is_sort) (defBody s_is_sort) (defScope s_is_sort) (.ref D_is_sort) kV_is_sort dc_is_sort pm_is_sort an_is_sort cd_is_sort ct_is_sort), sl_is_sort⟩) (q_is_sort : PySem.W.codeIn K cd_is_sort "is_sort" = true) (k_is_sort : PySem.W.keepIn K (.ref f_is_sort) = true) (t_is_sort : K.lookup D_is_sort = some ⟨oc2_is_sort, od2_is_sort, .seq #[.int 0 tk_is_sort] n2_is_sort, sl2_is_sort⟩) (a_is_default : PySem.W.nsIn K mainGlobals "is_default" = some (some (.ref f_is_default))) (l_is_default : K.lookup f_is_default = some ⟨oc_is_default, od_is_default, .func (PySem.W.fnOf "is_default" "is_default" (defArgs s_is_default) (defBody s_is_default) (defScope s_is_default) .none kV_is_default dc_is_default pm_is_default an_is_default cd_is_default ct_is_default), sl_is_default⟩) (q_is_default : PySem.W.codeIn K cd_is_default "is_default" = true) (k_is_default : PySem.W.keepIn K (.ref f_is_default) = true) (a_refuse_if : PySem.W.nsIn K mainGlobals "refuse_if" = some (some (.ref f_refuse_if))) (l_refuse_if : K.lookup f_refuse_if = some ⟨oc_refuse_if, od_refuse_if, .func (PySem.W.fnOf "refuse_if" "refuse_if" (defArgs s_refuse_if) (defBody s_refuse_if) (defScope s_refuse_if) .none kV_refuse_if dc_refuse_if pm_refuse_if an_refuse_if cd_refuse_if ct_refuse_if), sl_refuse_if⟩) (q_refuse_if : PySem.W.codeIn K cd_refuse_if "refuse_if" = true) (k_refuse_if : PySem.W.keepIn K (.ref f_refuse_if) = true) (a_look_at_heading : PySem.W.nsIn K mainGlobals "look_at_heading" = some (some (.ref f_look_at_heading))) (l_look_at_heading : K.lookup f_look_at_heading = some ⟨oc_look_at_heading, od_look_at_heading, .func (PySem.W.fnOf "look_at_heading" "look_at_heading" (defArgs s_look_at_heading) (defBody s_look_at_heading) (defScope s_look_at_heading) .none kV_look_at_heading dc_look_at_heading pm_look_at_heading an_look_at_heading cd_look_at_heading ct_look_at_heading), sl_look_at_heading⟩) (q_look_at_heading : PySem.W.codeIn K cd_look_at_heading "look_at_heading" = true) (k_look_at_heading : PySem.W.keepIn K (.ref f_look_at_heading) = true) (a_look_at_part : PySem.W.nsIn K mainGlobals "look_at_part" = some (some (.ref f_look_at_part))) (l_look_at_part : K.lookup f_look_at_part = some ⟨oc_look_at_part, od_look_at_part, .func (PySem.W.fnOf "look_at_part" "look_at_part" (defArgs s_look_at_part) (defBody s_look_at_part) (defScope s_look_at_part) .none kV_look_at_part dc_look_at_part pm_look_at_part an_look_at_part cd_look_at_part ct_look_at_part), sl_look_at_part⟩) (q_look_at_part : PySem.W.codeIn K cd_look_at_part "look_at_part" = true) (k_look_at_part : PySem.W.keepIn K (.ref f_look_at_part) = true) (a_Schema_comes_back : PySem.W.findIn K (.ref C_Schema) "comes_back" = some (some (.ref f_Schema_comes_back))) (i_Schema_comes_back : PySem.W.isFn K (.ref f_Schema_comes_back) = true) (l_Schema_comes_back : K.lookup f_Schema_comes_back = some ⟨oc_Schema_comes_back, od_Schema_comes_back, .func (PySem.W.fnOf "comes_back" "Schema.comes_back" (defArgs s_Schema_comes_back) (defBody s_Schema_comes_back) (defScope s_Schema_comes_back) .none kV_Schema_comes_back dc_Schema_comes_back pm_Schema_comes_back an_Schema_comes_back cd_Schema_comes_back ct_Schema_comes_back), sl_Schema_comes_back⟩) (q_Schema_comes_back : PySem.W.codeIn K cd_Schema_comes_back "Schema.comes_back" = true) (k_Schema_comes_back : PySem.W.keepIn K (.ref f_Schema_comes_back) = true) (a_Schema___init__ : PySem.W.findIn K (.ref C_Schema) "__init__" = some (some (.ref f_Schema___init__))) (i_Schema___init__ : PySem.W.isFn K (.ref f_Schema___init__) = true) (l_Schema___init__ : K.lookup f_Schema___init__ = some ⟨oc_Schema___init__, od_Schema___init__, .func (PySem.W.fnOf "__init__" "Schema.__init__" (defArgs s_Schema___init__) (defBody s_Schema___init__) (defScope s_Schema___init__) .none (.ref D_Schema___init__) dc_Schema___init__ pm_Schema___init__ an_Schema___init__ cd_Schema___init__ ct_Schema___init__), sl_Schema___init__⟩) (q_Schema___init__ : PySem.W.codeIn K cd_Schema___init__ "Schema.__init__" = true) (k_Schema___init__ : PySem.W.keepIn K (.ref f_Schema___init__) = true) (d_Schema___init__ : PySem.W.nsIn K D_Schema___init__ "choices" = some (some .none)) (a_law_draw : PySem.W.nsIn K mainGlobals "_law_draw" = some (some (.ref f_law_draw))) (l_law_draw : K.lookup f_law_draw = some ⟨oc_law_draw, od_law_draw, .func (PySem.W.fnOf "_law_draw" "_law_draw" (defArgs s_law_draw) (defBody s_law_draw) (defScope s_law_draw) .none kV_law_draw dc_law_draw pm_law_draw an_law_draw cd_law_draw ct_law_draw), sl_law_draw⟩) (q_law_draw : PySem.W.codeIn K cd_law_draw "_law_draw" = true) (k_law_draw : PySem.W.keepIn K (.ref f_law_draw) = true) (a_law_bound : PySem.W.nsIn K mainGlobals "_law_bound" = some (some (.ref f_law_bound))) (l_law_bound : K.lookup f_law_bound = some ⟨oc_law_bound, od_law_bound, .func (PySem.W.fnOf "_law_bound" "_law_bound" (defArgs s_law_bound) (defBody s_law_bound) (defScope s_law_bound) .none kV_law_bound dc_law_bound pm_law_bound an_law_bound cd_law_bound ct_law_bound), sl_law_bound⟩) (q_law_bound : PySem.W.codeIn K cd_law_bound "_law_bound" = true) (k_law_bound : PySem.W.keepIn K (.ref f_law_bound) = true) (a_law_leaf : PySem.W.nsIn K mainGlobals "_law_leaf" = some (some (.ref f_law_leaf))) (l_law_leaf : K.lookup f_law_leaf = some ⟨oc_law_leaf, od_law_leaf, .func (PySem.W.fnOf "_law_leaf" "_law_leaf" (defArgs s_law_leaf) (defBody s_law_leaf) (defScope s_law_leaf) .none kV_law_leaf dc_law_leaf pm_law_leaf an_law_leaf cd_law_leaf ct_law_leaf), sl_law_leaf⟩) (q_law_leaf : PySem.W.codeIn K cd_law_leaf "_law_leaf" = true) (k_law_leaf : PySem.W.keepIn K (.ref f_law_leaf) = true) (a_law_sort : PySem.W.nsIn K mainGlobals "_law_sort" = some (some (.ref f_law_sort))) (l_law_sort : K.lookup f_law_sort = some ⟨oc_law_sort, od_law_sort, .func (PySem.W.fnOf "_law_sort" "_law_sort" (defArgs s_law_sort) (defBody s_law_sort) (defScope s_law_sort) .none kV_law_sort dc_law_sort pm_law_sort an_law_sort cd_law_sort ct_law_sort), sl_law_sort⟩) (q_law_sort : PySem.W.codeIn K cd_law_sort "_law_sort" = true) (k_law_sort : PySem.W.keepIn K (.ref f_law_sort) = true) (a_law_near : PySem.W.nsIn K mainGlobals "_law_near" = some (some (.ref f_law_near))) (l_law_near : K.lookup f_law_near = some ⟨oc_law_near, od_law_near, .func (PySem.W.fnOf "_law_near" "_law_near" (defArgs s_law_near) (defBody s_law_near) (defScope s_law_near) .none kV_law_near dc_law_near pm_law_near an_law_near cd_law_near ct_law_near), sl_law_near⟩) (q_law_near : PySem.W.codeIn K cd_law_near "_law_near" = true) (k_law_near : PySem.W.keepIn K (.ref f_law_near) = true) (a_law_thing : PySem.W.nsIn K mainGlobals "_law_thing" = some (some (.ref f_law_thing))) (l_law_thing : K.lookup f_law_thing = some ⟨oc_law_thing, od_law_thing, .func (PySem.W.fnOf "_law_thing" "_law_thing" (defArgs s_law_thing) (defBody s_law_thing) (defScope s_law_thing) .none kV_law_thing dc_law_thing pm_law_thing an_law_thing cd_law_thing ct_law_thing), sl_law_thing⟩) (q_law_thing : PySem.W.codeIn K cd_law_thing "_law_thing" = true) (k_law_thing : PySem.W.keepIn K (.ref f_law_thing) = true) (a_law_within : PySem.W.nsIn K mainGlobals "_law_within" = some (some (.ref f_law_within))) (l_law_within : K.lookup f_law_within = some ⟨oc_law_within, od_law_within, .func (PySem.W.fnOf "_law_within" "_law_within" (defArgs s_law_within) (defBody s_law_within) (defScope s_law_within) .none kV_law_within dc_law_within pm_law_within an_law_within cd_law_within ct_law_within), sl_law_within⟩) (q_law_within : PySem.W.codeIn K cd_law_within "_law_within" = true) (k_law_within : PySem.W.keepIn K (.ref f_law_within) = true) (a_law_due : PySem.W.nsIn K mainGlobals "_law_due" = some (some (.ref f_law_due))) (l_law_due : K.lookup f_law_due = some ⟨oc_law_due, od_law_due, .func (PySem.W.fnOf "_law_due" "_law_due" (defArgs s_law_due) (defBody s_law_due) (defScope s_law_due) .none kV_law_due dc_law_due pm_law_due an_law_due cd_law_due ct_law_due), sl_law_due⟩) (q_law_due : PySem.W.codeIn K cd_law_due "_law_due" = true) (k_law_due : PySem.W.keepIn K (.ref f_law_due) = true) (a_law_same : PySem.W.nsIn K mainGlobals "_law_same" = some (some (.ref f_law_same))) (l_law_same : K.lookup f_law_same = some ⟨oc_law_same, od_law_same, .func (PySem.W.fnOf "_law_same" "_law_same" (defArgs s_law_same) (defBody s_law_same) (defScope s_law_same) .none kV_law_same dc_law_same pm_law_same an_law_same cd_law_same ct_law_same), sl_law_same⟩) (q_law_same : PySem.W.codeIn K cd_law_same "_law_same" = true) (k_law_same : PySem.W.keepIn K (.ref f_law_same) = true) (a_law_found : PySem.W.nsIn K mainGlobals "_law_found" = some (some (.ref f_law_found))) (l_law_found : K.lookup f_law_found = some ⟨oc_law_found, od_law_found, .func (PySem.W.fnOf "_law_found" "_law_found" (defArgs s_law_found) (defBody s_law_found) (defScope s_law_found) .none kV_law_found dc_law_found pm_law_found an_law_found cd_law_found ct_law_found), sl_law_found⟩) (q_law_found : PySem.W.codeIn K cd_law_found "_law_found" = true) (k_law_found : PySem.W.keepIn K (.ref f_law_found) = true) (a_law : PySem.W.nsIn K mainGlobals "law" = some (some (.ref f_law))) (l_law : K.lookup f_law = some ⟨oc_law, od_law, .func (PySem.W.fnOf "law" "law" (defArgs s_law) (defBody s_law) (defScope s_law) .none kV_law dc_law pm_law an_law cd_law ct_law), sl_law⟩) (q_law : PySem.W.codeIn K cd_law "law" = true) (k_law : PySem.W.keepIn K (.ref f_law) = true) : Txt K mg C :=
  ⟨PySem.W.mg_none_of X G z_ValueError, PySem.W.mg_none_of X G z_abs, PySem.W.mg_none_of X G z_all, PySem.W.mg_none_of X G z_bool, PySem.W.mg_none_of X G z_enumerate, PySem.W.mg_none_of X G z_int, PySem.W.mg_none_of X G z_isinstance, PySem.W.mg_none_of X G z_len, PySem.W.mg_none_of X G z_list, PySem.W.mg_none_of X G z_max, PySem.W.mg_none_of X G z_min, PySem.W.mg_none_of X G z_range, PySem.W.mg_none_of X G z_sorted, PySem.W.mg_none_of X G z_str, PySem.W.mg_none_of X G z_tuple, PySem.W.mg_none_of X G z_zip, ⟨_, PySem.W.mg_of X G y_GREATEST⟩, ⟨_, PySem.W.mg_of X G y_LETTERS⟩, ⟨_, PySem.W.mg_of X G y_MOST_SIGNS⟩, ⟨_, PySem.W.mg_of X G y_MOST_NUMBER⟩, ⟨_, PySem.W.mg_of X G y_MOST_TEXT⟩, ⟨_, PySem.W.mg_of X G y_MOST_ROW⟩, ⟨_, PySem.W.mg_of X G y_MOST_DEEP⟩, (by rw [cAt_of at_WireError]; exact PySem.W.mg_of X G at_WireError), (by rw [cAt_of at_NoTurn]; exact PySem.W.mg_of X G at_NoTurn), (by rw [cAt_of at_NoTurn]; exact ⟨⟨⟨nm_NoTurn, q_NoTurn, N_NoTurn, bs_NoTurn, _, sn_NoTurn, sub_NoTurn, ab_NoTurn, col_NoTurn, dd_NoTurn, m0_NoTurn, m1_NoTurn, m2_NoTurn, m3_NoTurn, m5_NoTurn, xl_NoTurn, by show PySem.HandSPX.refsVE [.type "ValueError", .type "Exception", .type "BaseException", .type "object"] = true; decide +kernel⟩, sa_NoTurn, eC_NoTurn, tC_NoTurn, kC_NoTurn⟩, ⟨ga_NoTurn, gg_NoTurn, eC_NoTurn, hd_NoTurn⟩, ic_NoTurn, ha_NoTurn, hn_NoTurn, ht_NoTurn, hm_NoTurn⟩), (by rw [cAt_of at_NoTurn]; exact no_NoTurn_path), (by rw [cAt_of at_NoTurn]; exact no_NoTurn_why), (by rw [cAt_of at_NoBytes]; exact PySem.W.mg_of X G at_NoBytes), (by rw [cAt_of at_NoEdition]; exact PySem.W.mg_of X G at_NoEdition), (by rw [cAt_of at_NoLine]; exact PySem.W.mg_of X G at_NoLine), (by rw [cAt_of at_NoMeeting]; exact PySem.W.mg_of X G at_NoMeeting), (by rw [cAt_of at_NoQuestion]; exact PySem.W.mg_of X G at_NoQuestion), (by rw [cAt_of at_NoSchema]; exact PySem.W.mg_of X G at_NoSchema), (by rw [cAt_of at_NoText]; exact PySem.W.mg_of X G at_NoText), (by rw [cAt_of at_NoThing]; exact PySem.W.mg_of X G at_NoThing), (by rw [cAt_of at_NoWire]; exact PySem.W.mg_of X G at_NoWire), (by rw [cAt_of at_NoTurn, cAt_of at_NoBytes]; exact kit_NoTurn_NoBytes), (by rw [cAt_of at_NoTurn, cAt_of at_NoEdition]; exact kit_NoTurn_NoEdition), (by rw [cAt_of at_NoTurn, cAt_of at_NoLine]; exact kit_NoTurn_NoLine), (by rw [cAt_of at_NoTurn, cAt_of at_NoMeeting]; exact kit_NoTurn_NoMeeting), (by rw [cAt_of at_NoTurn, cAt_of at_NoQuestion]; exact kit_NoTurn_NoQuestion), (by rw [cAt_of at_NoTurn, cAt_of at_NoSchema]; exact kit_NoTurn_NoSchema), (by rw [cAt_of at_NoTurn, cAt_of at_NoText]; exact kit_NoTurn_NoText), (by rw [cAt_of at_NoTurn, cAt_of at_NoThing]; exact kit_NoTurn_NoThing), (by rw [cAt_of at_NoTurn, cAt_of at_NoWire]; exact kit_NoTurn_NoWire), (by rw [cAt_of at_NoTurn]; exact kit_NoTurn_NoTurn), (by rw [cAt_of at_NoTurn]; exact kit_NoTurn_ValueError), (by rw [cAt_of at_NoTurn, cAt_of at_WireError]; exact PySem.W.exm_ref eC_WireError hd_WireError tC_WireError sub_NoTurn_WireError), ⟨(by rw [cAt_of at_NoTurn]; exact ⟨⟨⟨nm_NoTurn, q_NoTurn, N_NoTurn, bs_NoTurn, _, sn_NoTurn, sub_NoTurn, ab_NoTurn, col_NoTurn, dd_NoTurn, m0_NoTurn, m1_NoTurn, m2_NoTurn, m3_NoTurn, m5_NoTurn, xl_NoTurn, by show PySem.HandSPX.refsVE [.type "ValueError", .type "Exception", .type "BaseException", .type "object"] = true; decide +kernel⟩, sa_NoTurn, eC_NoTurn, tC_NoTurn, kC_NoTurn⟩, ⟨ga_NoTurn, gg_NoTurn, eC_NoTurn, hd_NoTurn⟩, ic_NoTurn, ha_NoTurn, hn_NoTurn, ht_NoTurn, hm_NoTurn⟩), (by simp only [cAt_of at_WireError, cAt_of at_NoTurn, cAt_of at_NoBytes, cAt_of at_NoEdition, cAt_of at_NoLine, cAt_of at_NoMeeting, cAt_of at_NoQuestion, cAt_of at_NoSchema, cAt_of at_NoText, cAt_of at_NoThing, cAt_of at_NoWire]; exact no_NoTurn_path), (by simp only [cAt_of at_WireError, cAt_of at_NoTurn, cAt_of at_NoBytes, cAt_of at_NoEdition, cAt_of at_NoLine, cAt_of at_NoMeeting, cAt_of at_NoQuestion, cAt_of at_NoSchema, cAt_of at_NoText, cAt_of at_NoThing, cAt_of at_NoWire]; exact no_NoTurn_why), (by simp only [cAt_of at_WireError, cAt_of at_NoTurn, cAt_of at_NoBytes, cAt_of at_NoEdition, cAt_of at_NoLine, cAt_of at_NoMeeting, cAt_of at_NoQuestion, cAt_of at_NoSchema, cAt_of at_NoText, cAt_of at_NoThing, cAt_of at_NoWire]; exact kit_NoTurn_NoBytes), (by simp only [cAt_of at_WireError, cAt_of at_NoTurn, cAt_of at_NoBytes, cAt_of at_NoEdition, cAt_of at_NoLine, cAt_of at_NoMeeting, cAt_of at_NoQuestion, cAt_of at_NoSchema, cAt_of at_NoText, cAt_of at_NoThing, cAt_of at_NoWire]; exact kit_NoTurn_NoEdition), (by simp only [cAt_of at_WireError, cAt_of at_NoTurn, cAt_of at_NoBytes, cAt_of at_NoEdition, cAt_of at_NoLine, cAt_of at_NoMeeting, cAt_of at_NoQuestion, cAt_of at_NoSchema, cAt_of at_NoText, cAt_of at_NoThing, cAt_of at_NoWire]; exact kit_NoTurn_NoLine), (by simp only [cAt_of at_WireError, cAt_of at_NoTurn, cAt_of at_NoBytes, cAt_of at_NoEdition, cAt_of at_NoLine, cAt_of at_NoMeeting, cAt_of at_NoQuestion, cAt_of at_NoSchema, cAt_of at_NoText, cAt_of at_NoThing, cAt_of at_NoWire]; exact kit_NoTurn_NoMeeting), (by simp only [cAt_of at_WireError, cAt_of at_NoTurn, cAt_of at_NoBytes, cAt_of at_NoEdition, cAt_of at_NoLine, cAt_of at_NoMeeting, cAt_of at_NoQuestion, cAt_of at_NoSchema, cAt_of at_NoText, cAt_of at_NoThing, cAt_of at_NoWire]; exact kit_NoTurn_NoQuestion), (by simp only [cAt_of at_WireError, cAt_of at_NoTurn, cAt_of at_NoBytes, cAt_of at_NoEdition, cAt_of at_NoLine, cAt_of at_NoMeeting, cAt_of at_NoQuestion, cAt_of at_NoSchema, cAt_of at_NoText, cAt_of at_NoThing, cAt_of at_NoWire]; exact kit_NoTurn_NoSchema), (by simp only [cAt_of at_WireError, cAt_of at_NoTurn, cAt_of at_NoBytes, cAt_of at_NoEdition, cAt_of at_NoLine, cAt_of at_NoMeeting, cAt_of at_NoQuestion, cAt_of at_NoSchema, cAt_of at_NoText, cAt_of at_NoThing, cAt_of at_NoWire]; exact kit_NoTurn_NoText), (by simp only [cAt_of at_WireError, cAt_of at_NoTurn, cAt_of at_NoBytes, cAt_of at_NoEdition, cAt_of at_NoLine, cAt_of at_NoMeeting, cAt_of at_NoQuestion, cAt_of at_NoSchema, cAt_of at_NoText, cAt_of at_NoThing, cAt_of at_NoWire]; exact kit_NoTurn_NoThing), (by simp only [cAt_of at_WireError, cAt_of at_NoTurn, cAt_of at_NoBytes, cAt_of at_NoEdition, cAt_of at_NoLine, cAt_of at_NoMeeting, cAt_of at_NoQuestion, cAt_of at_NoSchema, cAt_of at_NoText, cAt_of at_NoThing, cAt_of at_NoWire]; exact kit_NoTurn_NoWire), (by simp only [cAt_of at_WireError, cAt_of at_NoTurn, cAt_of at_NoBytes, cAt_of at_NoEdition, cAt_of at_NoLine, cAt_of at_NoMeeting, cAt_of at_NoQuestion, cAt_of at_NoSchema, cAt_of at_NoText, cAt_of at_NoThing, cAt_of at_NoWire]; exact kit_NoTurn_NoTurn), (by simp only [cAt_of at_WireError, cAt_of at_NoTurn, cAt_of at_NoBytes, cAt_of at_NoEdition, cAt_of at_NoLine, cAt_of at_NoMeeting, cAt_of at_NoQuestion, cAt_of at_NoSchema, cAt_of at_NoText, cAt_of at_NoThing, cAt_of at_NoWire]; exact kit_NoTurn_ValueError), (by simp only [cAt_of at_WireError, cAt_of at_NoTurn, cAt_of at_NoBytes, cAt_of at_NoEdition, cAt_of at_NoLine, cAt_of at_NoMeeting, cAt_of at_NoQuestion, cAt_of at_NoSchema, cAt_of at_NoText, cAt_of at_NoThing, cAt_of at_NoWire]; exact PySem.W.exm_ref eC_WireError hd_WireError tC_WireError sub_NoTurn_WireError)⟩, (by rw [cAt_of at_INSIDE]; exact PySem.W.mg_of X G at_INSIDE), ⟨(by rw [cAt_of at_Turning]; exact ⟨⟨pg_Turning, hd_Turning, po_Turning, sa_Turning⟩, no_old_Turning, no_new_Turning, no_twins_Turning, ⟨⟨pg_Turning, hd_Turning, po_Turning, sa_Turning⟩, ⟨mr_Turning, eq_Turning⟩, ha_Turning, hn_Turning, ht_Turning⟩, kb_Turning⟩), (by rw [cAt_of at_Schema]; exact ⟨⟨pg_Schema, hd_Schema, po_Schema, sa_Schema⟩, no_kinds_Schema, no_choices_Schema, no_root_Schema, ⟨⟨pg_Schema, hd_Schema, po_Schema, sa_Schema⟩, ⟨mr_Schema, eq_Schema⟩, ha_Schema, hn_Schema, ht_Schema⟩, kb_Schema⟩), (by rw [cAt_of at_INSIDE]; exact ⟨_, _, _, lk_INSIDE, rfl, rfl, sz_of' (show 1 ≤ 16777216 by decide), .cons ⟨_, rfl⟩ (.nil)⟩)⟩, (by rw [cAt_of at_Turning]; exact PySem.W.mg_of X G at_Turning), (by rw [cAt_of at_Turning]; exact mk_Turning), (by rw [cAt_of at_Turning]; exact kc_Turning), (by rw [cAt_of at_Schema]; exact PySem.W.mg_of X G at_Schema), (by rw [cAt_of at_Schema]; exact mk_Schema), (by rw [cAt_of at_Schema]; exact kc_Schema), (by rw [cAt_of at_NoTurn]; exact ⟨_, _, a_NoTurn___init__, i_NoTurn___init__, fun_mk l_NoTurn___init__ q_NoTurn___init__ k_NoTurn___init__⟩), ⟨_, _, PySem.W.mg_of X G a_is_whole, fun_mk l_is_whole q_is_whole k_is_whole⟩, ⟨_, _, PySem.W.mg_of X G a_is_within, fun_mk l_is_within q_is_within k_is_within⟩, ⟨_, _, PySem.W.mg_of X G a_is_row, fun_mk l_is_row q_is_row k_is_row⟩, ⟨_, _, PySem.W.mg_of X G a_left_of, fun_mk l_left_of q_left_of k_left_of⟩, (by rw [cAt_of at_Turning]; exact ⟨_, _, ⟨a_Turning___init__, i_Turning___init__, k_Turning___init__⟩, ⟨⟨_, _, _, _, _, _, _, _, _, _, rfl, l_Turning___init__, q_Turning___init__, Or.inl ⟨rfl, rfl⟩, Or.inl rfl⟩, k_Turning___init__⟩⟩), (by rw [cAt_of at_Turning]; exact ⟨_, _, ⟨a_Turning_beneath_maybe, i_Turning_beneath_maybe, k_Turning_beneath_maybe⟩, fun_mk l_Turning_beneath_maybe q_Turning_beneath_maybe k_Turning_beneath_maybe⟩), (by rw [cAt_of at_Turning]; exact ⟨_, _, ⟨a_Turning_beneath, i_Turning_beneath, k_Turning_beneath⟩, fun_mk l_Turning_beneath q_Turning_beneath k_Turning_beneath⟩), (by rw [cAt_of at_Turning]; exact ⟨_, _, ⟨a_Turning_go_through, i_Turning_go_through, k_Turning_go_through⟩, fun_mk l_Turning_go_through q_Turning_go_through k_Turning_go_through⟩), (by rw [cAt_of at_Turning]; exact ⟨_, _, ⟨a_Turning_turn, i_Turning_turn, k_Turning_turn⟩, fun_mk l_Turning_turn q_Turning_turn k_Turning_turn⟩), ⟨_, _, PySem.W.mg_of X G a_turned, fun_mk l_turned q_turned k_turned⟩, ⟨_, _, PySem.W.mg_of X G a_is_name, fun_mk l_is_name q_is_name k_is_name⟩, ⟨_, _, PySem.W.mg_of X G a_is_bounds, fun_mk l_is_bounds q_is_bounds k_is_bounds⟩, ⟨_, _, PySem.W.mg_of X G a_is_known, fun_mk l_is_known q_is_known k_is_known⟩, ⟨_, _, PySem.W.mg_of X G a_is_sort, ⟨⟨_, _, _, _, _, _, _, _, _, _, rfl, l_is_sort, q_is_sort, Or.inr ⟨by simp, _, _, [.int 0 tk_is_sort], _, rfl, t_is_sort, rfl, .cons ⟨_, rfl⟩ .nil⟩, Or.inl rfl⟩, k_is_sort⟩⟩, ⟨_, _, PySem.W.mg_of X G a_is_default, fun_mk l_is_default q_is_default k_is_default⟩, ⟨_, _, PySem.W.mg_of X G a_refuse_if, fun_mk l_refuse_if q_refuse_if k_refuse_if⟩, ⟨_, _, PySem.W.mg_of X G a_look_at_heading, fun_mk l_look_at_heading q_look_at_heading k_look_at_heading⟩, ⟨_, _, PySem.W.mg_of X G a_look_at_part, fun_mk l_look_at_part q_look_at_part k_look_at_part⟩, (by rw [cAt_of at_Schema]; exact ⟨_, _, ⟨a_Schema_comes_back, i_Schema_comes_back, k_Schema_comes_back⟩, fun_mk l_Schema_comes_back q_Schema_comes_back k_Schema_comes_back⟩), (by rw [cAt_of at_Schema]; exact ⟨_, _, ⟨a_Schema___init__, i_Schema___init__, k_Schema___init__⟩, ⟨⟨_, _, _, _, _, _, _, _, _, _, rfl, l_Schema___init__, q_Schema___init__, Or.inl ⟨rfl, rfl⟩, Or.inr ⟨_, rfl, fun q hq => by rw [List.mem_singleton.mp hq]; exact ⟨_, d_Schema___init__, rfl⟩⟩⟩, k_Schema___init__⟩⟩), ⟨_, _, PySem.W.mg_of X G a_law_draw, fun_mk l_law_draw q_law_draw k_law_draw⟩, ⟨_, _, PySem.W.mg_of X G a_law_bound, fun_mk l_law_bound q_law_bound k_law_bound⟩, ⟨_, _, PySem.W.mg_of X G a_law_leaf, fun_mk l_law_leaf q_law_leaf k_law_leaf⟩, ⟨_, _, PySem.W.mg_of X G a_law_sort, fun_mk l_law_sort q_law_sort k_law_sort⟩, ⟨_, _, PySem.W.mg_of X G a_law_near, fun_mk l_law_near q_law_near k_law_near⟩, ⟨_, _, PySem.W.mg_of X G a_law_thing, fun_mk l_law_thing q_law_thing k_law_thing⟩, ⟨_, _, PySem.W.mg_of X G a_law_within, fun_mk l_law_within q_law_within k_law_within⟩, ⟨_, _, PySem.W.mg_of X G a_law_due, fun_mk l_law_due q_law_due k_law_due⟩, ⟨_, _, PySem.W.mg_of X G a_law_same, fun_mk l_law_same q_law_same k_law_same⟩, ⟨_, _, PySem.W.mg_of X G a_law_found, fun_mk l_law_found q_law_found k_law_found⟩, ⟨_, _, PySem.W.mg_of X G a_law, fun_mk l_law q_law k_law⟩⟩
theorem lam_Schema_take_kind {K : PySem.W.Frag} {h : Heap} {mg : Str → Option Value} (X : K.In h) (G : h.Ns mainGlobals mg) {f c C1 : Addr} {od an : Option Addr} {sl : Array (Option Value)} {oc kV dc pm ct : Value} (at_ : PySem.W.nsIn K mainGlobals "Schema" = some (some (.ref C1))) (a : PySem.W.findIn K (.ref C1) "take_kind" = some (some (.ref f))) (i : PySem.W.isFn K (.ref f) = true) (l : K.lookup f = some ⟨oc, od, .func (PySem.W.fnOf "take_kind" "Schema.take_kind" (defArgs s_Schema_take_kind) (defBody s_Schema_take_kind) (defScope s_Schema_take_kind) .none kV dc pm an (.ref c) ct), sl⟩) (q : PySem.W.codeIn K (.ref c) "Schema.take_kind" = true) (k : PySem.W.keepIn K (.ref f) = true) : DefMC K (cAt K "Schema") s_Schema_take_kind "take_kind" "Schema.take_kind" c := by
  rw [cAt_of at_]
  exact ⟨_, _, ⟨a, i, k⟩, fun_mk l q k, rfl⟩
theorem lam_Schema_take_choice {K : PySem.W.Frag} {h : Heap} {mg : Str → Option Value} (X : K.In h) (G : h.Ns mainGlobals mg) {f c C1 : Addr} {od an : Option Addr} {sl : Array (Option Value)} {oc kV dc pm ct : Value} (at_ : PySem.W.nsIn K mainGlobals "Schema" = some (some (.ref C1))) (a : PySem.W.findIn K (.ref C1) "take_choice" = some (some (.ref f))) (i : PySem.W.isFn K (.ref f) = true) (l : K.lookup f = some ⟨oc, od, .func (PySem.W.fnOf "take_choice" "Schema.take_choice" (defArgs s_Schema_take_choice) (defBody s_Schema_take_choice) (defScope s_Schema_take_choice) .none kV dc pm an (.ref c) ct), sl⟩) (q : PySem.W.codeIn K (.ref c) "Schema.take_choice" = true) (k : PySem.W.keepIn K (.ref f) = true) : DefMC K (cAt K "Schema") s_Schema_take_choice "take_choice" "Schema.take_choice" c := by
  rw [cAt_of at_]
  exact ⟨_, _, ⟨a, i, k⟩, fun_mk l q k, rfl⟩
theorem law_at {l : PySem.W.OpenLaw} {w : World} {K : PySem.W.Frag} {mg : Str → Option Value} {h : Heap} {fa C ca cb Pa Pb : Addr} (KX : K.In h) (T : Txt K mg C) (Da : DefMC K (cAt K "Schema") s_Schema_take_kind "take_kind" "Schema.take_kind" ca) (Db : DefMC K (cAt K "Schema") s_Schema_take_choice "take_choice" "Schema.take_choice" cb) (hmg : mg "law" = some (.ref fa)) (hTa : h.get? Pa = some { cls := .none, data := .fields #[] }) (hTb : h.get? Pb = some { cls := .none, data := .fields #[] }) (nTa : K.lookup Pa = none) (nTb : K.lookup Pb = none) (hCa : PySem.W.codeHdIn K ca Pa = true) (hCb : PySem.W.codeHdIn K cb Pb = true) (neab : Pa ≠ Pb) :
    LamX.LawAtS l w K CX0 13 63 "_law_script" mg fa h := by
  obtain ⟨f, fd, hm, F⟩ := T.d_law
  cases hmg.symm.trans hm
  have hA := Fun.at_ F
  have hb : ∀ us : List Value, us.length = 1 → bindArgs fd ⟨us, []⟩ = pure ((["_law_script"] : List Str).zip us) := by
    obtain ⟨oc, od, kV, doc, pm, an, cdv, ct, osl, rfl, lk, hcd⟩ := F.ex
    intro us hl
    match us, hl with
    | [_], _ => rfl
  refine ⟨fd, [(ca, Pa), (cb, Pb)], sp_law K ⟨Pa, Pb⟩, fun p hp => by simp only [List.mem_cons, List.not_mem_nil, or_false] at hp; rcases hp with rfl | rfl <;> first | exact hTa | exact hTb, fun p hp => by simp only [List.mem_cons, List.not_mem_nil, or_false] at hp; rcases hp with rfl | rfl <;> first | exact nTa | exact nTb, fun p hp => by simp only [List.mem_cons, List.not_mem_nil, or_false] at hp; rcases hp with rfl | rfl <;> first | exact PySem.W.codeHd_of_K KX hCa | exact PySem.W.codeHd_of_K KX hCb, fun s v => .of_eq (hb [v] rfl), fun H a ns hl hb8 hH hS => law_end K ⟨Pa, Pb⟩ H a ns hl (hH (ca, Pa) List.mem_cons_self) (hH (cb, Pb) (List.mem_cons_of_mem _ (List.mem_cons_self))) neab hS, fun base _ _ hTB => ?_⟩
  obtain ⟨f', fd', hm', G, _, _, hA'⟩ := (ok_law T (Pt := ⟨Pa, Pb⟩) ⟨⟨ca, Da, hTB (ca, Pa) List.mem_cons_self⟩, ⟨cb, Db, hTB (cb, Pb) (List.mem_cons_of_mem _ (List.mem_cons_self))⟩⟩).ex
  cases hm'.symm.trans hm
  cases hA'.eq hA
  exact G
end K02
open PySem PySem.W PyProof.Rows
set_option maxHeartbeats 0 in
theorem PySem.Challenge.cw_thingwires_k21_plain_things_turned_holds : PySem.Challenge.rw_thingwires_k21_plain_things_turned.Holds := by
  w_on; o_law; k_head; (case hw => w_witness2)
  k_fill
  refine LamX.walk_ofTs (l := PySem.Challenge.rw_thingwires_k21_plain_things_turned) (n := 63) (k := 13) (x := "_law_script") (CX := fun _ => L2.CX0) rfl (by decide) rfl ⟨rfl, by decide, by decide⟩ (fun w h Y => PySem.W.km_in_of Y) ?F (fun _ _ _ _ _ h => h)
  case F =>
    intro w mg fa h Y KX G hmg
    refine' K02.law_at (C := fa) KX (K02.txt_mk KX G ?z_ValueError ?z_abs ?z_all ?z_bool ?z_enumerate ?z_int ?z_isinstance ?z_len ?z_list ?z_max ?z_min ?z_range ?z_sorted ?z_str ?z_tuple ?z_zip ?y_GREATEST ?y_LETTERS ?y_MOST_SIGNS ?y_MOST_NUMBER ?y_MOST_TEXT ?y_MOST_ROW ?y_MOST_DEEP ?at_WireError ?at_NoTurn ?xl_NoTurn ?sa_NoTurn ?eC_NoTurn ?tC_NoTurn ?kC_NoTurn ?ga_NoTurn ?gg_NoTurn ?hd_NoTurn ?ic_NoTurn ?ha_NoTurn ?hn_NoTurn ?ht_NoTurn ?hm_NoTurn ?no_NoTurn_path ?no_NoTurn_why ?at_NoBytes ?at_NoEdition ?at_NoLine ?at_NoMeeting ?at_NoQuestion ?at_NoSchema ?at_NoText ?at_NoThing ?at_NoWire ?kit_NoTurn_NoBytes ?kit_NoTurn_NoEdition ?kit_NoTurn_NoLine ?kit_NoTurn_NoMeeting ?kit_NoTurn_NoQuestion ?kit_NoTurn_NoSchema ?kit_NoTurn_NoText ?kit_NoTurn_NoThing ?kit_NoTurn_NoWire ?kit_NoTurn_NoTurn ?kit_NoTurn_ValueError ?eC_WireError ?tC_WireError ?hd_WireError ?sub_NoTurn_WireError ?at_INSIDE ?at_Turning ?pg_Turning ?hd_Turning ?po_Turning ?sa_Turning ?no_old_Turning ?no_new_Turning ?no_twins_Turning ?mk_Turning ?kc_Turning ?mr_Turning ?eq_Turning ?ha_Turning ?hn_Turning ?ht_Turning ?kit_Turning_bool ?at_Schema ?pg_Schema ?hd_Schema ?po_Schema ?sa_Schema ?no_kinds_Schema ?no_choices_Schema ?no_root_Schema ?mk_Schema ?kc_Schema ?mr_Schema ?eq_Schema ?ha_Schema ?hn_Schema ?ht_Schema ?kit_Schema_bool ?lk_INSIDE ?a_NoTurn___init__ ?i_NoTurn___init__ ?l_NoTurn___init__ ?q_NoTurn___init__ ?k_NoTurn___init__ ?a_is_whole ?l_is_whole ?q_is_whole ?k_is_whole ?a_is_within ?l_is_within ?q_is_within ?k_is_within ?a_is_row ?l_is_row ?q_is_row ?k_is_row ?a_left_of ?l_left_of ?q_left_of ?k_left_of ?a_Turning___init__ ?i_Turning___init__ ?l_Turning___init__ ?q_Turning___init__ ?k_Turning___init__ ?a_Turning_beneath_maybe ?i_Turning_beneath_maybe ?l_Turning_beneath_maybe ?q_Turning_beneath_maybe ?k_Turning_beneath_maybe ?a_Turning_beneath ?i_Turning_beneath ?l_Turning_beneath ?q_Turning_beneath ?k_Turning_beneath ?a_Turning_go_through ?i_Turning_go_through ?l_Turning_go_through ?q_Turning_go_through ?k_Turning_go_through ?a_Turning_turn ?i_Turning_turn ?l_Turning_turn ?q_Turning_turn ?k_Turning_turn ?a_turned ?l_turned ?q_turned ?k_turned ?a_is_name ?l_is_name ?q_is_name ?k_is_name ?a_is_bounds ?l_is_bounds ?q_is_bounds ?k_is_bounds ?a_is_known ?l_is_known ?q_is_known ?k_is_known ?a_is_sort ?l_is_sort ?q_is_sort ?k_is_sort ?t_is_sort ?a_is_default ?l_is_default ?q_is_default ?k_is_default ?a_refuse_if ?l_refuse_if ?q_refuse_if ?k_refuse_if ?a_look_at_heading ?l_look_at_heading ?q_look_at_heading ?k_look_at_heading ?a_look_at_part ?l_look_at_part ?q_look_at_part ?k_look_at_part ?a_Schema_comes_back ?i_Schema_comes_back ?l_Schema_comes_back ?q_Schema_comes_back ?k_Schema_comes_back ?a_Schema___init__ ?i_Schema___init__ ?l_Schema___init__ ?q_Schema___init__ ?k_Schema___init__ ?d_Schema___init__ ?a_law_draw ?l_law_draw ?q_law_draw ?k_law_draw ?a_law_bound ?l_law_bound ?q_law_bound ?k_law_bound ?a_law_leaf ?l_law_leaf ?q_law_leaf ?k_law_leaf ?a_law_sort ?l_law_sort ?q_law_sort ?k_law_sort ?a_law_near ?l_law_near ?q_law_near ?k_law_near ?a_law_thing ?l_law_thing ?q_law_thing ?k_law_thing ?a_law_within ?l_law_within ?q_law_within ?k_law_within ?a_law_due ?l_law_due ?q_law_due ?k_law_due ?a_law_same ?l_law_same ?q_law_same ?k_law_same ?a_law_found ?l_law_found ?q_law_found ?k_law_found ?a_law ?l_law ?q_law ?k_law) (K02.lam_Schema_take_kind KX G ?zata ?zaa ?zia ?zla ?zqa ?zka) (K02.lam_Schema_take_choice KX G ?zatb ?zab ?zib ?zlb ?zqb ?zkb) hmg (PySem.W.km_tabs_of Y _ (List.mem_cons_of_mem _ (List.mem_cons_self))) (PySem.W.km_tabs_of Y _ List.mem_cons_self) ?zna ?znb ?zca ?zcb ?zeab
    (case z_ValueError => k_is); (case z_abs => k_is); (case z_all => k_is); (case z_bool => k_is); (case z_enumerate => k_is); (case z_int => k_is); (case z_isinstance => k_is); (case z_len => k_is); (case z_list => k_is); (case z_max => k_is); (case z_min => k_is); (case z_range => k_is); (case z_sorted => k_is); (case z_str => k_is); (case z_tuple => k_is); (case z_zip => k_is); (case y_GREATEST => k_is); (case y_LETTERS => k_is); (case y_MOST_SIGNS => k_is); (case y_MOST_NUMBER => k_is); (case y_MOST_TEXT => k_is); (case y_MOST_ROW => k_is); (case y_MOST_DEEP => k_is); (case at_WireError => k_is); (case at_NoTurn => k_is); (case xl_NoTurn => k_is); (case sa_NoTurn => k_is); (case eC_NoTurn => k_is); (case tC_NoTurn => k_is); (case kC_NoTurn => k_is); (case ga_NoTurn => k_is); (case gg_NoTurn => k_is); (case hd_NoTurn => k_is); (case ic_NoTurn => k_is); (case ha_NoTurn => k_is); (case hn_NoTurn => k_is); (case ht_NoTurn => k_is); (case hm_NoTurn => k_is); (case no_NoTurn_path => k_is); (case no_NoTurn_why => k_is); (case at_NoBytes => k_is); (case at_NoEdition => k_is); (case at_NoLine => k_is); (case at_NoMeeting => k_is); (case at_NoQuestion => k_is); (case at_NoSchema => k_is); (case at_NoText => k_is); (case at_NoThing => k_is); (case at_NoWire => k_is); (case kit_NoTurn_NoBytes => kit_is); (case kit_NoTurn_NoEdition => kit_is); (case kit_NoTurn_NoLine => kit_is); (case kit_NoTurn_NoMeeting => kit_is); (case kit_NoTurn_NoQuestion => kit_is); (case kit_NoTurn_NoSchema => kit_is); (case kit_NoTurn_NoText => kit_is); (case kit_NoTurn_NoThing => kit_is); (case kit_NoTurn_NoWire => kit_is); (case kit_NoTurn_NoTurn => kit_is); (case kit_NoTurn_ValueError => kit_is); (case eC_WireError => k_is); (case tC_WireError => k_is); (case hd_WireError => k_is); (case sub_NoTurn_WireError => first | rfl | k_is); (case at_INSIDE => k_is); (case at_Turning => k_is); (case pg_Turning => k_is); (case hd_Turning => k_is); (case po_Turning => k_is); (case sa_Turning => k_is); (case no_old_Turning => k_is); (case no_new_Turning => k_is); (case no_twins_Turning => k_is); (case mk_Turning => k_is); (case kc_Turning => k_is); (case mr_Turning => k_is); (case eq_Turning => k_is); (case ha_Turning => k_is); (case hn_Turning => k_is); (case ht_Turning => k_is); (case kit_Turning_bool => kit_is); (case at_Schema => k_is); (case pg_Schema => k_is); (case hd_Schema => k_is); (case po_Schema => k_is); (case sa_Schema => k_is); (case no_kinds_Schema => k_is); (case no_choices_Schema => k_is); (case no_root_Schema => k_is); (case mk_Schema => k_is); (case kc_Schema => k_is); (case mr_Schema => k_is); (case eq_Schema => k_is); (case ha_Schema => k_is); (case hn_Schema => k_is); (case ht_Schema => k_is); (case kit_Schema_bool => kit_is); (case lk_INSIDE => k_is); (case a_NoTurn___init__ => k_is); (case i_NoTurn___init__ => k_is); (case l_NoTurn___init__ => k_is); (case q_NoTurn___init__ => k_is); (case k_NoTurn___init__ => k_is); (case a_is_whole => k_is); (case l_is_whole => k_is); (case q_is_whole => k_is); (case k_is_whole => k_is); (case a_is_within => k_is); (case l_is_within => k_is); (case q_is_within => k_is); (case k_is_within => k_is); (case a_is_row => k_is); (case l_is_row => k_is); (case q_is_row => k_is); (case k_is_row => k_is); (case a_left_of => k_is); (case l_left_of => k_is); (case q_left_of => k_is); (case k_left_of => k_is); (case a_Turning___init__ => k_is); (case i_Turning___init__ => k_is); (case l_Turning___init__ => k_is); (case q_Turning___init__ => k_is); (case k_Turning___init__ => k_is); (case a_Turning_beneath_maybe => k_is); (case i_Turning_beneath_maybe => k_is); (case l_Turning_beneath_maybe => k_is); (case q_Turning_beneath_maybe => k_is); (case k_Turning_beneath_maybe => k_is); (case a_Turning_beneath => k_is); (case i_Turning_beneath => k_is); (case l_Turning_beneath => k_is); (case q_Turning_beneath => k_is); (case k_Turning_beneath => k_is); (case a_Turning_go_through => k_is); (case i_Turning_go_through => k_is); (case l_Turning_go_through => k_is); (case q_Turning_go_through => k_is); (case k_Turning_go_through => k_is); (case a_Turning_turn => k_is); (case i_Turning_turn => k_is); (case l_Turning_turn => k_is); (case q_Turning_turn => k_is); (case k_Turning_turn => k_is); (case a_turned => k_is); (case l_turned => k_is); (case q_turned => k_is); (case k_turned => k_is); (case a_is_name => k_is); (case l_is_name => k_is); (case q_is_name => k_is); (case k_is_name => k_is); (case a_is_bounds => k_is); (case l_is_bounds => k_is); (case q_is_bounds => k_is); (case k_is_bounds => k_is); (case a_is_known => k_is); (case l_is_known => k_is); (case q_is_known => k_is); (case k_is_known => k_is); (case a_is_sort => k_is); (case l_is_sort => k_is); (case q_is_sort => k_is); (case k_is_sort => k_is); (case t_is_sort => k_is); (case a_is_default => k_is); (case l_is_default => k_is); (case q_is_default => k_is); (case k_is_default => k_is); (case a_refuse_if => k_is); (case l_refuse_if => k_is); (case q_refuse_if => k_is); (case k_refuse_if => k_is); (case a_look_at_heading => k_is); (case l_look_at_heading => k_is); (case q_look_at_heading => k_is); (case k_look_at_heading => k_is); (case a_look_at_part => k_is); (case l_look_at_part => k_is); (case q_look_at_part => k_is); (case k_look_at_part => k_is); (case a_Schema_comes_back => k_is); (case i_Schema_comes_back => k_is); (case l_Schema_comes_back => k_is); (case q_Schema_comes_back => k_is); (case k_Schema_comes_back => k_is); (case a_Schema___init__ => k_is); (case i_Schema___init__ => k_is); (case l_Schema___init__ => k_is); (case q_Schema___init__ => k_is); (case k_Schema___init__ => k_is); (case d_Schema___init__ => k_is); (case a_law_draw => k_is); (case l_law_draw => k_is); (case q_law_draw => k_is); (case k_law_draw => k_is); (case a_law_bound => k_is); (case l_law_bound => k_is); (case q_law_bound => k_is); (case k_law_bound => k_is); (case a_law_leaf => k_is); (case l_law_leaf => k_is); (case q_law_leaf => k_is); (case k_law_leaf => k_is); (case a_law_sort => k_is); (case l_law_sort => k_is); (case q_law_sort => k_is); (case k_law_sort => k_is); (case a_law_near => k_is); (case l_law_near => k_is); (case q_law_near => k_is); (case k_law_near => k_is); (case a_law_thing => k_is); (case l_law_thing => k_is); (case q_law_thing => k_is); (case k_law_thing => k_is); (case a_law_within => k_is); (case l_law_within => k_is); (case q_law_within => k_is); (case k_law_within => k_is); (case a_law_due => k_is); (case l_law_due => k_is); (case q_law_due => k_is); (case k_law_due => k_is); (case a_law_same => k_is); (case l_law_same => k_is); (case q_law_same => k_is); (case k_law_same => k_is); (case a_law_found => k_is); (case l_law_found => k_is); (case q_law_found => k_is); (case k_law_found => k_is); (case a_law => k_is); (case l_law => k_is); (case q_law => k_is); (case k_law => k_is); (case zata => k_is); (case zaa => k_is); (case zia => k_is); (case zla => k_is); (case zqa => k_is); (case zka => k_is); (case zna => rfl); (case zca => kernel_rfl); (case zatb => k_is); (case zab => k_is); (case zib => k_is); (case zlb => k_is); (case zqb => k_is); (case zkb => k_is); (case znb => rfl); (case zcb => kernel_rfl); (case zeab => decide)
