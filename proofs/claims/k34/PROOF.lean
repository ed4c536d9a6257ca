import PyProof.Rows.All
import Wide.All
import OpenK.AllK
import Wide.FinOn
import PyProof.EqAt
import PyProof.EqKinds
import PyProof.P3Eq
import PyProof.TupleCall
import HandS.ForMost
import HandS.Style
import HandS.TupMul
import HandS.Conv
import HandS.EndBits
import HandS.IsInst
import HandS.Walk
import HandS.Wide
import HandS.Flow
import HandS.CallLocal
import HandS.Nested
import HandS.Lambda
import HandS.EndTab
import KE.GoesEnumKw
import KE.GoesNew
import KE.KExcIs
import HandS.ExcInit
import HandS.ExcField
import HandS.ExcOwn
import HandS.ExcIs
import HandS.WordsExc
import PyProof.SeqIndex
import KE.KDictPairs
import HandS.ListItems
import HandS.MakeKw
import HandS.MakeKwOnly
import HandS.More
import HandS.TupAny
import KE.KSortKeySt
import PyProof.CollectIter
import PyProof.WalksMore
import HandS.DeepEq
import PyProof.StrOps2
import HandS.NoneIn
import HandS.Replace
import HandS.DictComp
import HandS.Zip
import HandS.Wide
import HandS.Strs
import PyProof.Rows.InDataRows
import KE.KNestM
import KE.DataCmp
import PySem.Challenge.RW_thingwires_k34_whole_readers_judged
set_option Elab.async false
set_option linter.all false
set_option maxRecDepth 100000
set_option maxHeartbeats 4000000
/-! Kb: joined rules (one rule a construct, whatever the kind of value), what a def of the text promises (Cal), heaps that keep all but some places -/
namespace Kb
open PySem PySem.Spec PyProof.Rows L2

/-! ### joined operators: each reading is opened by its own lemmas alone -/
/-- list + list, of any lists that are read -/
def rCatS (K : PySem.W.Frag) : R2 := fun x y H Q => ∃ l b xs zs, x = .ref l ∧ y = .ref b ∧ SqL K H l xs ∧ SqL K H b zs ∧ xs.length + zs.length ≤ sizeLine ∧ ∀ p, H p = none → Q (.ref p) (upd H p (.lst (xs ++ zs)))
theorem op_catS {X : Cx} : OpR X (binaryOp .Add) (rCatS X.K) := by
  intro pins s σ H x y v u Q I rx ry h
  obtain ⟨l, b, xs, zs, rfl, rfl, hH, hB, hz, q⟩ := h
  cases rx
  cases ry
  obtain ⟨its, r, ⟨⟨cls, dd, data, sl⟩, n, ho, hc, hd, hs⟩, hl⟩ := I.list hH
  obtain ⟨its2, r2, ⟨⟨cls2, dd2, data2, sl2⟩, n2, ho2, hc2, hd2, hs2⟩, hl2⟩ := I.list hB
  simp only at hc hs hc2 hs2
  subst hc hs hc2 hs2
  have e1 := r.length
  have e2 := r2.length
  have ea : its.toArray ++ its2.toArray = (its ++ its2).toArray := by simp
  refine concat_meets ⟨_, ho, rfl⟩ ⟨_, ho2, rfl⟩ noFill_list_add seq_list_add PySem.F.slot_list_add PySem.F.entry_list_add (PySem.F.args_list_add_2 _ _) (list_addW l b its.toArray its2.toArray n n2 dd dd2 sl sl2 (by simp only [List.size_toArray]; omega)) ⟨ho, ho2, ?_⟩
  rw [ea]
  exact ⟨.ref _, _, I.lnew (t' := s.toks) (r.append r2) (by rw [List.length_append]; omega), rfl, q _ I.fresh⟩
@[irreducible] def rAddU (K : PySem.W.Frag) : R2 := fun x y H Q => rI0 (fun i j => .int (i + j)) x y H Q ∨ (∃ i j, x = .str i ∧ y = .str j ∧ i.length + j.length ≤ sizeLine ∧ Q (.str (i ++ j)) H) ∨ rCatS K x y H Q ∨ rCatT K x y H Q
@[irreducible] def rSubU : R2 := rI0 fun i j => .int (i - j)
@[irreducible] def rMulU (K : PySem.W.Frag) : R2 := fun x y H Q => rI CMul (fun i j => .int (i * j)) x y H Q ∨ rRep x y H Q ∨ rRepT K x y H Q
@[irreducible] def rDivU : R2 := rI CDiv fun i j => .int (i / j)
@[irreducible] def rDivW : R2 := rI CDivW fun i j => .int (i / j)
@[irreducible] def rModU : R2 := rI (fun _ j => 0 < j) fun i j => .int (i % j)
@[irreducible] def rPowU : R2 := rI CPow fun i j => .int (i ^ j.toNat)
@[irreducible] def rEqU (K : PySem.W.Frag) : R2 := fun x y H Q => rEq x y H Q ∨ rEqD K x y H Q
@[irreducible] def rNeU (K : PySem.W.Frag) : R2 := fun x y H Q => rNe x y H Q ∨ rNeD K x y H Q
@[irreducible] def rLtU : R2 := fun x y H Q => rI0 (fun i j => .bl (decide (i < j))) x y H Q ∨ ∃ i j, x = .str i ∧ y = .str j ∧ Q (.bl (decide (i.cps.toList < j.cps.toList))) H
@[irreducible] def rLeU : R2 := rI0 fun i j => .bl (decide (i ≤ j))
@[irreducible] def rGtU : R2 := fun x y H Q => rI0 (fun i j => .bl (decide (j < i))) x y H Q ∨ ∃ i j, x = .str i ∧ y = .str j ∧ Q (.bl (decide (j.cps.toList < i.cps.toList))) H
@[irreducible] def rGeU : R2 := rI0 fun i j => .bl (decide (j ≤ i))
@[irreducible] def rIsNU : R2 := fun x y H Q => y = .non ∧ Q (.bl (decide (x = .non))) H
@[irreducible] def rNotNU : R2 := fun x y H Q => y = .non ∧ Q (.bl (!decide (x = .non))) H
@[irreducible] def rInU (K : PySem.W.Frag) : R2 := fun x y H Q => (∃ (c : Nat) (z : Str), x = .str ⟨#[c]⟩ ∧ y = .str z ∧ Q (.bl (decide (c ∈ z.cps.toList))) H) ∨ rIn K false x y H Q
@[irreducible] def rNotInU (K : PySem.W.Frag) : R2 := fun x y H Q => (∃ (c : Nat) (z : Str), x = .str ⟨#[c]⟩ ∧ y = .str z ∧ Q (.bl (!decide (c ∈ z.cps.toList))) H) ∨ rIn K true x y H Q
@[irreducible] def rIxU (K : PySem.W.Frag) : R2 := rIx K
@[irreducible] def rSetU : V → V → V → Hp → (Hp → Prop) → Prop := rSetL
@[irreducible] def rIAddU : R2 := fun x y H Q => rI0 (fun i j => .int (i + j)) x y H Q ∨ (∃ i j, x = .str i ∧ y = .str j ∧ i.length + j.length ≤ sizeLine ∧ Q (.str (i ++ j)) H) ∨ rExt2 x y H Q
@[irreducible] def rISubU : R2 := rI0 fun i j => .int (i - j)
@[irreducible] def rIModU : R2 := rI (fun _ j => 0 < j) fun i j => .int (i % j)
@[irreducible] def rNegU : V → Hp → VK → Prop := rU fun i => .int (-i)
section
variable {X : Cx}
theorem u_add : OpR X (binaryOp .Add) (rAddU X.K) := by unfold rAddU; exact op_add.or (op_add_str.or (op_catS.or op_catT))
theorem u_sub : OpR X (binaryOp .Sub) rSubU := by unfold rSubU; exact op_sub
theorem u_mul : OpR X (binaryOp .Mult) (rMulU X.K) := by unfold rMulU; exact op_mul.or (op_rep.or op_repT)
theorem u_div : OpR X (binaryOp .FloorDiv) rDivU := by unfold rDivU; exact op_fdiv
theorem u_mod : OpR X (binaryOp .Mod) rModU := by unfold rModU; exact op_mod
theorem u_pow : OpR X (binaryOp .Pow) rPowU := by unfold rPowU; exact op_pow
theorem u_eq (hu : X.A.units + 64 < cLine) : OpR X (compareOp .Eq) (rEqU X.K) := by unfold rEqU; exact op_eq.or (op_eqD hu)
theorem u_ne (hu : X.A.units + 64 < cLine) : OpR X (compareOp .NotEq) (rNeU X.K) := by unfold rNeU; exact op_ne.or (op_neD hu)
theorem u_lt : OpR X (compareOp .Lt) rLtU := by unfold rLtU; exact op_lt.or op_lt_str
theorem u_le : OpR X (compareOp .LtE) rLeU := by unfold rLeU; exact op_le
theorem u_gt : OpR X (compareOp .Gt) rGtU := by unfold rGtU; exact op_gt.or op_gt_str
theorem u_ge : OpR X (compareOp .GtE) rGeU := by unfold rGeU; exact op_ge
theorem u_isN : OpR X (compareOp .Is) rIsNU := by unfold rIsNU; exact op_isN
theorem u_notN : OpR X (compareOp .IsNot) rNotNU := by unfold rNotNU; exact op_notN
theorem u_in : OpR X (compareOp .In) (rInU X.K) := by unfold rInU; exact op_in_sign.or op_in_seq
theorem u_notIn : OpR X (compareOp .NotIn) (rNotInU X.K) := by unfold rNotInU; exact op_notIn_sign.or op_notIn_seq
theorem u_ix : IxR X (rIxU X.K) := by unfold rIxU; exact ix_seq
theorem u_set : PSet X rSetU := by unfold rSetU; exact set_list
theorem u_iadd : PIp X .Add rIAddU := by unfold rIAddU; exact iop_add.or (iop_add_str.or iop_ext)
theorem u_isub : PIp X .Sub rISubU := by unfold rISubU; exact iop_sub
theorem u_imod : PIp X .Mod rIModU := by unfold rIModU; exact iop_mod
theorem u_neg : UnR X (unaryOp .USub) rNegU := by unfold rNegU; exact un_neg
end
theorem sz_of' {n : Nat} (h : n ≤ 16777216) : n ≤ sizeLine := Nat.le_trans h (by decide)
theorem szlt_of {n : Nat} (h : n < 16777216) : n < sizeLine := Nat.lt_of_lt_of_le h (by decide)
theorem cmul_l {i j : Int} (a : -18446744073709551616 < i) (b : i < 18446744073709551616) : CMul i j := .inl ⟨a, b⟩
theorem cmul_r {i j : Int} (a : -18446744073709551616 < j) (b : j < 18446744073709551616) : CMul i j := .inr ⟨a, b⟩
section
variable {K : PySem.W.Frag} {H : Hp} {Q : VK} {i j : Int} {x y : V} {a b : Addr} {xs ys : List V}
theorem add_go (q : Q (.int (i + j)) H) : rAddU K (.int i) (.int j) H Q := by unfold rAddU; exact .inl ⟨_, _, rfl, rfl, q⟩
theorem addS_go {u v : Str} (h : u.length + v.length ≤ 16777216) (q : Q (.str (u ++ v)) H) : rAddU K (.str u) (.str v) H Q := by unfold rAddU; exact .inr (.inl ⟨_, _, rfl, rfl, sz_of' h, q⟩)
theorem addLS_go (ha : SqL K H a xs) (hb : SqL K H b ys) (h : xs.length + ys.length ≤ 16777216) (q : ∀ p, H p = none → Q (.ref p) (upd H p (.lst (xs ++ ys)))) : rAddU K (.ref a) (.ref b) H Q := by
  unfold rAddU; exact .inr (.inr (.inl ⟨_, _, _, _, rfl, rfl, ha, hb, sz_of' h, q⟩))
theorem addL_go (ha : H a = some (.lst xs)) (hb : H b = some (.lst ys)) (h : xs.length + ys.length ≤ 16777216) (q : ∀ p, H p = none → Q (.ref p) (upd H p (.lst (xs ++ ys)))) : rAddU K (.ref a) (.ref b) H Q := addLS_go (SqL.of ha) (SqL.of hb) h q
theorem addT_go (ha : SqT K H a xs) (hb : SqT K H b ys) (h0 : xs ≠ []) (h : xs.length + ys.length ≤ 16777216) (q0 : ys = [] → Q (.ref a) H) (q : ys ≠ [] → ∀ p, H p = none → Q (.ref p) (upd H p (.tup (xs ++ ys)))) : rAddU K (.ref a) (.ref b) H Q := by
  unfold rAddU; exact .inr (.inr (.inr ⟨_, _, _, _, rfl, rfl, ha, hb, h0, sz_of' h, q0, q⟩))
theorem sub_go (q : Q (.int (i - j)) H) : rSubU (.int i) (.int j) H Q := by unfold rSubU; exact ⟨_, _, rfl, rfl, q⟩
theorem mul_goL (a : -18446744073709551616 < i) (b : i < 18446744073709551616) (q : Q (.int (i * j)) H) : rMulU K (.int i) (.int j) H Q := by unfold rMulU; exact .inl ⟨_, _, rfl, rfl, cmul_l a b, q⟩
theorem mul_goR (a : -18446744073709551616 < j) (b : j < 18446744073709551616) (q : Q (.int (i * j)) H) : rMulU K (.int i) (.int j) H Q := by unfold rMulU; exact .inl ⟨_, _, rfl, rfl, cmul_r a b, q⟩
theorem rep_go (ha : H a = some (.lst xs)) (h0 : -9223372036854775808 ≤ i) (h1 : i < 9223372036854775808) (h : xs.length * i.toNat ≤ 16777216) (q : ∀ p, H p = none → Q (.ref p) (upd H p (.lst (List.replicate i.toNat xs).flatten))) : rMulU K (.ref a) (.int i) H Q := by
  unfold rMulU; exact .inr (.inl ⟨_, _, _, rfl, rfl, ha, h0, h1, sz_of' h, q⟩)
theorem div_go (a : 0 < j) (b : j < 1073741824) (q : Q (.int (i / j)) H) : rDivU (.int i) (.int j) H Q := by unfold rDivU; exact ⟨_, _, rfl, rfl, ⟨a, b⟩, q⟩
theorem divW_go (h : CDivW i j) (q : Q (.int (i / j)) H) : rDivW (.int i) (.int j) H Q := by unfold rDivW; exact ⟨_, _, rfl, rfl, h, q⟩
theorem mod_go (a : 0 < j) (q : Q (.int (i % j)) H) : rModU (.int i) (.int j) H Q := by unfold rModU; exact ⟨_, _, rfl, rfl, a, q⟩
theorem pow_go (a : 0 ≤ j) (b : j ≤ 1000000) (c : i.natAbs < 2 ^ 64) (q : Q (.int (i ^ j.toNat)) H) : rPowU (.int i) (.int j) H Q := by unfold rPowU; exact ⟨_, _, rfl, rfl, ⟨a, b, c⟩, q⟩
theorem neg_go (q : Q (.int (-i)) H) : rNegU (.int i) H Q := by unfold rNegU; exact ⟨_, rfl, q⟩
theorem dInt : decide (V.int i = V.int j) = decide (i = j) := by simp
theorem dStr {u v : Str} : decide (V.str u = V.str v) = decide (u = v) := by simp
theorem dBl {u v : Bool} : decide (V.bl u = V.bl v) = decide (u = v) := by simp
theorem eq_go (q : Q (.bl (decide (i = j))) H) : rEqU K (.int i) (.int j) H Q := by unfold rEqU; exact .inl ⟨rfl, by rw [dInt]; exact q⟩
theorem eqS_go {u v : Str} (q : Q (.bl (decide (u = v))) H) : rEqU K (.str u) (.str v) H Q := by unfold rEqU; exact .inl ⟨rfl, by rw [dStr]; exact q⟩
theorem eqB_go {u v : Bool} (q : Q (.bl (decide (u = v))) H) : rEqU K (.bl u) (.bl v) H Q := by unfold rEqU; exact .inl ⟨rfl, by rw [dBl]; exact q⟩
theorem eqN_go (q : Q (.bl true) H) : rEqU K .non .non H Q := by unfold rEqU; exact .inl ⟨rfl, q⟩
theorem eqD_go {d e : PyData} (hx : Dp K H x d) (hy : Dp K H y e) (sx : SeqAt.shaped d = true) (sy : SeqAt.shaped e = true) (q : Q (.bl (PyData.eqv d e)) H) : rEqU K x y H Q := by unfold rEqU; exact .inr ⟨d, e, hx, hy, sx, sy, q⟩
theorem ne_go (q : Q (.bl (!decide (i = j))) H) : rNeU K (.int i) (.int j) H Q := by unfold rNeU; exact .inl ⟨rfl, by rw [dInt]; exact q⟩
theorem neS_go {u v : Str} (q : Q (.bl (!decide (u = v))) H) : rNeU K (.str u) (.str v) H Q := by unfold rNeU; exact .inl ⟨rfl, by rw [dStr]; exact q⟩
theorem neB_go {u v : Bool} (q : Q (.bl (!decide (u = v))) H) : rNeU K (.bl u) (.bl v) H Q := by unfold rNeU; exact .inl ⟨rfl, by rw [dBl]; exact q⟩
theorem neD_go {d e : PyData} (hx : Dp K H x d) (hy : Dp K H y e) (sx : SeqAt.shaped d = true) (sy : SeqAt.shaped e = true) (q : Q (.bl (!PyData.eqv d e)) H) : rNeU K x y H Q := by unfold rNeU; exact .inr ⟨d, e, hx, hy, sx, sy, q⟩
theorem lt_go (q : Q (.bl (decide (i < j))) H) : rLtU (.int i) (.int j) H Q := by unfold rLtU; exact .inl ⟨_, _, rfl, rfl, q⟩
theorem ltS_go {u v : Str} (q : Q (.bl (decide (u.cps.toList < v.cps.toList))) H) : rLtU (.str u) (.str v) H Q := by unfold rLtU; exact .inr ⟨_, _, rfl, rfl, q⟩
theorem le_go (q : Q (.bl (decide (i ≤ j))) H) : rLeU (.int i) (.int j) H Q := by unfold rLeU; exact ⟨_, _, rfl, rfl, q⟩
theorem gt_go (q : Q (.bl (decide (j < i))) H) : rGtU (.int i) (.int j) H Q := by unfold rGtU; exact .inl ⟨_, _, rfl, rfl, q⟩
theorem gtS_go {u v : Str} (q : Q (.bl (decide (v.cps.toList < u.cps.toList))) H) : rGtU (.str u) (.str v) H Q := by unfold rGtU; exact .inr ⟨_, _, rfl, rfl, q⟩
theorem ge_go (q : Q (.bl (decide (j ≤ i))) H) : rGeU (.int i) (.int j) H Q := by unfold rGeU; exact ⟨_, _, rfl, rfl, q⟩
theorem isN_go (q : Q (.bl (decide (x = .non))) H) : rIsNU x .non H Q := by unfold rIsNU; exact ⟨rfl, q⟩
theorem notN_go (q : Q (.bl (!decide (x = .non))) H) : rNotNU x .non H Q := by unfold rNotNU; exact ⟨rfl, q⟩
theorem inC_go {c : Nat} {z : Str} (q : Q (.bl (decide (c ∈ z.cps.toList))) H) : rInU K (.str ⟨#[c]⟩) (.str z) H Q := by unfold rInU; exact .inl ⟨_, _, rfl, rfl, q⟩
theorem inL_go (h : SqL K H a xs) (fx : flatV x = true) (fs : xs.all flatV = true) (q : Q (.bl (inV x xs)) H) : rInU K x (.ref a) H Q := by unfold rInU; exact .inr ⟨_, _, rfl, .inl h, fx, fs, q⟩
theorem inT_go (h : SqT K H a xs) (fx : flatV x = true) (fs : xs.all flatV = true) (q : Q (.bl (inV x xs)) H) : rInU K x (.ref a) H Q := by unfold rInU; exact .inr ⟨_, _, rfl, .inr h, fx, fs, q⟩
theorem notInC_go {c : Nat} {z : Str} (q : Q (.bl (!decide (c ∈ z.cps.toList))) H) : rNotInU K (.str ⟨#[c]⟩) (.str z) H Q := by unfold rNotInU; exact .inl ⟨_, _, rfl, rfl, q⟩
theorem notInL_go (h : SqL K H a xs) (fx : flatV x = true) (fs : xs.all flatV = true) (q : Q (.bl (!inV x xs)) H) : rNotInU K x (.ref a) H Q := by unfold rNotInU; exact .inr ⟨_, _, rfl, .inl h, fx, fs, q⟩
theorem ixL_go (h : SqL K H a xs) (e : atI xs i = some x) (q : Q x H) : rIxU K (.ref a) (.int i) H Q := by unfold rIxU; exact .inl ⟨_, _, _, _, rfl, rfl, h, e, q⟩
theorem ixT_go (h : SqT K H a xs) (e : atI xs i = some x) (q : Q x H) : rIxU K (.ref a) (.int i) H Q := by unfold rIxU; exact .inr (.inl ⟨_, _, _, _, rfl, rfl, h, e, q⟩)
theorem ixS_go {z : Str} {c : Nat} (h : z.length ≤ 16777216) (e : atI z.cps.toList i = some c) (q : Q (.str ⟨#[c]⟩) H) : rIxU K (.str z) (.int i) H Q := by unfold rIxU; exact .inr (.inr ⟨_, _, _, rfl, rfl, sz_of' h, e, q⟩)
theorem set_go {k : Nat} {Q : Hp → Prop} (h : H a = some (.lst xs)) (e : ixN xs.length i = some k) (q : Q (upd H a (.lst (xs.set k x)))) : rSetU (.ref a) (.int i) x H Q := by unfold rSetU; exact ⟨_, _, _, _, rfl, rfl, h, e, q⟩
theorem iadd_go (q : Q (.int (i + j)) H) : rIAddU (.int i) (.int j) H Q := by unfold rIAddU; exact .inl ⟨_, _, rfl, rfl, q⟩
theorem iaddS_go {u v : Str} (h : u.length + v.length ≤ 16777216) (q : Q (.str (u ++ v)) H) : rIAddU (.str u) (.str v) H Q := by unfold rIAddU; exact .inr (.inl ⟨_, _, rfl, rfl, sz_of' h, q⟩)
theorem iaddL_go (ha : H a = some (.lst xs)) (hb : H b = some (.lst ys)) (h : xs.length + ys.length ≤ 16777216) (q : Q (.ref a) (upd H a (.lst (xs ++ ys)))) : rIAddU (.ref a) (.ref b) H Q := by
  unfold rIAddU; exact .inr (.inr ⟨_, _, _, _, rfl, rfl, ha, hb, sz_of' h, q⟩)
theorem isub_go (q : Q (.int (i - j)) H) : rISubU (.int i) (.int j) H Q := by unfold rISubU; exact ⟨_, _, rfl, rfl, q⟩
theorem imod_go (a : 0 < j) (q : Q (.int (i % j)) H) : rIModU (.int i) (.int j) H Q := by unfold rIModU; exact ⟨_, _, rfl, rfl, a, q⟩
end

/-! ### names of the module -/
section
variable {X : Cx} {x : Str} {pos : Pos}
theorem pe_gint {i : Int} (hg : Gl X x) (hm : ∃ t, X.mg x = some (.int i t)) (hd : (x == ("__debug__" : Str)) = false := by decide) : PE X (.Name x pos) (tC (.int i)) := by
  obtain ⟨t, hm⟩ := hm
  exact pe_glob hg hm ⟨t, rfl⟩ hd
theorem pe_gstr {i : Str} (hg : Gl X x) (hm : ∃ t, X.mg x = some (.str i t)) (hd : (x == ("__debug__" : Str)) = false := by decide) : PE X (.Name x pos) (tC (.str i)) := by
  obtain ⟨t, hm⟩ := hm
  exact pe_glob hg hm ⟨t, rfl⟩ hd
end

/-! ### defs of the text -/
def Def (K : PySem.W.Frag) (mg : Str → Option Value) (st : Stmt) (x : Str) : Prop := ∃ f fd, mg x = some (.ref f) ∧ Fun K x x st f fd
def FdAt (K : PySem.W.Frag) (f : Addr) (fd : FuncData) : Prop := ∃ oc od osl, K.lookup f = some ⟨oc, od, .func fd, osl⟩
theorem FdAt.eq {K : PySem.W.Frag} {f : Addr} {fd fd' : FuncData} (a : FdAt K f fd) (b : FdAt K f fd') : fd = fd' := by
  obtain ⟨_, _, _, a⟩ := a
  obtain ⟨_, _, _, b⟩ := b
  rw [a] at b
  cases b
  rfl
theorem Fun.at_ {K : PySem.W.Frag} {x qual : Str} {st : Stmt} {f : Addr} {fd : FuncData} (F : Fun K x qual st f fd) : FdAt K f fd := by
  obtain ⟨oc, od, kV, doc, pm, an, cdv, ct, osl, rfl, lk, hcd⟩ := F.ex
  exact ⟨oc, od, osl, lk⟩
/-- the def x of the module keeps the promise sp -/
structure Cal (P : Program) (w : World) (K : PySem.W.Frag) (mg : Str → Option Value) (base : Heap) (CX : CXT) (k : Nat) (x : Str) (ps : List Str) (sp : Sp) : Prop where
  ex : ∃ f fd, mg x = some (.ref f) ∧ FnOk P w K mg base CX k f fd ps sp ∧ PySem.W.keepIn K (.ref f) = true ∧ (∀ us : List Value, us.length = ps.length → bindArgs fd ⟨us, []⟩ = pure (ps.zip us)) ∧ FdAt K f fd
section
variable {P : Program} {w : World} {K : PySem.W.Frag} {mg : Str → Option Value} {base : Heap}
theorem Cal.of {x : Str} {st : Stmt} {N ps : List Str} {k : Nat} {sp : Sp} (D : Def K mg st x) (S : FnScope N ps (defScope st))
    (hb : ∀ (kV doc pm : Value) (an : Option Addr) (cdv ct : Value) (us : List Value), us.length = ps.length → bindArgs (PySem.W.fnOf x x (defArgs st) (defBody st) (defScope st) .none kV doc pm an cdv ct) ⟨us, []⟩ = pure (ps.zip us))
    (len : ∀ vs H Q E, sp vs H Q E → vs.length = ps.length)
    (hbody : ∀ (f : Addr) (cdv : Value) (A : Around) (outer : List Env) (s : Shared) (H : Hp) (vs : List V) (Q : VK) (E : XK), Room k (A.deeper (envOfC x (defScope st) s.heap.objs.size f cdv)) → sp vs H Q E →
      ∃ t, PSs (cxOf CX0 P w K mg base N x (defScope st) f cdv A outer s H E).nox (defBody st) t ∧ t { nx := fun _ H' => Q .non H', rt := Q } (start N vs) H) : Cal P w K mg base CX0 (k + 1) x ps sp := by
  obtain ⟨f, fd, hm, F⟩ := D
  refine ⟨f, fd, hm, F.ok S len (hbody f), F.kp, ?_, Fun.at_ F⟩
  obtain ⟨oc, od, kV, doc, pm, an, cdv, ct, osl, rfl, lk, hcd⟩ := F.ex
  exact hb kV doc pm an cdv ct
theorem Cal.bound {CX : CXT} {k : Nat} {x : Str} {ps : List Str} {sp : Sp} (C : Cal P w K mg base CX k x ps sp) : ∃ f fd, mg x = some (.ref f) ∧ FnOk P w K mg base CX k f fd ps sp ∧ PySem.W.keepIn K (.ref f) = true ∧ Binds K fd ps [] := by
  obtain ⟨f, fd, a, b, c, d, _⟩ := C.ex
  exact ⟨f, fd, a, b, c, .all d⟩
theorem Cal.end_ {x y : Str} {st : Stmt} {k : Nat} {sp : Sp} {fa : Addr} (D : Def K mg st x) (C : ∀ base : Heap, Cal P w K mg base CX0 k x [y] sp) (h : mg x = some (.ref fa)) :
    ∃ fd : FuncData, (∀ (s : Shared) (v : Value), BindsTo s fd ⟨[v], []⟩ [(y, v)]) ∧ ∀ base : Heap, K.In base → base.Ns mainGlobals mg → FnOk P w K mg base CX0 k fa fd [y] sp := by
  obtain ⟨f, fd, hm, F⟩ := D
  have e := h.symm.trans hm
  cases e
  have key : ∀ base : Heap, FnOk P w K mg base CX0 k fa fd [y] sp ∧ ∀ us : List Value, us.length = [y].length → bindArgs fd ⟨us, []⟩ = pure ([y].zip us) := fun base => by
    obtain ⟨f', fd', hm', G, _, hb, hA⟩ := (C base).ex
    have e := hm'.symm.trans hm
    cases e
    have e2 := hA.eq (Fun.at_ F)
    subst e2
    exact ⟨G, hb⟩
  exact ⟨fd, fun s v => .of_eq ((key default).2 [v] rfl), fun base _ _ => (key base).1⟩
end
section
variable {X : Cx} {CX : CXT} {k : Nat} {x : Str} {ps : List Str} {sp : Sp} {E : XK} {e : Expr} {es : List Expr} {t : TA} {p pos : Pos}
theorem pe_callC (C : Cal X.prog X.w X.K X.mg X.base CX k x ps sp) (hr : Room k X.A) (hg : Gl X x) (hx : Passes CX X E)
    (ha : PA X (e :: es) t) (hdb : (x == ("__debug__" : Str)) = false := by decide) (he : starEach (e :: es) X.env = (false, eval e X.env) :: starEach es X.env := by rfl) (hpl : (backTo pos (starEach es X.env)).any (·.1) = false := by rfl) :
    PE X (.Call (.Name x p) (e :: es) [] pos) (tCall sp [] E t) := by
  obtain ⟨f, fd, hm, F, hk, hb⟩ := C.bound
  exact pe_call F hr hg hm hk hb .nil hx ha hdb he hpl
theorem pe_callC0 (C : Cal X.prog X.w X.K X.mg X.base CX k x ps sp) (hr : Room k X.A) (hg : Gl X x) (hx : Passes CX X E)
    (hdb : (x == ("__debug__" : Str)) = false := by decide) : PE X (.Call (.Name x p) [] [] pos) (tCall sp [] E tNil) := by
  obtain ⟨f, fd, hm, F, hk, hb⟩ := C.bound
  exact pe_call0 F hr hg hm hk hb .nil hx hdb
/-- f(k = v): all by names -/
theorem pe_callK0 {f : Addr} {fd : FuncData} {ks : List Str} {g : List Value → List Value → List Value} {gV : List V → List V → List V} {kws : List Keyword} {tk : TA} (F : FnOk X.prog X.w X.K X.mg X.base CX k f fd ps sp) (hr : Room k X.A) (hg : Gl X x) (hm : X.mg x = some (.ref f)) (hk : PySem.W.keepIn X.K (.ref f) = true) (hb : KBinds X.K fd ps ks g gV) (hx : Passes CX X E)
    (hkw : PK X kws tk) (hall : (backToKw pos (keywordEach kws X.env)).all (·.1.isSome) = true := by rfl) (hks : (backToKw pos (keywordEach kws X.env)).filterMap (·.1) = ks := by rfl)
    (hdb : (x == ("__debug__" : Str)) = false := by decide)
    (hpl : ((backTo pos (starEach [] X.env)).any (·.1) || (backToKw pos (keywordEach kws X.env)).any (·.1.isNone)) = false := by rfl) :
    PE X (.Call (.Name x p) [] kws pos) (tCallK sp gV E tNil tk) := by
  refine ⟨fun pins s σ H Q I h => ?_⟩
  refine wpAny_Call_Name_kw (ld_glob I hg hm ?_ hdb)
  refine PySem.W.callWith_KW0 (h₀ := X.base) I.ok.mod.kin hk hall ?_ hpl
  have h : tk σ H fun zs H2 => sp (gV [] zs) H2 Q E := h
  refine thn (hkw.run pos pins s σ H _ I h) fun ws s2 ⟨zs, H2, I2, rz, q2⟩ => ⟨I2.kIn, ?_⟩
  rw [hks]
  exact run_fnk (us := []) (vs := []) F hr hb hx I2 .nil rz q2
end

/-! ### joined calls of built-ins -/
@[irreducible] def rLenU (K : PySem.W.Frag) : List V → Hp → VK → Prop := fun xs H Q => (∃ x n, xs = [x] ∧ LenV K x H n ∧ Q (.int n) H) ∨ ∃ a kvs, xs = [V.ref a] ∧ H a = some (.dK kvs) ∧ Q (.int kvs.length) H
@[irreducible] def rIsiU (K : PySem.W.Frag) : List V → Hp → VK → Prop := fun xs H Q => rIsi K xs H Q ∨ rIsiT K xs H Q
@[irreducible] def rIntU : List V → Hp → VK → Prop := fun xs H Q => (∃ i, xs = [.int i] ∧ Q (.int i) H) ∨ ∃ k, xs = [.bl k] ∧ Q (.int (if k then 1 else 0)) H
@[irreducible] def rBoolU : List V → Hp → VK → Prop := fun xs H Q => (∃ i, xs = [.int i] ∧ Q (.bl (i != 0)) H) ∨ ∃ k, xs = [.bl k] ∧ Q (.bl k) H
@[irreducible] def rAbsU : List V → Hp → VK → Prop := fun xs H Q => ∃ i, xs = [.int i] ∧ Q (.int (if i < 0 then -i else i)) H
@[irreducible] def rOrdU : List V → Hp → VK → Prop := fun xs H Q => ∃ x, xs = [.str x] ∧ x.length = 1 ∧ Q (.int (x.cps.getD 0 0 : Nat)) H
@[irreducible] def rListU (K : PySem.W.Frag) : List V → Hp → VK → Prop := fun xs H Q => ∃ p ys, xs = [.ref p] ∧ (SqL K H p ys ∨ SqT K H p ys) ∧ ∀ l, H l = none → Q (.ref l) (upd H l (.lst ys))
@[irreducible] def rTupleU (K : PySem.W.Frag) : List V → Hp → VK → Prop := fun xs H Q => ∃ p ys, xs = [.ref p] ∧ ((SqL K H p ys ∧ ∀ l, H l = none → Q (.ref l) (upd H l (.tup ys))) ∨ (SqT K H p ys ∧ Q (.ref p) H))
@[irreducible] def rAllU (K : PySem.W.Frag) : List V → Hp → VK → Prop := rAll K
@[irreducible] def rAnyU (K : PySem.W.Frag) : List V → Hp → VK → Prop := rAny K
@[irreducible] def rSumU (K : PySem.W.Frag) : List V → Hp → VK → Prop := rSum K
@[irreducible] def rAppU : V → List V → Hp → VK → Prop := rAppend
@[irreducible] def rPopU : V → List V → Hp → VK → Prop := fun x vs H Q => rPop x vs H Q ∨ rPopAt x vs H Q
@[irreducible] def rExtU : V → List V → Hp → VK → Prop := rExtend
@[irreducible] def rSlLU (K : PySem.W.Frag) : V → Option Int → Option Int → Hp → VK → Prop := rSlL K
@[irreducible] def rSlSU : V → Option Int → Option Int → Hp → VK → Prop := rSlS
@[irreducible] def rSlTU (K : PySem.W.Frag) : V → Option Int → Option Int → Hp → VK → Prop := rSlT K
section
variable {X : Cx}
theorem CallR.or {f : Value} {r r' : List V → Hp → VK → Prop} (h : CallR X f r) (h' : CallR X f r') : CallR X f (fun xs H Q => r xs H Q ∨ r' xs H Q) := by
  intro pins s σ H xs us Q I r q
  rcases q with q | q
  · exact h pins s σ H xs us Q I r q
  · exact h' pins s σ H xs us Q I r q
theorem MtR.or {id : String} {r r' : V → List V → Hp → VK → Prop} (h : MtR X id r) (h' : MtR X id r') : MtR X id (fun x xs H Q => r x xs H Q ∨ r' x xs H Q) := by
  intro pins s σ H x xs v us Q I rx rs q
  rcases q with q | q
  · exact h pins s σ H x xs v us Q I rx rs q
  · exact h' pins s σ H x xs v us Q I rx rs q
theorem u_len : CallR X (.builtin "len") (rLenU X.K) := by unfold rLenU; exact CallR.or call_len call_lenD
theorem u_isi : CallR X (.builtin "isinstance") (rIsiU X.K) := by unfold rIsiU; exact CallR.or call_isi call_isiT
theorem u_int : CallR X (.type "int") rIntU := by unfold rIntU; exact call_int1
theorem u_bool : CallR X (.type "bool") rBoolU := by unfold rBoolU; exact call_bool1
theorem u_abs : CallR X (.builtin "abs") rAbsU := by unfold rAbsU; exact call_abs
theorem u_ord : CallR X (.builtin "ord") rOrdU := by unfold rOrdU; exact call_ord
theorem u_list : CallR X (.type "list") (rListU X.K) := by unfold rListU; exact call_list_of
theorem u_tuple : CallR X (.type "tuple") (rTupleU X.K) := by unfold rTupleU; exact call_tuple_of
theorem u_all (hc : X.calm = true) : CallR X (.builtin "all") (rAllU X.K) := by unfold rAllU; exact cr_all hc
theorem u_any (hc : X.calm = true) : CallR X (.builtin "any") (rAnyU X.K) := by unfold rAnyU; exact cr_any hc
theorem u_sum (hc : X.calm = true) : CallR X (.builtin "sum") (rSumU X.K) := by unfold rSumU; exact cr_sum hc
theorem u_append : MtR X "list.append" rAppU := by unfold rAppU; exact mt_append
theorem u_pop : MtR X "list.pop" rPopU := by unfold rPopU; exact MtR.or mt_pop mt_popAt
theorem u_extend : MtR X "list.extend" rExtU := by unfold rExtU; exact mt_extend
theorem u_slL : SlR X (rSlLU X.K) := by unfold rSlLU; exact sl_list
theorem u_slS : SlR X rSlSU := by unfold rSlSU; exact sl_str
theorem u_slT : SlR X (rSlTU X.K) := by unfold rSlTU; exact sl_tup
end
def tTru (K : PySem.W.Frag) (ta : TE) : TT := fun σ H Q => ta σ H fun x H' => ∃ k, TruV K x H' k ∧ Q k H'
def rJoin (K : PySem.W.Frag) : V → List V → Hp → VK → Prop := fun x xs H Q => ∃ a p, ∃ ys : List Str, x = .str a ∧ xs = [.ref p] ∧ (SqL K H p (ys.map V.str) ∨ SqT K H p (ys.map V.str)) ∧ (ys.map (·.length)).sum + ys.length * a.length ≤ 16777216 ∧ Q (.str (Txt.join a ys)) H
def rUpper : V → List V → Hp → VK → Prop := fun x xs H Q => ∃ a, x = .str a ∧ xs = [] ∧ a.length ≤ 5592405 ∧ Q (.str (Txt.upper a)) H
section
variable {K : PySem.W.Frag} {H : Hp} {Q : VK} {i j : Int} {x y : V} {a b : Addr} {xs ys : List V}
theorem len_str {z : Str} (h : z.length ≤ 16777216) (q : Q (.int z.length) H) : rLenU K [.str z] H Q := by unfold rLenU; exact .inl ⟨_, _, rfl, ⟨sz_of' h, rfl⟩, q⟩
theorem len_lst (h : SqL K H a xs) (q : Q (.int xs.length) H) : rLenU K [.ref a] H Q := by unfold rLenU; exact .inl ⟨_, _, rfl, .inl ⟨xs, h, rfl⟩, q⟩
theorem len_tup (h : SqT K H a xs) (q : Q (.int xs.length) H) : rLenU K [.ref a] H Q := by unfold rLenU; exact .inl ⟨_, _, rfl, .inr ⟨xs, h, rfl⟩, q⟩
theorem len_dK {kvs : List (Key × V)} (h : H a = some (.dK kvs)) (q : Q (.int kvs.length) H) : rLenU K [.ref a] H Q := by unfold rLenU; exact .inr ⟨_, _, rfl, h, q⟩
theorem isi_go {t n : String} {b : Bool} (ty : TyX K H x (.type t)) (k : PySem.W.kitOne K (.type t) (.type n) = some b) (q : Q (.bl b) H) : rIsiU K [x, .ty n] H Q := by unfold rIsiU; exact .inl ⟨x, .ty n, .type t, .type n, b, rfl, .ty n, ty, k, q⟩
theorem isi2_go {t m n : String} {b c : Bool} (hp : H a = some (.tup [.ty m, .ty n])) (ty : TyX K H x (.type t)) (k1 : PySem.W.kitOne K (.type t) (.type m) = some b) (k2 : PySem.W.kitOne K (.type t) (.type n) = some c) (q : Q (.bl (b || c)) H) : rIsiU K [x, .ref a] H Q := by
  unfold rIsiU
  refine .inr ⟨x, a, _, .type t, _, b || c, rfl, hp, .cons (.ty m) (.cons (.ty n) .nil), ty, ?_, q⟩
  refine kitAny_cons k1 (fun e => ?_) (fun e => by rw [e]; rfl)
  refine kitAny_cons k2 (fun e2 => ?_) (fun e2 => by rw [e2]; exact Bool.or_true _)
  rw [e, e2]
  exact kitAny_nil
theorem int_go (q : Q (.int i) H) : rIntU [.int i] H Q := by unfold rIntU; exact .inl ⟨_, rfl, q⟩
theorem intB_go {k : Bool} (q : Q (.int (if k then 1 else 0)) H) : rIntU [.bl k] H Q := by unfold rIntU; exact .inr ⟨_, rfl, q⟩
theorem abs_go (q : Q (.int (if i < 0 then -i else i)) H) : rAbsU [.int i] H Q := by unfold rAbsU; exact ⟨_, rfl, q⟩
theorem ord_go {c : Nat} (q : Q (.int c) H) : rOrdU [.str ⟨#[c]⟩] H Q := by unfold rOrdU; exact ⟨_, rfl, rfl, q⟩
theorem list_goL (h : SqL K H a xs) (q : ∀ l, H l = none → Q (.ref l) (upd H l (.lst xs))) : rListU K [.ref a] H Q := by unfold rListU; exact ⟨_, _, rfl, .inl h, q⟩
theorem list_goT (h : SqT K H a xs) (q : ∀ l, H l = none → Q (.ref l) (upd H l (.lst xs))) : rListU K [.ref a] H Q := by unfold rListU; exact ⟨_, _, rfl, .inr h, q⟩
theorem tuple_goL (h : SqL K H a xs) (q : ∀ l, H l = none → Q (.ref l) (upd H l (.tup xs))) : rTupleU K [.ref a] H Q := by unfold rTupleU; exact ⟨_, _, rfl, .inl ⟨h, q⟩⟩
theorem tuple_goT (h : SqT K H a xs) (q : Q (.ref a) H) : rTupleU K [.ref a] H Q := by unfold rTupleU; exact ⟨_, _, rfl, .inr ⟨h, q⟩⟩
theorem all_go {bs : List Bool} (h : SqL K H a (bs.map V.bl)) (q : Q (.bl (bs.all id)) H) : rAllU K [.ref a] H Q := by unfold rAllU; exact ⟨_, _, rfl, h, q⟩
theorem any_go {bs : List Bool} (h : SqL K H a (bs.map V.bl)) (q : Q (.bl (bs.any id)) H) : rAnyU K [.ref a] H Q := by unfold rAnyU; exact ⟨_, _, rfl, h, q⟩
theorem sum_go {ns : List Int} (h : SqL K H a (ns.map V.int)) (q : Q (.int ns.sum) H) : rSumU K [.ref a] H Q := by unfold rSumU; exact ⟨_, _, rfl, h, q⟩
theorem app_go (h : H a = some (.lst xs)) (hl : xs.length < 16777216) (q : Q .non (upd H a (.lst (xs ++ [x])))) : rAppU (.ref a) [x] H Q := by unfold rAppU; exact ⟨_, _, _, rfl, rfl, h, szlt_of hl, q⟩
theorem ext_go (h : H a = some (.lst xs)) (h2 : H b = some (.lst ys)) (hl : xs.length + ys.length ≤ 16777216) (q : Q .non (upd H a (.lst (xs ++ ys)))) : rExtU (.ref a) [.ref b] H Q := by unfold rExtU; exact ⟨_, _, _, _, rfl, rfl, h, h2, sz_of' hl, q⟩
theorem pop0_go (h : H a = some (.lst (x :: xs))) (q : Q x (upd H a (.lst xs))) : rPopU (.ref a) [.int 0] H Q := by
  unfold rPopU
  exact .inr ⟨_, _, _, 0, x, rfl, rfl, h, by decide, by decide, by
    unfold seqIndex?
    have e : (0 : Int) < ((x :: xs).length : Int) := by
      show (0 : Int) < ((xs.length + 1 : Nat) : Int)
      omega
    simp [e], rfl, q⟩
theorem popE_go (h : H a = some (.lst (xs ++ [x]))) (q : Q x (upd H a (.lst xs))) : rPopU (.ref a) [] H Q := by
  unfold rPopU
  refine .inl ⟨_, _, x, rfl, rfl, h, by simp, ?_⟩
  rw [List.dropLast_concat]
  exact q
theorem ty_lst (h : SqL K H a xs) : tyV K "list" (.ref a) H := .inl ⟨rfl, _, h⟩
theorem ty_dK {kvs : List (Key × V)} (h : H a = some (.dK kvs)) : tyV K "dict" (.ref a) H := .inr (.inr (.inl ⟨rfl, .inl ⟨_, h⟩⟩))
theorem slL_go {lo hi : Option Int} (h : SqL K H a xs) (q : ∀ p, H p = none → Q (.ref p) (upd H p (.lst (cutV xs lo hi)))) : rSlLU K (.ref a) lo hi H Q := by unfold rSlLU; exact ⟨_, _, rfl, h, q⟩
theorem slS_go {lo hi : Option Int} {z : Str} (h : z.length ≤ 16777216) (q : Q (.str (cutS z lo hi)) H) : rSlSU (.str z) lo hi H Q := by unfold rSlSU; exact ⟨_, rfl, sz_of' h, q⟩
end

/-! ### heaps -/
/-- all but the places of M is kept -/
def Kp (M : List Addr) (H H' : Hp) : Prop := ∀ a o, a ∉ M → H a = some o → H' a = some o
theorem Kp.refl {M : List Addr} {H : Hp} : Kp M H H := fun _ _ _ h => h
theorem Kp.trans {M : List Addr} {H H1 H2 : Hp} (a : Kp M H H1) (b : Kp M H1 H2) : Kp M H H2 := fun x o n h => b x o n (a x o n h)
theorem Kp.at_ {M : List Addr} {H H' : Hp} {a : Addr} {o : HO} (k : Kp M H H') (n : a ∉ M) (h : H a = some o) : H' a = some o := k a o n h
theorem Same.at_ {H H' : Hp} {a : Addr} {o : HO} (k : Same H H') (h : H a = some o) : H' a = some o := k a o h
theorem Kp.sqL {M : List Addr} {K : PySem.W.Frag} {H H' : Hp} {a : Addr} {xs : List V} (k : Kp M H H') (n : a ∉ M) (h : SqL K H a xs) : SqL K H' a xs := by
  rcases h with (h | ⟨o, h⟩) | h
  · exact .inl (.inl (k _ _ n h))
  · exact .inl (.inr ⟨o, k _ _ n h⟩)
  · exact .inr h
theorem Kp.upd_in {M : List Addr} {H H' : Hp} {a : Addr} {o : HO} (k : Kp M H H') (h : a ∈ M) : Kp M H (upd H' a o) := fun x u n e => by
  rw [upd_ne (fun z => n (by rw [z]; exact h))]
  exact k x u n e
theorem Kp.upd_new {M : List Addr} {H H' : Hp} {a : Addr} {o : HO} (k : Kp M H H') (h : H a = none) : Kp M H (upd H' a o) := fun x u n e => by
  rw [upd_ne (ne_of_none e h)]
  exact k x u n e
theorem Kp.upd_new' {M : List Addr} {H H' : Hp} {a : Addr} {o : HO} (k : Kp M H H') (h : H' a = none) : Kp M H (upd H' a o) := fun x u n e => by
  rw [upd_ne (ne_of_none (k x u n e) h)]
  exact k x u n e
theorem Kp.mono {M N : List Addr} {H H' : Hp} (k : Kp M H H') (h : ∀ a, a ∈ M → a ∈ N) : Kp N H H' := fun x u n e => k x u (fun z => n (h x z)) e
/-- what is changed was not there at first -/
theorem Kp.drop {M N : List Addr} {H H1 H2 : Hp} (k : Kp M H H1) (k2 : Kp N H1 H2) (h : ∀ a, a ∈ N → a ∈ M ∨ H a = none) : Kp M H H2 := fun x u n e => by
  refine k2 x u (fun z => ?_) (k x u n e)
  rcases h x z with q | q
  · exact n q
  · rw [e] at q
    cases q
theorem Kp.none_of {M : List Addr} {H H' : Hp} {p : Addr} (k : Kp M H H') (n : p ∉ M) (h : H' p = none) : H p = none := by
  cases q : H p with
  | none => rfl
  | some o =>
    rw [k p o n q] at h
    cases h
theorem nm_cons {a b : Addr} {M : List Addr} (h : a ≠ b) (t : a ∉ M) : a ∉ b :: M := fun z => by
  rcases List.mem_cons.mp z with e | e
  · exact h e
  · exact t e
theorem st_nx {D : Ends} {σ : L2.St} {H : Hp} (q : D.nx σ H) : tNext D σ H := q
theorem iteD {c A B : Prop} [Decidable c] (h1 : c → A) (h2 : ¬ c → B) : if decide c = true then A else B := by
  by_cases h : c
  · rw [decide_eq_true h]
    exact iteT (h1 h)
  · rw [decide_eq_false h]
    exact iteF (h2 h)
theorem Kp.of_same {M : List Addr} {H H' : Hp} (a : Same H H') : Kp M H H' := fun x o _ h => a x o h

/-! ### comprehensions: what is made so far is told -/
def Acc (D : Addr) (Pv : Nat → List V → Hp → Prop) (i : Nat) (H : Hp) : Prop := ∃ acc, acc.length ≤ i ∧ H D = some (.lst acc) ∧ Pv i acc H
theorem lc_acc {J : It} {n : Nat} {G : Hp → Prop} {Y : Nat → Hp → V → Hp → Prop} (w : Walk J n G Y) {g : TG} {tt : TT} {te : TE} {vs : List Nat} {σ : L2.St} {H1 : Hp} {D : Addr} {Qd : Hp → Prop} (Pv : Nat → List V → Hp → Prop)
    (h0 : Pv 0 [] (upd H1 D (.lst []))) (hG : ∀ i acc H, i ≤ n → Pv i acc H → G H)
    (hs : ∀ i x acc H H', i < n → acc.length ≤ i → H D = some (.lst acc) → Pv i acc H → Y i H x H' → g x (wipe σ vs) H' fun σ2 H2 => wipe σ2 vs = wipe σ vs ∧ tt σ2 H2 fun b H3 =>
      if b = true then te σ2 H3 fun y H4 => ∃ acc, H4 D = some (.lst acc) ∧ acc.length < sizeLine ∧ Acc D Pv (i + 1) (upd H4 D (.lst (acc ++ [y]))) else Acc D Pv (i + 1) H3)
    (hd : ∀ acc H, acc.length ≤ n → H D = some (.lst acc) → Pv n acc H → Qd H) :
    ∃ W : Nat → Nat → Hp → Prop, (∃ m, W 0 m (upd H1 D (.lst []))) ∧ ∀ i m H, W i m H →
      (J.stop i H ∧ Qd H) ∨ (J.go i H ∧ ∃ Nx : Hp → Prop, (∀ H', Nx H' → ∃ m', m' < m ∧ W (i + 1) m' H') ∧ ∀ x H', J.yld i H x H' → g x (wipe σ vs) H' fun σ2 H2 => wipe σ2 vs = wipe σ vs ∧ tt σ2 H2 fun b H3 =>
        if b = true then te σ2 H3 fun y H4 => ∃ acc, H4 D = some (.lst acc) ∧ acc.length < sizeLine ∧ Nx (upd H4 D (.lst (acc ++ [y]))) else Nx H3) :=
  lc_it w (Acc D Pv) ⟨[], Nat.zero_le _, upd_same, h0⟩ (fun i H hi ⟨acc, _, _, p⟩ => hG i acc H hi p) (fun i x H H' hi ⟨acc, hl, hD, p⟩ y => hs i x acc H H' hi hl hD p y) (fun H ⟨acc, hl, hD, p⟩ => hd acc H hl hD p)
theorem acc_go {D : Addr} {Pv : Nat → List V → Hp → Prop} {i : Nat} {H : Hp} {acc : List V} {y : V} (hl : acc.length ≤ i) (hi : i < 16777215) (hD : H D = some (.lst acc)) (p : Pv (i + 1) (acc ++ [y]) (upd H D (.lst (acc ++ [y])))) :
    ∃ acc, H D = some (.lst acc) ∧ acc.length < sizeLine ∧ Acc D Pv (i + 1) (upd H D (.lst (acc ++ [y]))) := by
  refine ⟨acc, hD, Nat.lt_of_le_of_lt (show acc.length ≤ 16777215 by omega) (by decide), acc ++ [y], ?_, upd_same, p⟩
  rw [List.length_append]
  show acc.length + 1 ≤ i + 1
  omega
theorem acc_skip {D : Addr} {Pv : Nat → List V → Hp → Prop} {i : Nat} {H : Hp} {acc : List V} (hl : acc.length ≤ i) (hD : H D = some (.lst acc)) (p : Pv (i + 1) acc H) : Acc D Pv (i + 1) H := ⟨acc, Nat.le_succ_of_le hl, hD, p⟩
/-! ### isinstance of built-in kinds -/
theorem ki_NoneType_str {K : PySem.W.Frag} : PySem.W.kitOne K (.type "NoneType") (.type "str") = some false := kit_ty (by decide +kernel)
theorem ki_NoneType_int {K : PySem.W.Frag} : PySem.W.kitOne K (.type "NoneType") (.type "int") = some false := kit_ty (by decide +kernel)
theorem ki_NoneType_bool {K : PySem.W.Frag} : PySem.W.kitOne K (.type "NoneType") (.type "bool") = some false := kit_ty (by decide +kernel)
theorem ki_NoneType_list {K : PySem.W.Frag} : PySem.W.kitOne K (.type "NoneType") (.type "list") = some false := kit_ty (by decide +kernel)
theorem ki_NoneType_tuple {K : PySem.W.Frag} : PySem.W.kitOne K (.type "NoneType") (.type "tuple") = some false := kit_ty (by decide +kernel)
theorem ki_NoneType_dict {K : PySem.W.Frag} : PySem.W.kitOne K (.type "NoneType") (.type "dict") = some false := kit_ty (by decide +kernel)
theorem ki_bool_str {K : PySem.W.Frag} : PySem.W.kitOne K (.type "bool") (.type "str") = some false := kit_ty (by decide +kernel)
theorem ki_bool_int {K : PySem.W.Frag} : PySem.W.kitOne K (.type "bool") (.type "int") = some true := kit_ty (by decide +kernel)
theorem ki_bool_bool {K : PySem.W.Frag} : PySem.W.kitOne K (.type "bool") (.type "bool") = some true := kit_ty (by decide +kernel)
theorem ki_bool_list {K : PySem.W.Frag} : PySem.W.kitOne K (.type "bool") (.type "list") = some false := kit_ty (by decide +kernel)
theorem ki_bool_tuple {K : PySem.W.Frag} : PySem.W.kitOne K (.type "bool") (.type "tuple") = some false := kit_ty (by decide +kernel)
theorem ki_bool_dict {K : PySem.W.Frag} : PySem.W.kitOne K (.type "bool") (.type "dict") = some false := kit_ty (by decide +kernel)
theorem ki_int_str {K : PySem.W.Frag} : PySem.W.kitOne K (.type "int") (.type "str") = some false := kit_ty (by decide +kernel)
theorem ki_int_int {K : PySem.W.Frag} : PySem.W.kitOne K (.type "int") (.type "int") = some true := kit_ty (by decide +kernel)
theorem ki_int_bool {K : PySem.W.Frag} : PySem.W.kitOne K (.type "int") (.type "bool") = some false := kit_ty (by decide +kernel)
theorem ki_int_list {K : PySem.W.Frag} : PySem.W.kitOne K (.type "int") (.type "list") = some false := kit_ty (by decide +kernel)
theorem ki_int_tuple {K : PySem.W.Frag} : PySem.W.kitOne K (.type "int") (.type "tuple") = some false := kit_ty (by decide +kernel)
theorem ki_int_dict {K : PySem.W.Frag} : PySem.W.kitOne K (.type "int") (.type "dict") = some false := kit_ty (by decide +kernel)
theorem ki_str_str {K : PySem.W.Frag} : PySem.W.kitOne K (.type "str") (.type "str") = some true := kit_ty (by decide +kernel)
theorem ki_str_int {K : PySem.W.Frag} : PySem.W.kitOne K (.type "str") (.type "int") = some false := kit_ty (by decide +kernel)
theorem ki_str_bool {K : PySem.W.Frag} : PySem.W.kitOne K (.type "str") (.type "bool") = some false := kit_ty (by decide +kernel)
theorem ki_str_list {K : PySem.W.Frag} : PySem.W.kitOne K (.type "str") (.type "list") = some false := kit_ty (by decide +kernel)
theorem ki_str_tuple {K : PySem.W.Frag} : PySem.W.kitOne K (.type "str") (.type "tuple") = some false := kit_ty (by decide +kernel)
theorem ki_str_dict {K : PySem.W.Frag} : PySem.W.kitOne K (.type "str") (.type "dict") = some false := kit_ty (by decide +kernel)
theorem ki_list_str {K : PySem.W.Frag} : PySem.W.kitOne K (.type "list") (.type "str") = some false := kit_ty (by decide +kernel)
theorem ki_list_int {K : PySem.W.Frag} : PySem.W.kitOne K (.type "list") (.type "int") = some false := kit_ty (by decide +kernel)
theorem ki_list_bool {K : PySem.W.Frag} : PySem.W.kitOne K (.type "list") (.type "bool") = some false := kit_ty (by decide +kernel)
theorem ki_list_list {K : PySem.W.Frag} : PySem.W.kitOne K (.type "list") (.type "list") = some true := kit_ty (by decide +kernel)
theorem ki_list_tuple {K : PySem.W.Frag} : PySem.W.kitOne K (.type "list") (.type "tuple") = some false := kit_ty (by decide +kernel)
theorem ki_list_dict {K : PySem.W.Frag} : PySem.W.kitOne K (.type "list") (.type "dict") = some false := kit_ty (by decide +kernel)
theorem ki_tuple_str {K : PySem.W.Frag} : PySem.W.kitOne K (.type "tuple") (.type "str") = some false := kit_ty (by decide +kernel)
theorem ki_tuple_int {K : PySem.W.Frag} : PySem.W.kitOne K (.type "tuple") (.type "int") = some false := kit_ty (by decide +kernel)
theorem ki_tuple_bool {K : PySem.W.Frag} : PySem.W.kitOne K (.type "tuple") (.type "bool") = some false := kit_ty (by decide +kernel)
theorem ki_tuple_list {K : PySem.W.Frag} : PySem.W.kitOne K (.type "tuple") (.type "list") = some false := kit_ty (by decide +kernel)
theorem ki_tuple_tuple {K : PySem.W.Frag} : PySem.W.kitOne K (.type "tuple") (.type "tuple") = some true := kit_ty (by decide +kernel)
theorem ki_tuple_dict {K : PySem.W.Frag} : PySem.W.kitOne K (.type "tuple") (.type "dict") = some false := kit_ty (by decide +kernel)
theorem ki_dict_str {K : PySem.W.Frag} : PySem.W.kitOne K (.type "dict") (.type "str") = some false := kit_ty (by decide +kernel)
theorem ki_dict_int {K : PySem.W.Frag} : PySem.W.kitOne K (.type "dict") (.type "int") = some false := kit_ty (by decide +kernel)
theorem ki_dict_bool {K : PySem.W.Frag} : PySem.W.kitOne K (.type "dict") (.type "bool") = some false := kit_ty (by decide +kernel)
theorem ki_dict_list {K : PySem.W.Frag} : PySem.W.kitOne K (.type "dict") (.type "list") = some false := kit_ty (by decide +kernel)
theorem ki_dict_tuple {K : PySem.W.Frag} : PySem.W.kitOne K (.type "dict") (.type "tuple") = some false := kit_ty (by decide +kernel)
theorem ki_dict_dict {K : PySem.W.Frag} : PySem.W.kitOne K (.type "dict") (.type "dict") = some true := kit_ty (by decide +kernel)
theorem Kp.sqT {M : List Addr} {K : PySem.W.Frag} {H H' : Hp} {a : Addr} {xs : List V} (k : Kp M H H') (n : a ∉ M) (h : SqT K H a xs) : SqT K H' a xs := by
  rcases h with (h | ⟨o, h⟩) | h
  · exact .inl (.inl (k _ _ n h))
  · exact .inl (.inr ⟨o, k _ _ n h⟩)
  · exact .inr h
theorem iteN {c A B : Prop} [Decidable c] (h1 : ¬ c → A) (h2 : c → B) : if (!decide c) = true then A else B := by
  by_cases h : c
  · rw [decide_eq_true h]
    exact iteF (h2 h)
  · rw [decide_eq_false h]
    exact iteT (h1 h)
theorem iteB {b : Bool} {A B : Prop} (h1 : b = true → A) (h2 : b = false → B) : if b = true then A else B := by
  cases b with
  | true => exact iteT (h1 rfl)
  | false => exact iteF (h2 rfl)
theorem tyX_same {K : PySem.W.Frag} {H H' : Hp} {x : V} {t : Value} (s : Same H H') (h : TyX K H x t) : TyX K H' x t := by
  cases h with
  | base b =>
    refine .base ?_
    cases b with
    | non => exact .non
    | bl y => exact .bl y
    | int i => exact .int i
    | str y => exact .str y
    | flt y => exact .flt y
    | lst e => exact .lst (s _ _ e)
    | frz e => exact .frz (s _ _ e)
    | tup e => exact .tup (s _ _ e)
    | dK e => exact .dK (s _ _ e)
    | dT e => exact .dT (s _ _ e)
    | ins e a b c d f => exact .ins (s _ _ e) a b c d f
  | byt b => exact .byt b
  | set e => exact .set (s _ _ e)
  | kList e c => exact .kList e c
  | kTuple e c => exact .kTuple e c
  | kDict e c => exact .kDict e c
  | fTuple e => exact .fTuple (s _ _ e)
  | fDict e => exact .fDict (s _ _ e)
theorem Kp.same {H H' : Hp} (k : Kp [] H H') : Same H H' := fun a o e => k a o List.not_mem_nil e
theorem str_size (z : Str) : z.cps.size = z.length := rfl
end Kb
/-! ### data: what == asks -/
namespace Kb
open PySem PySem.Spec PyProof.Rows L2
/-- small data: no deeper than n, its texts of signs that there are -/
def Sh (n : Nat) (d : PyData) : Prop := d.canLay0 = true ∧ d.depth ≤ n
theorem Sh.ok {n : Nat} {d : PyData} (h : Sh n d) (hn : n ≤ 64) : SeqAt.shaped d = true := by
  unfold SeqAt.shaped
  rw [h.1, Bool.true_and]
  exact decide_eq_true (Nat.le_trans h.2 hn)
theorem sh_non {n : Nat} : Sh n .none := ⟨by simp [PyData.canLay0], by simp [PyData.depth]⟩
theorem sh_bl {n : Nat} {b : Bool} : Sh n (.bool b) := ⟨by simp [PyData.canLay0], by simp [PyData.depth]⟩
theorem sh_int {n : Nat} {i : Int} : Sh n (.int i) := ⟨by simp [PyData.canLay0], by simp [PyData.depth]⟩
theorem sh_str {n : Nat} {x : Str} (h : ∀ c ∈ x.cps.toList, c < 1114112) : Sh n (.str x) := by
  refine ⟨?_, by simp [PyData.depth]⟩
  simp only [PyData.canLay0, PyData.strOk]
  exact Array.all_eq_true'.mpr fun c hc => decide_eq_true (h c (Array.mem_toList_iff.mpr hc))
theorem sh_all {n : Nat} : ∀ {ds : List PyData}, (∀ d ∈ ds, Sh n d) → PyData.canLayAll0 ds = true ∧ PyData.depthAll ds ≤ n
  | [], _ => ⟨by simp [PyData.canLayAll0], by simp [PyData.depthAll]⟩
  | d :: ds, h => by
    obtain ⟨a, b⟩ := h d (by simp)
    obtain ⟨c, e⟩ := sh_all fun x hx => h x (List.mem_cons_of_mem _ hx)
    exact ⟨by simp only [PyData.canLayAll0, a, c, Bool.and_self], by simp only [PyData.depthAll]; omega⟩
theorem sh_lst {n : Nat} {ds : List PyData} (h : ∀ d ∈ ds, Sh n d) : Sh (n + 1) (.list ds) := by
  obtain ⟨a, b⟩ := sh_all h
  exact ⟨by simp only [PyData.canLay0, a], by simp only [PyData.depth]; omega⟩
theorem sh_tup {n : Nat} {ds : List PyData} (h : ∀ d ∈ ds, Sh n d) : Sh (n + 1) (.tuple ds) := by
  obtain ⟨a, b⟩ := sh_all h
  exact ⟨by simp only [PyData.canLay0, a], by simp only [PyData.depth]; omega⟩
theorem sh_nil {n : Nat} : Sh (n + 1) (.list []) := sh_lst fun d h => nomatch h
theorem eqv_lnil : ∀ ds : List PyData, PyData.eqv (.list ds) (.list []) = ds.isEmpty
  | [] => by simp [PyData.eqv, PyData.eqvAll]
  | d :: ds => by simp [PyData.eqv, PyData.eqvAll]
/-- a list of ints as data -/
theorem dp_ints {K : PySem.W.Frag} {H : Hp} : ∀ ns : List Int, DpAll K H (ns.map V.int) (ns.map PyData.int)
  | [] => .nil
  | n :: ns => .cons (.int n) (dp_ints ns)
theorem sh_ints {ns : List Int} : Sh 1 (.list (ns.map PyData.int)) := sh_lst (n := 0) fun d h => by
  obtain ⟨i, _, rfl⟩ := List.mem_map.mp h
  exact sh_int
theorem eqvAll_ints : ∀ xs ys : List Int, PyData.eqvAll (xs.map PyData.int) (ys.map PyData.int) = decide (xs = ys)
  | [], [] => by simp [PyData.eqvAll]
  | [], y :: ys => by simp [PyData.eqvAll]
  | x :: xs, [] => by simp [PyData.eqvAll]
  | x :: xs, y :: ys => by
    have ih := eqvAll_ints xs ys
    simp only [List.map_cons, PyData.eqvAll, PyData.eqv, ih]
    by_cases h : x = y
    · subst h
      simp
    · simp [h]
theorem eqv_ints (xs ys : List Int) : PyData.eqv (.list (xs.map PyData.int)) (.list (ys.map PyData.int)) = decide (xs = ys) := by
  simp only [PyData.eqv]
  exact eqvAll_ints xs ys
end Kb
/-! ### slices -/
namespace Kb
open PySem PySem.Spec PyProof.Rows L2
def cutI {α : Type} (xs : List α) (lo hi : Option Int) : List α := (xs.drop (HT.sIx xs.length 0 lo)).take (HT.sIx xs.length xs.length hi - HT.sIx xs.length 0 lo)
theorem cutV_map {α : Type} (f : α → V) (xs : List α) (lo hi : Option Int) : cutV (xs.map f) lo hi = (cutI xs lo hi).map f := by
  unfold cutV cutI
  rw [List.length_map, List.map_take, List.map_drop]
theorem cutI_len {α : Type} (xs : List α) (lo hi : Option Int) : (cutI xs lo hi).length ≤ xs.length := by
  unfold cutI
  rw [List.length_take, List.length_drop]
  omega
theorem cutI_mem {α : Type} {xs : List α} {lo hi : Option Int} {x : α} (h : x ∈ cutI xs lo hi) : x ∈ xs := List.mem_of_mem_drop (List.mem_of_mem_take h)
end Kb
/-! ### calls by names alone -/
namespace Kb
open PySem PySem.Spec PyProof.Rows L2
theorem pe_callKw {X : Cx} {CX : CXT} {k : Nat} {x : Str} {st : Stmt} {ps ks : List Str} {sp : Sp} {E : XK} {kws : List Keyword} {tk : TA} {p pos : Pos} (D : Def X.K X.mg st x) (C : Cal X.prog X.w X.K X.mg X.base CX k x ps sp)
    (kb : ∀ (kV doc pm : Value) (an : Option Addr) (cdv ct : Value) (us ws : List Value), (us ++ (ws ++ [])).length = ps.length → bindArgs (PySem.W.fnOf x x (defArgs st) (defBody st) (defScope st) .none kV doc pm an cdv ct) ⟨us, ks.zip ws⟩ = pure (ps.zip (us ++ (ws ++ []))))
    (hr : Room k X.A) (hg : Gl X x) (hx : Passes CX X E) (hkw : PK X kws tk) (hall : (backToKw pos (keywordEach kws X.env)).all (·.1.isSome) = true := by rfl) (hks : (backToKw pos (keywordEach kws X.env)).filterMap (·.1) = ks := by rfl)
    (hdb : (x == ("__debug__" : Str)) = false := by decide)
    (hpl : ((backTo pos (starEach [] X.env)).any (·.1) || (backToKw pos (keywordEach kws X.env)).any (·.1.isNone)) = false := by rfl) :
    PE X (.Call (.Name x p) [] kws pos) (tCall sp [] E tk) := by
  obtain ⟨f, fd, hm, F, hk, _, hA⟩ := C.ex
  obtain ⟨f', fd', hm', F'⟩ := D
  have e := hm'.symm.trans hm
  cases e
  have e2 := hA.eq (Fun.at_ F')
  subst e2
  have K1 : KBinds X.K fd ps ks (fun us ws => us ++ (ws ++ [])) (fun vs zs => vs ++ (zs ++ [])) := by
    obtain ⟨oc, od, kV, doc, pm, an, cdv, ct, osl, rfl, lk, hcd⟩ := F'.ex
    exact ⟨fun s us ws _ hl => .of_eq (kb kV doc pm an cdv ct us ws hl), fun r r' => r.append (r'.append .nil)⟩
  exact pe_callK0 F hr hg hm hk K1 hx hkw hall hks hdb hpl
end Kb
/-! ### enumerate(v, start=k): v a list or a tuple that stands still -/
namespace Kb
open PySem PySem.Spec PyProof.Rows L2
/-- a thing at a that is walked by an iterator of its own: St H xs tells that it holds xs, Ar h its that the machine's object does, At h it i that the iterator stands at i -/
structure Src (K : PySem.W.Frag) (a : Addr) (S : Hp → List V → Prop) (Ar : Heap → Array Value → Prop) (At : Heap → Addr → Nat → Prop) (ob : Obj) : Prop where
  get : ∀ {X : Cx} {pins : List (Addr × Obj)} {σ : L2.St} {H : Hp} {s : Shared} {xs : List V}, X.K = K → Inv X pins σ H s → S H xs → ∃ its : List Value, Vals xs its ∧ Ar s.heap its.toArray
  inj : ∀ {X : Cx} {pins : List (Addr × Obj)} {σ : L2.St} {H : Hp} {s : Shared} {xs ys : List V}, X.K = K → Inv X pins σ H s → S H xs → S H ys → xs = ys
  lives : ∀ {h : Heap} {its : Array Value}, Ar h its → ∃ o, h.get? a = some o
  iobj : ∀ {h : Heap} {it : Addr} {i : Nat}, At h it i → ∃ o, h.get? it = some o ∧ ∀ v, o.data ≠ .cell v
  ikeep : ∀ {h h' : Heap} {it : Addr} {i : Nat}, At h it i → (∀ o, h.get? it = some o → h'.get? it = some o) → At h' it i
  draw : ∀ (prog : Program) (w : World) (A : Around) (it : Addr) (its : Array Value), A.handled = none → a ≠ it → Draws prog w A it [it, a] its.size (fun i v => its[i]? = some v) (fun i h => At h it i ∧ Ar h its)
  begin : ∀ its, Begins (.ref a) ob fun h => Ar h its
  first : ∀ {h : Heap} {it : Addr}, h.get? it = some ob → At h it 0
theorem src_list (K : PySem.W.Frag) (a : Addr) : Src K a (fun H xs => SqL K H a xs) (fun h its => h.IsList a its) (fun h it i => h.IsListIter it a i) { cls := .type "list_iterator", data := .fields #[.ref a, .int 0 0] } where
  get := fun hK I h => by
    subst hK
    obtain ⟨its, r, p, _⟩ := I.list h
    exact ⟨its, r, p.isList⟩
  inj := fun hK I h h' => by
    subst hK
    exact I.list_inj h h'
  lives := fun ⟨o, e, _⟩ => ⟨o, e⟩
  iobj := fun ⟨o, e, _, d⟩ => ⟨o, e, fun v z => by rw [d] at z; cases z⟩
  ikeep := fun st k => st.at k
  draw := fun prog w A it its hh ne => Draws.list hh it a ne its
  begin := fun its => begins_list a its
  first := fun e => ⟨_, e, rfl, rfl⟩
theorem src_tup (K : PySem.W.Frag) (a : Addr) : Src K a (fun H xs => SqT K H a xs) (fun h its => h.IsTuple a its) (fun h it i => h.IsTupleIter it a i) { cls := .type "tuple_iterator", data := .fields #[.ref a, .int 0 0] } where
  get := fun hK I h => by
    subst hK
    obtain ⟨its, r, p, _⟩ := I.tuple h
    exact ⟨its, r, p⟩
  inj := fun hK I h h' => by
    subst hK
    exact I.tuple_inj h h'
  lives := fun ⟨o, e, _⟩ => ⟨o, e⟩
  iobj := fun ⟨o, e, _, d⟩ => ⟨o, e, fun v z => by rw [d] at z; cases z⟩
  ikeep := fun st k => st.at k
  draw := fun prog w A it its hh ne => Draws.tuple hh it a ne its
  begin := fun its => begins_tuple a its
  first := fun e => ⟨_, e, rfl, rfl⟩
def ItS (S : Hp → List V → Prop) (k : Int) : It :=
  ⟨fun i H => ∃ xs x, S H xs ∧ xs[i]? = some x, fun i H v H' => ∃ T x, v = .ref T ∧ H T = none ∧ H' = upd H T (.tup [.int (k + (i : Nat)), x]) ∧ ∀ xs, S H xs → xs[i]? = some x, fun i H => ∃ xs : List V, S H xs ∧ xs.length = i⟩
section
variable {K : PySem.W.Frag} {a : Addr} {S : Hp → List V → Prop} {Ar : Heap → Array Value → Prop} {At : Heap → Addr → Nat → Prop} {ob : Obj}
theorem turn_enumS (sr : Src K a S Ar At ob) {P : Program} {w : World} {elts : List Expr} {kk : Nat} {tpos : Pos} (k : Int) (e it : Addr) (hai : a ≠ it) (hei : e ≠ it) (hea : e ≠ a) :
    Turn P w K (.Tuple elts kk tpos) (ItS S k) [e, it] e (fun i h => (∃ old, IsEnum h e it (k + (i : Nat)) old) ∧ At h it i) where
  mem := List.mem_cons_self
  obj := fun i h ⟨⟨old, he⟩, hi⟩ b hb => by
    rcases List.mem_cons.mp hb with z | z
    · subst z
      exact ⟨_, he, fun v q => nomatch q⟩
    · rw [List.mem_singleton.mp z]
      exact sr.iobj hi
  keep := fun i h h' ⟨⟨old, he⟩, hi⟩ kp => ⟨⟨old, kp e List.mem_cons_self _ he⟩, sr.ikeep hi fun o q => kp it (List.mem_cons_of_mem _ (List.mem_singleton.mpr rfl)) o q⟩
  item := fun X hP hw hK hc i pins s σ H E I hf st hg => by
    subst hP hw
    obtain ⟨xs, x, hS, hx⟩ := hg
    obtain ⟨its, rv, hA⟩ := sr.get hK I hS
    have hlen := rv.length
    have hil : i < its.toArray.size := by
      have := (List.getElem?_eq_some_iff.mp hx).1
      simp only [List.size_toArray]
      omega
    have D := sr.draw X.prog X.w X.A.in1 it its.toArray (I.ok.hd hc) hai
    have hef : e ∉ [it, a] := fun z => by
      rcases List.mem_cons.mp z with q | q
      · exact hei q
      · exact hea (List.mem_singleton.mp q)
    refine (GoesN.enumFrom (elts := elts) (x1 := kk) (pos := tpos) k D e hei hef List.mem_cons_self).goes i s _ E hil ⟨st.1, st.2, hA⟩ fun v h' tk hY st' hk _ => ?_
    obtain ⟨T, t, u, rfl, hT, hu, hTup⟩ := hY
    have hx2 : its[i]? = some u := by simpa using hu
    obtain ⟨u', hu', ru⟩ := rv.get hx
    rw [hx2] at hu'
    cases hu'
    have hk' : ∀ b o, b ∉ [e, it] → s.heap.get? b = some o → h'.get? b = some o := hk
    have new : ObjOk X.prog X.w (upd H T (.tup [.int (k + (i : Nat)), x])) h' T (.tup [.int (k + (i : Nat)), x]) := ⟨by show 2 ≤ sizeLine; decide, _, .cons ⟨_, rfl⟩ (.cons ru .nil), hTup⟩
    refine ⟨.ref T, _, I.turnedNew (t' := tk) hk' hf hT new, rfl, ⟨T, x, rfl, I.hok.fresh hT, rfl, fun ys hy => by rw [sr.inj hK I hy hS]; exact hx⟩, ⟨st'.1, st'.2.1⟩, fun b hb => ?_⟩
    obtain ⟨o, hbo⟩ : ∃ o, s.heap.get? b = some o := by
      rcases List.mem_cons.mp hb with z | z
      · rw [z]
        obtain ⟨old, q⟩ := st.1
        exact ⟨_, q⟩
      · rw [List.mem_singleton.mp z]
        obtain ⟨o, q, _⟩ := sr.iobj st.2
        exact ⟨o, q⟩
    rw [upd_ne (Nat.ne_of_lt (Nat.lt_of_lt_of_le (Heap.lt_size hbo) hT))]
    exact (hf b hb).1
  done := fun X hP hw hK hc i pins s σ H E I hf st hg => by
    subst hP hw
    obtain ⟨xs, hS, hx⟩ := hg
    obtain ⟨its, rv, hA⟩ := sr.get hK I hS
    have hlen := rv.length
    have D := sr.draw X.prog X.w X.A.in1 it its.toArray (I.ok.hd hc) hai
    have ei : i = its.toArray.size := by
      simp only [List.size_toArray]
      omega
    subst ei
    obtain ⟨f0, f1, f2, f3, f4, f5⟩ := hf it (List.mem_cons_of_mem _ (List.mem_singleton.mpr rfl))
    obtain ⟨old, he⟩ := st.1
    exact wpAny_pyNext_enum_endD D he ⟨st.2, hA⟩ fun h' eb => ⟨rfl, I.turned (t' := s.toks) (fun b o hb q => eb b o hb q) f0 f1 f3 f4 f5⟩
  self := fun A i s Q E st h => let ⟨⟨_, he⟩, _⟩ := st; wpAny_pyIter_enum he h
end
/-- enumerate(v, start=k) -/
@[irreducible] def iEnumS (K : PySem.W.Frag) (ta : TA) (tk : TE) : TI := fun σ H R => ta σ H fun vs H1 => tk σ H1 fun z H2 => ∃ a k, vs = [.ref a] ∧ z = .int k ∧ (-9223372036854775808 ≤ k ∧ k < 9223372036854775808) ∧
  ((∃ xs, SqL K H2 a xs ∧ R (ItS (fun H xs => SqL K H a xs) k) H2) ∨ ∃ xs, SqT K H2 a xs ∧ R (ItS (fun H xs => SqT K H a xs) k) H2)
section
variable {X : Cx} {e ke : Expr} {ta : TA} {tk : TE} {p pos kpos tpos : Pos} {elts : List Expr} {kk : Nat}
theorem enumS_go {K : PySem.W.Frag} {a : Addr} {S : Hp → List V → Prop} {Ar : Heap → Array Value → Prop} {At : Heap → Addr → Nat → Prop} {ob : Obj} (hK : X.K = K) (sr : Src K a S Ar At ob) {pins : List (Addr × Obj)} {s : Shared} {σ : L2.St} {H : Hp} {R : It → Hp → Prop} {xs : List V} {k : Int} {t : Tok}
    (I : Inv X pins σ H s) (hS : S H xs) (h0 : -9223372036854775808 ≤ k) (h1 : k < 9223372036854775808) (q : R (ItS S k) H) :
    wpAny (model X.prog X.w) X.A (PySem.call (.type "enumerate") [.ref a] [(Str.ofString "start", .int k t)]) (fun v s1 => wpAny (model X.prog X.w) X.A (pyIter v) (PIE X pins σ (.Tuple elts kk tpos) R) X.xe s1) X.xe s := by
  obtain ⟨its, rv, hA⟩ := sr.get hK I hS
  subst hK
  refine enum_begins_start (sr.begin its.toArray) hA (by omega) (by omega) fun h' he hit hsz hk => wpAny_pyIter_enum he ?_
  have I2 : Inv X pins σ H { s with heap := h' } := I.kept (t' := s.toks) hk
  obtain ⟨o, ho⟩ := sr.lives hA
  have hlt := Heap.lt_size ho
  refine ⟨s.heap.objs.size + 1, [s.heap.objs.size + 1, s.heap.objs.size], _, _, H, rfl, I2, turn_enumS sr k (s.heap.objs.size + 1) s.heap.objs.size (Nat.ne_of_lt hlt) (Nat.succ_ne_self _) (Nat.ne_of_gt (Nat.lt_succ_of_lt hlt)), ⟨⟨.none, ?_⟩, sr.first hit⟩, fun b hb => ?_, q⟩
  · have e0 : k + ((0 : Nat) : Int) = k := by omega
    rw [e0]
    exact he
  · have hle : s.heap.objs.size ≤ b := by
      rcases List.mem_cons.mp hb with z | z
      · rw [z]
        exact Nat.le_succ _
      · rw [List.mem_singleton.mp z]
        exact Nat.le_refl _
    exact I.fpOk hle (I.hok.fresh hle)
/-- a built-in class called with names -/
theorem callTy_kw {M : Model} {A : Around} {E : Value → Shared → Prop} {s : Shared} {env : Env} {T : String} {kws : List Keyword} {Q : Value → Shared → Prop}
    (h : wpAny M A (spliced (backTo pos (starEach [e] env))) (fun vs s1 => wpAny M A (evalAll ((backToKw pos (keywordEach kws env)).map (·.2)))
      (fun ks s2 => wpAny M A (PySem.call (.type T) vs (((backToKw pos (keywordEach kws env)).filterMap (·.1)).zip ks)) Q E s2) E s1) E s)
    (he : backTo pos (starEach [e] env) = (false, eval e env) :: backTo pos (starEach [] env)) (hp : ((backTo pos (starEach [e] env)).any (·.1) || (backToKw pos (keywordEach kws env)).any (·.1.isNone)) = false)
    (ha : (backToKw pos (keywordEach kws env)).all (·.1.isSome) = true) :
    wpAny M A (callWith pos (.type T) [] (backTo pos (starEach [e] env)) (backToKw pos (keywordEach kws env))) Q E s := by
  refine PySem.W.callWith_of (P := fun _ => True) hp (fun _ _ => ⟨.machine, .inr (.inl rfl), .now⟩) ?_
  rw [he] at h ⊢
  exact evalArgs_kwB ha (thn h fun vs s1 h1 => thn h1 fun ks s2 h2 => ⟨trivial, h2⟩)
theorem pi_enumS (hg : Gl X "enumerate") (hm : X.mg "enumerate" = none) (ha : PA X [e] ta) (hk : PE X ke tk)
    (he : backTo pos (starEach [e] X.env) = (false, eval e X.env) :: backTo pos (starEach [] X.env) := by rfl)
    (hp : ((backTo pos (starEach [e] X.env)).any (·.1) || (backToKw pos (keywordEach [⟨some "start", ke, kpos⟩] X.env)).any (·.1.isNone)) = false := by rfl)
    (hall : (backToKw pos (keywordEach [⟨some "start", ke, kpos⟩] X.env)).all (·.1.isSome) = true := by rfl) (hks : (backToKw pos (keywordEach [⟨some "start", ke, kpos⟩] X.env)).filterMap (·.1) = [Str.ofString "start"] := by rfl) :
    PI X (.Tuple elts kk tpos) (.Call (.Name "enumerate" p) [e] [⟨some "start", ke, kpos⟩] pos) (iEnumS X.K ta tk) := by
  unfold iEnumS
  refine ⟨fun pins s σ H R I h => ?_⟩
  refine wpAny_Call_Name_kw (ld_blt I hg hm boot_enumerate ?_ (by decide) (by decide))
  have hkw : PK X [⟨some "start", ke, kpos⟩] (tCons tk tNil) := pk_cons hk pk_nil
  refine callTy_kw (thn (ha.run pos pins s σ H _ I h) fun us s1 hh => ?_) he hp hall
  obtain ⟨vs, H1, I1, r1, q1⟩ := hh
  refine thn (hkw.run pos pins s1 σ H1 (fun zs H2 => match zs with
    | [z] => ∃ a k, vs = [.ref a] ∧ z = .int k ∧ (-9223372036854775808 ≤ k ∧ k < 9223372036854775808) ∧
      ((∃ xs, SqL X.K H2 a xs ∧ R (ItS (fun H xs => SqL X.K H a xs) k) H2) ∨ ∃ xs, SqT X.K H2 a xs ∧ R (ItS (fun H xs => SqT X.K H a xs) k) H2)
    | _ => False) I1 q1) fun ws s2 hh => ?_
  obtain ⟨zs, H2, I2, r2, q2⟩ := hh
  obtain ⟨z, rfl⟩ : ∃ z, zs = [z] := by
    match zs, q2 with
    | [z], _ => exact ⟨z, rfl⟩
  obtain ⟨a, k, rfl, rfl, ⟨h0, h1⟩, q2⟩ := q2
  rw [hks]
  obtain ⟨u, rfl, ru⟩ := vals1 r1
  obtain ⟨v, rfl, rv⟩ := vals1 r2
  cases ru
  obtain ⟨t, rfl⟩ := rv
  rcases q2 with ⟨xs, hS, q⟩ | ⟨xs, hS, q⟩
  · exact enumS_go rfl (src_list X.K a) I2 hS h0 h1 q
  · exact enumS_go rfl (src_tup X.K a) I2 hS h0 h1 q
end
theorem walk_enumS {S : Hp → List V → Prop} {k : Int} {xs : List V} : Walk (ItS S k) xs.length (fun H => S H xs) (fun i H v H' => ∃ T x, v = .ref T ∧ H T = none ∧ H' = upd H T (.tup [.int (k + (i : Nat)), x]) ∧ xs[i]? = some x) :=
  ⟨fun i _ hi q => ⟨xs, xs[i], q, by simp [hi]⟩, fun _ q => ⟨xs, q, rfl⟩, fun _ _ _ _ _ q ⟨T, x, a, b, c, d⟩ => ⟨T, x, a, b, c, d xs q⟩⟩
/-! ### a list or a tuple walked -/
def SqS (K : PySem.W.Frag) (H : Hp) (a : Addr) (xs : List V) : Prop := SqL K H a xs ∨ SqT K H a xs
@[irreducible] def iSeq (K : PySem.W.Frag) (te : TE) : TI := fun σ H R => te σ H fun x H1 => ∃ a, x = .ref a ∧ ((∃ xs, SqL K H1 a xs ∧ R (Itl K a) H1) ∨ ∃ xs, SqT K H1 a xs ∧ R (Itt K a) H1)
theorem pi_seq {X : Cx} {tg e : Expr} {te : TE} (he : PE X e te) : PI X tg e (iSeq X.K te) := by
  unfold iSeq
  refine ⟨fun pins s σ H R I h => ?_⟩
  refine thn (he.run pins s σ H _ I h) fun v s1 hh => ?_
  obtain ⟨x, H1, I1, r1, a, e, q⟩ := hh
  subst e
  cases r1
  rcases q with ⟨xs, hq, q⟩ | ⟨xs, hq, q⟩
  · obtain ⟨its, rv, p, hz⟩ := I1.list hq
    refine wpAny_pyIter_list p.isList ⟨s1.heap.objs.size, [s1.heap.objs.size], _, _, H1, rfl, ?_, turn_list a _, ⟨_, Heap.get?_push_size _ rfl, rfl, rfl⟩, fun b hb => ?_, q⟩
    · exact I1.kept (t' := s1.toks) fun b o e => Heap.get?_push_of_some _ e
    · rw [List.mem_singleton.mp hb]
      exact I1.fpOk (Nat.le_refl _) (I1.hok.fresh (Nat.le_refl _))
  · obtain ⟨its, rv, p, hz⟩ := I1.tuple hq
    refine wpAny_pyIter_tuple (show s1.heap.IsTuple a its.toArray from p) ⟨s1.heap.objs.size, [s1.heap.objs.size], _, _, H1, rfl, ?_, turn_tuple a _, ⟨_, Heap.get?_push_size _ rfl, rfl, rfl⟩, fun b hb => ?_, q⟩
    · exact I1.kept (t' := s1.toks) fun b o e => Heap.get?_push_of_some _ e
    · rw [List.mem_singleton.mp hb]
      exact I1.fpOk (Nat.le_refl _) (I1.hok.fresh (Nat.le_refl _))
end Kb
/-! ### == of lists of ints -/
namespace Kb
open PySem PySem.Spec PyProof.Rows L2
section
variable {K : PySem.W.Frag} {H : Hp} {Q : VK} {a b : Addr} {xs ys : List Int}
theorem eqI_go (hx : SqL K H a (xs.map V.int)) (hy : SqL K H b (ys.map V.int)) (q : Q (.bl (decide (xs = ys))) H) : rEqU K (.ref a) (.ref b) H Q :=
  eqD_go (.lst hx (dp_ints xs)) (.lst hy (dp_ints ys)) (sh_ints.ok (by decide)) (sh_ints.ok (by decide)) (by rw [eqv_ints]; exact q)
theorem neI_go (hx : SqL K H a (xs.map V.int)) (hy : SqL K H b (ys.map V.int)) (q : Q (.bl (!decide (xs = ys))) H) : rNeU K (.ref a) (.ref b) H Q :=
  neD_go (.lst hx (dp_ints xs)) (.lst hy (dp_ints ys)) (sh_ints.ok (by decide)) (sh_ints.ok (by decide)) (by rw [eqv_ints]; exact q)
theorem eqI0_go (hx : SqL K H a (xs.map V.int)) (hy : SqL K H b []) (q : Q (.bl (decide (xs = []))) H) : rEqU K (.ref a) (.ref b) H Q := eqI_go (ys := []) hx hy q
theorem neI0_go (hx : SqL K H a (xs.map V.int)) (hy : SqL K H b []) (q : Q (.bl (!decide (xs = []))) H) : rNeU K (.ref a) (.ref b) H Q := neI_go (ys := []) hx hy q
end
theorem none_of {H H' : Hp} {p : Addr} (k : Kp [] H H') (h : H' p = none) : H p = none := k.none_of List.not_mem_nil h
theorem Kp.new {H H' : Hp} {p : Addr} {o : HO} (k : Kp [] H H') (h : H' p = none) : Kp [] H (upd H' p o) := Kp.upd_new' k h
end Kb
/-! ### a list or a tuple, whichever -/
namespace Kb
open PySem PySem.Spec PyProof.Rows L2
def Inn (H : Hp) (a : Addr) (xs : List V) : Prop := H a = some (.lst xs) ∨ H a = some (.tup xs)
theorem Inn.kp {H H' : Hp} {a : Addr} {xs : List V} (h : Inn H a xs) (k : Kp [] H H') : Inn H' a xs :=
  h.elim (fun e => .inl (k.at_ List.not_mem_nil e)) fun e => .inr (k.at_ List.not_mem_nil e)
theorem Inn.kpX {L : List Addr} {H H' : Hp} {a : Addr} {xs : List V} (h : Inn H a xs) (k : Kp L H H') (n : a ∉ L) : Inn H' a xs :=
  h.elim (fun e => .inl (k.at_ n e)) fun e => .inr (k.at_ n e)
section
variable {K : PySem.W.Frag} {H : Hp} {Q : VK} {a : Addr} {xs : List V}
theorem list_goI (h : Inn H a xs) (q : ∀ p, H p = none → Q (.ref p) (upd H p (.lst xs))) : rListU K [.ref a] H Q :=
  h.elim (fun e => list_goL (SqL.of e) q) fun e => list_goT (SqT.of e) q
theorem tuple_goI (h : Inn H a xs) (q1 : H a = some (.lst xs) → rTupleU K [.ref a] H Q) (q2 : H a = some (.tup xs) → rTupleU K [.ref a] H Q) : rTupleU K [.ref a] H Q := h.elim q1 q2
theorem seq_go {te : TE} {σ : L2.St} {R : It → Hp → Prop} (q : te σ H fun x H1 => ∃ a xs, x = .ref a ∧ Inn H1 a xs ∧ ∀ J G, Walk J xs.length G (YAt xs) → (∀ H', (H1 a = H' a) → G H') → R J H1) (m : ∀ {H} {p q : V → Hp → Prop}, (∀ x H, p x H → q x H) → te σ H p → te σ H q) : iSeq K te σ H R := by
  unfold iSeq
  refine m ?_ q
  rintro x H1 ⟨a, xs, rfl, e | e, k⟩
  · exact ⟨a, rfl, .inl ⟨xs, SqL.of e, k _ _ walk_list fun H' hh => SqL.of (hh ▸ e)⟩⟩
  · exact ⟨a, rfl, .inr ⟨xs, SqT.of e, k _ _ walk_tup fun H' hh => SqT.of (hh ▸ e)⟩⟩
theorem seqV_go {n : Nat} {σ : L2.St} {R : It → Hp → Prop} (e : σ[n]? = some (some (.ref a))) (h : Inn H a xs) (q : ∀ J G, Walk J xs.length G (YAt xs) → (∀ H', (H a = H' a) → G H') → R J H) : iSeq K (tVar n) σ H R :=
  seq_go ⟨_, e, a, xs, rfl, h, q⟩ fun {H p q} hh => fun ⟨x, e, z⟩ => ⟨x, e, hh _ _ z⟩
theorem enSV_go {n : Nat} {σ : L2.St} {k : Int} {R : It → Hp → Prop} (e : σ[n]? = some (some (.ref a))) (hk : -9223372036854775808 ≤ k ∧ k < 9223372036854775808) (h : Inn H a xs)
    (q : ∀ J G, Walk J xs.length G (fun i H v H' => ∃ T x, v = .ref T ∧ H T = none ∧ H' = upd H T (.tup [.int (k + (i : Nat)), x]) ∧ xs[i]? = some x) → (∀ H', (H a = H' a) → G H') → R J H) : iEnumS K (tCons (tVar n) tNil) (tC (.int k)) σ H R := by
  unfold iEnumS
  refine ⟨_, e, a, k, rfl, rfl, hk, ?_⟩
  rcases h with e | e
  · exact .inl ⟨xs, SqL.of e, q _ _ walk_enumS fun H' hh => SqL.of (hh ▸ e)⟩
  · exact .inr ⟨xs, SqT.of e, q _ _ walk_enumS fun H' hh => SqT.of (hh ▸ e)⟩
end
theorem gTup_go {K : PySem.W.Frag} {H : Hp} {a : Addr} {xs : List V} {n : Nat} {t : TGs} {σ : L2.St} {Q : L2.St → Hp → Prop} (h : SqT K H a xs) (hl : xs.length = n) (q : t xs σ H Q) : gTup K n t (.ref a) σ H Q := ⟨a, xs, rfl, h, hl, q⟩
theorem Inn.upd {H : Hp} {a p : Addr} {xs : List V} {o : HO} (h : Inn H a xs) (n : H p = none) : Inn (upd H p o) a xs := h.kp (Kp.refl.new n)
theorem Inn.same {H H' : Hp} {a : Addr} {xs : List V} (h : Inn H a xs) (k : Kp [] H H') : H a = H' a :=
  h.elim (fun e => e.trans (k.at_ List.not_mem_nil e).symm) fun e => e.trans (k.at_ List.not_mem_nil e).symm
theorem Inn.newNe {H : Hp} {a p : Addr} {xs : List V} (h : Inn H a xs) (n : H p = none) : a ≠ p := by
  rintro rfl
  rcases h with e | e <;> rw [e] at n <;> cases n
end Kb
/-! ### lists of lists of ints -/
namespace Kb
open PySem PySem.Spec PyProof.Rows L2
def LL (H : Hp) (us : List V) (pss : List (List Int)) : Prop := us.length = pss.length ∧
  ∀ (i : Nat) (v : V), us[i]? = some v → ∃ a ps, pss[i]? = some ps ∧ v = V.ref a ∧ H a = some (.lst (ps.map V.int))
theorem LL.dp {K : PySem.W.Frag} {H : Hp} : ∀ {us : List V} {pss : List (List Int)}, LL H us pss → DpAll K H us (pss.map fun ps => PyData.list (ps.map PyData.int))
  | [], [], _ => .nil
  | [], p :: pss, h => by cases h.1
  | u :: us, [], h => by cases h.1
  | u :: us, p :: pss, h => by
    obtain ⟨a, ps, h1, rfl, h3⟩ := h.2 0 u rfl
    cases h1
    refine .cons (.lst (SqL.of h3) (dp_ints p)) (LL.dp ⟨by have := h.1; simp at this; exact this, fun i v e => ?_⟩)
    obtain ⟨a, ps, h1, h2, h3⟩ := h.2 (i + 1) v (by simpa using e)
    exact ⟨a, ps, by simpa using h1, h2, h3⟩
theorem sh_ll {pss : List (List Int)} : Sh 2 (.list (pss.map fun ps => PyData.list (ps.map PyData.int))) := sh_lst (n := 1) fun d h => by
  obtain ⟨i, _, rfl⟩ := List.mem_map.mp h
  exact sh_ints
theorem LL.kp {M : List Addr} {H H' : Hp} {us : List V} {pss : List (List Int)} (h : LL H us pss) (k : Kp M H H') (m : ∀ a ∈ M, H a = none) : LL H' us pss := ⟨h.1, fun i v e => by
  obtain ⟨a, ps, h1, h2, h3⟩ := h.2 i v e
  exact ⟨a, ps, h1, h2, k.at_ (fun z => by rw [m a z] at h3; cases h3) h3⟩⟩
theorem LL.kp0 {H H' : Hp} {us : List V} {pss : List (List Int)} (h : LL H us pss) (k : Kp [] H H') : LL H' us pss := h.kp k fun a z => nomatch z
/-- two lists of lists that hold alike are not unlike -/
theorem neLL_go {K : PySem.W.Frag} {H : Hp} {Q : VK} {a b : Addr} {us vs : List V} {pss : List (List Int)} (ha : SqL K H a us) (hb : SqL K H b vs) (hu : LL H us pss) (hv : LL H vs pss) (q : Q (.bl false) H) : rNeU K (.ref a) (.ref b) H Q :=
  neD_go (.lst ha hu.dp) (.lst hb hv.dp) (sh_ll.ok (by decide)) (sh_ll.ok (by decide)) (by rw [SeqAt.eqv_refl _ sh_ll.1]; exact q)
end Kb
/-! ### a comprehension within a comprehension -/
namespace Kb
open PySem PySem.Spec PyProof.Rows L2
theorem lookup_rel {c : Str → NameKind → Bool} : ∀ (l : List (Str × NameKind)) (x : Str), (l.lookup x = some .cell ∨ l.lookup x = some .free) →
    ((l.map fun (n, k) => if c n k then (n, NameKind.cell) else (n, k)).lookup x = some .cell ∨ (l.map fun (n, k) => if c n k then (n, NameKind.cell) else (n, k)).lookup x = some .free)
  | [], x, h => by rcases h with h | h <;> cases h
  | (n, k) :: l, x, h => by
    rw [List.lookup_cons] at h
    rw [List.map_cons]
    by_cases e : (x == n) = true
    · rw [e] at h
      dsimp only at h ⊢
      by_cases hc : c n k = true
      · rw [if_pos hc, List.lookup_cons, e]
        exact .inl rfl
      · rw [if_neg hc, List.lookup_cons, e]
        exact h
    · have e : (x == n) = false := by simpa using e
      rw [e] at h
      have ih := lookup_rel (c := c) l x h
      dsimp only
      by_cases hc : c n k = true
      · rw [if_pos hc, List.lookup_cons, e]
        exact ih
      · rw [if_neg hc, List.lookup_cons, e]
        exact ih
theorem blkOk_in {N : List Str} {scope0 scope : Scope} {env : Env} {own : List (Str × Nat)} (h : blkC N scope0 scope own = true) : BlkOk N (relabel scope0 env) scope own := by
  have b := blkOk_by h
  exact ⟨b.kind, b.uniq, b.ix, fun y hy e => lookup_rel (c := fun n k => k == .free && env.scope.kind == .function && env.kindOf n == some .cell) scope0.names y.1 (b.free y hy e), b.own⟩
end Kb
/-! ### objects of an own class: attributes, methods, making -/
namespace Kb
open PySem PySem.Spec PyProof.Rows L2
@[irreducible] def rFldU (K : PySem.W.Frag) (f : Str) : V → Hp → VK → Prop := fun x H Q => ∃ a C dx fs v, x = .ref a ∧ H a = some (.ins C dx fs) ∧ Cls K C ∧ NoAttr K C f ∧ fs.lookup f = some v ∧ Q v H
@[irreducible] def rPutU (K : PySem.W.Frag) (f : Str) : V → V → Hp → (Hp → Prop) → Prop := fun x y H Q => ∃ a C dx fs, x = .ref a ∧ H a = some (.ins C dx fs) ∧ Cls K C ∧ NoAttr K C f ∧ fs.length < 1000 ∧ Q (upd H a (.ins C dx (putF f y fs)))
@[irreducible] def rAugU (K : PySem.W.Frag) (tv : TE) (rd : V → V → Hp → VK → Prop) (f : Str) : V → L2.St → Hp → (Hp → Prop) → Prop := fun x σ H Q => ∃ a C dx fs v, x = .ref a ∧ H a = some (.ins C dx fs) ∧ Cls K C ∧ NoAttr K C f ∧ fs.lookup f = some v ∧
  tv σ H fun y H2 => rd v y H2 fun z H3 => ∃ dx' fs', H3 a = some (.ins C dx' fs') ∧ fs'.length < 1000 ∧ Q (upd H3 a (.ins C dx' (putF f z fs')))
@[irreducible] def rRcvU (C : Addr) (m : Str) : V → Hp → Prop → Prop := fun x H Z => ∃ a dx fs, x = .ref a ∧ H a = some (.ins C dx fs) ∧ fs.lookup m = none ∧ Z
def sFldU (K : PySem.W.Frag) (ta tv : TE) (f : Str) : TS := fun D σ H => tv σ H fun y H1 => ta σ H1 fun x H2 => rPutU K f x y H2 fun H3 => D.nx σ H3
def sFldAugU (K : PySem.W.Frag) (ta tv : TE) (rd : V → V → Hp → VK → Prop) (f : Str) : TS := fun D σ H => ta σ H fun x H1 => rAugU K tv rd f x σ H1 fun H4 => D.nx σ H4
def tMethU (C : Addr) (m : Str) (sp : Sp) (E : XK) (ta : TE) (t : TA) : TE := fun σ H Q => ta σ H fun x H1 => rRcvU C m x H1 (t σ H1 fun vs H2 => sp (x :: vs) H2 Q E)
section
variable {X : Cx} {o e value : Expr} {f : Str} {pos pos' tpos : Pos} {ta tv : TE}
theorem pe_fldU (he : PE X e ta) (hb : attributeBase e f X.env (eval e X.env) = eval e X.env) : PE X (.Attribute e f pos) (tUn (rFldU X.K f) ta) := by
  unfold tUn rFldU
  exact pe_fld he hb
theorem ps_fldU (ha : PE X o ta) (hv : PE X value tv) (hs : swapsWith value (some (.Attribute o f pos')) pos.line X.env = pure false) : PS X (.Assign [.Attribute o f pos'] value pos) (sFldU X.K ta tv f) := by
  unfold sFldU rPutU
  exact ps_fld ha hv hs
theorem ps_fldaugU {op : Operator} {rd : V → V → Hp → VK → Prop} (ha : PE X o ta) (hv : PE X value tv) (hop : PIp X op rd) : PS X (.AugAssign (.Attribute o f tpos) op value pos) (sFldAugU X.K ta tv rd f) := by
  unfold sFldAugU rAugU
  exact ps_fldaug ha hv hop
end
section
variable {K : PySem.W.Frag} {H : Hp} {Q : VK} {a C dx : Addr} {fs fs' : List (Str × V)} {f m : Str} {v y : V}
theorem fld_go (h : H a = some (.ins C dx fs)) (c : Cls K C) (n : NoAttr K C f) (l : fs.lookup f = some v) (q : Q v H) : rFldU K f (.ref a) H Q := by
  unfold rFldU
  exact ⟨a, C, dx, fs, v, rfl, h, c, n, l, q⟩
theorem put_go {Q : Hp → Prop} (h : H a = some (.ins C dx fs)) (c : Cls K C) (n : NoAttr K C f) (hl : fs.length < 1000) (e : putF f y fs = fs') (q : Q (upd H a (.ins C dx fs'))) : rPutU K f (.ref a) y H Q := by
  subst e
  unfold rPutU
  exact ⟨a, C, dx, fs, rfl, h, c, n, hl, q⟩
theorem aug_go {Q : Hp → Prop} {tv : TE} {rd : V → V → Hp → VK → Prop} {σ : L2.St} (h : H a = some (.ins C dx fs)) (c : Cls K C) (n : NoAttr K C f) (l : fs.lookup f = some v)
    (q : tv σ H fun y H2 => rd v y H2 fun z H3 => ∃ dx' fs', H3 a = some (.ins C dx' fs') ∧ fs'.length < 1000 ∧ Q (upd H3 a (.ins C dx' (putF f z fs')))) : rAugU K tv rd f (.ref a) σ H Q := by
  unfold rAugU
  exact ⟨a, C, dx, fs, v, rfl, h, c, n, l, q⟩
theorem augE_go {Q : Hp → Prop} {z : V} (h : H a = some (.ins C dx fs)) (hl : fs.length < 1000) (e : putF f z fs = fs') (q : Q (upd H a (.ins C dx fs'))) : ∃ dx' fs', H a = some (.ins C dx' fs') ∧ fs'.length < 1000 ∧ Q (upd H a (.ins C dx' (putF f z fs'))) := by
  subst e
  exact ⟨dx, fs, h, hl, q⟩
theorem rcv_go {Z : Prop} (h : H a = some (.ins C dx fs)) (l : fs.lookup m = none) (z : Z) : rRcvU C m (.ref a) H Z := by
  unfold rRcvU
  exact ⟨a, dx, fs, rfl, h, l, z⟩
theorem lk_here {k : Str} {v : V} {r : List (Str × V)} : List.lookup k ((k, v) :: r) = some v := by
  have e : (k == k) = true := beq_self_eq_true k
  simp only [List.lookup, e]
theorem lk_past {k g : Str} {v : V} {r : List (Str × V)} {o : Option V} (h : (k == g) = false) (q : List.lookup k r = o) : List.lookup k ((g, v) :: r) = o := by
  simp only [List.lookup, h]
  exact q
theorem put_here {f : Str} {v x : V} {r : List (Str × V)} : putF f v ((f, x) :: r) = (f, v) :: r := if_pos rfl
theorem put_past {f g : Str} {v x : V} {r r' : List (Str × V)} (h : ¬ g = f) (q : putF f v r = r') : putF f v ((g, x) :: r) = (g, x) :: r' := by
  subst q
  exact if_neg h
theorem put_nil {f : Str} {v : V} : putF f v [] = [(f, v)] := rfl
end
/-- the method m of the class at C -/
def DefM (K : PySem.W.Frag) (C : Addr) (st : Stmt) (m qual : Str) : Prop := ∃ f fd, Meth K C m f ∧ Fun K m qual st f fd
structure CalM (P : Program) (w : World) (K : PySem.W.Frag) (mg : Str → Option Value) (base : Heap) (CX : CXT) (k : Nat) (C : Addr) (m : Str) (ps : List Str) (sp : Sp) : Prop where
  ex : ∃ f fd, Meth K C m f ∧ FnOk P w K mg base CX k f fd ps sp ∧ Binds K fd ps []
section
variable {P : Program} {w : World} {K : PySem.W.Frag} {mg : Str → Option Value} {base : Heap}
theorem CalM.of {C : Addr} {m qual : Str} {st : Stmt} {N ps : List Str} {k : Nat} {sp : Sp} (D : DefM K C st m qual) (S : FnScope N ps (defScope st))
    (hb : ∀ (kV doc pm : Value) (an : Option Addr) (cdv ct : Value) (us : List Value), us.length = ps.length → bindArgs (PySem.W.fnOf m qual (defArgs st) (defBody st) (defScope st) .none kV doc pm an cdv ct) ⟨us, []⟩ = pure (ps.zip us))
    (len : ∀ vs H Q E, sp vs H Q E → vs.length = ps.length)
    (hbody : ∀ (f : Addr) (cdv : Value) (A : Around) (outer : List Env) (s : Shared) (H : Hp) (vs : List V) (Q : VK) (E : XK), Room k (A.deeper (envOfC qual (defScope st) s.heap.objs.size f cdv)) → sp vs H Q E →
      ∃ t, PSs (cxOf CX0 P w K mg base N qual (defScope st) f cdv A outer s H E).nox (defBody st) t ∧ t { nx := fun _ H' => Q .non H', rt := Q } (start N vs) H) : CalM P w K mg base CX0 (k + 1) C m ps sp := by
  obtain ⟨f, fd, hm, F⟩ := D
  refine ⟨f, fd, hm, F.ok S len (hbody f), .all ?_⟩
  obtain ⟨oc, od, kV, doc, pm, an, cdv, ct, osl, rfl, lk, hcd⟩ := F.ex
  exact hb kV doc pm an cdv ct
end
section
variable {X : Cx} {CX : CXT} {k : Nat} {C : Addr} {ps : List Str} {sp : Sp} {E : XK} {x m : Str} {p pos apos : Pos} {e o : Expr} {es : List Expr} {ta : TE} {t : TA}
theorem pe_methM {pl : Sem Bool} (he : PE X o ta) (c : Cls X.K C) (M : CalM X.prog X.w X.K X.mg X.base CX k C m ps sp) (hr : Room k X.A) (hx : Passes CX X E) (ha : PA X (e :: es) t)
    (hst : starEach (e :: es) X.env = (false, eval e X.env) :: starEach es X.env := by rfl) (hpl : (backTo pos (starEach es X.env)).any (·.1) = false := by rfl)
    (ht : eval (.Call (.Attribute o m apos) (e :: es) [] pos) X.env = (do
      let ov ← eval o X.env
      standAt apos.atName
      let (f, first) ← holding [ov] (getMethod ov m pl)
      callWith pos f first (backTo pos (starEach (e :: es) X.env)) (backToKw pos (keywordEach [] X.env))) := by rfl) :
    PE X (.Call (.Attribute o m apos) (e :: es) [] pos) (tMethU C m sp E ta t) := by
  obtain ⟨f, fd, hm, F, hb⟩ := M.ex
  have := pe_meth (pos := pos) (apos := apos) (dvs := []) (E := E) he c hm F hr hb .nil hx ha hst hpl ht
  unfold tMethU rRcvU
  unfold tMeth at this
  simpa only [List.append_nil] using this
theorem pe_methM0 {pl : Sem Bool} (he : PE X o ta) (c : Cls X.K C) (M : CalM X.prog X.w X.K X.mg X.base CX k C m ps sp) (hr : Room k X.A) (hx : Passes CX X E)
    (ht : eval (.Call (.Attribute o m apos) [] [] pos) X.env = (do
      let ov ← eval o X.env
      standAt apos.atName
      let (f, first) ← holding [ov] (getMethod ov m pl)
      callWith pos f first (backTo pos (starEach [] X.env)) (backToKw pos (keywordEach [] X.env))) := by rfl) :
    PE X (.Call (.Attribute o m apos) [] [] pos) (tMethU C m sp E ta tNil) := by
  obtain ⟨f, fd, hm, F, hb⟩ := M.ex
  have := pe_meth0 (pos := pos) (apos := apos) (dvs := []) (E := E) he c hm F hr hb .nil hx ht
  unfold tMethU rRcvU
  unfold tMeth at this
  simpa only [List.append_nil] using this
theorem pe_makeM0 (hmk : PySem.W.makesIn X.K C = true) (hkc : PySem.W.keepIn X.K (.ref C) = true) (M : CalM X.prog X.w X.K X.mg X.base CX k C "__init__" ps sp) (hr : Room (k + 1) X.A) (hg : Gl X x) (hm : X.mg x = some (.ref C)) (hx : Passes CX X E)
    (hdb : (x == ("__debug__" : Str)) = false := by decide) : PE X (.Call (.Name x p) [] [] pos) (tMake C sp [] E tNil) := by
  obtain ⟨f, fd, hme, F, hb⟩ := M.ex
  exact pe_make0 ⟨hmk, hme.at_, hme.fn, hkc⟩ F hr hg hm hb .nil hx hdb
theorem pe_makeM (hmk : PySem.W.makesIn X.K C = true) (hkc : PySem.W.keepIn X.K (.ref C) = true) (M : CalM X.prog X.w X.K X.mg X.base CX k C "__init__" ps sp) (hr : Room (k + 1) X.A) (hg : Gl X x) (hm : X.mg x = some (.ref C)) (hx : Passes CX X E) (ha : PA X (e :: es) t)
    (hdb : (x == ("__debug__" : Str)) = false := by decide) (he : starEach (e :: es) X.env = (false, eval e X.env) :: starEach es X.env := by rfl) (hpl : (backTo pos (starEach es X.env)).any (·.1) = false := by rfl) :
    PE X (.Call (.Name x p) (e :: es) [] pos) (tMake C sp [] E t) := by
  obtain ⟨f, fd, hme, F, hb⟩ := M.ex
  exact pe_make ⟨hmk, hme.at_, hme.fn, hkc⟩ F hr hg hm hb .nil hx ha hdb he hpl
end
end Kb

open L2 Kb PySem
/-! steps by name: "ne" a ≠ b, "h" H a = some o, "c" a side condition, "l" a list that is read, "s" one step of a reading -/
local macro_rules | `(tactic| walk_at "ne") => `(tactic| first
  | assumption
  | (apply Ne.symm; assumption)
  | (refine' ne_of_none ?kh ?kn; (case kn => assumption); (case kh => walk_at "h"))
  | (refine' Ne.symm (ne_of_none ?kh ?kn); (case kn => assumption); (case kh => walk_at "h"))
  | fail)
local macro_rules | `(tactic| walk_at "nm") => `(tactic| first
  | exact List.not_mem_nil
  | (refine' nm_cons ?kn ?km; (case kn => walk_at "ne"); (case km => walk_at "nm"))
  | fail)
local macro_rules | `(tactic| walk_at "h") => `(tactic| first
  | assumption
  | exact upd_same
  | (refine' (upd_ne ?kn).trans ?kh; (case kn => walk_at "ne"); (case kh => walk_at "h"))
  | (refine' Kp.at_ ?kk ?kn ?kh; (case kk => assumption); (case kn => walk_at "nm"); (case kh => walk_at "h"))
  | (refine' Same.at_ ?kk ?kh; (case kk => assumption); (case kh => walk_at "h"))
  | fail)
local macro_rules | `(tactic| walk_at "c") => `(tactic| first
  | assumption
  | rfl
  | omega
  | decide
  | (simp only [List.length_cons, List.length_nil, List.length_map, List.length_append, List.length_range, List.length_replicate]; omega)
  | fail)
local macro_rules | `(tactic| walk_at "l") => `(tactic| first
  | assumption
  | exact SqL.of (by walk_at "h")
  | (refine Kp.sqL (by assumption) ?_ ?_ <;> first | assumption | walk_at "nm" | walk_at "l")
  | fail)
local macro_rules | `(tactic| walk_at "t") => `(tactic| first
  | assumption
  | exact SqT.of (by walk_at "h")
  | (refine Kp.sqT (by assumption) ?_ ?_ <;> first | assumption | walk_at "nm" | walk_at "t")
  | fail)
local macro_rules | `(tactic| walk_at "i") => `(tactic| first
  | assumption
  | exact .inl (by walk_at "h")
  | exact .inr (by walk_at "h")
  | (refine' Inn.kp (H := ?_) ?k1 ?k2; (case k2 => assumption); (case k1 => walk_at "i"))
  | (refine' Inn.upd ?k1 ?k2; (case k2 => assumption); (case k1 => walk_at "i"))
  | fail)
local macro_rules | `(tactic| walk_at "mem") => `(tactic| first
  | exact List.mem_cons_self
  | (refine' List.mem_cons_of_mem _ ?k1; (case k1 => walk_at "mem"))
  | fail)
local macro_rules | `(tactic| walk_at "kp") => `(tactic| first
  | assumption
  | exact Kp.refl
  | (refine' Kp.upd_in ?k1 ?k2; (case k2 => walk_at "mem"); (case k1 => walk_at "kp"))
  | (refine' Kp.upd_new ?k1 ?k2; (case k2 => assumption); (case k1 => walk_at "kp"))
  | (refine' Kp.upd_new' ?k1 ?k2; (case k2 => assumption); (case k1 => walk_at "kp"))
  | (refine' Kp.upd_new ?k1 ?k2; (case k2 => walk_at "no"); (case k1 => walk_at "kp"))
  | fail)
local macro_rules | `(tactic| walk_at "no") => `(tactic| first
  | assumption
  | (refine' none_of ?k1 ?k2; (case k2 => assumption); (case k1 => walk_at "kp"))
  | fail)
local macro_rules | `(tactic| walk_at "ki") => `(tactic| first
  | exact ki_NoneType_str
  | exact ki_NoneType_int
  | exact ki_NoneType_bool
  | exact ki_NoneType_list
  | exact ki_NoneType_tuple
  | exact ki_NoneType_dict
  | exact ki_bool_str
  | exact ki_bool_int
  | exact ki_bool_bool
  | exact ki_bool_list
  | exact ki_bool_tuple
  | exact ki_bool_dict
  | exact ki_int_str
  | exact ki_int_int
  | exact ki_int_bool
  | exact ki_int_list
  | exact ki_int_tuple
  | exact ki_int_dict
  | exact ki_str_str
  | exact ki_str_int
  | exact ki_str_bool
  | exact ki_str_list
  | exact ki_str_tuple
  | exact ki_str_dict
  | exact ki_list_str
  | exact ki_list_int
  | exact ki_list_bool
  | exact ki_list_list
  | exact ki_list_tuple
  | exact ki_list_dict
  | exact ki_tuple_str
  | exact ki_tuple_int
  | exact ki_tuple_bool
  | exact ki_tuple_list
  | exact ki_tuple_tuple
  | exact ki_tuple_dict
  | exact ki_dict_str
  | exact ki_dict_int
  | exact ki_dict_bool
  | exact ki_dict_list
  | exact ki_dict_tuple
  | exact ki_dict_dict
  | fail)
local macro_rules | `(tactic| walk_at "ty") => `(tactic| first
  | assumption
  | exact .base (.int _)
  | exact .base (.str _)
  | exact .base (.bl _)
  | exact .base .non
  | (refine' .base (.lst ?k1); (case k1 => walk_at "h"))
  | (refine' .base (.tup ?k1); (case k1 => walk_at "h"))
  | (refine' .base (.dK ?k1); (case k1 => walk_at "h"))
  | fail)
local macro_rules | `(tactic| walk_at "lk") => `(tactic| first
  | exact lk_here
  | (refine' lk_past ?k1 ?k2; (case k1 => decide +kernel); (case k2 => walk_at "lk"))
  | rfl
  | fail)
local macro_rules | `(tactic| walk_at "pf") => `(tactic| first
  | exact put_here
  | exact put_nil
  | (refine' put_past ?k1 ?k2; (case k1 => decide +kernel); (case k2 => walk_at "pf"))
  | fail)
local macro_rules | `(tactic| walk_at "s1") => `(tactic| first
  | (refine' add_go  ?kq)
  | (refine' sub_go  ?kq)
  | (refine' mul_goL ?k1 ?k2 ?kq; (case k1 => walk_at "c"); (case k2 => walk_at "c"))
  | (refine' mul_goR ?k1 ?k2 ?kq; (case k1 => walk_at "c"); (case k2 => walk_at "c"))
  | (refine' mod_go ?k1 ?kq; (case k1 => walk_at "c"))
  | (refine' div_go ?k1 ?k2 ?kq; (case k1 => walk_at "c"); (case k2 => walk_at "c"))
  | (refine' eq_go  ?kq)
  | (refine' ne_go  ?kq)
  | (refine' lt_go  ?kq)
  | (refine' le_go  ?kq)
  | (refine' gt_go  ?kq)
  | (refine' ge_go  ?kq)
  | (refine' ixL_go ?k1 ?k2 ?kq; (case k1 => walk_at "l"); (case k2 => rfl))
  | (refine' ixT_go ?k1 ?k2 ?kq; (case k1 => walk_at "t"); (case k2 => rfl))
  | (refine' set_go ?k1 ?k2 ?kq; (case k1 => walk_at "h"); (case k2 => rfl))
  | (refine' eqS_go  ?kq)
  | (refine' neS_go  ?kq)
  | (refine' eqB_go  ?kq)
  | (refine' neB_go  ?kq)
  | (refine' eqN_go  ?kq)
  | (refine' neI0_go ?k1 ?k2 ?kq; (case k1 => walk_at "l"); (case k2 => walk_at "l"))
  | (refine' eqI0_go ?k1 ?k2 ?kq; (case k1 => walk_at "l"); (case k2 => walk_at "l"))
  | (refine' neI_go ?k1 ?k2 ?kq; (case k1 => walk_at "l"); (case k2 => walk_at "l"))
  | (refine' eqI_go ?k1 ?k2 ?kq; (case k1 => walk_at "l"); (case k2 => walk_at "l"))
  | (refine' len_str ?k1 ?kq; (case k1 => walk_at "c"))
  | (refine' len_lst ?k1 ?kq; (case k1 => walk_at "l"))
  | (refine' len_tup ?k1 ?kq; (case k1 => walk_at "t"))
  | (refine' len_dK ?k1 ?kq; (case k1 => walk_at "h"))
  | (refine' isi_go ?k1 ?k2 ?kq; (case k1 => walk_at "ty"); (case k2 => walk_at "ki"))
  | (refine' isi2_go ?k1 ?k2 ?k3 ?k4 ?kq; (case k1 => walk_at "h"); (case k2 => walk_at "ty"); (case k3 => walk_at "ki"); (case k4 => walk_at "ki"))
  | (refine' int_go  ?kq)
  | (refine' intB_go  ?kq)
  | (refine' pow_go ?k1 ?k2 ?k3 ?kq; (case k1 => walk_at "c"); (case k2 => walk_at "c"); (case k3 => walk_at "c"))
  | (refine' neg_go  ?kq)
  | (refine' app_go ?k1 ?k2 ?kq; (case k1 => walk_at "h"); (case k2 => walk_at "c"))
  | (refine' addL_go ?k1 ?k2 ?k3 ?kq; (case k1 => walk_at "h"); (case k2 => walk_at "h"); (case k3 => walk_at "c"))
  | (refine' addLS_go ?k1 ?k2 ?k3 ?kq; (case k1 => walk_at "l"); (case k2 => walk_at "l"); (case k3 => walk_at "c"))
  | (refine' addS_go ?k1 ?kq; (case k1 => walk_at "c"))
  | (refine' rep_go ?k1 ?k2 ?k3 ?k4 ?kq; (case k1 => walk_at "h"); (case k2 => walk_at "c"); (case k3 => walk_at "c"); (case k4 => walk_at "c"))
  | (refine' iadd_go  ?kq)
  | (refine' iaddL_go ?k1 ?k2 ?k3 ?kq; (case k1 => walk_at "h"); (case k2 => walk_at "h"); (case k3 => walk_at "c"))
  | (refine' isub_go  ?kq)
  | (refine' imod_go ?k1 ?kq; (case k1 => walk_at "c"))
  | (refine' ltS_go  ?kq)
  | (refine' gtS_go  ?kq)
  | (refine' isN_go  ?kq)
  | (refine' notN_go  ?kq)
  | (refine' inC_go  ?kq)
  | (refine' notInC_go  ?kq)
  | (refine' list_goL ?k1 ?kq; (case k1 => walk_at "l"))
  | (refine' list_goT ?k1 ?kq; (case k1 => walk_at "t"))
  | (refine' tuple_goL ?k1 ?kq; (case k1 => walk_at "l"))
  | (refine' tuple_goT ?k1 ?kq; (case k1 => walk_at "t"))
  | (refine' list_goI ?k1 ?kq; (case k1 => walk_at "i"))
  | (refine' pop0_go ?k1 ?kq; (case k1 => walk_at "h"))
  | (refine' popE_go ?k1 ?kq; (case k1 => walk_at "h"))
  | (refine' slL_go ?k1 ?kq; (case k1 => walk_at "l"))
  | (refine' slS_go ?k1 ?kq; (case k1 => walk_at "c"))
  | (refine' ord_go  ?kq)
  | (refine' abs_go  ?kq)
  | (refine' fld_go ?k1 ?k2 ?k3 ?k4 ?kq; (case k1 => walk_at "h"); (case k2 => assumption); (case k3 => assumption); (case k4 => walk_at "lk"))
  | (refine' put_go ?k1 ?k2 ?k3 ?k4 ?k5 ?kq; (case k1 => walk_at "h"); (case k2 => assumption); (case k3 => assumption); (case k5 => walk_at "pf"); (case k4 => first | decide | (simp only [List.length_cons, List.length_nil]; decide)))
  | (refine' aug_go ?k1 ?k2 ?k3 ?k4 ?kq; (case k1 => walk_at "h"); (case k2 => assumption); (case k3 => assumption); (case k4 => walk_at "lk"))
  | (refine' rcv_go ?k1 ?k2 ?kq; (case k1 => walk_at "h"); (case k2 => walk_at "lk"))
  | fail)
local macro_rules | `(tactic| walk_at "s") => `(tactic| first
  | refine ⟨_, rfl, ?_⟩
  | refine iteD (fun _ => ?_) (fun _ => ?_)
  | refine iteN (fun _ => ?_) (fun _ => ?_)
  | refine iteT ?_
  | refine iteF ?_
  | walk_at "s1"
  | with_reducible refine st_nx ?_
  | (dsimp only; with_reducible refine st_nx ?_)
  | (refine' gTup_go ?k1 ?k2 ?kq; (case k1 => walk_at "t"); (case k2 => rfl))
  | refine And.intro (sz_of' (by walk_at "c")) ?_
  | refine And.intro (by walk_at "c") ?_
  | refine ⟨_, _, rfl, ?_⟩
  | refine ⟨_, _, _, rfl, ?_⟩
  | refine ⟨_, _, _, _, rfl, ?_⟩
  | refine ⟨.inl ⟨rfl, _, by walk_at "l"⟩, ?_⟩
  | refine ⟨⟨_, rfl⟩, ?_⟩
  | (refine fun (p : Addr) (np : _ = none) => ?_)
  | (refine fun (x dx : Addr) (nx : _ = none) (nd : _ = none) (ne : _ ≠ _) => ?_)
  | (refine' augE_go ?k1 ?k2 ?k3 ?kq; (case k1 => walk_at "h"); (case k3 => walk_at "pf"); (case k2 => first | decide | (simp only [List.length_cons, List.length_nil]; decide)))
  | refine iteB (fun _ => ?_) (fun _ => ?_)
  | (refine' seqV_go ?k1 ?k2 (fun J G w hG => ?kq); (case k1 => rfl); (case k2 => walk_at "i"))
  | (refine' enSV_go ?k1 ?k2 ?k3 (fun J G w hG => ?kq); (case k1 => rfl); (case k2 => exact ⟨by decide, by decide⟩); (case k3 => walk_at "i"))
  | fail)
local macro_rules | `(tactic| walk_at "go") => `(tactic| repeat' walk_at "s")
/-! ### own exception classes: made, raised, caught, looked at -/
namespace Kb
open PySem PySem.Spec PyProof.Rows L2
/-- where the top has what it calls x -/
def cAt (K : PySem.W.Frag) (x : Str) : Addr := match PySem.W.nsIn K mainGlobals x with
  | some (some (.ref a)) => a
  | _ => default
theorem cAt_of {K : PySem.W.Frag} {x : Str} {a : Addr} (h : PySem.W.nsIn K mainGlobals x = some (some (.ref a))) : cAt K x = a := by
  unfold cAt
  rw [h]
section
variable {P : Program} {w : World} {K : PySem.W.Frag} {mg : Str → Option Value} {base : Heap}
theorem Cal.ofX {x : Str} {st : Stmt} {N ps : List Str} {k : Nat} {sp : Sp} (D : Def K mg st x) (S : FnScope N ps (defScope st))
    (hb : ∀ (kV doc pm : Value) (an : Option Addr) (cdv ct : Value) (us : List Value), us.length = ps.length → bindArgs (PySem.W.fnOf x x (defArgs st) (defBody st) (defScope st) .none kV doc pm an cdv ct) ⟨us, []⟩ = pure (ps.zip us))
    (len : ∀ vs H Q E, sp vs H Q E → vs.length = ps.length)
    (hbody : ∀ (f : Addr) (cdv : Value) (A : Around) (outer : List Env) (s : Shared) (H : Hp) (vs : List V) (Q : VK) (E : XK), Room k (A.deeper (envOfC x (defScope st) s.heap.objs.size f cdv)) → sp vs H Q E →
      ∃ t, PSs (cxOf (L2.CX P w) P w K mg base N x (defScope st) f cdv A outer s H E) (defBody st) t ∧ t { nx := fun _ H' => Q .non H', rt := Q } (start N vs) H) : Cal P w K mg base (L2.CX P w) (k + 1) x ps sp := by
  obtain ⟨f, fd, hm, F⟩ := D
  refine ⟨f, fd, hm, F.okX S len (hbody f), F.kp, ?_, Fun.at_ F⟩
  obtain ⟨oc, od, kV, doc, pm, an, cdv, ct, osl, rfl, lk, hcd⟩ := F.ex
  exact hb kV doc pm an cdv ct
theorem CalM.ofX {C : Addr} {m qual : Str} {st : Stmt} {N ps : List Str} {k : Nat} {sp : Sp} (D : DefM K C st m qual) (S : FnScope N ps (defScope st))
    (hb : ∀ (kV doc pm : Value) (an : Option Addr) (cdv ct : Value) (us : List Value), us.length = ps.length → bindArgs (PySem.W.fnOf m qual (defArgs st) (defBody st) (defScope st) .none kV doc pm an cdv ct) ⟨us, []⟩ = pure (ps.zip us))
    (len : ∀ vs H Q E, sp vs H Q E → vs.length = ps.length)
    (hbody : ∀ (f : Addr) (cdv : Value) (A : Around) (outer : List Env) (s : Shared) (H : Hp) (vs : List V) (Q : VK) (E : XK), Room k (A.deeper (envOfC qual (defScope st) s.heap.objs.size f cdv)) → sp vs H Q E →
      ∃ t, PSs (cxOf (L2.CX P w) P w K mg base N qual (defScope st) f cdv A outer s H E) (defBody st) t ∧ t { nx := fun _ H' => Q .non H', rt := Q } (start N vs) H) : CalM P w K mg base (L2.CX P w) (k + 1) C m ps sp := by
  obtain ⟨f, fd, hm, F⟩ := D
  refine ⟨f, fd, hm, F.okX S len (hbody f), .all ?_⟩
  obtain ⟨oc, od, kV, doc, pm, an, cdv, ct, osl, rfl, lk, hcd⟩ := F.ex
  exact hb kV doc pm an cdv ct
/-- the __init__ of an exception's class -/
def DefI (K : PySem.W.Frag) (C : Addr) (st : Stmt) (qual : Str) : Prop := ∃ f fd, PySem.W.findIn K (.ref C) "__init__" = some (some (.ref f)) ∧ PySem.W.typeIn K (.ref f) = some (.type "function") ∧ Fun K "__init__" qual st f fd
structure CalI (P : Program) (w : World) (K : PySem.W.Frag) (mg : Str → Option Value) (base : Heap) (k : Nat) (C : Addr) (ps : List Str) (sp : Sp) : Prop where
  ex : ∃ f fd, PySem.W.findIn K (.ref C) "__init__" = some (some (.ref f)) ∧ PySem.W.typeIn K (.ref f) = some (.type "function") ∧ FnOk P w K mg base CX0 k f fd ps sp ∧ Binds K fd ps []
theorem CalI.of {C : Addr} {qual : Str} {st : Stmt} {N ps : List Str} {k : Nat} {sp : Sp} (D : DefI K C st qual) (S : FnScope N ps (defScope st))
    (hb : ∀ (kV doc pm : Value) (an : Option Addr) (cdv ct : Value) (us : List Value), us.length = ps.length → bindArgs (PySem.W.fnOf "__init__" qual (defArgs st) (defBody st) (defScope st) .none kV doc pm an cdv ct) ⟨us, []⟩ = pure (ps.zip us))
    (len : ∀ vs H Q E, sp vs H Q E → vs.length = ps.length)
    (hbody : ∀ (f : Addr) (cdv : Value) (A : Around) (outer : List Env) (s : Shared) (H : Hp) (vs : List V) (Q : VK) (E : XK), Room k (A.deeper (envOfC qual (defScope st) s.heap.objs.size f cdv)) → sp vs H Q E →
      ∃ t, PSs (cxOf CX0 P w K mg base N qual (defScope st) f cdv A outer s H E).nox (defBody st) t ∧ t { nx := fun _ H' => Q .non H', rt := Q } (start N vs) H) : CalI P w K mg base (k + 1) C ps sp := by
  obtain ⟨f, fd, h1, h2, F⟩ := D
  refine ⟨f, fd, h1, h2, F.ok S len (hbody f), .all ?_⟩
  obtain ⟨oc, od, kV, doc, pm, an, cdv, ct, osl, rfl, lk, hcd⟩ := F.ex
  exact hb kV doc pm an cdv ct
end
/-- what the written part says of an own exception's class -/
structure XCls (K : PySem.W.Frag) (C : Addr) : Prop where
  o : OexC K C
  xf : XfC K C
  cl : (PySem.W.clsIn K C).isSome = true
  ha : PySem.W.findIn K (.ref C) "__class__" = some (some (.builtin "object.__class__"))
  hn : PySem.W.specialIn K (.builtin "object.__class__") "__get__" = some (some (.builtin "getset_descriptor.__get__"))
  ht : PySem.W.takesIn K (.builtin "object.__class__") = some true
  hm : PySem.W.mroIn K C (.type "object") = some true
/-- an exception's __init__ whose fields are told by its arguments -/
@[irreducible] def spInit (C : Addr) (n : Nat) (fs : List V → List (Str × V)) : Sp := fun vs H Q _ => ∃ a ws, vs = .ref a :: ws ∧ ws.length = n ∧ H a = some (exo a C none) ∧ ∀ d, H d = none → d ≠ a → Q .non (upd (upd H d (exd d (fs ws))) a (exo a C (some d)))
theorem spInit_len {C : Addr} {n : Nat} {fs : List V → List (Str × V)} (vs : List V) (H : Hp) (Q : VK) (E : XK) (h : spInit C n fs vs H Q E) : vs.length = n + 1 := by
  unfold spInit at h
  obtain ⟨a, ws, rfl, h, _⟩ := h
  rw [List.length_cons, h]
theorem mkO_go {C : Addr} {n : Nat} {fs : List V → List (Str × V)} {vs : List V} {H : Hp} {Z : XK} (hn : vs.length = n) (hl : n ≤ 1000) (h : ∀ d, H d = none → Z (.ref C) (some d) (upd H d (.xd (fs vs)))) :
    vs.length ≤ 1000 ∧ ∀ a, H a = none → spInit C n fs (.ref a :: (vs ++ [])) (upd H a (exo a C none))
      (fun v H2 => v = .non ∧ ∃ (d : Addr) (fs : List (Str × V)), H2 a = some (exo a C (some d)) ∧ H2 d = some (exd d fs) ∧ H d = none ∧ Z (.ref C) (some d) (upd (del H2 a) d (.xd fs))) (fun _ _ _ => False) := by
  refine ⟨by omega, fun a ha => ?_⟩
  unfold spInit
  refine ⟨a, vs, by rw [List.append_nil], hn, upd_same, fun d hd da => ⟨rfl, d, fs vs, upd_same, (upd_ne da).trans upd_same, (upd_ne da).symm.trans hd, ?_⟩⟩
  have hd0 : H d = none := (upd_ne da).symm.trans hd
  have e : upd (del (upd (upd (upd H a (exo a C none)) d (exd d (fs vs))) a (exo a C (some d))) a) d (.xd (fs vs)) = upd H d (.xd (fs vs)) := by
    funext b
    by_cases hb : b = d
    · rw [hb, upd_same, upd_same]
    · rw [upd_ne hb, upd_ne hb]
      by_cases hba : b = a
      · rw [hba, del_same, ha]
      · rw [del_ne hba, upd_ne hba, upd_ne hb, upd_ne hba]
  rw [e]
  exact h d hd0
/-- raise x(e, ..) -/
def tRaiseI (C : Addr) (sp : Sp) (W : WX) (ta : TA) : TS := fun _ σ H => tMkO C sp [] ta σ H fun cls d H' => W cls d σ H'
section
variable {X : Cx} {C : Addr} {x : Str} {k : Nat} {ps : List Str} {sp : Sp} {W : WX} {e : Expr} {es : List Expr} {ta : TA} {p pos pos2 : Pos}
theorem ps_raiseI (hc : X.calm = true) (T : XCls X.K C) (M : CalI X.prog X.w X.K X.mg X.base k C ps sp) (hr : Room (k + 1) X.A) (tk : Takes X W) (hg : Gl X x) (hm : X.mg x = some (.ref C)) (ha : PA X (e :: es) ta)
    (hdb : (x == ("__debug__" : Str)) = false := by decide) (he : starEach (e :: es) X.env = (false, eval e X.env) :: starEach es X.env := by rfl) (hpl : (backTo pos (starEach es X.env)).any (·.1) = false := by rfl) :
    PS X (.Raise (some (.Call (.Name x p) (e :: es) [] pos)) none pos2) (tRaiseI C sp W ta) := by
  obtain ⟨f, fd, h1, h2, F, hb⟩ := M.ex
  exact ps_raise hc tk (pmk_oex T.o h1 h2 F hr hb .nil (fun _ _ _ _ _ _ _ h => h.elim) hg hm ha hdb he hpl)
end
/-- o.m(e, ..), what it raises wished for at the slots as they stand -/
def tMethUS (C : Addr) (m : Str) (sp : Sp) (E : L2.St → XK) (ta : TE) (t : TA) : TE := fun σ H Q => tMethU C m sp (E σ) ta t σ H Q
section
variable {X : Cx} {CX : CXT} {k : Nat} {C : Addr} {ps : List Str} {sp : Sp} {E : L2.St → XK} {x m : Str} {p pos apos : Pos} {e o : Expr} {es : List Expr} {ta : TE} {t : TA}
theorem pe_methMS {pl : Sem Bool} (he : PE X o ta) (c : Cls X.K C) (M : CalM X.prog X.w X.K X.mg X.base CX k C m ps sp) (hr : Room k X.A) (hx : ∀ σ, PassesAt CX X σ (E σ)) (ha : PA X (e :: es) t)
    (hst : starEach (e :: es) X.env = (false, eval e X.env) :: starEach es X.env := by rfl) (hpl : (backTo pos (starEach es X.env)).any (·.1) = false := by rfl)
    (ht : eval (.Call (.Attribute o m apos) (e :: es) [] pos) X.env = (do
      let ov ← eval o X.env
      standAt apos.atName
      let (f, first) ← holding [ov] (getMethod ov m pl)
      callWith pos f first (backTo pos (starEach (e :: es) X.env)) (backToKw pos (keywordEach [] X.env))) := by rfl) :
    PE X (.Call (.Attribute o m apos) (e :: es) [] pos) (tMethUS C m sp E ta t) := by
  obtain ⟨f, fd, hm, F, hb⟩ := M.ex
  refine ⟨fun pins s σ H Q I h => ?_⟩
  unfold tMethUS tMethU rRcvU at h
  refine PySem.W.methodCall_KW (pl := pl) (thn (he.run pins s σ H _ I h) fun u s1 ⟨x, H1, I1, rx, a, dx, fs, ex, ea, l, q⟩ => ?_) ht
  subst ex
  obtain rfl : u = Value.ref a := rx
  refine getmeth_ok I1 ea c hm l ?_
  refine PySem.W.callWith_K (first := [.ref a]) (h₀ := X.base) I.ok.mod.kin hm.kp (thn (ha.run pos pins s1 σ H1 _ I1 q) fun us s2 ⟨vs, H2, I2, r, q2⟩ => ⟨I2.kIn, ?_⟩) hst hpl
  exact run_fnS (us := .ref a :: us) (vs := .ref a :: vs) F hr hb (hx σ) I2 (.cons rfl r) q2
theorem pe_callCS (C : Cal X.prog X.w X.K X.mg X.base CX k x ps sp) (hr : Room k X.A) (hg : Gl X x) (hx : ∀ σ, PassesAt CX X σ (E σ))
    (ha : PA X (e :: es) t) (hdb : (x == ("__debug__" : Str)) = false := by decide) (he : starEach (e :: es) X.env = (false, eval e X.env) :: starEach es X.env := by rfl) (hpl : (backTo pos (starEach es X.env)).any (·.1) = false := by rfl) :
    PE X (.Call (.Name x p) (e :: es) [] pos) (tCallS sp E t) := by
  obtain ⟨f, fd, hm, F, hk, hb⟩ := C.bound
  exact pe_callS F hr hg hm hk hb hx ha hdb he hpl
end
/-- try: .. except c as n: .. -/
def tTryAs (K : PySem.W.Frag) (c : Value) (i : Nat) (tb : WX → TS) (ts : Addr → Value → Option Addr → TS) : TS := fun D σ H => tb (wAs K c i ts (fun _ _ _ _ => False) D) D σ H
theorem takes_none {X : Cx} : Takes X (fun _ _ _ _ => False) := fun _ _ h => by
  obtain ⟨_, _, _, _, _, _, _, _, _, _, _, _, _, _, _, _, z⟩ := h
  exact z.elim
/-- isinstance(e, c), e the caught exception with its dict -/
def rIsXd (K : PySem.W.Frag) (a : Addr) (cls : Value) (d : Option Addr) : List V → Hp → VK → Prop := fun xs H Q => ∃ (C : Addr) (c : V) (cv : Value) (b : Bool) (dd : Addr) (fs : List (Str × V)),
  xs = [.ref a, c] ∧ cls = .ref C ∧ d = some dd ∧ H dd = some (.xd fs) ∧ XCls K C ∧ (∀ u, RelV c u → u = cv) ∧ PySem.W.kitOne K (.ref C) cv = some b ∧ Q (.bl b) H
theorem call_isXd {X : Cx} {a : Addr} {oe : Obj} {cls : Value} {d : Option Addr} {pn : List (Addr × Obj)} (hz : Zc cls d oe) (hf : ∃ vs, oe.data = .fields vs) : CallR (X.suite a ((a, oe) :: pn)) (.builtin "isinstance") (rIsXd X.K a cls d) := by
  intro pins s σ H xs us Q I r h
  obtain ⟨C, c, cv, b, dd, fs, rfl, rfl, rfl, ea, T, hcv, e, q⟩ := h
  cases r with
  | cons rx rr =>
    cases rr with
    | cons rt rr =>
      cases rr
      cases rx
      have ec := hcv _ rt
      subst ec
      obtain ⟨hget, _⟩ := I.pin (a, oe) (List.mem_append.mpr (.inl List.mem_cons_self))
      obtain ⟨vs, hv⟩ := hf
      have hx : ObjOk X.prog X.w H s.heap dd (.xd fs) := I.hok dd _ ea
      obtain ⟨mA, hns, hr⟩ := hx
      obtain ⟨od, ho, hl⟩ := lookIn_ns hns
      have J : PySem.W.InstAt s.heap a oe C (some od) := ⟨hget, hz.1, by unfold PySem.W.notCls; rw [hv] <;> rfl, by rw [hz.2]; exact ho⟩
      exact PySem.W.kia_one (PySem.W.kitx_exc T.cl T.xf.ga T.xf.gg T.xf.exC T.ha T.hn T.ht T.hm) I.kIn J e (fun z => nomatch z) fun tk => ⟨.bl b, H, I.kept (t' := tk) fun _ _ z => z, rfl, q⟩
theorem pe_gref {X : Cx} {x : Str} {a : Addr} {pos : Pos} (hg : Gl X x) (hm : X.mg x = some (.ref a)) (hd : (x == ("__debug__" : Str)) = false := by decide) : PE X (.Name x pos) (tC (.ref a)) := pe_glob hg hm rfl hd
end Kb

/-! ### dicts: made of dicts, lists and tuples of pairs; emptied -/
namespace Kb
open PySem PySem.Spec PyProof.Rows L2
section
variable {X : Cx}
/-- a tuple whose object is told whole -/
def ptup (a : Addr) (xs : List V) : HO := .ext fun h => xs.length ≤ sizeLine ∧ ∃ (its : List Value) (n : Nat) (sl : Array (Option Value)), Vals xs its ∧ h.get? a = some ⟨.type "tuple", none, .seq its.toArray n, sl⟩
def PTup (K : PySem.W.Frag) (H : Hp) (a : Addr) (xs : List V) : Prop := H a = some (ptup a xs) ∨ ∃ (its : List Value) (n : Nat) (sl : Array (Option Value)), K.lookup a = some ⟨.type "tuple", none, .seq its.toArray n, sl⟩ ∧ xs.length ≤ sizeLine ∧ Vals xs its
theorem PTup.at_ {pins : List (Addr × Obj)} {σ : L2.St} {H : Hp} {s : Shared} {a : Addr} {xs : List V} (I : Inv X pins σ H s) (h : PTup X.K H a xs) : ∃ (its : List Value) (n : Nat) (sl : Array (Option Value)), Vals xs its ∧ xs.length ≤ sizeLine ∧ s.heap.get? a = some ⟨.type "tuple", none, .seq its.toArray n, sl⟩ := by
  rcases h with h | ⟨its, n, sl, l, z, r⟩
  · obtain ⟨⟨z, its, n, sl, r, e⟩, _, _⟩ := I.hok a _ h
    exact ⟨its, n, sl, r, z, e⟩
  · exact ⟨its, n, sl, r, z, I.kIn a _ l⟩
/-- pairs at hand: their keys and things -/
theorem prs_of {pins : List (Addr × Obj)} {σ : L2.St} {H : Hp} {s : Shared} (I : Inv X pins σ H s) : ∀ {ps : List Addr} {kvs : List (L2.Key × V)}, Paired (fun p kv => SqT X.K H p [kV kv.1, kv.2]) ps kvs →
    ∃ (prs : List (L2.Key × Value)) (pvs : List (Value × Value)), KV kvs prs ∧ prs.length = ps.length ∧ pvs.length = ps.length ∧ ∀ (j : Nat) (k v : Value), pvs[j]? = some (k, v) → ∃ (b : Addr) (c : L2.Key), ps[j]? = some b ∧ s.heap.IsTuple b #[k, v] ∧ prs[j]? = some (c, v) ∧ (mixKind X.prog X.w).is c k = true
  | _, _, .nil => ⟨[], [], .nil, rfl, rfl, fun j k v e => nomatch e⟩
  | _, _, .cons (a := p) (b := kv) h t => by
    obtain ⟨prs, pvs, r, l1, l2, g⟩ := prs_of I t
    obtain ⟨its, rv, ht, _⟩ := I.tuple h
    obtain ⟨u, y, rfl, ru, ry⟩ := vals2 rv
    refine ⟨(kv.1, y) :: prs, (u, y) :: pvs, .cons ⟨rfl, ry⟩ r, by rw [List.length_cons, List.length_cons, l1], by rw [List.length_cons, List.length_cons, l2], fun j k v e => ?_⟩
    rcases j with _ | j
    · cases e
      exact ⟨p, kv.1, rfl, ht, rfl, kV_is ru⟩
    · obtain ⟨b, c, e1, e2, e3, e4⟩ := g j k v e
      exact ⟨b, c, e1, e2, e3, e4⟩
/-- dict(x): of a dict, of a list or a tuple of pairs -/
@[irreducible] def rDictU (K : PySem.W.Frag) : List V → Hp → VK → Prop := fun xs H Q => ∃ a, xs = [.ref a] ∧ (
  (∃ kvs, Rd H a (.dK kvs) ∧ ∀ p, H p = none → Q (.ref p) (upd H p (.dK kvs))) ∨
  (∃ (ps : List Addr) (kvs : List (L2.Key × V)), SqL K H a (ps.map V.ref) ∧ Paired (fun p kv => SqT K H p [kV kv.1, kv.2]) ps kvs ∧ ∀ p, H p = none → Q (.ref p) (upd H p (.dK (mergeK [] kvs)))) ∨
  ∃ (ps : List Addr) (kvs : List (L2.Key × V)), PTup K H a (ps.map V.ref) ∧ Paired (fun p kv => SqT K H p [kV kv.1, kv.2]) ps kvs ∧ ∀ p, H p = none → Q (.ref p) (upd H p (.dK (mergeK [] kvs))))
theorem u_dict (hc : X.calm = true) : CallR X (.type "dict") (rDictU X.K) := by
  intro pins s σ H xs us Q I r h
  unfold rDictU at h
  obtain ⟨a, rfl, h⟩ := h
  rcases h with ⟨kvs, hr, q⟩ | ⟨ps, kvs, hl, hp, q⟩ | ⟨ps, kvs, ht, hp, q⟩
  · obtain ⟨u, rfl, rx⟩ := vals1 r
    cases rx
    exact d_copyOf I hr fun p s' n I' => ⟨.ref p, _, I', rfl, q p n⟩
  · exact call_dictP hc pins s σ H _ us Q I r ⟨a, ps, kvs, rfl, hl, hp, q⟩
  · obtain ⟨u, rfl, rx⟩ := vals1 r
    cases rx
    obtain ⟨its, n, sl, rv, z, e⟩ := PTup.at_ I ht
    have ei := refs_at rv
    subst ei
    obtain ⟨prs, pvs, rel, l1, l2, g⟩ := prs_of I hp
    rw [List.length_map] at z
    refine PySem.call_dict_pairs (knd := mixKind X.prog X.w) (kvs := prs) (PySem.PairArg.tuple a (ps.map Value.ref).toArray (fun j => (ps[j]?).getD 0) pvs) (I.ok.hd hc) ⟨⟨_, n, e, rfl, rfl, rfl⟩, by simp [l2], fun j k v ej => ?_⟩ ⟨by rw [l1, l2], fun j k v ej => ?_⟩ (by rw [l2]; exact z) fun h' tk hd' k => ?_
    · obtain ⟨b, c, e1, e2, e3, e4⟩ := g j k v ej
      exact ⟨by simp [e1], .inl (by show s.heap.IsTuple ((ps[j]?).getD 0) _; rw [e1]; exact e2)⟩
    · obtain ⟨b, c, e1, e2, e3, e4⟩ := g j k v ej
      exact ⟨c, e3, e4⟩
    · have hm : (s.heap.objs.size == sysModules) = false := beq_eq_false_iff_ne.mpr (Nat.ne_of_gt I.big)
      have hz : (mergeK [] kvs).length ≤ sizeLine := by
        refine Nat.le_trans (length_mergeK kvs []) ?_
        rw [List.length_nil, Nat.zero_add, rel.length, l1]
        exact z
      exact ⟨.ref s.heap.objs.size, upd H s.heap.objs.size (.dK (mergeK [] kvs)), I.laid (t' := tk) (fun b o e => k b o List.not_mem_nil e) (Nat.le_refl _) (show ObjOk X.prog X.w _ _ _ (.dK (mergeK [] kvs)) from ⟨hz, hm, merged [] prs, KV.merge rel .nil, hd'⟩), rfl, q _ (I.hok.fresh (Nat.le_refl _))⟩
/-- d.clear() -/
def rDClr : V → List V → Hp → VK → Prop := fun x xs H Q => ∃ a kvs, x = .ref a ∧ xs = [] ∧ H a = some (.dK kvs) ∧ Q .non (upd H a (.dK []))
theorem mt_dclear : MtR X "dict.clear" rDClr := by
  intro pins s σ H x xs v us Q I rx rxs h
  obtain ⟨a, kvs, rfl, rfl, ha, q⟩ := h
  cases rx
  cases rxs
  obtain ⟨z, hd, vs, rel, dd⟩ := dk_of I.hok ha
  refine call_meetsIn PySem.F.slot_dict_clear dd.typeIs PySem.F.entry_dict_clear (PySem.F.args_dict_clear_1 _) (meets_dict_clear (knd := mixKind X.prog X.w) a) ⟨vs, dd, by rw [← rel.length]; exact z, fun h' dd' hs => ?_⟩
  have he : ∃ o, h'.get? a = some o := let ⟨o, _, _, ho, _⟩ := dd'; ⟨o, ho⟩
  exact ⟨.non, _, d_write (t' := s.toks) I (by rw [ha]; exact True.intro) hs he (dk_new (Nat.zero_le _) hd .nil dd'), rfl, q⟩
end
end Kb
/-! ### tuple(d.items()) -/
namespace Kb
open PySem PySem.Spec PyProof.Rows L2
section
variable {prog : Program} {w : World} {KT : Type} [DecidableEq KT] {knd : KeyKind prog w KT} {A : Around} {E : Value → Shared → Prop} {s : Shared} {r d : Addr} {kvs : List (KT × Value)} {ep : Nat}
/-- what a dict's items are when they have been gone through -/
def Got (knd : KeyKind prog w KT) (kvs : List (KT × Value)) (s : Shared) (h' : Heap) (acc : Array Value) (as : List Addr) : Prop :=
  (∀ b o, s.heap.get? b = some o → h'.get? b = some o) ∧ (∃ c, h'.get? s.heap.objs.size = some { cls := .type "list", dict := none, data := .seq acc c, slots := #[] }) ∧ as.length = kvs.length ∧ PySem.W.KdxG knd kvs s.heap.objs.size h' as ∧ acc.toList = as.map Value.ref
theorem collect_items {Q : List Value → Shared → Prop} (hh : A.handled = none) (hv : s.heap.IsItemsView r d) (hm : s.heap.DictAt knd d kvs ep) (hn : kvs.length ≤ sizeLine)
    (q : ∀ (h' : Heap) (tk : Nat) (acc : Array Value) (as : List Addr), Got knd kvs s h' acc as → Q acc.toList { s with heap := h', toks := tk }) : wpAny (model prog w) A (collect (.ref r)) Q E s := by
  have hr : r < s.heap.objs.size := let ⟨_, ho, _⟩ := hv; Heap.lt_size ho
  have hd : d < s.heap.objs.size := hm.lt_size
  unfold collect
  refine wpAny_bind (wpAny_runValue (codeAny_builtin PySem.F.entry_proto_collect ?_))
  rw [Around.under_plainId PySem.F.plain_proto_collect _]
  show wpAny _ A.in1 (newList [] >>= fun l => again (.builtin "list.__iadd__" ⟨[l, .ref r], []⟩)) _ _ _
  refine wpAny_bind (wpAny_newObj_type ?_)
  refine wpAny_pure ⟨plainId_quiet PySem.F.plain_list_iadd _, codeAny_builtin PySem.F.entry_list_iadd ?_⟩
  rw [Around.under_plainId PySem.F.plain_list_iadd _]
  show wpAny _ A.in1 (Builtin.List.listExtendWith (.ref s.heap.objs.size) (.ref r) (.ref s.heap.objs.size)) _ _ _
  have hS : (s.heap.push { cls := .type "list", data := .seq ([] : List Value).toArray }).get? s.heap.objs.size = some { cls := .type "list", data := .seq #[] 0 } := Heap.get?_push_size _ rfl
  refine wpAny_mono (PySem.W.kdx_extend (knd := knd) (kvs := kvs) (ep := ep) (A := A) (R := fun rr s' => rr = .ok (.ret (.ref s.heap.objs.size)) ∧ ∃ (h' : Heap) (tk : Nat) (acc : Array Value) (as : List Addr), s' = { s with heap := h', toks := tk } ∧ Got knd kvs s h' acc as)
    (s := { s with heap := s.heap.push { cls := .type "list", data := .seq ([] : List Value).toArray } }) hh (let ⟨o, ho, x⟩ := hv; ⟨o, Heap.get?_push_of_some _ ho, x⟩) (hm.push _) _ (Nat.ne_of_gt hr) (Nat.ne_of_lt hd) _ 0 hS
    (fun h' tk acc c as hk hS' hl hG hacc => ⟨rfl, h', tk, acc, as, rfl, fun b o e => hk b o (Nat.ne_of_lt (Heap.lt_size e)) (Heap.get?_push_of_some _ e), ⟨c, hS'⟩, hl, hG.low (Nat.le_of_lt (Heap.lt_size hS)), hacc⟩) hn) (fun fin s' z => ?_) fun e s' z => ?_
  · cases fin with
    | done f =>
      obtain ⟨e, h', tk, acc, as, rfl, g⟩ := z
      cases e
      show wpAny _ A (load s.heap.objs.size >>= _) _ _ _
      obtain ⟨c, hS'⟩ := g.2.1
      exact wpAny_bind (wpAny_load hS' (wpAny_pure (q h' tk acc as g)))
    | again c' =>
      refine ⟨z.1, codeAny_mono z.2 fun rr s2 z2 => ?_⟩
      obtain ⟨rfl, h', tk, acc, as, rfl, g⟩ := z2
      show wpAny _ A (load s.heap.objs.size >>= _) _ _ _
      obtain ⟨c, hS'⟩ := g.2.1
      exact wpAny_bind (wpAny_load hS' (wpAny_pure (q h' tk acc as g)))
  · exact absurd z.1 (by simp)
theorem call_tuple_items {Q : Value → Shared → Prop} (hh : A.handled = none) (hv : s.heap.IsItemsView r d) (hm : s.heap.DictAt knd d kvs ep) (hn : kvs.length ≤ sizeLine)
    (q : ∀ (h' : Heap) (tk : Nat) (acc : Array Value) (as : List Addr), Got knd kvs s h' acc as → Q (.ref h'.objs.size) { s with heap := h'.push { cls := .type "tuple", data := .seq acc }, toks := tk }) : wpAny (model prog w) A (call (.type "tuple") [.ref r]) Q E s := by
  have code : codeAny (model prog w) A.in1 (.call (.builtin "tuple.__new__") ⟨[.type "tuple", .ref r], []⟩) (wants (fun obj s₁ => s₁.TypeIs obj "tuple" ∧ Q obj s₁) E) s := by
    refine codeAny_of_tree ?_
    show wpAny _ A.in1.in1 (do checkBuiltinCall "tuple.__new__" ⟨[.type "tuple", .ref r], []⟩; again (.builtin "tuple.__new__" ⟨[.type "tuple", .ref r], []⟩)) _ _ s
    refine wpAny_bind (wpAny_of_eq (PySem.F.newCall_tuple_1 _) (wpAny_pure ⟨plainId_quiet PySem.F.plain_tuple_new _, codeAny_builtin PySem.F.entry_tuple_new ?_⟩))
    rw [Around.under_plainId PySem.F.plain_tuple_new _]
    have hsub := sub_tuple_self
    have hinit := init_tuple_lookup
    have hmh := madeHere_tuple
    have hTI : s.TypeIs (.ref r) "dict_items" := hv.typeIs
    wp_walk using wpAny_typeOf hTI, collect_items (knd := knd) (kvs := kvs) (ep := ep) (A := A.in1.in1) hh hv hm hn
    intro h' tk acc as g
    show wpAny _ _ (Builtin.Tuple.tupleExact acc.toList.toArray >>= fun v => ret v) _ _ _
    unfold Builtin.Tuple.tupleExact
    have ea : acc.toList.toArray = acc := by simp
    have el : acc.size = kvs.length := by
      have := congrArg List.length g.2.2.2.2
      rw [List.length_map, g.2.2.1] at this
      simpa using this
    refine wpAny_bind (wpAny_newObj_type ?_ (by show acc.toList.toArray.size ≤ sizeLine; rw [ea, el]; exact hn))
    refine wpAny_pure ?_
    rw [ea]
    exact ⟨⟨_, Heap.get?_push_size _ rfl, rfl⟩, q h' tk acc as g⟩
  refine callType_codes (Q₁ := fun obj s₁ => s₁.TypeIs obj "tuple" ∧ Q obj s₁) PySem.F.called_tuple (PySem.F.typeCall_tuple_1 _) PySem.F.entry_object_init code fun obj s₁ h₁ => ?_
  exact ⟨h₁.1, PySem.F.args_object_init_2 obj _, object_init_meets PySem.F.called_tuple.init.lookup PySem.F.called_tuple.made (by decide) prog w A.in1 _ s₁ ⟨h₁.1, rfl, h₁.2⟩⟩
end
end Kb
namespace Kb
open PySem PySem.Spec PyProof.Rows L2
theorem paired_imp {α β : Type} {F G : α → β → Prop} (h : ∀ a b, F a b → G a b) : ∀ {xs : List α} {ys : List β}, Paired F xs ys → Paired G xs ys
  | _, _, .nil => .nil
  | _, _, .cons r t => .cons (h _ _ r) (paired_imp h t)
/-- the items of the dict d, laid as pairs -/
def rItemsT (x : V) (H : Hp) (Q : VK) : Prop := ∃ (d : Addr) (kvs : List (L2.Key × V)), x = .ref d ∧ H d = some (.dK kvs) ∧
  ∀ (H' : Hp) (p : Addr) (ts : List Addr), (∀ b o, H b = some o → H' b = some o) → H p = none → H' p = some (ptup p (ts.map V.ref)) → Paired (fun (t : Addr) (q : L2.Key × V) => H' t = some (.tup [kV q.1, q.2])) ts kvs → Q (.ref p) H'
def tTupItems (te : TE) : TE := fun σ H Q => te σ H fun x H1 => rItemsT x H1 Q
theorem pe_tupItems {X : Cx} {e : Expr} {te : TE} {p apos cpos pos : Pos} (hc : X.calm = true) (he : PE X e te) (hg : Gl X "tuple") (hm : X.mg "tuple" = none) (hbase : attributeBase e "items" X.env (eval e X.env) = eval e X.env := by rfl) (hline : (apos.endLine == cpos.line) = true := by rfl)
    (hs : starEach [.Call (.Attribute e "items" apos) [] [] cpos] X.env = (false, eval (.Call (.Attribute e "items" apos) [] [] cpos) X.env) :: starEach [] X.env := by rfl) :
    PE X (.Call (.Name "tuple" p) [.Call (.Attribute e "items" apos) [] [] cpos] [] pos) (tTupItems te) := by
  refine ⟨fun pins s σ H Q I hq => ?_⟩
  refine wpAny_Call_Name_kw (ld_blt I hg hm boot_tuple (PyProof.Rows.callWith_type1 ?_ hs rfl))
  rw [hs]
  refine Calls.spliced_cons (wpAny_Call_method (T := "dict") (id := "dict.items") hbase rfl hline PySem.F.plainAttrs_dict PySem.F.slot_dict_items PySem.F.type_dict_items (thn (he.run pins s σ H _ I hq) fun u s1 ⟨x, H1, I1, rx, d, kvs, ex, hd, q⟩ => ?_))
  subst ex
  obtain rfl : u = Value.ref d := rx
  obtain ⟨hz, h0, vs, kv, dd⟩ := I1.hok d _ hd
  obtain ⟨ep, da⟩ := dd.dictAt
  have lk : kvs.length = vs.length := Paired.length kv
  have I2 : Inv X pins σ H1 { s1 with heap := s1.heap.push { cls := .type "dict_items", data := .fields #[.ref d] } } := I1.kept (t' := s1.toks) fun b o q => Heap.get?_push_of_some _ q
  refine ⟨dd.typeIs, dd.mapOf.noDict, ?_⟩
  show wpAny _ _ (callWith cpos (.builtin "dict.items") [.ref d] [] []) _ _ s1
  refine method_meetsIn PySem.F.slot_dict_items PySem.F.entry_dict_items rfl (PySem.evalArgs_none ⟨rfl, dd.typeIs, PySem.F.args_dict_items_1 _, _, meets_dict_items (mixKind X.prog X.w) d h0, ⟨vs, dd⟩, ?_⟩)
  refine Calls.spliced_nil (call_tuple_items (knd := mixKind X.prog X.w) (kvs := vs) (ep := ep) (I1.ok.hd hc) ⟨_, Heap.get?_push_size _ rfl, rfl, rfl⟩ (da.push _) (by omega) fun h' tk acc as g => ?_)
  obtain ⟨hk, ⟨c, hS⟩, hl, hG, hacc⟩ := g
  obtain ⟨H', k1, k2, k3, k4, k5, k6, J⟩ := LiI.items_laid (tk := tk) I2 hz kv hk hS hl hG hacc
  have nT : H' h'.objs.size = none := J.hok.fresh (Nat.le_refl _)
  have up : ∀ b o, H' b = some o → upd H' h'.objs.size (ptup h'.objs.size (as.map V.ref)) b = some o := fun b o e => (upd_ne (ne_of_none e nT)).trans e
  have eT : (h'.push { cls := .type "tuple", data := .seq acc }).get? h'.objs.size = some ({ cls := .type "tuple", data := .seq acc } : Obj) := Heap.get?_push_size _ rfl
  refine ⟨.ref h'.objs.size, _, J.laid (t' := tk) (a := h'.objs.size) (o := ptup h'.objs.size (as.map V.ref)) (fun b o e => Heap.get?_push_of_some _ e) (Nat.le_refl _) ⟨⟨by rw [List.length_map]; omega, acc.toList, 0, #[], by rw [hacc]; exact LiI.vals_refs as, by rw [Array.toArray_toList]; exact eT⟩, ⟨_, eT⟩, fun h1 h2 ⟨z, its, n, sl, r, e⟩ st => ⟨z, its, n, sl, r, st _ e⟩⟩, rfl,
    q _ _ as (fun b o e => up b o (k1 b o e)) ?_ upd_same (paired_imp (fun t p z => up t _ z) k6)⟩
  cases z : H1 h'.objs.size with
  | none => rfl
  | some o =>
    rw [k1 _ _ z] at nT
    cases nT
end Kb

/-! ### own classes: __init__ with defaults, made by place and by name; a method called by names -/
namespace Kb
open PySem PySem.Spec PyProof.Rows L2
/-- the __init__ of the class at C, its defaults dvs -/
def DefD (K : PySem.W.Frag) (C : Addr) (st : Stmt) (qual : Str) (dvs : List V) : Prop := ∃ f fd, Meth K C "__init__" f ∧ FunD K "__init__" qual (defArgs st) (defBody st) (defScope st) dvs [] f fd
structure CalD (P : Program) (w : World) (K : PySem.W.Frag) (mg : Str → Option Value) (base : Heap) (CX : CXT) (k : Nat) (C : Addr) (st : Stmt) (qual : Str) (dvs : List V) (ps : List Str) (sp : Sp) : Prop where
  ex : ∃ f fd, Meth K C "__init__" f ∧ FnOk P w K mg base CX k f fd ps sp ∧ FunD K "__init__" qual (defArgs st) (defBody st) (defScope st) dvs [] f fd
theorem CalD.of {P : Program} {w : World} {K : PySem.W.Frag} {mg : Str → Option Value} {base : Heap} {C : Addr} {qual : Str} {st : Stmt} {dvs : List V} {N ps : List Str} {k : Nat} {sp : Sp} (D : DefD K C st qual dvs) (S : FnScope N ps (defScope st)) (len : ∀ vs H Q E, sp vs H Q E → vs.length = ps.length)
    (hbody : ∀ (f : Addr) (cdv : Value) (A : Around) (outer : List Env) (s : Shared) (H : Hp) (vs : List V) (Q : VK) (E : XK), Room k (A.deeper (envOfC qual (defScope st) s.heap.objs.size f cdv)) → sp vs H Q E →
      ∃ t, PSs (cxOf CX0 P w K mg base N qual (defScope st) f cdv A outer s H E) (defBody st) t ∧ t { nx := fun _ H' => Q .non H', rt := Q } (start N vs) H) : CalD P w K mg base CX0 (k + 1) C st qual dvs ps sp := by
  obtain ⟨f, fd, hm, F⟩ := D
  exact ⟨f, fd, hm, F.ok S len (hbody f), F⟩
/-- how a call with n things by place and some by name (ks) puts them: g -/
def Puts (st : Stmt) (qual : Str) (ps : List Str) (dn n : Nat) (ks : List Str) (g : {α : Type} → List α → List α → List α → List α) : Prop :=
  ∀ (T : Addr) (kV doc pm : Value) (an : Option Addr) (cdv ct : Value) (us its ws : List Value), us.length = n → its.length = dn → ws.length = ks.length →
    ∃ k, bindArgs (PySem.W.fnOf "__init__" qual (defArgs st) (defBody st) (defScope st) (.ref T) kV doc pm an cdv ct) ⟨us, ks.zip ws⟩ = seqItems? (.ref T) >>= k ∧ k (some its.toArray) = pure (ps.zip (g us its ws))
def Keeps3 (g : {α : Type} → List α → List α → List α → List α) : Prop := ∀ {vs ds zs : List V} {us its ws : List Value}, Vals vs us → Vals ds its → Vals zs ws → Vals (g vs ds zs) (g us its ws)
section
variable {X : Cx} {CX : CXT} {k n : Nat} {C : Addr} {st : Stmt} {qual : Str} {dvs : List V} {ps ks : List Str} {sp : Sp} {E : XK} {x : Str} {p pos : Pos} {e : Expr} {es : List Expr} {kws : List Keyword} {t tk : TA}
theorem pe_makeD (g : {α : Type} → List α → List α → List α → List α) (hmk : PySem.W.makesIn X.K C = true) (hkc : PySem.W.keepIn X.K (.ref C) = true) (M : CalD X.prog X.w X.K X.mg X.base CX k C st qual dvs ps sp) (hd : dvs ≠ []) (hrel : Keeps3 g) (hp : Puts st qual ps dvs.length (n + 1) ks g)
    (hr : Room (k + 1) X.A) (hg : Gl X x) (hm : X.mg x = some (.ref C)) (hx : Passes CX X E) (ha : PA X (e :: es) t) (hkw : PK X kws tk) (hall : (backToKw pos (keywordEach kws X.env)).all (·.1.isSome) = true := by rfl) (hks : (backToKw pos (keywordEach kws X.env)).filterMap (·.1) = ks := by rfl)
    (hdb : (x == ("__debug__" : Str)) = false := by decide) (he : starEach (e :: es) X.env = (false, eval e X.env) :: starEach es X.env := by rfl) (hpl : ((backTo pos (starEach (e :: es) X.env)).any (·.1) || (backToKw pos (keywordEach kws X.env)).any (·.1.isNone)) = false := by rfl) :
    PE X (.Call (.Name x p) (e :: es) kws pos) (tMakeN C n ks.length sp (fun vs zs => g vs dvs zs) E t tk) := by
  obtain ⟨f, fd, me, F, D⟩ := M.ex
  obtain ⟨its, hb⟩ := D.kbindsD (ps := ps) (n + 1) ks g hd hrel hp
  exact pe_makeN ⟨hmk, me.at_, me.fn, hkc⟩ F hr hg hm hb hx ha hkw hall hks hdb he hpl
theorem pe_makeD0 (g : {α : Type} → List α → List α → List α → List α) (hmk : PySem.W.makesIn X.K C = true) (hkc : PySem.W.keepIn X.K (.ref C) = true) (M : CalD X.prog X.w X.K X.mg X.base CX k C st qual dvs ps sp) (hd : dvs ≠ []) (hrel : Keeps3 g) (hp : Puts st qual ps dvs.length 1 ks g)
    (hr : Room (k + 1) X.A) (hg : Gl X x) (hm : X.mg x = some (.ref C)) (hx : Passes CX X E) (hkw : PK X kws tk) (hall : (backToKw pos (keywordEach kws X.env)).all (·.1.isSome) = true := by rfl) (hks : (backToKw pos (keywordEach kws X.env)).filterMap (·.1) = ks := by rfl)
    (hdb : (x == ("__debug__" : Str)) = false := by decide) (hpl : ((backTo pos (starEach [] X.env)).any (·.1) || (backToKw pos (keywordEach kws X.env)).any (·.1.isNone)) = false := by rfl) :
    PE X (.Call (.Name x p) [] kws pos) (tMakeN C 0 ks.length sp (fun vs zs => g vs dvs zs) E tNil tk) := by
  obtain ⟨f, fd, me, F, D⟩ := M.ex
  obtain ⟨its, hb⟩ := D.kbindsD (ps := ps) 1 ks g hd hrel hp
  exact pe_makeK0 ⟨hmk, me.at_, me.fn, hkc⟩ F hr hg hm hb hx hkw hall hks hdb hpl
end
/-- o.m(a = .., b = ..), all by name -/
def tMethK (C : Addr) (m : Str) (n : Nat) (sp : Sp) (gV : List V → List V → List V) (E : XK) (ta : TE) (tk : TA) : TE := fun σ H Q => ta σ H fun x H1 => rRcvU C m x H1 (tk σ H1 fun zs H2 => zs.length = n ∧ sp (gV [x] zs) H2 Q E)
/-- a method, told with its text -/
structure CalF (P : Program) (w : World) (K : PySem.W.Frag) (mg : Str → Option Value) (base : Heap) (CX : CXT) (k : Nat) (C : Addr) (st : Stmt) (m qual : Str) (ps : List Str) (sp : Sp) : Prop where
  ex : ∃ f fd, Meth K C m f ∧ FnOk P w K mg base CX k f fd ps sp ∧ Fun K m qual st f fd
section
variable {P : Program} {w : World} {K : PySem.W.Frag} {mg : Str → Option Value} {base : Heap} {C : Addr} {m qual : Str} {st : Stmt} {N ps : List Str} {k : Nat} {sp : Sp}
theorem CalF.of (D : DefM K C st m qual) (S : FnScope N ps (defScope st)) (len : ∀ vs H Q E, sp vs H Q E → vs.length = ps.length)
    (hbody : ∀ (f : Addr) (cdv : Value) (A : Around) (outer : List Env) (s : Shared) (H : Hp) (vs : List V) (Q : VK) (E : XK), Room k (A.deeper (envOfC qual (defScope st) s.heap.objs.size f cdv)) → sp vs H Q E →
      ∃ t, PSs (cxOf CX0 P w K mg base N qual (defScope st) f cdv A outer s H E).nox (defBody st) t ∧ t { nx := fun _ H' => Q .non H', rt := Q } (start N vs) H) : CalF P w K mg base CX0 (k + 1) C st m qual ps sp := by
  obtain ⟨f, fd, hm, F⟩ := D
  exact ⟨f, fd, hm, F.ok S len (hbody f), F⟩
theorem CalF.calM {CX : CXT} (M : CalF P w K mg base CX k C st m qual ps sp) (hb : ∀ (kV doc pm : Value) (an : Option Addr) (cdv ct : Value) (us : List Value), us.length = ps.length → bindArgs (PySem.W.fnOf m qual (defArgs st) (defBody st) (defScope st) .none kV doc pm an cdv ct) ⟨us, []⟩ = pure (ps.zip us)) : CalM P w K mg base CX k C m ps sp := by
  obtain ⟨f, fd, hm, F, D⟩ := M.ex
  exact ⟨f, fd, hm, F, D.binds hb⟩
end
theorem pe_methK {X : Cx} {CX : CXT} {k : Nat} {C : Addr} {st : Stmt} {ps ks : List Str} {sp : Sp} {E : XK} {m qual : Str} {pos apos : Pos} {o : Expr} {kws : List Keyword} {ta : TE} {tk : TA} {pl : Sem Bool} (g : {α : Type} → List α → List α → List α) (he : PE X o ta) (c : Cls X.K C) (M : CalF X.prog X.w X.K X.mg X.base CX k C st m qual ps sp)
    (hrel : ∀ {vs zs : List V} {us ws : List Value}, Vals vs us → Vals zs ws → Vals (g vs zs) (g us ws))
    (hp : ∀ (kV doc pm : Value) (an : Option Addr) (cdv ct : Value) (us ws : List Value), us.length = 1 → ws.length = ks.length → bindArgs (PySem.W.fnOf m qual (defArgs st) (defBody st) (defScope st) .none kV doc pm an cdv ct) ⟨us, ks.zip ws⟩ = pure (ps.zip (g us ws)))
    (hr : Room k X.A) (hx : Passes CX X E) (hkw : PK X kws tk) (hall : (backToKw pos (keywordEach kws X.env)).all (·.1.isSome) = true := by rfl) (hks : (backToKw pos (keywordEach kws X.env)).filterMap (·.1) = ks := by rfl)
    (hpl : ((backTo pos (starEach [] X.env)).any (·.1) || (backToKw pos (keywordEach kws X.env)).any (·.1.isNone)) = false := by rfl)
    (ht : eval (.Call (.Attribute o m apos) [] kws pos) X.env = (do
      let ov ← eval o X.env
      standAt apos.atName
      let (f, first) ← holding [ov] (getMethod ov m pl)
      callWith pos f first (backTo pos (starEach [] X.env)) (backToKw pos (keywordEach kws X.env))) := by rfl) :
    PE X (.Call (.Attribute o m apos) [] kws pos) (tMethK C m ks.length sp (fun vs zs => g vs zs) E ta tk) := by
  obtain ⟨f, fd, hm, F, F'⟩ := M.ex
  refine ⟨fun pins s σ H Q I h => ?_⟩
  unfold tMethK rRcvU at h
  refine PySem.W.methodCall_KW (pl := pl) (thn (he.run pins s σ H _ I h) fun u s1 ⟨x, H1, I1, rx, a, dx, fs, ex, ea, l, q⟩ => ?_) ht
  subst ex
  obtain rfl : u = Value.ref a := rx
  refine getmeth_ok I1 ea c hm l ?_
  refine PySem.W.callWith_KW0 (first := [.ref a]) (h₀ := X.base) I.ok.mod.kin hm.kp hall (thn (hkw.run pos pins s1 σ H1 _ I1 q) fun ws s2 ⟨zs, H2, I2, rz, l2, q2⟩ => ⟨I2.kIn, ?_⟩) hpl
  rw [hks]
  have hb : KBn X.K fd ps 1 ks (fun us ws => g us ws) (fun vs zs => g vs zs) := by
    obtain ⟨oc, od, kV, doc, pm, an, cdv, ct, osl, rfl, lk, hcd⟩ := F'.ex
    exact ⟨fun s us ws _ l1 l2 => .of_eq (hp kV doc pm an cdv ct us ws l1 l2), fun r1 r2 => hrel r1 r2⟩
  exact run_fnN (us := [.ref a]) (vs := [.ref a]) F hr hb hx I2 (.cons rfl .nil) rz rfl l2 q2
end Kb
/-! ### a thing of an own class is equal to itself -/
namespace Kb
open PySem PySem.Spec PyProof.Rows L2
section
variable {M : Model} {prog : Program} {w : World} {A : Around} {E : Value → Shared → Prop} {s : Shared} {K : PySem.W.Frag} {x C : Addr} {ox : Obj} {od : Option Obj}
theorem same_ref {R : Bool → Shared → Prop} (h : R true s) : wpAny M A (isSame (.ref x) (.ref x)) R E s := wpAny_of_eq (show isSame (.ref x) (.ref x) = pure true by simp [isSame]) h
theorem entry_same {Q : Fin → Shared → Prop} (q : Q (.done (.ret (.bool true))) s) : wpAny M A (Builtin.«object.__eq__» ⟨[.ref x, .ref x], []⟩) Q E s := by
  unfold Builtin.«object.__eq__»
  repeat (first | (with_reducible refine same_ref ?_) | wp_step)
  exact q
/-- == of the class at C is the one by identity -/
structure PlainEq (K : PySem.W.Frag) (C : Addr) : Prop where
  mro : PySem.W.mroIn K C (.type "object") = some true
  eq : PySem.W.findIn K (.ref C) "__eq__" = some (some (.builtin "object.__eq__"))
theorem rc_same (p : PlainEq K C) (hu : A.units < cLine) (X : K.In s.heap) (I : PySem.W.InstAt s.heap x ox C od) {Q : Value → Shared → Prop} (q : Q (.bool true) s) : wpAny (model prog w) A (richCompare .Eq (.ref x) (.ref x)) Q E s := by
  have one : wpAny (model prog w) A (tryCompare (.ref x) "__eq__" (.ref x)) (fun r s' => r = some (.bool true) ∧ s' = s) E s := by
    unfold tryCompare
    refine wpAny_bind (HN.ifBound_objEq X I p.eq (wpAny_call (codeAny_call_builtin F.cmp_object.eq.plain F.cmpEntry_eq (PySem.W.check_slot F.cmpKind_eq F.cmpSplit_eq (I.type.andThen (PySem.W.looks_mroIn X p.mro)) (F.cmpArgs_eq _ _) (entry_same ?_)))))
    exact wpAny_pure ⟨rfl, rfl⟩
  simp only [richCompare, cmpInfo_Eq, oneThing_ref]
  refine wpAny_holding (wpAny_bind (wpAny_cRoomFor hu (wpAny_bind (I.type.here (wpAny_bind (I.type.here ?_))))))
  simp only [bne_self_eq_false, Bool.false_eq_true, if_false, pure_bind]
  refine wpAny_bind (wpAny_mono one (fun r s1 z => ?_) fun _ _ e => e)
  obtain ⟨rfl, rfl⟩ := z
  exact wpAny_pure q
end
def rEqS (K : PySem.W.Frag) : R2 := fun x y H Q => rEqU K x y H Q ∨ ∃ a C dx fs, x = .ref a ∧ y = .ref a ∧ H a = some (.ins C dx fs) ∧ PlainEq K C ∧ Q (.bl true) H
theorem u_eqS {X : Cx} (hu : X.A.units + 64 < cLine) : OpR X (compareOp .Eq) (rEqS X.K) := by
  intro pins s σ H x y v u Q I rx ry h
  rcases h with h | ⟨a, C, dx, fs, rfl, rfl, ha, p, q⟩
  · exact u_eq hu pins s σ H x y v u Q I rx ry h
  · cases rx
    cases ry
    obtain ⟨mA, O, _⟩ := ins_get I.hok ha
    obtain ⟨od, J, _⟩ := O.look
    exact rc_same p (by omega) I.kIn J ⟨.bl true, H, I, rfl, q⟩
end Kb

/-! ### enumerate(d): the keys of a locked dict, counted from nought -/
namespace Kb
open PySem PySem.Spec PyProof.Rows L2
section
variable {prog : Program} {w : World} {A : Around} {E : Value → Shared → Prop} {s : Shared} {it d : Addr} {i n ep : Nat} {od : Obj} {es : Array DictEntry}
theorem nextOf_key {en : DictEntry} {Q : Value → Shared → Prop} (hit : s.heap.IsKeyIter it d i n ep) (hod : s.heap.get? d = some od) (hdd : od.data = .dict es ep) (hsz : es.size = n) (hx : es[i]? = some en)
    (q : ∀ h', h'.IsKeyIter it d (i + 1) n ep → Heap.SameBut it s.heap h' → Q en.key { s with heap := h' }) : wpAny (model prog w) A (Builtin.SmallTypes.nextOf (.ref it)) Q E s := by
  obtain ⟨oi, hi, ci, di⟩ := id hit
  have nx := F.slot_dict_keyiterator_next
  unfold Builtin.SmallTypes.nextOf
  refine wpAny_bind (wpAny_callSpecial?_slot (name := Str.ofString "__next__") hit.typeIs nx (wpAny_call_entry nx hit.typeIs F.entry_dict_keyiterator_next ?_ (F.args_dict_keyiterator_next_1 _)))
  obtain ⟨lt, rfl⟩ := Array.getElem?_eq_some_iff.mp hx
  have own : Builtin.Dict_items.ownsTuple "dict_keyiterator" = false := by decide
  refine wpAny_bind (wpAny_pure (wpAny_bind (wpAny_bind ?_)))
  first | refine wpAny_bind (wpAny_typeNameOfWhole_keyiter hit.typeIs (wpAny_pure (wpAny_bind (wpAny_fieldsOf hi di ?_)))) | refine wpAny_bind (wpAny_typeNameOf_keyiter hit.typeIs (wpAny_pure (wpAny_bind (wpAny_fieldsOf hi di ?_))))
  rw [own]
  simp only [Bool.false_eq_true, if_false]
  show wpAny _ _ (if (Value.ref d == Value.none) = true then _ else _) _ _ _
  have nn : ¬ ((Value.ref d == Value.none) = true) := Bool.false_ne_true
  rw [if_neg nn]
  refine wpAny_bind (wpAny_pure (wpAny_bind (wpAny_dictEntries hod hdd ?_)))
  rw [if_neg (by simp [hsz])]
  refine wpAny_bind (wpAny_pure (wpAny_bind (wpAny_dictEpoch hod hdd ?_)))
  rw [if_neg (by simp)]
  refine wpAny_pure ?_
  have h0 : ¬ ((i : Int) < 0) := by omega
  simp only [h0, if_false, Int.toNat_natCast, Array.getElem?_eq_getElem lt]
  refine wpAny_bind ?_
  first | refine wpAny_bind (wpAny_typeNameOfWhole_keyiter hit.typeIs (wpAny_pure (wpAny_bind (wpAny_isOneOf_keyiter hit.typeIs ?_)))) | refine wpAny_bind (wpAny_typeNameOf_keyiter hit.typeIs (wpAny_pure (wpAny_bind (wpAny_isOneOf_keyiter hit.typeIs ?_))))
  show wpAny _ _ (setField (.ref it) 1 (rawInt ((i : Int) + 1)) >>= _) _ _ _
  refine wpAny_bind (wpAny_setField hi di (by simp) ?_)
  have st : (s.heap.update it (Obj.mapFields (·.setIfInBounds 1 (rawInt ((i : Int) + 1))))).IsKeyIter it d (i + 1) n ep := ⟨_, Heap.get?_update_self _ hi (Obj.isFreed_of_fields (Obj.data_mapFields di _)), (Obj.cls_mapFields ..).trans ci, by rw [Obj.data_mapFields di]; simp [rawInt]⟩
  refine wpAny_bind (wpAny_holding (wpAny_bind (wpAny_isOneOf_keyiter (s := { s with heap := s.heap.update it (Obj.mapFields (·.setIfInBounds 1 (rawInt ((i : Int) + 1)))) }) st.typeIs ?_)))
  show wpAny _ _ (pure _) _ _ _
  exact wpAny_pure (wpAny_pure ⟨_, rfl, wpAny_pure (q _ st (Heap.SameBut.update ..))⟩)
theorem nextOf_key_end {Q : Value → Shared → Prop} (hh : A.handled = none) (hit : s.heap.IsKeyIter it d i n ep) (hod : s.heap.get? d = some od) (hdd : od.data = .dict es ep) (hsz : es.size = n) (hge : n ≤ i)
    (q : ∀ h' e, Heap.ExtBut it s.heap h' → (∃ o, h'.get? e = some o ∧ o.cls = .type "StopIteration") → E (.ref e) { s with heap := h' }) : wpAny (model prog w) A (Builtin.SmallTypes.nextOf (.ref it)) Q E s := by
  obtain ⟨oi, hi, ci, di⟩ := id hit
  have nx := F.slot_dict_keyiterator_next
  unfold Builtin.SmallTypes.nextOf
  refine wpAny_bind (wpAny_callSpecial?_slot (name := Str.ofString "__next__") hit.typeIs nx (wpAny_call_entry nx hit.typeIs F.entry_dict_keyiterator_next ?_ (F.args_dict_keyiterator_next_1 _)))
  have own : Builtin.Dict_items.ownsTuple "dict_keyiterator" = false := by decide
  refine wpAny_bind (wpAny_pure (wpAny_bind (wpAny_bind ?_)))
  first | refine wpAny_bind (wpAny_typeNameOfWhole_keyiter hit.typeIs (wpAny_pure (wpAny_bind (wpAny_fieldsOf hi di ?_)))) | refine wpAny_bind (wpAny_typeNameOf_keyiter hit.typeIs (wpAny_pure (wpAny_bind (wpAny_fieldsOf hi di ?_))))
  rw [own]
  simp only [Bool.false_eq_true, if_false]
  show wpAny _ _ (if (Value.ref d == Value.none) = true then _ else _) _ _ _
  have nn : ¬ ((Value.ref d == Value.none) = true) := Bool.false_ne_true
  rw [if_neg nn]
  refine wpAny_bind (wpAny_pure (wpAny_bind (wpAny_dictEntries hod hdd ?_)))
  rw [if_neg (by simp [hsz])]
  refine wpAny_bind (wpAny_pure (wpAny_bind (wpAny_dictEpoch hod hdd ?_)))
  rw [if_neg (by simp)]
  refine wpAny_pure ?_
  have h0 : ¬ ((i : Int) < 0) := by omega
  have gt : es.size ≤ i := by omega
  simp only [h0, if_false, Int.toNat_natCast, Array.getElem?_eq_none gt]
  refine wpAny_bind ?_
  first | refine wpAny_bind (wpAny_typeNameOfWhole_keyiter hit.typeIs (wpAny_pure ?_)) | refine wpAny_bind (wpAny_typeNameOf_keyiter hit.typeIs (wpAny_pure ?_))
  show wpAny _ _ (setField (.ref it) 0 .none >>= _) _ _ _
  refine wpAny_bind (wpAny_setField hi di (by simp) ?_)
  show wpAny _ _ (newExc (.type "StopIteration") [] >>= fun e => raiseNew e) _ _ _
  simp only [newExc, newTuple]
  refine wpAny_bind (wpAny_bind (wpAny_newObj_type (wpAny_bind (m := firstArgMember _ _) (wpAny_of_eq (a := Value.none) (by first | rfl | (simp only [firstArgMember]; rfl)) (wpAny_newObj_type ?_ (by size_fits)))) (by size_fits)))
  simp only [raiseNew]
  refine wpAny_bind (wpAny_handled ?_)
  rw [show A.in1.handled = none from hh]
  exact wpAny_bind (wpAny_pure (wpAny_throw (q _ _ (((Heap.SameBut.update ..).extBut.push _).push _) ⟨_, Heap.get?_push_size _ rfl, rfl⟩)))
end
/-- the dict whose object is od, walked by its keys -/
def KeysAr (d : Addr) (od : Obj) (es : Array DictEntry) (h : Heap) (its : Array Value) : Prop := h.get? d = some od ∧ its = es.map (·.key)
def KeysS (d : Addr) (od : Obj) (H : Hp) (xs : List V) : Prop := ∃ kvs, H d = some (.frz od (.dK kvs)) ∧ xs = kvs.map fun kv => kV kv.1
theorem keys_vals {P : Program} {w : World} : ∀ {es : List DictEntry} {kvs : List (L2.Key × V)} {vs : List (L2.Key × Value)}, Pairs (mixKind P w) es vs → KV kvs vs → Vals (kvs.map fun kv => kV kv.1) (es.map (·.key))
  | _, _, _, .nil, .nil => .nil
  | _, _, _, .cons h _ t, .cons r tr => by
    refine .cons ?_ (keys_vals t tr)
    obtain ⟨e, _⟩ := r
    dsimp only
    rw [e]
    exact relV_key h
theorem begins_keys {d : Addr} {od : Obj} {es : Array DictEntry} {ep : Nat} (hs : (d == sysModules) = false) (hx : od.ExactDict) (hd : od.data = .dict es ep) (its : Array Value) :
    Begins (.ref d) { cls := .type "dict_keyiterator", data := .fields #[.ref d, .int 0 0, .int es.size 0, .int ep 0] } fun h => KeysAr d od es h its where
  iter := fun prog w A E s Q hl h => iter_keys hs hl.1 hx hd h
  keeps := fun h h' x hk => ⟨hk d _ x.1, x.2⟩
  free := rfl
theorem src_keys (K : PySem.W.Frag) {d : Addr} {od : Obj} {es : Array DictEntry} {ep : Nat} (hs : (d == sysModules) = false) (hx : od.ExactDict) (hd : od.data = .dict es ep) :
    Src K d (KeysS d od) (KeysAr d od es) (fun h it i => h.IsKeyIter it d i es.size ep) { cls := .type "dict_keyiterator", data := .fields #[.ref d, .int 0 0, .int es.size 0, .int ep 0] } where
  get := fun hK I h => by
    obtain ⟨kvs, hf, rfl⟩ := h
    obtain ⟨_, hg, _, es', ep', vs, hdt, _, kv, o', es2, hm⟩ := I.frzK hf
    obtain ⟨ho, _, hdt', _, hp, _⟩ := hm
    rw [hg] at ho
    cases ho
    rw [(dict_ep hd hdt').1] at hp
    exact ⟨es.toList.map (·.key), keys_vals hp kv, hg, by rw [← Array.toList_map, Array.toArray_toList]⟩
  inj := fun hK I h h' => by
    obtain ⟨kvs, e, rfl⟩ := h
    obtain ⟨kvs', e', rfl⟩ := h'
    rw [e] at e'
    cases e'
    rfl
  lives := fun h => ⟨_, h.1⟩
  iobj := fun ⟨o, e, _, dt⟩ => ⟨o, e, fun v z => by rw [dt] at z; cases z⟩
  ikeep := fun st k => by
    obtain ⟨o, e, r⟩ := st
    exact ⟨o, k o e, r⟩
  draw := fun prog w A it its hh ne =>
    { live := fun _ _ st => let ⟨o, ho, _⟩ := st.1; ⟨o, ho⟩
      frame := fun _ _ _ st hk => ⟨let ⟨o, ho, r⟩ := st.1; ⟨o, hk it (by simp) o ho, r⟩, hk d (by simp) _ st.2.1, st.2.2⟩
      item := fun i s Q E hi st q => by
        obtain ⟨hi', ha, rfl⟩ := st
        have lt : i < es.size := by simpa using hi
        refine nextOf_key hi' ha hd rfl (Array.getElem?_eq_getElem lt) fun h' hit' hs' => ?_
        exact q _ h' s.toks (by simp [lt]) ⟨hit', (hs'.2 d ne).trans ha, rfl⟩ hs'
      done := fun s Q E st q => by
        obtain ⟨hi', ha, rfl⟩ := st
        exact nextOf_key_end hh hi' ha hd rfl (by simp) q }
  begin := fun its => begins_keys hs hx hd its
  first := fun e => ⟨_, e, rfl, rfl⟩
set_option maxHeartbeats 1000000 in
theorem meets_enum0 {v : Value} {o : Obj} {H : Heap → Prop} (B : Begins v o H) :
    Meets (Builtin.«enumerate.__new__» ⟨[.type "enumerate", v], []⟩) (fun _ R s => H s.heap ∧ R (.ok (.ret (.ref (s.heap.push o).objs.size))) { s with heap := (s.heap.push o).push { cls := .type "enumerate", data := .fields #[.none, .bool false, .ref s.heap.objs.size, rawInt 0, .none, .none] } }) :=
  .of_wp fun prog w A R s h => by
    obtain ⟨hp, g, d, tk, os⟩ := s; obtain ⟨h1, h⟩ := h
    have sb := sub_enumerate
    have q1 : ∀ {A' : Around} {E Q : Value → Shared → Prop}, Q (.ref hp.objs.size) ⟨hp.push o, g, d, tk, os⟩ → wpAny (model prog w) A' (pyIter v) Q E ⟨hp, g, d, tk, os⟩ := fun q => B.iter prog w _ _ ⟨hp, g, d, tk, os⟩ _ h1 q
    wp_walk using q1
    refine wpAny_stack_any fun st => wpAny_pure ?_
    split
    · rename_i c _ _ _ _ _
      cases (c == Value.type "enumerate") <;> (wp_walk using q1; exact ⟨_, rfl, h⟩)
    · wp_walk using q1
      exact ⟨_, rfl, h⟩
theorem enum0_begins {prog : Program} {w : World} {A : Around} {E : Value → Shared → Prop} {s : Shared} {v : Value} {o : Obj} {H : Heap → Prop} {Q : Value → Shared → Prop} (B : Begins v o H) (h1 : H s.heap)
    (h : ∀ h', IsEnum h' (s.heap.objs.size + 1) s.heap.objs.size 0 .none → h'.get? s.heap.objs.size = some o → h'.objs.size = s.heap.objs.size + 2 → (∀ b o, s.heap.get? b = some o → h'.get? b = some o) → Q (.ref (s.heap.objs.size + 1)) { s with heap := h' }) :
    wpAny (model prog w) A (PySem.call (.type "enumerate") [v]) Q E s := by
  refine callType_new F.called_enumerate (by decide) (F.typeCall_enumerate_1 _) (F.newCall_enumerate_1 _) (fun obj => F.args_object_init_2 obj _) F.entry_enumerate_new (meets_enum0 B) ⟨h1, ?_⟩
  have hz : (s.heap.push o).objs.size = s.heap.objs.size + 1 := Heap.size_push ..
  have he := Heap.get?_push_size (s.heap.push o) (o := { cls := .type "enumerate", data := .fields #[.none, .bool false, .ref s.heap.objs.size, rawInt 0, .none, .none] }) rfl
  show _ ∧ _
  rw [hz] at he ⊢
  exact ⟨⟨_, he, rfl⟩, h _ he (Heap.get?_push_of_some _ (Heap.get?_push_size _ B.free)) (by rw [Heap.size_push, hz]) fun b o x => Heap.get?_push_of_some _ (Heap.get?_push_of_some _ x)⟩
/-- enumerate(d) -/
@[irreducible] def iEnumD (te : TE) : TI := fun σ H R => te σ H fun x H1 => ∃ d od kvs, x = .ref d ∧ H1 d = some (.frz od (.dK kvs)) ∧ R (ItS (KeysS d od) 0) H1
theorem pi_enumD {X : Cx} {e : Expr} {te : TE} {p pos tpos : Pos} {elts : List Expr} {kk : Nat} (hg : Gl X "enumerate") (hm : X.mg "enumerate" = none) (he : PE X e te)
    (hs : starEach [e] X.env = (false, eval e X.env) :: starEach [] X.env := by rfl) :
    PI X (.Tuple elts kk tpos) (.Call (.Name "enumerate" p) [e] [] pos) (iEnumD te) := by
  unfold iEnumD
  refine ⟨fun pins s σ H R I h => ?_⟩
  refine wpAny_Call_Name_kw (ld_blt I hg hm boot_enumerate (PyProof.Rows.callWith_type1 ?_ hs rfl))
  rw [hs]
  refine Calls.spliced_cons (thn (he.run pins s σ H _ I h) fun u s1 ⟨x, H1, I1, rx, d, od, kvs, ex, hf, q⟩ => Calls.spliced_nil ?_)
  subst ex
  obtain rfl : u = Value.ref d := rx
  obtain ⟨hss, hgd, hx, es, ep, vs, hdt, hsz, kv, hm⟩ := I1.frzK hf
  have sr := src_keys X.K hss hx hdt
  obtain ⟨its, rv, hA⟩ := sr.get rfl I1 ⟨kvs, hf, rfl⟩
  refine enum0_begins (sr.begin its.toArray) hA fun h' hen hit hsz hk => wpAny_pyIter_enum hen ?_
  have I2 : Inv X pins σ H1 { s1 with heap := h' } := I1.kept (t' := s1.toks) hk
  have hlt := Heap.lt_size hgd
  refine ⟨s1.heap.objs.size + 1, [s1.heap.objs.size + 1, s1.heap.objs.size], _, _, H1, rfl, I2, turn_enumS sr 0 (s1.heap.objs.size + 1) s1.heap.objs.size (Nat.ne_of_lt hlt) (Nat.succ_ne_self _) (Nat.ne_of_gt (Nat.lt_succ_of_lt hlt)), ⟨⟨.none, by simpa using hen⟩, sr.first hit⟩, fun b hb => ?_, q⟩
  have hle : s1.heap.objs.size ≤ b := by
    rcases List.mem_cons.mp hb with z | z
    · rw [z]
      exact Nat.le_succ _
    · rw [List.mem_singleton.mp z]
      exact Nat.le_refl _
  exact I1.fpOk hle (I1.hok.fresh hle)
end Kb
namespace Kb
open PySem PySem.Spec PyProof.Rows L2
/-- list(d): the keys -/
@[irreducible] def rListD (K : PySem.W.Frag) : List V → Hp → VK → Prop := fun xs H Q => ∃ (a : Addr) (kvs : List (L2.Key × V)), xs = [.ref a] ∧ Rd H a (.dK kvs) ∧ ∀ p, H p = none → Q (.ref p) (upd H p (.lst (kvs.map fun kv => kV kv.1)))
theorem u_listD {X : Cx} (hc : X.calm = true) : CallR X (.type "list") (rListD X.K) := by unfold rListD; exact call_listD hc
section
variable {K : PySem.W.Frag} {H : Hp} {Q : VK} {a d : Addr} {x y v : V} {xs : List V} {kvs : List (L2.Key × V)} {k : L2.Key}
theorem listD_go (h : H a = some (.dK kvs)) (q : ∀ p, H p = none → Q (.ref p) (upd H p (.lst (kvs.map fun kv => kV kv.1)))) : rListD K [.ref a] H Q := by unfold rListD; exact ⟨a, kvs, rfl, .inl h, q⟩
theorem isiX_go {cv : Value} {n : String} {b : Bool} (ty : TyX K H x cv) (k : PySem.W.kitOne K cv (.type n) = some b) (q : Q (.bl b) H) : rIsiU K [x, .ty n] H Q := by unfold rIsiU; exact .inl ⟨x, .ty n, cv, .type n, b, rfl, .ty n, ty, k, q⟩
theorem eqS_no (h : rEqU K x y H Q) : rEqS K x y H Q := .inl h
theorem eqS_in {C dx : Addr} {fs : List (Str × V)} (h : H a = some (.ins C dx fs)) (p : PlainEq K C) (q : Q (.bl true) H) : rEqS K (.ref a) (.ref a) H Q := .inr ⟨a, C, dx, fs, rfl, rfl, h, p, q⟩
end
/-- a class whose things are equal by identity, and whose type is read plainly -/
structure PlainCls (K : PySem.W.Frag) (C : Addr) : Prop where
  cl : Cls K C
  eq : PlainEq K C
  ha : PySem.W.findIn K (.ref C) "__class__" = some (some (.builtin "object.__class__"))
  hn : PySem.W.specialIn K (.builtin "object.__class__") "__get__" = some (some (.builtin "getset_descriptor.__get__"))
  ht : PySem.W.takesIn K (.builtin "object.__class__") = some true
theorem PlainCls.ty {K : PySem.W.Frag} {C a dx : Addr} {H : Hp} {fs : List (Str × V)} (p : PlainCls K C) (h : H a = some (.ins C dx fs)) : TyX K H (.ref a) (.ref C) := .base (.ins h p.cl p.ha p.hn p.ht p.eq.mro)
end Kb

/-! ### more built-ins: max of two, sorted, list.index from a place on; their joined words -/
namespace Kb
open PySem PySem.Spec PyProof.Rows L2
@[irreducible] def rMax2U : List V → Hp → VK → Prop := fun xs H Q => ∃ i j, xs = [.int i, .int j] ∧ Q (.int (if j > i then j else i)) H
@[irreducible] def rSortedU (K : PySem.W.Frag) : List V → Hp → VK → Prop := rSorted K
@[irreducible] def rIdx3U (K : PySem.W.Frag) : V → List V → Hp → VK → Prop := fun x xs H Q => ∃ (a : Addr) (ns : List Int) (k : Int) (f j : Nat), x = V.ref a ∧ xs = [.int k, .int (f : Int)] ∧ SqL K H a (ns.map V.int) ∧ f ≤ j ∧ ns[j]? = some k ∧ (∀ m, f ≤ m → m < j → ns[m]? ≠ some k) ∧ Q (.int (j : Nat)) H
section
variable {X : Cx}
theorem u_max2 (hc : X.calm = true) : CallR X (.builtin "max") rMax2U := by unfold rMax2U; exact call_max2 hc
theorem u_sorted : CallR X (.builtin "sorted") (rSortedU X.K) := by unfold rSortedU; exact cr_sorted
theorem u_index3 : MtR X "list.index" (rIdx3U X.K) := by
  intro pins s σ H x xs v us Q I rx rxs h
  unfold rIdx3U at h
  obtain ⟨a, ns, k, f, j, rfl, rfl, hs, hfj, hz, hno, q⟩ := h
  cases rx
  cases rxs with
  | cons ry rt =>
    cases rt with
    | cons ra rn =>
      cases rn
      rename_i uy ua
      obtain ⟨t, rfl⟩ := (show ∃ t, ua = Value.int (f : Int) t from ra)
      obtain ⟨its, rv, ⟨⟨cls, dd, data, sl⟩, n, ho, hc, hdn, hd⟩, hlen⟩ := I.list hs
      simp only at hc hd; subst hc hd
      have hvl := rv.length
      rw [List.length_map] at hvl hlen
      have hjn : j < ns.length := (List.getElem?_eq_some_iff.mp hz).1
      have hsz : its.toArray.size = ns.length := by rw [List.size_toArray]; exact hvl.symm
      have hsl := sizeLine_eq
      have hfl : (ns.map V.int).all flatV = true := List.all_eq_true.mpr fun v hv => by obtain ⟨i, _, rfl⟩ := List.mem_map.mp hv; rfl
      have hall := mem_eqAt (A := X.A.in1) (s := s) ry rfl rv hfl
      refine call_meets PySem.F.slot_list_index ⟨_, ho, rfl⟩ PySem.F.entry_list_index (PySem.F.args_list_index_3 _ _ _)
        (SeqAt.list_index3_found a its.toArray n dd sl uy (fun m => decide (ns[m]? = some k)) (f : Int) t j (by omega) (by rw [SeqAt.searchFrom_nonneg (by omega)]; omega) (by omega) (decide_eq_true hz) fun m hm h1 h2 => decide_eq_false (hno m (by rw [SeqAt.searchFrom_nonneg (by omega)] at h1; omega) h2)) ⟨ho, fun m hm => ?_, ?_⟩
      · have hmn : m < ns.length := by omega
        obtain ⟨u2, hu2, ru2⟩ := rv.get (show (ns.map V.int)[m]? = some (.int ns[m]) by rw [List.getElem?_map, List.getElem?_eq_getElem hmn]; rfl)
        obtain ⟨_, hme⟩ := List.getElem?_eq_some_iff.mp hu2
        have e1 : its.toArray[m] = u2 := by simpa using hme
        have h3 := hall u2 (List.mem_of_getElem? hu2)
        rw [eqU_of ru2 rfl] at h3
        rw [e1, List.getElem?_eq_getElem hmn]
        have e2 : decide (some ns[m] = some k) = eqV (.int ns[m]) (.int k) := by
          show decide (some ns[m] = some k) = (ns[m] == k)
          by_cases e : ns[m] = k <;> simp [e]
        rw [e2]
        exact h3
      · exact ⟨.int (j : Nat), H, I.tok _, ⟨_, rfl⟩, q⟩
end
section
variable {K : PySem.W.Frag} {H : Hp} {Q : VK} {a : Addr}
theorem max2_go {i j : Int} (q : Q (.int (if j > i then j else i)) H) : rMax2U [.int i, .int j] H Q := by unfold rMax2U; exact ⟨_, _, rfl, q⟩
theorem sorted_go {ns : List Int} (h : SqL K H a (ns.map V.int)) (hl : ns.length < 64) (q : ∀ (ns' : List Int) (p : Addr), ns'.Perm ns → ns'.Pairwise (· ≤ ·) → H p = none → Q (.ref p) (upd H p (.lst (ns'.map V.int)))) : rSortedU K [.ref a] H Q := by unfold rSortedU; exact ⟨_, _, rfl, h, hl, q⟩
theorem idx3_go {ns : List Int} {k : Int} {f j : Nat} (h : SqL K H a (ns.map V.int)) (h1 : f ≤ j) (h2 : ns[j]? = some k) (h3 : ∀ m, f ≤ m → m < j → ns[m]? ≠ some k) (q : Q (.int (j : Nat)) H) : rIdx3U K (.ref a) [.int k, .int (f : Int)] H Q := by unfold rIdx3U; exact ⟨_, _, _, _, _, rfl, rfl, h, h1, h2, h3, q⟩
theorem sumI_go {ns : List Int} (h : SqL K H a (ns.map V.int)) (q : Q (.int ns.sum) H) : rSumU K [.ref a] H Q := by unfold rSumU; exact ⟨_, _, rfl, h, q⟩
theorem inV_ints (k : Int) : ∀ ns : List Int, inV (.int k) (ns.map V.int) = decide (k ∈ ns)
  | [] => rfl
  | n :: ns => by
    have ih := inV_ints k ns
    unfold inV at ih ⊢
    rw [List.map_cons, List.any_cons, ih]
    show ((n == k) || decide (k ∈ ns)) = decide (k ∈ n :: ns)
    by_cases e : n = k
    · rw [e]
      simp
    · have e' : ¬ k = n := fun z => e z.symm
      simp [e, e']
theorem inI_go {k : Int} {ns : List Int} (h : SqL K H a (ns.map V.int)) (q : Q (.bl (decide (k ∈ ns))) H) : rInU K (.int k) (.ref a) H Q := by
  refine inL_go h rfl (List.all_eq_true.mpr fun v hv => by obtain ⟨i, _, rfl⟩ := List.mem_map.mp hv; rfl) ?_
  rw [inV_ints]
  exact q
end
end Kb

/-! ### sorted(x, key=lambda p: p[0]) of a list or a tuple of tuples whose first thing is a number: by it, alike ones in their order -/
namespace Kb
open PySem PySem.Spec PyProof.Rows L2
open LamX (CodeO Tabs ExtN TabB lam_make2)
section
variable {prog : Program} {w : World} {A : Around} {E : Value → Shared → Prop} {s : Shared}
/-- what a list or a tuple holds, collected -/
theorem coll_seq {l : Addr} {o : Obj} {T : String} {n : Nat} {vs : List Value} {Q : List Value → Shared → Prop} (ho : s.heap.get? l = some o) (hc : o.cls = .type T) (hT : T = "list" ∨ T = "tuple") (hd : o.data = .seq vs.toArray n) (hsz : vs.length ≤ sizeLine)
    (h : Q vs { s with heap := (s.heap.push (seqObj "list" #[] 0)).update s.heap.objs.size (Obj.mapSeq (· ++ vs.toArray)) }) : wpAny (model prog w) A (collect (.ref l)) Q E s := by
  have hp : (s.heap.push (seqObj "list" #[] 0)).get? s.heap.objs.size = some (seqObj "list" #[] 0) := Heap.get?_push_size _ rfl
  have hp' : (s.heap.push (seqObj "list" #[] 0)).get? l = some o := Heap.get?_push_of_some _ ho
  unfold collect
  refine wpAny_bind (wpAny_runValue (codeAny_builtin entry_proto_collect' ?_))
  show wpAny _ _ (newList [] >>= fun y => again (.builtin "list.__iadd__" ⟨[y, .ref l], []⟩)) _ _ s
  refine wpAny_bind (wpAny_newList (wpAny_pure (And.intro (Code.quiet_builtin _ (by decide +kernel)) (codeAny_builtin entry_list_iadd' ?_))))
  show wpAny _ _ (Builtin.List.listExtendWith (.ref s.heap.objs.size) (.ref l) (.ref s.heap.objs.size)) _ _ _
  unfold Builtin.List.listExtendWith
  refine wpAny_bind (wpAny_typeOf (T := T) ⟨o, hp', hc⟩ ?_)
  have hb : ∀ z : Bool, (z || (Value.type T == Value.type "list") || (Value.type T == Value.type "tuple")) = true := fun z => by
    rcases hT with rfl | rfl
    · rw [show (Value.type "list" == Value.type "list") = true from by rfl, Bool.or_true, Bool.true_or]
    · rw [show (Value.type "tuple" == Value.type "tuple") = true from by rfl, Bool.or_true]
  rw [if_pos (hb _)]
  refine wpAny_bind (listItems_at hp' hd (wpAny_bind (listItems_at (xs := #[]) (n := 0) hp rfl ?_)))
  rw [if_neg (by simp)]
  have z : (#[] ++ vs.toArray : Array Value).size ≤ sizeLine + 1 := by rw [Array.size_append, List.size_toArray]; exact Nat.le_succ_of_le (by simpa using hsz)
  refine wpAny_bind (listUpdate_at (xs := #[]) (n := 0) hp rfl (wpAny_pure ?_) (Nat.zero_le _) z)
  show wpAny _ _ (load s.heap.objs.size >>= fun y => match y.data with | .seq xs _ => pure xs.toList | _ => unsupported "internal:collect") _ _ _
  refine wpAny_bind (wpAny_load (get?_update_seq hp _) ?_)
  have e : ((#[] : Array Value) ++ vs.toArray).toList = vs := by simp
  show wpAny _ _ (pure _) _ _ _
  rw [e]
  exact wpAny_pure h
/-- sorted by a key, of a list or a tuple -/
theorem srt_key {h₀ : Heap} {L l f : Addr} {o : Obj} {T : String} {n : Nat} {m : Str → Option Value} {news : List (Addr × Obj)} {vs : List Value} {kz : List Int} {Q : Value → Shared → Prop} (F : Fr h₀ L s.heap m) (N : News h₀ L s.heap news)
    (ho : s.heap.get? l = some o) (hc : o.cls = .type T) (hT : T = "list" ∨ T = "tuple") (hd : o.data = .seq vs.toArray n) (hsz : vs.length ≤ sizeLine) (hlen : kz.length = vs.length)
    (turn : ∀ (i : Nat) (v : Value) (k : Int), vs[i]? = some v → kz[i]? = some k → ∀ (h : Heap) (tk : Nat) (own : List (Addr × Obj)), Fr h₀ L h m → News h₀ L h (news ++ own) → wpAny (model prog w) A.in1.in1 (call (.ref f) [v]) (KskEnd h₀ L m (news ++ own) k { s with heap := h, toks := tk }) (fun _ _ => False) { s with heap := h, toks := tk })
    (q : ∀ D h' tk out c, Fr h₀ L h' m → News h₀ L h' ((D, seqObj "list" out c) :: news) → s.heap.objs.size ≤ D → KskOutSt false kz vs out.toList → Q (.ref D) { s with heap := h', toks := tk }) :
    wpAny (model prog w) A (call (.builtin "sorted") [.ref l] [(Str.ofString "key", .ref f)]) Q E s := by
  refine call_function_entry_kw kind_sorted plain_sorted entry_sorted (ksk_s1 _ _) ?_
  unfold Builtin.«sorted»
  refine wpAny_bind (m := checkCount "sorted" 1 1 _) (wpAny_pure (wpAny_bind (coll_seq ho hc hT hd hsz (wpAny_bind (wpAny_newList ?_ hsz)))))
  obtain ⟨H1, e1⟩ : ∃ H1, H1 = (s.heap.push (seqObj "list" #[] 0)).update s.heap.objs.size (Obj.mapSeq (· ++ vs.toArray)) := ⟨_, rfl⟩
  have z1 : H1.objs.size = s.heap.objs.size + 1 := by rw [e1, Heap.size_update, size_push']
  have k1 : ∀ b u, s.heap.get? b = some u → H1.get? b = some u := fun b u e => by
    have lt := Nat.ne_of_lt (Heap.lt_size e)
    rw [e1, Heap.get?_update_ne _ _ _ _ lt]
    exact Heap.get?_push_of_some _ e
  show wpAny _ _ _ _ _ { s with heap := ((s.heap.push (seqObj "list" #[] 0)).update s.heap.objs.size (Obj.mapSeq (· ++ vs.toArray))).push (seqObj "list" vs.toArray 0) }
  rw [← e1]
  have k2 : ∀ b u, s.heap.get? b = some u → (H1.push (seqObj "list" vs.toArray 0)).get? b = some u := fun b u e => Heap.get?_push_of_some _ (k1 b u e)
  have hD : (H1.push (seqObj "list" vs.toArray 0)).get? H1.objs.size = some (seqObj "list" vs.toArray 0) := Heap.get?_push_size _ rfl
  have lL : L < s.heap.objs.size := F.ns.lt
  refine wpAny_bind (wpAny_holding (wpAny_call_entry_kw slot_list_sort ⟨_, hD, rfl⟩ entry_list_sort ?_ (ksk_l1 _ _)))
  rw [ksk_t1]
  refine ksk_sortSt (s := { s with heap := H1.push (seqObj "list" vs.toArray 0) }) (F.kept k2) (N.grown k2) hD (by rw [z1]; exact Nat.ne_of_gt (Nat.lt_succ_of_lt lL)) (Heap.get?_none_of_le (by rw [z1]; exact Nat.le_trans F.above (Nat.le_succ_of_le (Nat.le_of_lt lL)))) (fun p hp => by rw [z1]; exact Nat.ne_of_lt (Nat.lt_succ_of_lt (Heap.lt_size (N p hp).1))) hlen hsz turn fun h' tk out c F' N' o' => ⟨_, rfl, ?_⟩
  exact wpAny_pure ⟨_, rfl, q _ h' tk out c F' N' (by rw [z1]; exact Nat.le_succ _) o'⟩
end
end Kb
namespace Kb
open PySem PySem.Spec PyProof.Rows L2
open LamX (CodeO Tabs ExtN TabB lam_make2)
theorem perm_lift {α β : Type} {R : α → β → Prop} {l2 l1 : List β} (h : l2.Perm l1) : ∀ {xs : List α}, Paired R xs l1 → ∃ ys, ys.Perm xs ∧ Paired R ys l2 := by
  induction h with
  | nil => exact fun r => ⟨_, .refl _, r⟩
  | cons x _ ih =>
    intro xs r
    cases r with
    | cons a t =>
      obtain ⟨ys, p, r'⟩ := ih t
      exact ⟨_ :: ys, p.cons _, .cons a r'⟩
  | swap x y l =>
    intro xs r
    cases r with
    | cons a t => cases t with
      | cons b u => exact ⟨_, .swap _ _ _, .cons b (.cons a u)⟩
  | trans _ _ ih1 ih2 =>
    intro xs r
    obtain ⟨ys, p, r'⟩ := ih2 r
    obtain ⟨zs, p', r''⟩ := ih1 r'
    exact ⟨zs, p'.trans p, r''⟩
/-- ys is xs by rising ks -/
def ByKey (ks : List Int) (xs ys : List V) : Prop := ∃ ps : List (Int × V), ps.Perm (ks.zip xs) ∧ ys = ps.map Prod.snd ∧ ps.Pairwise fun p q => p.1 ≤ q.1
theorem by_key {kz : List Int} {xs : List V} {vs out : List Value} (r : Vals xs vs) (h : KskOutSt false kz vs out) : ∃ ys, ByKey kz xs ys ∧ Vals ys out := by
  obtain ⟨ps, hp, rfl, ho, hst⟩ := h
  clear hst
  have z : ∀ {ks : List Int} {xs : List V} {vs : List Value}, Vals xs vs → Paired (fun (p : Int × V) (q : Int × Value) => p.1 = q.1 ∧ RelV p.2 q.2) (ks.zip xs) (ks.zip vs) := by
    intro ks xs vs r
    induction r generalizing ks with
    | nil =>
      rw [List.zip_nil_right, List.zip_nil_right]
      exact .nil
    | cons a t ih => cases ks with
      | nil => exact .nil
      | cons k ks => exact .cons ⟨rfl, a⟩ ih
  obtain ⟨qs, hq, rq⟩ := perm_lift hp (z r)
  refine ⟨qs.map Prod.snd, ⟨qs, hq, rfl, ?_⟩, ?_⟩
  · have f : ∀ {qs : List (Int × V)} {ps : List (Int × Value)}, Paired (fun (p : Int × V) (q : Int × Value) => p.1 = q.1 ∧ RelV p.2 q.2) qs ps → qs.map Prod.fst = ps.map Prod.fst := by
      intro qs ps r
      induction r with
      | nil => rfl
      | cons a _ ih => rw [List.map_cons, List.map_cons, ih, a.1]
    have e := f rq
    have h1 : (ps.map Prod.fst).Pairwise (· ≤ ·) := List.pairwise_map.mpr (ho.imp fun h => by simpa using h)
    rw [← e] at h1
    exact List.pairwise_map.mp h1
  · clear hq hp ho
    induction rq with
    | nil => exact .nil
    | cons a _ ih => exact .cons a.2 ih
open LamX (TabS inv_table among_app codeO_ne) in
/-- the lambda is made: its code object is new, or found in the table at P; all but the table stays -/
theorem lam_make3 {X : Cx} {pins : List (Addr × Obj)} {σ : L2.St} {H : Hp} {s : Shared} {c P : Addr} {params : Arguments} {body : Expr} {scope : Scope} {pos : Pos} {E Q : Value → Shared → Prop} (I : Inv X pins σ H s) (TB : TabB X.base X.mg c P) (hcode : X.env.code = .ref c) (hT : TabS H P (X.env.qual ++ "<lambda>")) (hdef : defaultsOf params X.env = ([], [])) (hfree : ∀ y ∈ scope.names, y.2 = .free → ∃ c, X.env.cells.lookup y.1 = some c)
    (q : ∀ (f c' : Addr) (pm ctv : Value) (H1 : Hp) (s' : Shared), Inv X pins σ H1 s' → Kp [P] H H1 → TabS H1 P (X.env.qual ++ "<lambda>") → s'.heap.get? f = some (PySem.W.kla_obj "<lambda>" (X.env.qual ++ "<lambda>") params body scope (cloFrom X.env.cells scope.names []) pm c' ctv) → H1 c' = some (CodeO c' (X.env.qual ++ "<lambda>")) → Q (.ref f) s') :
    wpAny (model X.prog X.w) X.A (eval (.Lambda params body scope pos) X.env) Q E s := by
  obtain ⟨ps, hP, ht, ha⟩ := hT
  have bP := TB.bm.keeps I.bk
  have oP : s.heap.get? P = some { cls := .none, data := .fields ps } := I.hok P _ hP
  refine PySem.W.kla_eval hdef ?_
  cases hc : codeAmong pos ps.toList with
  | some cv =>
    obtain ⟨c', rfl, hco⟩ := ha pos cv hc
    refine PySem.W.kla_makeFunctionHit (mg := X.mg) (c := c) (P := P) (ps := ps) (closure_ok hfree) I.ok.glob (I.mod.glob.keeps I.bk) hcode (TB.code.keeps I.bk) oP ht hc bP fun ctv h' tk hx hsz => ?_
    exact q _ c' _ ctv H _ (I.kept (t' := tk) fun b o e => Heap.get?_push_of_some _ (hx b o e)) Kp.refl ⟨ps, hP, ht, ha⟩ (Heap.get?_push_size _ rfl) hco
  | none =>
    refine PySem.W.kla_makeFunction (mg := X.mg) (c := c) (P := P) (ps := ps) (closure_ok hfree) I.ok.glob (I.mod.glob.keeps I.bk) hcode (TB.code.keeps I.bk) oP ht hc TB.gP bP fun c' ctv h' tk hx hge hlt hrec htb => ?_
    obtain ⟨c2, oc, vs, t, e2, hoc, hd, hv⟩ := hrec
    cases e2
    have nC : H c' = none := I.hok.fresh hge
    have I1 := inv_table (t' := tk) (more := #[rawInt pos.line, rawInt pos.col, .ref c']) (h' := h'.push (PySem.W.kla_obj "<lambda>" (X.env.qual ++ "<lambda>") params body scope (cloFrom X.env.cells scope.names []) ((X.mg "__name__").getD .none) c' ctv)) I hP (fun b o hb e => Heap.get?_push_of_some _ (hx b o hb e)) (Heap.get?_push_of_some _ htb) hge ⟨oc, vs, t, Heap.get?_push_of_some _ hoc, hd, hv⟩
    have kk : Kp [P] H (upd (upd H P (.tbl (ps ++ #[rawInt pos.line, rawInt pos.col, .ref c']))) c' (CodeO c' (X.env.qual ++ "<lambda>"))) := (Kp.refl.upd_in List.mem_cons_self).upd_new nC
    have eL : (ps ++ #[rawInt pos.line, rawInt pos.col, .ref c']).toList = ps.toList ++ [rawInt pos.line, rawInt pos.col, .ref c'] := by simp
    refine q _ c' _ ctv _ _ I1 kk ⟨_, (upd_ne (ne_of_none hP nC)).trans upd_same, by rw [eL]; exact PySem.TriplesOk_snoc _ _ _ _ ht, fun p' cv hcv => ?_⟩ (Heap.get?_push_size _ rfl) upd_same
    rw [eL] at hcv
    rcases among_app _ ht hcv with z | rfl
    · obtain ⟨c0, e1, e2⟩ := ha p' cv z
      refine ⟨c0, e1, kk c0 _ (fun m => ?_) e2⟩
      rw [List.mem_singleton.mp m, hP] at e2
      exact codeO_ne ps (Option.some.inj e2).symm
    · exact ⟨c', rfl, upd_same⟩
def tSortKey (K : PySem.W.Frag) (P : Addr) (qn : Str) (te : TE) : TE := fun σ H Q => te σ H fun x H1 => LamX.TabS H1 P qn ∧ ∃ a xs ks, x = .ref a ∧ (SqL K H1 a xs ∨ SqT K H1 a xs) ∧ Paired (fun (k : Int) (y : V) => ∃ t r, y = .ref t ∧ SqT K H1 t (.int k :: r)) ks xs ∧
  ∀ H2 ys p, Kp [P] H1 H2 → LamX.TabS H2 P qn → H2 p = none → ByKey ks xs ys → Q (.ref p) (upd H2 p (.lst ys))
/-- what stands in a heap, but for one place -/
def allBut (L : Addr) (h : Heap) : List (Addr × Obj) := (List.range h.objs.size).filterMap fun b => if b = L then none else (h.get? b).map fun o => (b, o)
theorem mem_allBut {L : Addr} {h : Heap} {b : Addr} {o : Obj} : (b, o) ∈ allBut L h ↔ b ≠ L ∧ h.get? b = some o := by
  unfold allBut
  rw [List.mem_filterMap]
  constructor
  · rintro ⟨c, _, e⟩
    split at e
    · cases e
    · rename_i n
      obtain ⟨o', h1, h2⟩ := Option.map_eq_some_iff.mp e
      cases h2
      exact ⟨n, h1⟩
  · rintro ⟨n, e⟩
    exact ⟨b, List.mem_range.mpr (Heap.lt_size e), by rw [if_neg n, e]; rfl⟩
section
variable {X : Cx} {pins : List (Addr × Obj)} {σ : L2.St} {H : Hp} {s : Shared} {h' : Heap}
theorem Inv.butL {t' : Nat} {m : Str → Option Value} {D : Addr} {ob : HO} (I : Inv X pins σ H s) (hm : s.heap.Ns X.env.locals m) (hn : h'.Ns X.env.locals m) (k : ∀ b o, b ≠ X.env.locals → s.heap.get? b = some o → h'.get? b = some o) (hp : s.heap.objs.size ≤ D) (new : ObjOk X.prog X.w (upd H D ob) h' D ob) :
    Inv X pins σ (upd H D ob) { s with heap := h', toks := t' } := by
  have hl : ∃ o, h'.get? X.env.locals = some o := by
    obtain ⟨o, _, _, e, _⟩ := hn
    exact ⟨o, e⟩
  have nD : H D = none := I.hok.fresh hp
  have old : ∀ {b : Addr} {o : HO}, H b = some o → (upd H D ob) b = some o := fun e => (upd_ne (ne_of_none e nD)).trans e
  refine I.step (g' := s.gens) (d' := s.drawn) (ch := []) (fun b z => nomatch z) (fun b o n _ _ e _ => k b o n e) (fun b o n _ _ e _ => ⟨o.slots, k b o n e⟩) (fun b o _ e n => ?_) (fun b o _ e => ?_) (fun _ _ e => old e) (fun _ _ _ e => old e) (fun b ps e => ⟨#[], by rw [old e]; simp⟩) (fun m2 h2 => ?_) (fun a o e => ?_) I.bare
  · have := Heap.lt_size e
    rw [upd_ne (Nat.ne_of_lt (Nat.lt_of_lt_of_le this hp))]
    exact n
  · by_cases z : b = X.env.locals
    · rw [z]
      exact hl
    · exact ⟨o, k b o z e⟩
  · have e : m2 = m := funext fun y => h2.agree hm y
    rw [e]
    exact hn
  · by_cases z : a = D
    · rw [z, upd_same] at e
      cases e
      rw [z]
      exact new
    · rw [upd_ne z] at e
      refine (I.hok a o e).stay (fun b u hb q => k b u (fun z => ?_) q) (fun b q => old q) fun b _ q => old q
      have fr := I.free
      rcases hb with hb | hb
      · rw [← z, hb, e] at fr
        cases fr
      · rw [← z, hb] at fr
        cases fr
theorem news_keep {h₀ h h1 : Heap} {L : Addr} {m : Str → Option Value} {own : List (Addr × Obj)} (z : ∀ b o, h₀.get? b = some o → h.get? b = some o) (F : Fr h₀ L h1 m) (N : News h₀ L h1 (((allBut L h).filter fun p => (h₀.get? p.1).isNone) ++ own)) : ∀ b o, b ≠ L → h.get? b = some o → h1.get? b = some o := fun b o n e => by
  cases q : h₀.get? b with
  | none => exact (N (b, o) (List.mem_append_left _ (List.mem_filter.mpr ⟨mem_allBut.mpr ⟨n, e⟩, by rw [q]; rfl⟩))).1
  | some o' =>
    have := z b o' q
    rw [e] at this
    cases this
    exact F.keep b o q
theorem news_all (h₀ : Heap) (L : Addr) (h : Heap) (z : ∀ b o, h₀.get? b = some o → h.get? b = some o) : News h₀ L h ((allBut L h).filter fun p => (h₀.get? p.1).isNone) := fun p hp => by
  obtain ⟨b, o⟩ := p
  obtain ⟨h1, h2⟩ := List.mem_filter.mp hp
  obtain ⟨n, e⟩ := mem_allBut.mp h1
  exact ⟨e, n, Option.isNone_iff_eq_none.mp h2⟩
/-- a lambda p: p[0] called of a tuple, where a built-in function calls it -/
theorem lam_turn {q pa : Str} {f c' : Addr} {params : Arguments} {scope : Scope} {pm ctv : Value} {h₀ h : Heap} {L t : Addr} {m : Str → Option Value} {need : List (Addr × Obj)} {tk : Nat} {k : Int} {tkk : Tok} {its : List Value} {p1 p2 p3 : Pos} {A : Around} {prog : Program} {w : World} {j : Nat}
    (hd : A.depth + 3 < recursionLimit) (F : Fr h₀ L h m) (N : News h₀ L h need) (nl : h.NoLimit) (hf : h.get? f = some (PySem.W.kla_obj "<lambda>" q params (.Subscript (.Name pa p1) (.Constant (.int 0) j p2) p3) scope [] pm c' ctv))
    (hc : ∃ (oc : Obj) (vs : Array Value) (t : Tok), h.get? c' = some oc ∧ oc.data = .fields vs ∧ vs[1]? = some (.str q t)) (S : NdefX.NScope [pa] [pa] [] scope) (hpa : (pa == ("__debug__" : Str)) = false)
    (hb : ∀ u, bindArgs (PySem.W.kla_fn "<lambda>" q params (.Subscript (.Name pa p1) (.Constant (.int 0) j p2) p3) scope [] pm (.ref c') ctv) ⟨[u], []⟩ = pure [(pa, u)]) (ht : IsTup h t (Value.int k tkk :: its).toArray) :
    wpAny (model prog w) A (call (.ref f) [.ref t]) (KskEnd h₀ L m need k { s with heap := h, toks := tk }) (fun _ _ => False) { s with heap := h, toks := tk } := by
  obtain ⟨oc, cs, tq, h1, h2, h3⟩ := hc
  refine wpAny_call (PySem.W.kla_callFunE (by omega) hf rfl S.co S.gen rfl ⟨c', oc, cs, tq, rfl, h1, h2, h3⟩ ?_)
  rw [hb]
  refine wpAny_pure (wpAny_newFunctionEnv S.nocell (fun y hy => by rw [List.mem_singleton.mp hy]; exact S.par pa List.mem_cons_self) (fun g hns hsb => ⟨nl.fresh _ hsb, ?_⟩) S.kind)
  have kp : ∀ b o, h.get? b = some o → g.get? b = some o := fun b o e => hsb.extBut b o (Nat.ne_of_lt (Heap.lt_size e)) (Heap.get?_push_of_some _ e)
  refine PySem.W.kla_codeExpr (Subscript_ (wpAny_Name (wpAny_loadName_local (v := .ref t) S.kind ?_ hns ?_ ?_) hpa))
  · show scope.names.lookup pa = some .local
    exact S.par pa List.mem_cons_self
  · show List.lookup pa [(pa, Value.ref t)] = _
    simp
  refine wpAny_Constant_int ?_
  refine subscriptTail_builtinR (x := .int k tkk) (IsTup.typeIs (ht.keeps kp)) slot_tuple_getitem.lookup (getItem_tuple (j := 0) (ht.keeps kp) (by decide) (by decide) ?_ ?_ ⟨rfl, ?_⟩)
  · unfold seqIndex?
    simp
  · simp
  · exact ⟨g, _, tkk, rfl, rfl, F.kept kp, fun p hp => ⟨kp _ _ (N p hp).1, (N p hp).2⟩⟩
theorem paired_len {α β : Type} {R : α → β → Prop} : ∀ {xs : List α} {ys : List β}, Paired R xs ys → xs.length = ys.length
  | _, _, .nil => rfl
  | _, _, .cons _ t => by rw [List.length_cons, List.length_cons, paired_len t]
theorem paired_at {α β : Type} {R : α → β → Prop} : ∀ {xs : List α} {ys : List β} {i : Nat} {x : α} {y : β}, Paired R xs ys → xs[i]? = some x → ys[i]? = some y → R x y
  | _, _, 0, _, _, .cons a _, h1, h2 => by
    simp only [List.getElem?_cons_zero, Option.some.injEq] at h1 h2
    rw [← h1, ← h2]
    exact a
  | _, _, i + 1, _, _, .cons _ t, h1, h2 => by
    simp only [List.getElem?_cons_succ] at h1 h2
    exact paired_at t h1 h2
theorem sqL_tab {K : PySem.W.Frag} {H H2 : Hp} {a P : Addr} {xs : List V} {ps : Array Value} (k : Kp [P] H H2) (hP : H P = some (.tbl ps)) (h : SqL K H a xs) : SqL K H2 a xs := by
  have n : ∀ {o : HO}, H a = some o → (∀ ps, o ≠ .tbl ps) → a ∉ [P] := fun e z m => by
    rw [List.mem_singleton.mp m, hP] at e
    exact z ps (Option.some.inj e).symm
  rcases h with (h | ⟨o, h⟩) | h
  · exact .inl (.inl (k _ _ (n h fun _ z => by cases z) h))
  · exact .inl (.inr ⟨o, k _ _ (n h fun _ z => by cases z) h⟩)
  · exact .inr h
theorem sqT_tab {K : PySem.W.Frag} {H H2 : Hp} {a P : Addr} {xs : List V} {ps : Array Value} (k : Kp [P] H H2) (hP : H P = some (.tbl ps)) (h : SqT K H a xs) : SqT K H2 a xs := by
  have n : ∀ {o : HO}, H a = some o → (∀ ps, o ≠ .tbl ps) → a ∉ [P] := fun e z m => by
    rw [List.mem_singleton.mp m, hP] at e
    exact z ps (Option.some.inj e).symm
  rcases h with (h | ⟨o, h⟩) | h
  · exact .inl (.inl (k _ _ (n h fun _ z => by cases z) h))
  · exact .inl (.inr ⟨o, k _ _ (n h fun _ z => by cases z) h⟩)
  · exact .inr h
theorem pe_sortKey {c P : Addr} {pa qn : Str} {params : Arguments} {scope : Scope} {e : Expr} {te : TE} {j : Nat} {p pos lpos kpos p1 p2 p3 : Pos} (hg : Gl X "sorted") (hm : X.mg "sorted" = none) (he : PE X e te) (TB : TabB X.base X.mg c P) (hcode : X.env.code = .ref c) (hqn : X.env.qual ++ "<lambda>" = qn)
    (hr : Room 1 X.A) (S : NdefX.NScope [pa] [pa] [] scope) (hfree : scope.names.all (fun y => !decide (y.2 = .free)) = true) (hclo : cloFrom X.env.cells scope.names [] = []) (hdef : defaultsOf params X.env = ([], []) := by rfl)
    (hb : ∀ (q : Str) (pm cv ctv u : Value), bindArgs (PySem.W.kla_fn "<lambda>" q params (.Subscript (.Name pa p1) (.Constant (.int 0) j p2) p3) scope [] pm cv ctv) ⟨[u], []⟩ = pure [(pa, u)]) (hpa : (pa == ("__debug__" : Str)) = false := by decide)
    (hs0 : starEach [e] X.env = (false, eval e X.env) :: starEach [] X.env := by rfl) (hse : backTo pos (starEach [e] X.env) = (false, eval e X.env) :: backTo pos (starEach [] X.env) := by rfl) (hpl : (backTo pos (starEach [e] X.env)).any (·.1) = false := by rfl) :
    PE X (.Call (.Name "sorted" p) [e] [⟨some "key", .Lambda params (.Subscript (.Name pa p1) (.Constant (.int 0) j p2) p3) scope lpos, kpos⟩] pos) (tSortKey X.K P qn te) := by
  subst hqn
  refine ⟨fun pins s σ H Q I h => ?_⟩
  refine wpAny_Call_Name_kw (ld_blt I hg hm (by decide +kernel : bootBuiltins "sorted" = some (.builtin "sorted")) ?_)
  let R : List V → Hp → Prop := fun vs H1 => match vs with
    | [x] => LamX.TabS H1 P (X.env.qual ++ "<lambda>") ∧ ∃ a xs ks, x = .ref a ∧ (SqL X.K H1 a xs ∨ SqT X.K H1 a xs) ∧ Paired (fun (k : Int) (y : V) => ∃ t r, y = .ref t ∧ SqT X.K H1 t (.int k :: r)) ks xs ∧ ∀ H2 ys p, Kp [P] H1 H2 → LamX.TabS H2 P (X.env.qual ++ "<lambda>") → H2 p = none → ByKey ks xs ys → Q (.ref p) (upd H2 p (.lst ys))
    | _ => False
  refine PyProof.Rows.callWith_kw (thn ((pa_cons he pa_nil hs0).run pos pins s σ H R I h) fun us s1 ⟨vs, H1, I1, r1, q1⟩ => ?_) hse hpl
  cases r1 with
  | nil => exact (show False from q1).elim
  | cons rx rt => cases rt with
    | cons _ _ => exact (show False from q1).elim
    | nil =>
      obtain ⟨hT, a, xs, ks, rfl, hx, hp, q⟩ := q1
      cases rx
      have has : ∀ y ∈ scope.names, y.2 = .free → ∃ c, X.env.cells.lookup y.1 = some c := fun y m e => by
        have := List.all_eq_true.mp hfree y m
        rw [e] at this
        simp at this
      show wpAny _ _ (evalAll [do let v ← eval (.Lambda params (.Subscript (.Name pa p1) (.Constant (.int 0) j p2) p3) scope lpos) X.env; standAt pos; pure v]) _ _ _
      refine wpAny_evalAll_cons (wpAny_bind (lam_make3 I1 TB hcode hT hdef has fun f c' pm ctv H2 s' I2 eN T2 hf hco => wpAny_bind (wpAny_standAt (wpAny_pure (wpAny_evalAll_nil ?_)))))
      rw [hclo] at hf
      obtain ⟨ps8, hP8, _, _⟩ := hT
      show wpAny _ _ (call (.builtin "sorted") [.ref a] [(Str.ofString "key", .ref f)]) _ _ _
      obtain ⟨m, hns, _⟩ := I2.loc
      have F : Fr X.base X.env.locals s'.heap m := ⟨hns, I2.bk, Nat.le_trans I2.ok.bsz I2.ok.above⟩
      have hcc : ∃ (oc : Obj) (vs : Array Value) (t : Tok), s'.heap.get? c' = some oc ∧ oc.data = .fields vs ∧ vs[1]? = some (.str (X.env.qual ++ "<lambda>") t) := (I2.hok c' _ hco).1
      obtain ⟨oL, esL, epL, hoL, hdL, _⟩ := id hns
      have obj : ∃ (its : List Value) (o : Obj) (Tn : String) (n : Nat), Vals xs its ∧ s'.heap.get? a = some o ∧ o.cls = .type Tn ∧ (Tn = "list" ∨ Tn = "tuple") ∧ o.data = .seq its.toArray n ∧ xs.length ≤ sizeLine := by
        rcases hx with hx | hx
        · obtain ⟨its, r, ⟨o, n, h1, h2, h3, h4⟩, hz⟩ := I2.list (sqL_tab eN hP8 hx)
          exact ⟨its, o, "list", n, r, h1, h2, .inl rfl, h4, hz⟩
        · obtain ⟨its, r, ⟨o, h1, h2, n, h3⟩, hz⟩ := I2.tuple (sqT_tab eN hP8 hx)
          exact ⟨its, o, "tuple", n, r, h1, h2, .inr rfl, h3, hz⟩
      obtain ⟨its, o, Tn, n, rv, ho, hcl, hTn, hd, hz⟩ := obj
      have lv := rv.length
      refine srt_key (kz := ks) F (news_all X.base X.env.locals s'.heap I2.bk) ho hcl hTn hd (by omega) (by rw [paired_len hp, lv]) (fun i v k hv hk g tk own F' N' => ?_) fun D g tk out cc F' N' hD ko => ?_
      · have kk := news_keep I2.bk F' N'
        obtain ⟨y, hy, rv1⟩ : ∃ y, xs[i]? = some y ∧ RelV y v := by
          have : i < xs.length := by rw [lv]; exact (List.getElem?_eq_some_iff.mp hv).1
          exact ⟨_, List.getElem?_eq_getElem this, paired_at rv (List.getElem?_eq_getElem this) hv⟩
        obtain ⟨t, r, rfl, ht⟩ := paired_at hp hk hy
        cases rv1
        obtain ⟨its2, rr, ⟨ot, e1, e2, nt, e3⟩, _⟩ := I2.tuple (sqT_tab eN hP8 ht)
        cases rr with
        | cons ra rb =>
          obtain ⟨tkk, rfl⟩ := ra
          have neL : ∀ {b : Addr} {o : Obj}, s'.heap.get? b = some o → (∀ es ep, o.data ≠ .dict es ep) → b ≠ X.env.locals := fun e n z => by
            rw [z, hoL] at e
            cases e
            exact n _ _ hdL
          obtain ⟨oc, cs, tq, g1, g2, g3⟩ := hcc
          refine lam_turn (h₀ := X.base) (by have := hr.dp; show X.A.depth + 3 < _; omega) F' N' (I2.ok.mod.nolimit.keeps F'.keep) (kk _ _ (neL hf fun _ _ z => by cases z) hf) ⟨oc, cs, tq, kk _ _ (neL g1 fun _ _ z => by rw [g2] at z; cases z) g1, g2, g3⟩ S hpa (hb _ _ _ _) ⟨ot, kk _ _ (neL e1 fun _ _ z => by rw [e3] at z; cases z) e1, e2, nt, e3⟩
      · obtain ⟨ys, bk, rys⟩ := by_key rv ko
        have kk := news_keep (own := []) I2.bk F' fun p hp => N' p (List.mem_cons_of_mem _ (by rwa [List.append_nil] at hp))
        have hDg := (N' _ List.mem_cons_self).1
        have hl : ys.length ≤ sizeLine := by
          obtain ⟨ps, hp1, rfl, _⟩ := bk
          rw [List.length_map, hp1.length_eq, List.length_zip]
          omega
        exact ⟨.ref D, _, Kb.Inv.butL (t' := tk) (ob := .lst ys) I2 hns F'.ns kk hD ⟨hl, out.toList, cc, rys, by rw [Array.toArray_toList]; exact hDg⟩, rfl, q H2 ys D eN T2 (I2.hok.fresh hD) bk⟩
end
end Kb

/-! ### a, b, *c = a tuple -/
namespace Kb
open PySem PySem.Spec PyProof.Rows L2
section
variable {prog : Program} {w : World} {A : Around} {E : Value → Shared → Prop} {s : Shared}
theorem walks_tupFrom (hh : A.handled = none) (I ax : Addr) (hne : ax ≠ I) (items : Array Value) (k : Nat) (hk : k ≤ items.size) :
    WalksS prog w A I [I, ax] [I] (fun a b => b = a) (items.size - k) (fun i v => items[k + i]? = some v) (fun i s => s.heap.IsTupleIter I ax (k + i) ∧ s.heap.IsTuple ax items) where
  sub := fun b hb => by simp at hb; simp [hb]
  grefl := fun _ => rfl
  gtrans := fun _ _ _ a b => b.trans a
  frame := fun i s h' tk st _ hk => ⟨st.1.at fun o e => hk I (by simp) o e, st.2.at fun o e => hk ax (by simp) o e⟩
  item := fun i s Q E hi st hQ => by
    refine wpAny_pyNext_tuple_item st.1 st.2 (x := items[k + i]) (by simp) fun h' hit' hs' => ?_
    exact hQ _ _ (by simp) ⟨hit', st.2.extBut hs'.extBut hne⟩ ⟨fun b o hb e => hs'.extBut b o (fun z => hb (by simp [z])) e, rfl, rfl, rfl, Nat.le_refl _⟩
  done := fun s Q E st hQ => wpAny_pyNext_tuple_end hh st.1 st.2 (by simp; omega) fun h' he' => hQ _ ⟨fun b o hb e => he' b o (fun z => hb (by simp [z])) e, rfl, rfl, rfl, Nat.le_refl _⟩
  self := fun _ _ _ _ st hQ => wpAny_pyIter_tupleiter st.1 hQ
theorem unpack_star {t : Addr} {items : Array Value} {n : Nat} {Q : List Value → Shared → Prop} (hh : A.handled = none) (ht : s.heap.IsTuple t items) (hn : n ≤ items.size) (hz : items.size ≤ sizeLine)
    (q : ∀ (g : Heap) (tk : Nat), (∀ b o, s.heap.get? b = some o → g.get? b = some o) → Q (items.toList.take n ++ [.ref g.objs.size]) { s with heap := g.push { cls := .type "list", data := .seq (items.toList.drop n).toArray }, toks := tk }) :
    wpAny (model prog w) A (unpackItems (.ref t) (n + 1) (some n)) Q E s := by
  have hlt : t < s.heap.objs.size := let ⟨o, ho, _⟩ := ht; Heap.lt_size ho
  have hne : t ≠ s.heap.objs.size := Nat.ne_of_lt hlt
  unfold unpackItems
  refine wpAny_bind ?_
  unfold notIterableAtAll
  refine wpAny_bind (wpAny_specialOf ht.typeIs F.slot_tuple_iter.lookup ?_)
  refine wpAny_pure ?_
  simp only [Bool.false_eq_true, if_false]
  refine wpAny_bind (wpAny_holding (wpAny_pyIter_tuple ht ?_))
  have ti : (s.heap.push { cls := .type "tuple_iterator", data := .fields #[.ref t, rawInt 0] }).IsTupleIter s.heap.objs.size t 0 := ⟨_, Heap.get?_push_size _ rfl, rfl, rfl⟩
  refine wpAny_bind (wpAny_holding (wpAny_draw_tuple hne n 0 _ _ ti (ht.push _) (by omega) fun h1 it1 hs1 => ?_))
  rw [List.drop_zero, Nat.zero_add] at *
  rw [if_neg (by rw [List.length_take, Array.length_toList]; omega)]
  have k1 : ∀ b o, s.heap.get? b = some o → h1.get? b = some o := fun b o e => hs1.extBut b o (Nat.ne_of_lt (Heap.lt_size e)) (Heap.get?_push_of_some _ e)
  have ht1 : h1.IsTuple t items := ht.at fun o e => k1 _ _ e
  have W := walks_tupFrom (prog := prog) (w := w) (A := A.in1) hh s.heap.objs.size t hne items n hn
  refine wpAny_bind (wpAny_holding (wpAny_collect_iter (T := "tuple_iterator") (.inr (.inr (.inr rfl))) W (fun i s' st => ?_) ⟨it1, ht1⟩ (fun b hb => ?_) (by simp) (fun s' acc mv io => ?_) (by omega)))
  · obtain ⟨⟨o, ho, hc, _⟩, _⟩ := st
    exact ⟨o, ho, hc⟩
  · simp only [List.mem_cons, List.not_mem_nil, or_false] at hb
    rcases hb with rfl | rfl
    · obtain ⟨o, ho, _⟩ := it1
      exact Heap.lt_size ho
    · obtain ⟨o, ho, _⟩ := ht1
      exact Heap.lt_size ho
  · obtain ⟨a1, a2⟩ := io
    have ea : acc.toList = items.toList.drop n := by
      refine List.ext_getElem? fun j => ?_
      rw [Array.getElem?_toList, List.getElem?_drop, Array.getElem?_toList]
      cases e : acc[j]? with
      | some v => exact (a2 j v e).symm
      | none =>
        have : items.size - n ≤ j := by rw [← a1]; exact Array.getElem?_eq_none_iff.mp e
        exact (Array.getElem?_eq_none_iff.mpr (by omega)).symm
    have z : n + 1 - 1 - n = 0 := by omega
    rw [z, if_neg (Nat.not_lt_zero _), Nat.sub_zero, List.take_length, List.drop_length, ea]
    have kk : ∀ b o, s.heap.get? b = some o → s'.heap.get? b = some o := fun b o e => mv.heap b o (by rw [List.mem_singleton]; exact Nat.ne_of_lt (Heap.lt_size e)) (k1 b o e)
    have es : s' = { s with heap := s'.heap, toks := s'.toks } := by
      obtain ⟨hh', g', d', t', o'⟩ := s'
      obtain ⟨_, m2, m3, m4, _⟩ := mv
      cases m2
      cases m3
      cases m4
      rfl
    rw [es]
    refine wpAny_bind (wpAny_newList (wpAny_pure ?_) (by rw [List.length_drop, Array.length_toList]; omega))
    rw [List.append_nil]
    exact q s'.heap s'.toks kk
end
def gStar (K : PySem.W.Frag) (n : Nat) (t : TGs) : TG := fun v σ H Q => ∃ a xs, v = .ref a ∧ SqT K H a xs ∧ n ≤ xs.length ∧ ∀ p, H p = none → t (xs.take n ++ [.ref p]) σ (upd H p (.lst (xs.drop n))) Q
section
variable {X : Cx} {pos : Pos}
theorem pgs_star {e : Expr} {t : TG} {p : Pos} (h1 : PG X e t) : PGs X [.Starred e p] (gCons t gNil) := by
  refine ⟨fun pins s σ H vs us Q I r h => ?_⟩
  obtain ⟨v, vr, e1, h⟩ := h
  subst e1
  cases r with
  | cons r rr =>
    show wpAny _ _ (assignInOrder [assign e X.env] _) _ _ _
    refine assignInOrder_cons (thn (h1.run pins s σ H _ _ _ I r h) fun _ s1 ⟨σ1, H1, I1, q1⟩ => ?_)
    exact (pgs_nil (X := X)).run pins s1 σ1 H1 _ _ Q I1 rr q1
theorem pg_star {es : List Expr} {k n : Nat} {t : TGs} (hc : X.calm = true) (h : PGs X es t) (hn : (assignEach es X.env).length = n + 1 := by rfl) (hst : (assignEach es X.env).findIdx? (·.1) = some n := by rfl) : PG X (.Tuple es k pos) (gStar X.K n t) := by
  refine ⟨fun pins s σ H v u Q I r hw => ?_⟩
  obtain ⟨a, xs, e1, hq, hl, hw⟩ := hw
  subst e1
  cases r
  obtain ⟨its, rv, ht, hz⟩ := I.tuple hq
  have lv := rv.length
  rw [assign_Tuple]
  refine wpAny_bind (wpAny_standAt ?_)
  unfold unpack
  rw [hn, hst]
  refine wpAny_bind (wpAny_holding (unpack_star (items := its.toArray) (I.ok.hd hc) ht (by rw [List.size_toArray]; omega) (by rw [List.size_toArray]; omega) fun g tk kk => ?_))
  have I1 : Inv X pins σ H { s with heap := g, toks := tk } := I.kept kk
  have vt := rv.take n
  have I2 := I1.lnew (t' := tk) (rv.drop n) (by rw [List.length_drop]; omega)
  exact h.run pins _ σ _ _ _ Q I2 (vt.append (.cons (show RelV (.ref g.objs.size) (.ref g.objs.size) from rfl) .nil)) (hw _ (I1.hok.fresh (Nat.le_refl _)))
/-- o.f = .. as a target -/
def gFldU (K : PySem.W.Frag) (ta : TE) (f : Str) : TG := fun y σ H Q => ta σ H fun x H2 => rPutU K f x y H2 fun H3 => Q σ H3
theorem pg_attr {o : Expr} {f : Str} {ta : TE} (ha : PE X o ta)
    (he : ∀ v, assign (.Attribute o f pos) X.env v = (holding [v] (eval o X.env) >>= fun ov => standAt pos.atName >>= fun _ => holding [v, ov] (setAttr ov f v) >>= fun _ => release [v, ov] []) := by intro _; rfl) : PG X (.Attribute o f pos) (gFldU X.K ta f) := by
  refine ⟨fun pins s σ H y u Q I ry h => ?_⟩
  unfold gFldU rPutU at h
  rw [he]
  refine wpAny_bind (wpAny_holding (thn (ha.run pins s σ H _ I h) fun ov s1 ⟨x, H1, I1, rx, a, C, dx, fs, ex, ea, c, n, l, q⟩ => ?_))
  subst ex
  obtain rfl : ov = Value.ref a := rx
  refine wpAny_bind (wpAny_standAt (wpAny_bind (wpAny_holding (setattr_ok I1 ea c n l ry fun s3 I3 => ?_))))
  exact wpAny_release ⟨σ, _, I3, q⟩
end
end Kb

/-! ### == of nested lists, tuples and dicts that are equal -/
namespace Kb
open PySem PySem.Spec PyProof.Rows L2
section
variable {prog : Program} {w : World}
/-- two tuples whose things are equal one by one -/
theorem tup_eqP (l b : Addr) (us ws : Array Value) (n m : Nat) (d1 d2 : Option Addr) (sl1 sl2 : Array (Option Value)) (hsz : us.size = ws.size) : MeetsIn prog w (Builtin.«tuple.__eq__» ⟨[.ref l, .ref b], []⟩) (fun A R s => s.heap.get? l = some ⟨.type "tuple", d1, .seq us n, sl1⟩ ∧ s.heap.get? b = some ⟨.type "tuple", d2, .seq ws m, sl2⟩ ∧
    (∀ j (h1 : j < us.size) (h2 : j < ws.size), SeqAt.EqP prog w A.in1 s us[j] ws[j] true) ∧ R (.ok (.ret (.bool true))) s) := by
  intro A R s hh
  obtain ⟨hp, gs, dr, tk, os⟩ := s
  obtain ⟨hl, hb, he, q⟩ := hh
  have sub := AutoSeq1.sub_tuple_tuple
  have hz : (us.toList.zip ws.toList).length = us.size := by simp [hsz]
  wp_walk using PySem.AutoSeq1.wpAny_loadPart' hl, PySem.AutoSeq1.wpAny_loadPart' hb, wpAny_forIn_list _ (fun rest b s' => b.1 = none ∧ s' = ⟨hp, gs, dr, tk, os⟩ ∧ ∃ i, rest = (us.toList.zip ws.toList).drop i) _
  case turn =>
    rintro ⟨y, x⟩ rest b s' ⟨_, rfl, i, ez⟩
    have lt : i < (us.toList.zip ws.toList).length := by
      by_cases h : i < (us.toList.zip ws.toList).length
      · exact h
      · rw [List.drop_of_length_le (by omega)] at ez
        cases ez
    have i1 : i < us.size := by omega
    have i2 : i < ws.size := by omega
    rw [List.drop_eq_getElem_cons lt] at ez
    obtain ⟨e1, e2⟩ := List.cons.inj ez
    have ey : y = us[i] := by simpa using congrArg Prod.fst e1
    have ex : x = ws[i] := by simpa using congrArg Prod.snd e1
    rw [ey, ex]
    refine wpAny_bind (he i i1 i2 _ _ ?_)
    wp_walk
    exact ⟨rfl, rfl, i + 1, e2⟩
  case fin =>
    rintro ⟨b1, b2⟩ s' ⟨e0, rfl, _⟩
    cases e0
    wp_walk
    simpa [Builtin.Tuple.tupleCompareSizes, hsz] using q
  case h => exact ⟨rfl, rfl, 0, rfl⟩
theorem rcP_tups {A : Around} {s : Shared} {l b : Addr} {us ws : Array Value} (hl : IsTup s.heap l us) (hb : IsTup s.heap b ws) (hsz : us.size = ws.size) (hu : A.units < cLine) (he : ∀ j (h1 : j < us.size) (h2 : j < ws.size), SeqAt.EqP prog w A.in1 s us[j] ws[j] true)
    (E Q : Value → Shared → Prop) (q : Q (.bool true) s) : wpAny (model prog w) A (richCompare .Eq (.ref l) (.ref b)) Q E s := by
  obtain ⟨⟨c1, d1, da1, sl1⟩, h1, e1, n, f1⟩ := id hl
  obtain ⟨⟨c2, d2, da2, sl2⟩, h2, e2, m, f2⟩ := id hb
  simp only at e1 f1 e2 f2
  subst e1 f1 e2 f2
  have ta : s.TypeIs (.ref l) "tuple" := ⟨_, h1, rfl⟩
  exact wpAny_richCompare_same_room (op := .Eq) ta ⟨_, h2, rfl⟩ F.slot_tuple_eq (call_meetsIn F.slot_tuple_eq ta F.entry_tuple_eq (F.args_tuple_eq_2 _ _) (tup_eqP l b us ws n m d1 d2 sl1 sl2 hsz) ⟨h1, h2, he, (fun x => nomatch x), q⟩) hu
end
def EqT (K : PySem.W.Frag) (H : Hp) (E : V → V → Prop) (x y : V) : Prop := ∃ a b xs ys, x = .ref a ∧ y = .ref b ∧ SqT K H a xs ∧ SqT K H b ys ∧ Paired E xs ys
/-- equal, of nesting below n -/
def EqW (K : PySem.W.Frag) (H : Hp) : Nat → V → V → Prop
  | 0 => fun _ _ => False
  | n + 1 => fun x y => (x = y ∧ flatB x = true) ∨ (∃ a, x = .ref a ∧ y = .ref a) ∨ EqR K H (EqW K H n) x y ∨ EqT K H (EqW K H n) x y
section
variable {X : Cx} {pins : List (Addr × Obj)} {σ : L2.St} {H : Hp} {s : Shared}
theorem eqT_run (I : Inv X pins σ H s) {A : Around} {F : V → V → Prop} (hu : A.units < cLine) (ih : ∀ x y v u, F x y → RelV x v → RelV y u → SeqAt.EqP X.prog X.w A.in1 s v u true) {x y : V} {v u : Value} (h : EqT X.K H F x y) (rx : RelV x v) (ry : RelV y u) (E Q : Value → Shared → Prop) (q : Q (.bool true) s) : wpAny (model X.prog X.w) A (richCompare .Eq v u) Q E s := by
  obtain ⟨a, b, xs, ys, rfl, rfl, ha, hb, hp⟩ := h
  cases rx
  cases ry
  obtain ⟨us, r1, p1, _⟩ := I.tuple ha
  obtain ⟨ws, r2, p2, _⟩ := I.tuple hb
  have hsz : us.toArray.size = ws.toArray.size := by rw [List.size_toArray, List.size_toArray, ← r1.length, ← r2.length, Paired.length hp]
  exact rcP_tups p1 p2 hsz hu (fun j h1 h2 => by simpa using items_run ih hp r1 r2 j (by simpa using h1) (by simpa using h2)) E Q q
theorem eqW_run (I : Inv X pins σ H s) : ∀ (n : Nat) (A : Around), A.units + n < cLine → ∀ (x y : V) (v u : Value), EqW X.K H n x y → RelV x v → RelV y u → SeqAt.EqP X.prog X.w A s v u true
  | 0, _, _, _, _, _, _, h, _, _ => h.elim
  | n + 1, A, hu, x, y, v, u, h, rx, ry => by
    have ih := eqW_run I n A.in1 (by show A.units + 1 + n < cLine; omega)
    have fin : ∀ {a b : Addr}, x = .ref a → y = .ref b → (∀ E Q, Q (.bool true) s → wpAny (model X.prog X.w) A (richCompare .Eq v u) Q E s) → SeqAt.EqP X.prog X.w A s v u true := fun {a b} e1 e2 st => by
      subst e1
      subst e2
      cases rx
      cases ry
      by_cases e : a = b
      · rw [e]
        exact (SeqAt.EqAt.same _).eqP
      · exact SeqAt.eqP_refs e st
    rcases h with ⟨rfl, f⟩ | ⟨a, rfl, rfl⟩ | h | h
    · exact (eqAt_same rx ry f).eqP
    · cases rx
      cases ry
      exact (SeqAt.EqAt.same _).eqP
    · have st := eqR_run I (A := A) (by omega) ih h rx ry
      rcases h with ⟨a, b, _, _, e1, e2, _⟩ | ⟨a, b, _, _, e1, e2, _⟩
      · exact fin e1 e2 st
      · exact fin e1 e2 st
    · have st := eqT_run I (A := A) (by omega) ih h rx ry
      obtain ⟨a, b, _, _, e1, e2, _⟩ := h
      exact fin e1 e2 st
end
/-- a list or a tuple against an empty one -/
def rEqE (K : PySem.W.Frag) : R2 := fun x y H Q => ∃ a b xs, x = .ref a ∧ y = .ref b ∧ ((SqL K H a xs ∧ SqL K H b []) ∨ (SqT K H a xs ∧ SqT K H b [])) ∧ Q (.bl xs.isEmpty) H
theorem op_eqE {X : Cx} (hu : X.A.units + 64 < cLine) : OpR X (compareOp .Eq) (rEqE X.K) := by
  intro pins s σ H x y v u Q I rx ry h
  obtain ⟨a, b, xs, rfl, rfl, h, q⟩ := h
  cases rx
  cases ry
  rcases h with ⟨ha, hb⟩ | ⟨ha, hb⟩
  · obtain ⟨us, r1, p1, _⟩ := I.list ha
    obtain ⟨ws, r2, p2, _⟩ := I.list hb
    cases r2
    have l1 := r1.length
    cases us with
    | nil =>
      obtain rfl := List.length_eq_zero_iff.mp l1
      exact SeqAt.eq_listAt (e := fun _ => true) p1.isList p2.isList rfl (by omega) (fun j h1 h2 => absurd h2 (Nat.not_lt_zero _)) ⟨.bl true, H, I, rfl, q⟩
    | cons c r =>
      have e : xs.isEmpty = false := by cases xs <;> simp_all
      rw [e] at q
      exact SeqAt.eq_list_lengthsAt p1.isList p2.isList (by simp) (by omega) ⟨.bl false, H, I, rfl, q⟩
  · obtain ⟨us, r1, p1, _⟩ := I.tuple ha
    obtain ⟨ws, r2, p2, _⟩ := I.tuple hb
    cases r2
    have l1 := r1.length
    refine SeqAt.eq_tupleAt (e := fun _ => true) p1 p2 (by omega) (fun j h1 h2 => absurd h2 (Nat.not_lt_zero _)) ⟨.bl xs.isEmpty, H, I, ?_, q⟩
    have e : ((List.range (min us.toArray.size ([] : List Value).toArray.size)).all fun _ => true) = true := List.all_eq_true.mpr fun _ _ => rfl
    rw [e]
    cases xs <;> cases us <;> simp_all [L2.RelV]
/-- a dict against an empty one -/
def rEqDE : R2 := fun x y H Q => ∃ a b ks, x = .ref a ∧ y = .ref b ∧ H a = some (.dK ks) ∧ H b = some (.dK []) ∧ Q (.bl ks.isEmpty) H
theorem op_eqDE {X : Cx} (hu : X.A.units < cLine) : OpR X (compareOp .Eq) rEqDE := by
  intro pins s σ H x y v u Q I rx ry h
  obtain ⟨a, b, ks, rfl, rfl, ha, hb, q⟩ := h
  cases rx
  cases ry
  obtain ⟨_, ya, va, ra, da⟩ := (show ObjOk X.prog X.w H s.heap a (.dK ks) from I.hok a _ ha)
  obtain ⟨_, yb, vb, rb, db⟩ := (show ObjOk X.prog X.w H s.heap b (.dK []) from I.hok b _ hb)
  have lb : vb.length = 0 := rb.length.symm
  have la := ra.length
  refine PySem.W.keq_eq (knd := mixKind X.prog X.w) (r := true) ya yb da db hu (fun e => ?_) ⟨.bl ks.isEmpty, H, I, ?_, q⟩
  · have z : va.length = 0 := by simpa [lb] using e
    obtain rfl := List.length_eq_zero_iff.mp z
    exact .nil
  · show Value.bool _ = Value.bool _
    rw [lb, ← la]
    cases ks <;> simp
/-- x == y by the joined rule, or two lists, tuples or dicts that are equal, or one that is empty -/
def rEqX (K : PySem.W.Frag) : R2 := fun x y H Q => rEqU K x y H Q ∨ (∃ n, n ≤ 60 ∧ (EqR K H (EqW K H n) x y ∨ EqT K H (EqW K H n) x y) ∧ Q (.bl true) H) ∨ rEqE K x y H Q ∨ rEqDE x y H Q
theorem u_eqX {X : Cx} (hu : X.A.units + 64 < cLine) : OpR X (compareOp .Eq) (rEqX X.K) := by
  intro pins s σ H x y v u Q I rx ry h
  rcases h with h | ⟨n, hn, h, q⟩ | h | h
  · exact u_eq hu pins s σ H x y v u Q I rx ry h
  · have ih := eqW_run I n X.A.in1 (by show X.A.units + 1 + n < cLine; omega)
    rcases h with h | h
    · exact eqR_run I (A := X.A) (by omega) ih h rx ry _ _ ⟨.bl true, H, I, rfl, q⟩
    · exact eqT_run I (A := X.A) (by omega) ih h rx ry _ _ ⟨.bl true, H, I, rfl, q⟩
  · exact op_eqE hu pins s σ H x y v u Q I rx ry h
  · exact op_eqDE (by omega) pins s σ H x y v u Q I rx ry h
theorem eqDE_go {K : PySem.W.Frag} {H : Hp} {Q : VK} {a b : Addr} {ks : List (L2.Key × V)} (ha : H a = some (.dK ks)) (hb : H b = some (.dK [])) (q : Q (.bl ks.isEmpty) H) : rEqX K (.ref a) (.ref b) H Q := .inr (.inr (.inr ⟨a, b, ks, rfl, rfl, ha, hb, q⟩))
theorem eqET_go {K : PySem.W.Frag} {H : Hp} {Q : VK} {a b : Addr} {xs : List V} (ha : SqT K H a xs) (hb : SqT K H b []) (q : Q (.bl xs.isEmpty) H) : rEqX K (.ref a) (.ref b) H Q := .inr (.inr (.inl ⟨a, b, xs, rfl, rfl, .inr ⟨ha, hb⟩, q⟩))
theorem eqEL_go {K : PySem.W.Frag} {H : Hp} {Q : VK} {a b : Addr} {xs : List V} (ha : SqL K H a xs) (hb : SqL K H b []) (q : Q (.bl xs.isEmpty) H) : rEqX K (.ref a) (.ref b) H Q := .inr (.inr (.inl ⟨a, b, xs, rfl, rfl, .inl ⟨ha, hb⟩, q⟩))
theorem eqX_no {K : PySem.W.Frag} {H : Hp} {Q : VK} {x y : V} (h : rEqU K x y H Q) : rEqX K x y H Q := .inl h
/-! ### a text over and over; min of a list; str.index -/
def rRepS : R2 := fun x y H Q => ∃ (z : Str) (k : Int), x = .str z ∧ y = .int k ∧ 2 ≤ k ∧ k ≤ 1000 ∧ 0 < z.length ∧ z.length ≤ 1000 ∧ Q (.str ⟨(List.replicate k.toNat z.cps).foldl (· ++ ·) #[]⟩) H
theorem fold_size (a : Array Nat) : ∀ (n : Nat) (acc : Array Nat), ((List.replicate n a).foldl (· ++ ·) acc).size = acc.size + n * a.size
  | 0, acc => by simp
  | n + 1, acc => by
    rw [List.replicate_succ, List.foldl_cons, fold_size a n, Array.size_append, Nat.succ_mul]
    omega
theorem op_repS {X : Cx} : OpR X (binaryOp .Mult) rRepS := by
  intro pins s σ H x y v u Q I rx ry h
  obtain ⟨z, k, rfl, rfl, h1, h2, h3, h4, q⟩ := h
  obtain ⟨t, rfl⟩ := rx
  obtain ⟨t', rfl⟩ := ry
  have a1 : (decide (k < -(2 ^ 63 : Int)) || decide (k ≥ 2 ^ 63)) = false := by
    rw [decide_eq_false (by omega), decide_eq_false (by omega)]
    rfl
  have n1 : (k == 1 || z.length == 0) = false := by
    have e1 : (k == 1) = false := by simp; omega
    have e2 : (z.length == 0) = false := by simp; omega
    rw [e1, e2]
    rfl
  have m1 : k.toNat ≤ 1000 := by omega
  have z1 : z.length * k.toNat ≤ 1000 * 1000 := Nat.mul_le_mul h4 m1
  refine PySem.P.mul_str a1 (fun _ _ => ?_) (fun _ _ => ?_) ?_
  · have h5 : (z.length : Int) ≤ (2 ^ 63 - 1) / k := Int.le_ediv_of_mul_le (by omega) (by
      have : (z.length : Int) * k ≤ 1000 * 1000 := Int.mul_le_mul (by omega) h2 (by omega) (by decide)
      omega)
    omega
  · have h5 : ¬ z.length * k.toNat > sizeLine := by
      have : (1000 * 1000 : Nat) ≤ sizeLine := by decide
      omega
    exact decide_eq_false h5
  · rw [if_neg (by omega), if_neg (by rw [n1]; exact Bool.false_ne_true)]
    refine ⟨?_, .str ⟨(List.replicate k.toNat z.cps).foldl (· ++ ·) #[]⟩, H, I.tok _, ⟨_, rfl⟩, q⟩
    show ((List.replicate k.toNat z.cps).foldl (· ++ ·) #[]).size ≤ sizeLine
    rw [fold_size]
    have z2 : k.toNat * z.cps.size ≤ 1000 * 1000 := by rw [Nat.mul_comm]; exact z1
    have : (1000 * 1000 : Nat) ≤ sizeLine := by decide
    show 0 + _ ≤ _
    omega
end Kb

/-! ### != of equal lists of lists and tuples, nested -/
namespace Kb
open PySem PySem.Spec PyProof.Rows L2
/-- equal lists and tuples, of nesting below n -/
def EqN (K : PySem.W.Frag) (H : Hp) : Nat → V → V → Prop
  | 0 => fun _ _ => False
  | n + 1 => fun x y => (x = y ∧ flatB x = true) ∨ (∃ a, x = .ref a ∧ y = .ref a) ∨ ∃ a b xs ys, x = .ref a ∧ y = .ref b ∧ ((SqL K H a xs ∧ SqL K H b ys) ∨ (SqT K H a xs ∧ SqT K H b ys)) ∧ Paired (EqN K H n) xs ys
theorem itemsAt_run {A : Around} {s : Shared} {F : V → V → Prop} (ih : ∀ x y v u, F x y → RelV x v → RelV y u → SeqAt.EqAt A s v u true) {xs ys : List V} (hp : Paired F xs ys) :
    ∀ {us ws : List Value}, Vals xs us → Vals ys ws → ∀ j (h1 : j < us.length) (h2 : j < ws.length), SeqAt.EqAt A s us[j] ws[j] true := by
  induction hp with
  | nil =>
    intro us ws r1 r2 j h1 h2
    cases r1
    exact absurd h1 (Nat.not_lt_zero j)
  | cons h _ k =>
    intro us ws r1 r2 j h1 h2
    cases r1 with
    | cons a1 b1 =>
      cases r2 with
      | cons a2 b2 =>
        cases j with
        | zero => exact ih _ _ _ _ h a1 a2
        | succ j => exact k b1 b2 j (Nat.lt_of_succ_lt_succ h1) (Nat.lt_of_succ_lt_succ h2)
section
variable {X : Cx} {pins : List (Addr × Obj)} {σ : L2.St} {H : Hp} {s : Shared}
theorem eqN_run (I : Inv X pins σ H s) : ∀ (n : Nat) (A : Around), A.units + n < cLine → ∀ (x y : V) (v u : Value), EqN X.K H n x y → RelV x v → RelV y u → SeqAt.EqAt A s v u true
  | 0, _, _, _, _, _, _, h, _, _ => h.elim
  | n + 1, A, hu, x, y, v, u, h, rx, ry => by
    have ih := eqN_run I n A.in1 (by show A.units + 1 + n < cLine; omega)
    rcases h with ⟨rfl, f⟩ | ⟨a, rfl, rfl⟩ | ⟨a, b, xs, ys, rfl, rfl, h, hp⟩
    · exact eqAt_same rx ry f
    · cases rx
      cases ry
      exact SeqAt.EqAt.same _
    · cases rx
      cases ry
      by_cases e : a = b
      · rw [e]
        exact SeqAt.EqAt.same _
      · refine SeqAt.EqAt.of_refs e ?_
        rcases h with ⟨ha, hb⟩ | ⟨ha, hb⟩
        · obtain ⟨us, r1, p1, _⟩ := I.list ha
          obtain ⟨ws, r2, p2, _⟩ := I.list hb
          have hsz : us.toArray.size = ws.toArray.size := by rw [List.size_toArray, List.size_toArray, ← r1.length, ← r2.length, Paired.length hp]
          have q := SeqAt.RcAt.lists (e := fun _ => true) p1.isList p2.isList hsz (A := A) (s := s) (by omega) (fun j h1 h2 => by simpa using itemsAt_run ih hp r1 r2 j (by simpa using h1) (by simpa using h2))
          rwa [show ((List.range us.toArray.size).all fun _ => true) = true from List.all_eq_true.mpr fun _ _ => rfl] at q
        · obtain ⟨us, r1, p1, _⟩ := I.tuple ha
          obtain ⟨ws, r2, p2, _⟩ := I.tuple hb
          have hsz : us.toArray.size = ws.toArray.size := by rw [List.size_toArray, List.size_toArray, ← r1.length, ← r2.length, Paired.length hp]
          have q := SeqAt.RcAt.tuples (e := fun _ => true) p1 p2 (A := A) (s := s) (by omega) (fun j h1 h2 => by simpa using itemsAt_run ih hp r1 r2 j (by simpa using h1) (by simpa using h2))
          rwa [show ((List.range (min us.toArray.size ws.toArray.size)).all (fun _ => true) && us.toArray.size == ws.toArray.size) = true from by
            rw [Bool.and_eq_true]
            exact ⟨List.all_eq_true.mpr fun _ _ => rfl, by rw [hsz]; simp⟩] at q
/-- x != y by the joined rule, or two lists that are equal -/
def rNeX (K : PySem.W.Frag) : R2 := fun x y H Q => rNeU K x y H Q ∨ (∃ n a b xs ys, n ≤ 60 ∧ x = .ref a ∧ y = .ref b ∧ SqL K H a xs ∧ SqL K H b ys ∧ Paired (EqN K H n) xs ys ∧ Q (.bl false) H) ∨ ∃ a b xs, x = .ref a ∧ y = .ref b ∧ SqL K H a xs ∧ SqL K H b [] ∧ Q (.bl (!xs.isEmpty)) H
theorem u_neX {X : Cx} (hu : X.A.units + 64 < cLine) : OpR X (compareOp .NotEq) (rNeX X.K) := by
  intro pins s σ H x y v u Q I rx ry h
  rcases h with h | ⟨n, a, b, xs, ys, hn, rfl, rfl, ha, hb, hp, q⟩ | ⟨a, b, xs, rfl, rfl, ha, hb, q⟩
  · exact u_ne hu pins s σ H x y v u Q I rx ry h
  · cases rx
    cases ry
    have ih := eqN_run I n X.A.in1 (by show X.A.units + 1 + n < cLine; omega)
    obtain ⟨us, r1, p1, _⟩ := I.list ha
    obtain ⟨ws, r2, p2, _⟩ := I.list hb
    have hsz : us.toArray.size = ws.toArray.size := by rw [List.size_toArray, List.size_toArray, ← r1.length, ← r2.length, Paired.length hp]
    have k := SeqAt.RcNeAt.lists (e := fun _ => true) p1.isList p2.isList hsz (A := X.A) (s := s) (by omega) (fun j h1 h2 => by simpa using itemsAt_run ih hp r1 r2 j (by simpa using h1) (by simpa using h2))
    rw [show ((List.range us.toArray.size).all fun _ => true) = true from List.all_eq_true.mpr fun _ _ => rfl] at k
    exact k _ _ _ _ ⟨.bl false, H, I, rfl, q⟩
  · cases rx
    cases ry
    obtain ⟨us, r1, p1, _⟩ := I.list ha
    obtain ⟨ws, r2, p2, _⟩ := I.list hb
    cases r2
    have l1 := r1.length
    cases us with
    | nil =>
      obtain rfl := List.length_eq_zero_iff.mp l1
      have k := SeqAt.RcNeAt.lists (e := fun _ => true) p1.isList p2.isList rfl (A := X.A) (s := s) (by omega) (fun j h1 h2 => absurd h2 (Nat.not_lt_zero _))
      exact k _ _ _ _ ⟨.bl false, H, I, rfl, q⟩
    | cons c r =>
      have e : (!xs.isEmpty) = true := by cases xs <;> simp_all
      rw [e] at q
      exact SeqAt.RcNeAt.lists_lengths p1.isList p2.isList (by simp) (A := X.A) (s := s) (by omega) _ _ _ _ ⟨.bl true, H, I, rfl, q⟩
end
theorem neX_go {K : PySem.W.Frag} {H : Hp} {Q : VK} {n : Nat} {a b : Addr} {xs ys : List V} (hn : n ≤ 60) (ha : SqL K H a xs) (hb : SqL K H b ys) (h : Paired (EqN K H n) xs ys) (q : Q (.bl false) H) : rNeX K (.ref a) (.ref b) H Q := .inr (.inl ⟨n, a, b, xs, ys, hn, rfl, rfl, ha, hb, h, q⟩)
theorem neXE_go {K : PySem.W.Frag} {H : Hp} {Q : VK} {a b : Addr} {xs : List V} (ha : SqL K H a xs) (hb : SqL K H b []) (q : Q (.bl (!xs.isEmpty)) H) : rNeX K (.ref a) (.ref b) H Q := .inr (.inr ⟨a, b, xs, rfl, rfl, ha, hb, q⟩)
end Kb

/-! ### own classes whose __init__ has keyword-only parameters -/
namespace Kb
open PySem PySem.Spec PyProof.Rows L2
def DefK (K : PySem.W.Frag) (C : Addr) (st : Stmt) (qual : Str) (kwd : List (Str × V)) : Prop := ∃ f fd, Meth K C "__init__" f ∧ FunD K "__init__" qual (defArgs st) (defBody st) (defScope st) [] kwd f fd
structure CalK (P : Program) (w : World) (K : PySem.W.Frag) (mg : Str → Option Value) (base : Heap) (CX : CXT) (k : Nat) (C : Addr) (st : Stmt) (qual : Str) (kwd : List (Str × V)) (ps : List Str) (sp : Sp) : Prop where
  ex : ∃ f fd, Meth K C "__init__" f ∧ FnOk P w K mg base CX k f fd ps sp ∧ FunD K "__init__" qual (defArgs st) (defBody st) (defScope st) [] kwd f fd
theorem CalK.of {P : Program} {w : World} {K : PySem.W.Frag} {mg : Str → Option Value} {base : Heap} {C : Addr} {qual : Str} {st : Stmt} {kwd : List (Str × V)} {N ps : List Str} {k : Nat} {sp : Sp} (D : DefK K C st qual kwd) (S : FnScope N ps (defScope st)) (len : ∀ vs H Q E, sp vs H Q E → vs.length = ps.length)
    (hbody : ∀ (f : Addr) (cdv : Value) (A : Around) (outer : List Env) (s : Shared) (H : Hp) (vs : List V) (Q : VK) (E : XK), Room k (A.deeper (envOfC qual (defScope st) s.heap.objs.size f cdv)) → sp vs H Q E →
      ∃ t, PSs (cxOf CX0 P w K mg base N qual (defScope st) f cdv A outer s H E).nox (defBody st) t ∧ t { nx := fun _ H' => Q .non H', rt := Q } (start N vs) H) : CalK P w K mg base CX0 (k + 1) C st qual kwd ps sp := by
  obtain ⟨f, fd, hm, F⟩ := D
  exact ⟨f, fd, hm, F.ok S len fun cdv A outer s H vs Q E hr h => let ⟨t, h1, h2⟩ := hbody f cdv A outer s H vs Q E hr h; ⟨t, h1.nox, h2⟩, F⟩
/-- how a call with n things by place and some by name (ks) binds, ms being those that lack -/
def PutsK (st : Stmt) (qual : Str) (ps : List Str) (n : Nat) (ks : List Str) (ms : List (Str × V)) (g : {α : Type} → List α → List α → List α → List α) : Prop :=
  ∀ (D : Addr) (doc pm : Value) (an : Option Addr) (cdv ct : Value) (us mv ws : List Value), us.length = n → mv.length = ms.length → ws.length = ks.length →
    KwChain D ((ms.map (·.1)).zip mv) (bindArgs (PySem.W.fnOf "__init__" qual (defArgs st) (defBody st) (defScope st) .none (.ref D) doc pm an cdv ct) ⟨us, ks.zip ws⟩) (ps.zip (g us mv ws))
section
variable {X : Cx} {CX : CXT} {k n : Nat} {C : Addr} {st : Stmt} {qual : Str} {kwd ms : List (Str × V)} {ps ks : List Str} {sp : Sp} {E : XK} {x : Str} {p pos : Pos} {e : Expr} {es : List Expr} {kws : List Keyword} {t tk : TA}
theorem pe_makeKO (ms : List (Str × V)) (g : {α : Type} → List α → List α → List α → List α) (hmk : PySem.W.makesIn X.K C = true) (hkc : PySem.W.keepIn X.K (.ref C) = true) (M : CalK X.prog X.w X.K X.mg X.base CX k C st qual kwd ps sp) (hd : kwd ≠ []) (hms : ∀ q ∈ ms, q ∈ kwd) (hrel : Keeps3 g) (hp : PutsK st qual ps (n + 1) ks ms g)
    (hr : Room (k + 1) X.A) (hg : Gl X x) (hm : X.mg x = some (.ref C)) (hx : Passes CX X E) (ha : PA X (e :: es) t) (hkw : PK X kws tk) (hall : (backToKw pos (keywordEach kws X.env)).all (·.1.isSome) = true := by rfl) (hks : (backToKw pos (keywordEach kws X.env)).filterMap (·.1) = ks := by rfl)
    (hdb : (x == ("__debug__" : Str)) = false := by decide) (he : starEach (e :: es) X.env = (false, eval e X.env) :: starEach es X.env := by rfl) (hpl : ((backTo pos (starEach (e :: es) X.env)).any (·.1) || (backToKw pos (keywordEach kws X.env)).any (·.1.isNone)) = false := by rfl) :
    PE X (.Call (.Name x p) (e :: es) kws pos) (tMakeK C n ks.length sp (fun vs zs => g vs (ms.map (·.2)) zs) E t tk) := by
  obtain ⟨f, fd, me, F, D⟩ := M.ex
  obtain ⟨mv, hb⟩ := FunD.kbinds0 (ps := ps) D (n + 1) ks ms g hd hms hrel hp
  exact pe_makeK ⟨hmk, me.at_, me.fn, hkc⟩ F hr hg hm hb hx ha hkw hall hks hdb he hpl
theorem pe_makeKO0 (ms : List (Str × V)) (g : {α : Type} → List α → List α → List α → List α) (hmk : PySem.W.makesIn X.K C = true) (hkc : PySem.W.keepIn X.K (.ref C) = true) (M : CalK X.prog X.w X.K X.mg X.base CX k C st qual kwd ps sp) (hd : kwd ≠ []) (hms : ∀ q ∈ ms, q ∈ kwd) (hrel : Keeps3 g) (hp : PutsK st qual ps 1 ks ms g)
    (hr : Room (k + 1) X.A) (hg : Gl X x) (hm : X.mg x = some (.ref C)) (hx : Passes CX X E) (hkw : PK X kws tk) (hall : (backToKw pos (keywordEach kws X.env)).all (·.1.isSome) = true := by rfl) (hks : (backToKw pos (keywordEach kws X.env)).filterMap (·.1) = ks := by rfl)
    (hdb : (x == ("__debug__" : Str)) = false := by decide) (hpl : ((backTo pos (starEach [] X.env)).any (·.1) || (backToKw pos (keywordEach kws X.env)).any (·.1.isNone)) = false := by rfl) :
    PE X (.Call (.Name x p) [] kws pos) (tMakeK C 0 ks.length sp (fun vs zs => g vs (ms.map (·.2)) zs) E tNil tk) := by
  obtain ⟨f, fd, me, F, D⟩ := M.ex
  obtain ⟨mv, hb⟩ := FunD.kbinds0 (ps := ps) D 1 ks ms g hd hms hrel hp
  exact pe_makeK0 ⟨hmk, me.at_, me.fn, hkc⟩ F hr hg hm hb hx hkw hall hks hdb hpl
end
end Kb

/-! ### a list or a tuple: enumerate(x), x[i:j], its length; a list's items into names -/
namespace Kb
open PySem PySem.Spec PyProof.Rows L2
section
variable {X : Cx} {pins : List (Addr × Obj)} {σ : L2.St} {H : Hp} {s : Shared} {a : Addr} {S : Hp → List V → Prop} {Ar : Heap → Array Value → Prop} {At : Heap → Addr → Nat → Prop} {ob : Obj}
@[irreducible] def iEnumV (K : PySem.W.Frag) (te : TE) : TI := fun σ H R => te σ H fun x H1 => ∃ a, x = .ref a ∧ ((∃ xs, SqL K H1 a xs ∧ R (ItS (fun H ys => SqL K H a ys) 0) H1) ∨ ∃ xs, SqT K H1 a xs ∧ R (ItS (fun H ys => SqT K H a ys) 0) H1)
theorem pi_enumV {e : Expr} {te : TE} {p pos tpos : Pos} {elts : List Expr} {kk : Nat} (hg : Gl X "enumerate") (hm : X.mg "enumerate" = none) (he : PE X e te)
    (hs : starEach [e] X.env = (false, eval e X.env) :: starEach [] X.env := by rfl) : PI X (.Tuple elts kk tpos) (.Call (.Name "enumerate" p) [e] [] pos) (iEnumV X.K te) := by
  unfold iEnumV
  refine ⟨fun pins s σ H R I h => ?_⟩
  refine wpAny_Call_Name_kw (ld_blt I hg hm boot_enumerate (PyProof.Rows.callWith_type1 ?_ hs rfl))
  rw [hs]
  refine Calls.spliced_cons (thn (he.run pins s σ H _ I h) fun u s1 ⟨x, H1, I1, rx, a, ex, q⟩ => Calls.spliced_nil ?_)
  subst ex
  obtain rfl : u = Value.ref a := rx
  rcases q with ⟨xs, hx, hR⟩ | ⟨xs, hx, hR⟩
  · have sr := src_list X.K a
    obtain ⟨its, rv, hA⟩ := sr.get rfl I1 hx
    obtain ⟨oa, hoa⟩ := sr.lives hA
    have hlt := Heap.lt_size hoa
    refine enum0_begins (sr.begin its.toArray) hA fun h' hen hit hsz hk => wpAny_pyIter_enum hen ?_
    have I2 : Inv X pins σ H1 { s1 with heap := h' } := I1.kept (t' := s1.toks) hk
    exact ⟨s1.heap.objs.size + 1, [s1.heap.objs.size + 1, s1.heap.objs.size], _, _, H1, rfl, I2, turn_enumS sr 0 (s1.heap.objs.size + 1) s1.heap.objs.size (Nat.ne_of_lt hlt) (Nat.succ_ne_self _) (Nat.ne_of_gt (Nat.lt_succ_of_lt hlt)), ⟨⟨.none, by simpa using hen⟩, sr.first hit⟩, (fun b hb => by
      have hle : s1.heap.objs.size ≤ b := by
        rcases List.mem_cons.mp hb with z | z
        · rw [z]; exact Nat.le_succ _
        · rw [List.mem_singleton.mp z]; exact Nat.le_refl _
      exact I1.fpOk hle (I1.hok.fresh hle)), hR⟩
  · have sr := src_tup X.K a
    obtain ⟨its, rv, hA⟩ := sr.get rfl I1 hx
    obtain ⟨oa, hoa⟩ := sr.lives hA
    have hlt := Heap.lt_size hoa
    refine enum0_begins (sr.begin its.toArray) hA fun h' hen hit hsz hk => wpAny_pyIter_enum hen ?_
    have I2 : Inv X pins σ H1 { s1 with heap := h' } := I1.kept (t' := s1.toks) hk
    exact ⟨s1.heap.objs.size + 1, [s1.heap.objs.size + 1, s1.heap.objs.size], _, _, H1, rfl, I2, turn_enumS sr 0 (s1.heap.objs.size + 1) s1.heap.objs.size (Nat.ne_of_lt hlt) (Nat.succ_ne_self _) (Nat.ne_of_gt (Nat.lt_succ_of_lt hlt)), ⟨⟨.none, by simpa using hen⟩, sr.first hit⟩, (fun b hb => by
      have hle : s1.heap.objs.size ≤ b := by
        rcases List.mem_cons.mp hb with z | z
        · rw [z]; exact Nat.le_succ _
        · rw [List.mem_singleton.mp z]; exact Nat.le_refl _
      exact I1.fpOk hle (I1.hok.fresh hle)), hR⟩
end
/-- x[i:j] of a list or a tuple -/
@[irreducible] def rSlV (K : PySem.W.Frag) : V → Option Int → Option Int → Hp → VK → Prop := fun x lo hi H Q => rSlLU K x lo hi H Q ∨ rSlA K x lo hi H Q
theorem Walk.cast {J : It} {n : Nat} {G G' : Hp → Prop} {Y : Nat → Hp → V → Hp → Prop} (w : Walk J n G Y) (h : ∀ H, G' H → G H) : Walk J n G' Y := w.mono h fun _ _ _ _ _ _ y => y
end Kb
/-! ### a tuple once, or not at all -/
namespace Kb
open PySem PySem.Spec PyProof.Rows L2
theorem tuple_mul1 (l : Addr) (items : Array Value) (n : Nat) (dd : Option Addr) (sl : Array (Option Value)) (u : Tok) :
    Meets (Builtin.«tuple.__mul__» ⟨[.ref l, .int 1 u], []⟩) (fun _ R s => s.heap.get? l = some { cls := .type "tuple", dict := dd, data := .seq items n, slots := sl } ∧ R (.ok (.ret (Value.ref l))) s) :=
  .of_wp fun prog w A R s h => by
    obtain ⟨hp, g, d, tk, os⟩ := s
    obtain ⟨hl, h⟩ := h
    have f1 := AutoSeq1.idx_int
    have c0 : (decide ((1 : Int) < -(2 ^ 63)) || decide ((1 : Int) ≥ 2 ^ 63)) = false := by decide +kernel
    have c1 : (items.isEmpty || (1 : Int) == 1) = true := by simp
    wp_walk using wpAny_loadPart' hl
    repeat (first
      | (refine wpAny_ite_false (decide_eq_false (by rw [c0]; exact Bool.false_ne_true)) ?_; wp_walk using wpAny_loadPart' hl)
      | (refine wpAny_ite_true (decide_eq_true c1) ?_; wp_walk using wpAny_loadPart' hl))
    exact ⟨_, rfl, h⟩
theorem tuple_mul0 (l : Addr) (items : Array Value) (n : Nat) (dd : Option Addr) (sl : Array (Option Value)) (u : Tok) (c1 : items.isEmpty = false) :
    Meets (Builtin.«tuple.__mul__» ⟨[.ref l, .int 0 u], []⟩) (fun _ R s => s.heap.get? l = some { cls := .type "tuple", dict := dd, data := .seq items n, slots := sl } ∧
      R (.ok (.ret (Value.ref s.heap.objs.size))) { s with heap := s.heap.push { cls := Value.type "tuple", data := Data.seq #[] }, toks := s.toks }) :=
  .of_wp fun prog w A R s h => by
    obtain ⟨hp, g, d, tk, os⟩ := s
    obtain ⟨hl, h⟩ := h
    have f1 := AutoSeq1.idx_int
    have c0 : (decide ((0 : Int) < -(2 ^ 63)) || decide ((0 : Int) ≥ 2 ^ 63)) = false := by decide +kernel
    have c2 : (items.isEmpty || (0 : Int) == 1) = false := by rw [c1]; rfl
    have c3 : (decide ((0 : Int) ≤ 0) || items.isEmpty) = true := by simp
    wp_walk using wpAny_loadPart' hl
    repeat (first
      | (refine wpAny_ite_false (decide_eq_false (by rw [c0]; exact Bool.false_ne_true)) ?_; wp_walk using wpAny_loadPart' hl)
      | (refine wpAny_ite_false (decide_eq_false (by rw [c2]; exact Bool.false_ne_true)) ?_; wp_walk using wpAny_loadPart' hl)
      | (refine wpAny_ite_true (decide_eq_true c3) ?_; wp_walk using wpAny_loadPart' hl))
    exact ⟨_, rfl, h⟩
def rRepZ (K : PySem.W.Frag) : R2 := fun x y H Q => ∃ l xs, ∃ b : Bool, x = .ref l ∧ y = .int (if b then 1 else 0) ∧ SqT K H l xs ∧ xs ≠ [] ∧ (b = true → Q (.ref l) H) ∧ (b = false → ∀ p, H p = none → Q (.ref p) (upd H p (.tup [])))
section
variable {X : Cx}
theorem op_repZ : OpR X (binaryOp .Mult) (rRepZ X.K) := by
  intro pins s σ H x y v u Q I rx ry h
  obtain ⟨l, xs, b, rfl, rfl, hT, hne, q1, q0⟩ := h
  cases rx
  obtain ⟨t, rfl⟩ := ry
  obtain ⟨its, r, ⟨⟨cls, dd, data, sl⟩, ho, hc, n, hd⟩, hs⟩ := I.tuple hT
  simp only at hc hd
  subst hc hd
  have hle : its.length = xs.length := r.length.symm
  have hn : its ≠ [] := fun e => hne (by
    rw [e] at hle
    exact List.eq_nil_of_length_eq_zero hle.symm)
  have hi : its.toArray.isEmpty = false := by
    cases its with
    | nil => exact absurd rfl hn
    | cons a b => rfl
  cases b with
  | true =>
    exact wpAny_binaryOp_repeat_ref (T := "tuple") (U := "int") (by decide) ⟨_, ho, rfl⟩ (fun s' => typeIs_int s' 1 t) noFill_tuple_mul F.fills_int_mul F.slot_int_rmul repeat_tuple F.slot_int_index.lookup
      (call_meets F.slot_int_rmul (typeIs_int s 1 t) F.entry_int_rmul (F.args_int_rmul_2 _ _) (int_rmul_tuple 1 t l its.toArray n dd sl)
        ⟨ho, rfl, ⟨_, ho, rfl⟩, call_meets F.slot_tuple_mul ⟨_, ho, rfl⟩ F.entry_tuple_mul (F.args_tuple_mul_2 _ _) (tuple_mul1 l its.toArray n dd sl t) ⟨ho, ⟨.ref l, H, I, rfl, q1 rfl⟩⟩⟩)
  | false =>
    refine wpAny_binaryOp_repeat_ref (T := "tuple") (U := "int") (by decide) ⟨_, ho, rfl⟩ (fun s' => typeIs_int s' 0 t) noFill_tuple_mul F.fills_int_mul F.slot_int_rmul repeat_tuple F.slot_int_index.lookup
      (call_meets F.slot_int_rmul (typeIs_int s 0 t) F.entry_int_rmul (F.args_int_rmul_2 _ _) (int_rmul_tuple 0 t l its.toArray n dd sl)
        ⟨ho, rfl, ⟨_, ho, rfl⟩, call_meets F.slot_tuple_mul ⟨_, ho, rfl⟩ F.entry_tuple_mul (F.args_tuple_mul_2 _ _) (tuple_mul0 l its.toArray n dd sl t hi) ⟨ho, ?_⟩⟩)
    refine ⟨.ref s.heap.objs.size, _, I.laid (t' := s.toks) (o := .tup []) (fun b ob q => Heap.get?_push_of_some _ q) (Nat.le_refl _) ?_, rfl, q0 rfl _ (I.hok.fresh (Nat.le_refl _))⟩
    exact ⟨by decide, [], .nil, IsTup.new _ _⟩
end
end Kb
namespace Kb
open PySem PySem.Spec PyProof.Rows L2
theorem u_slV {X : Cx} : SlR X (rSlV X.K) := by unfold rSlV; exact u_slL.or sl_tupA
/-- times: the joined rule, or a text over and over -/
def rMulX (K : PySem.W.Frag) : R2 := fun x y H Q => rMulU K x y H Q ∨ rRepS x y H Q ∨ rRepZ K x y H Q
theorem u_mulX {X : Cx} : OpR X (binaryOp .Mult) (rMulX X.K) := u_mul.or (op_repS.or op_repZ)
theorem repZ_go {K : PySem.W.Frag} {H : Hp} {Q : VK} {a : Addr} {xs : List V} {b : Bool} (h : SqT K H a xs) (ne : xs ≠ []) (q1 : b = true → Q (.ref a) H) (q0 : b = false → ∀ p, H p = none → Q (.ref p) (upd H p (.tup []))) : rMulX K (.ref a) (.int (if b then 1 else 0)) H Q := .inr (.inr ⟨_, _, b, rfl, rfl, h, ne, q1, q0⟩)
abbrev rSIdx : V → List V → Hp → VK → Prop := fun x xs H Q => ∃ a b i rest, x = .str a ∧ xs = [.str b] ∧ Builtin.Str.occurrences a b 0 a.length 1 = i :: rest ∧ Q (.int (i : Nat)) H
/-! ### defs of the text with defaults -/
def DefF (K : PySem.W.Frag) (mg : Str → Option Value) (st : Stmt) (x : Str) (dvs : List V) : Prop := ∃ f fd, mg x = some (.ref f) ∧ FunD K x x (defArgs st) (defBody st) (defScope st) dvs [] f fd
structure CalDf (P : Program) (w : World) (K : PySem.W.Frag) (mg : Str → Option Value) (base : Heap) (CX : CXT) (k : Nat) (st : Stmt) (x : Str) (dvs : List V) (ps : List Str) (sp : Sp) : Prop where
  ex : ∃ f fd, mg x = some (.ref f) ∧ FnOk P w K mg base CX k f fd ps sp ∧ FunD K x x (defArgs st) (defBody st) (defScope st) dvs [] f fd
theorem CalDf.of {P : Program} {w : World} {K : PySem.W.Frag} {mg : Str → Option Value} {base : Heap} {x : Str} {st : Stmt} {dvs : List V} {N ps : List Str} {k : Nat} {sp : Sp} (D : DefF K mg st x dvs) (S : FnScope N ps (defScope st)) (len : ∀ vs H Q E, sp vs H Q E → vs.length = ps.length)
    (hbody : ∀ (f : Addr) (cdv : Value) (A : Around) (outer : List Env) (s : Shared) (H : Hp) (vs : List V) (Q : VK) (E : XK), Room k (A.deeper (envOfC x (defScope st) s.heap.objs.size f cdv)) → sp vs H Q E →
      ∃ t, PSs (cxOf CX0 P w K mg base N x (defScope st) f cdv A outer s H E).nox (defBody st) t ∧ t { nx := fun _ H' => Q .non H', rt := Q } (start N vs) H) : CalDf P w K mg base CX0 (k + 1) st x dvs ps sp := by
  obtain ⟨f, fd, hm, F⟩ := D
  exact ⟨f, fd, hm, F.ok S len fun cdv A outer s H vs Q E hr h => let ⟨t, h1, h2⟩ := hbody f cdv A outer s H vs Q E hr h; ⟨t, h1.nox, h2⟩, F⟩
section
variable {X : Cx} {CX : CXT} {k : Nat} {st : Stmt} {dvs : List V} {x : Str} {ps : List Str} {sp : Sp} {E : XK} {e : Expr} {es : List Expr} {t : TA} {p pos : Pos}
/-- a call that leaves the defaults behind the first j -/
theorem pe_callDf (n j : Nat) (C : CalDf X.prog X.w X.K X.mg X.base CX k st x dvs ps sp) (hd : dvs ≠ []) (hn : n + (dvs.length - j) = ps.length)
    (h : ∀ (T : Addr) (kV doc pm : Value) (an : Option Addr) (cdv ct : Value) (us its : List Value), us.length = n → its.length = dvs.length →
      ∃ k, bindArgs (PySem.W.fnOf x x (defArgs st) (defBody st) (defScope st) (.ref T) kV doc pm an cdv ct) ⟨us, []⟩ = seqItems? (.ref T) >>= k ∧ k (some its.toArray) = pure (ps.zip (us ++ its.drop j)))
    (hr : Room k X.A) (hg : Gl X x) (hx : Passes CX X E) (ha : PA X (e :: es) t) (hdb : (x == ("__debug__" : Str)) = false := by decide) (he : starEach (e :: es) X.env = (false, eval e X.env) :: starEach es X.env := by rfl) (hpl : (backTo pos (starEach es X.env)).any (·.1) = false := by rfl) :
    PE X (.Call (.Name x p) (e :: es) [] pos) (tCall sp (dvs.drop j) E t) := by
  obtain ⟨f, fd, hm, F, D⟩ := C.ex
  obtain ⟨ds, hv, hb⟩ := FunD.binds1 (ps := ps) D n j hd hn h
  exact pe_call F hr hg hm D.kp hb hv hx ha hdb he hpl
end
end Kb

/-! ### a lambda of one thing that captures names, handed to a def of two -/
namespace Kb
open PySem PySem.Spec PyProof.Rows L2
open LamX (CodeO Tabs ExtN TabB lam_make2)
open NdefX (NF NScope CellsAt Caps startF envF ncx slotAt cells_of inv_startN)
section
variable {X : Cx} {pins : List (Addr × Obj)} {σ : L2.St} {H HZ : Hp} {s s1 : Shared}
/-- a slot's name is read, the state stays -/
theorem ld_slot {E : Value → Shared → Prop} {Q : Value → Shared → Prop} {i : Nat} {x : Str} {v : V} {pos : Pos} (I : Inv X pins σ H s) (hN : X.N[i]? = some x) (hv : Vis X.env.scope x) (e : σ[i]? = some (some v)) (h : ∀ u, RelV v u → Q u s)
    (d1 : (x == ("__debug__" : Str)) = false) (d2 : (x == ("__classdict__" : Str)) = false) : wpAny (model X.prog X.w) X.A (eval (.Name x pos) X.env) Q E s := by
  obtain ⟨_, ns, at_⟩ := I.loc
  obtain ⟨u, r, l⟩ := at_ i x v hN e hv
  have q := h u r
  rcases l with ⟨k, m⟩ | ⟨k | k, c, hc, cell⟩
  · exact wpAny_Name (wpAny_loadName_local I.ok.kind k ns m q) d1
  · exact wpAny_Name (wpAny_loadName_cell I.ok.kind k hc cell q) d1
  · exact wpAny_Name (wpAny_loadName_free I.ok.kind k hc cell q d2) d1
theorem cells_move {cl : List (Str × Addr)} {fr : List Str} {ws : List (Option V)} {fs : List Addr} {h h' : Heap} {G G' : Hp} (C : CellsAt cl fr ws h G) (un : Un fs [] G G' h h') : CellsAt cl fr ws h' G' := by
  have kp : ∀ c v, G c = none → h.IsCell c v → h'.IsCell c v := fun c v n ⟨o, ho, hd⟩ => by
    obtain ⟨sl, q⟩ := un.any ho n (by simp)
    exact ⟨_, q, hd⟩
  refine ⟨C.len, fun y c e => ?_, C.inj, fun i y e => ?_⟩
  · obtain ⟨n, v, o, ho, hd⟩ := C.all y c e
    exact ⟨un.free c o ho n (by simp), v, kp c v n ⟨o, ho, hd⟩⟩
  · obtain ⟨c, hc, g⟩ := C.has i y e
    refine ⟨c, hc, fun v ev => ?_⟩
    obtain ⟨u, r, z⟩ := g v ev
    exact ⟨u, r, kp c _ (C.all y c hc).1 z⟩
abbrev lamF (X : Cx) (params : Arguments) (scope : Scope) (c' : Addr) : NF := ⟨"<lambda>", X.env.qual ++ "<lambda>", params, [], scope, cloFrom X.env.cells scope.names [], c'⟩
/-- a(b) in the def that got the lambda a and b -/
theorem pe_act1 {CXg : CXT} {Eg : XK} {Ng N fr : List Str} {js : List Nat} {qg pa : Str} {sg : Scope} {g f c' : Addr} {cdg pm ctv : Value} {params : Arguments} {body : Expr} {scope : Scope} {k : Nat} {a b : Str} {pn : List (Addr × Obj)} {xe : Value → Shared → Prop} {E : L2.St → XK} {tb : XK → TE} {p1 p2 p3 : Pos}
    (I : Inv X pins σ H s) (hf : s.heap.get? f = some (PySem.W.kla_obj "<lambda>" (X.env.qual ++ "<lambda>") params body scope (cloFrom X.env.cells scope.names []) pm c' ctv)) (hfn : H f = none) (hfr : f ∉ frs X.stack)
    (S : NScope N [pa] fr scope) (cp : Caps X (cloFrom X.env.cells scope.names []) fr js) (hb : ∀ u, bindArgs (PySem.W.kla_fn "<lambda>" (X.env.qual ++ "<lambda>") params body scope (cloFrom X.env.cells scope.names []) pm (.ref c') ctv) ⟨[u], []⟩ = pure [(pa, u)])
    (hx : ∀ σ, PassesAt (L2.CX X.prog X.w) ((cxOf CXg X.prog X.w X.K X.mg X.base Ng qg sg g cdg X.A X.stack s H Eg).tr pn xe) σ (E σ)) (hr : Room (k + 1) (X.A.deeper (envOfC qg sg s.heap.objs.size g cdg)))
    (hbody : ∀ (A : Around) (outer : List Env) (s : Shared) (H : Hp) (E : XK), Room k (A.deeper (envF (lamF X params scope c') f s.heap.objs.size)) → PE (ncx (L2.CX X.prog X.w) X.prog X.w X.K X.mg X.base N (lamF X params scope c') f A outer s H E) body (tb E))
    (na : Ng[0]? = some a) (va : Vis sg a) (nb : Ng[1]? = some b) (vb : Vis sg b) (da : (a == ("__debug__" : Str)) = false) (ca : (a == ("__classdict__" : Str)) = false) (db : (b == ("__debug__" : Str)) = false) (cb : (b == ("__classdict__" : Str)) = false) :
    PE ((cxOf CXg X.prog X.w X.K X.mg X.base Ng qg sg g cdg X.A X.stack s H Eg).tr pn xe) (.Call (.Name a p1) [.Name b p3] [] p2)
      (fun σZ HZ Q => σZ[0]? = some (some (.ref f)) ∧ ∃ v, σZ[1]? = some (some v) ∧ HZ c' = some (CodeO c' (X.env.qual ++ "<lambda>")) ∧ tb (E σZ) (startF N [v] (js.map (slotAt σ))) HZ Q) := by
  refine ⟨fun pinsZ sZ σZ HZ Q IZ h => ?_⟩
  obtain ⟨h0, v, h1, hc, ht⟩ := h
  refine wpAny_Call_Name_kw (ld_slot IZ na va h0 (fun u ru => ?_) da ca)
  obtain rfl : u = Value.ref f := ru
  have of : sZ.heap.get? f = some (PySem.W.kla_obj "<lambda>" (X.env.qual ++ "<lambda>") params body scope (cloFrom X.env.cells scope.names []) pm c' ctv) := IZ.base.keep f _ hf hfn hfr (fun z => nomatch (show f ∈ ([] : List Addr) from z))
  refine PySem.W.callWith_F (first := []) ⟨_, _, _, _, of⟩ ?_ (by rfl) (by rfl)
  refine Calls.spliced_cons (ld_slot IZ nb vb h1 (fun u ru => Calls.spliced_nil ⟨⟨_, _, _, _, of⟩, ?_⟩) db cb)
  show wpAny _ _ (call (.ref f) [u]) _ _ _
  have un : Un (frs X.stack) [] H HZ s.heap sZ.heap := IZ.base
  obtain ⟨⟨oc, cs, t, hoc, hdc, hvc⟩, _, _⟩ := IZ.hok c' _ hc
  have C := cells_move (cells_of I cp) un
  have rc : codeAny (model X.prog X.w) (X.A.deeper (envOfC qg sg s.heap.objs.size g cdg)) (.call (.ref f) ⟨[u], []⟩) (CR (L2.CX X.prog X.w) (envOfC qg sg s.heap.objs.size g cdg :: X.stack) X.prog X.w HZ sZ Q (E σZ)) sZ := by
    refine PySem.W.kla_callFunE hr.depth of rfl S.co S.gen rfl ⟨c', oc, cs, t, rfl, hoc, hdc, hvc⟩ ?_
    rw [hb u]
    refine wpAny_pure (wpAny_newFunctionEnv S.nocell (fun y hy => ?_) (fun h₁ hns hsb => ⟨IZ.nolimit.fresh _ hsb, ?_⟩) S.kind)
    · rw [List.mem_singleton.mp hy]
      exact S.par pa List.mem_cons_self
    · show codeAny _ _ (.expr body (envF (lamF X params scope c') f sZ.heap.objs.size)) _ _
      have kp : ∀ b o, sZ.heap.get? b = some o → h₁.get? b = some o := fun b o e => hsb.extBut b o (Nat.ne_of_lt (Heap.lt_size e)) (Heap.get?_push_of_some _ e)
      have J := inv_startN (CX := L2.CX X.prog X.w) (F := lamF X params scope c') (fr := fr) (N := N) (ws := js.map (slotAt σ)) (f := f) (E := E σZ) (tk := sZ.toks + [(pa, u)].length) S hr.hd IZ.env0 (show [v].length = [pa].length from rfl) (.cons ru .nil) C hns kp
      refine PySem.W.kla_codeExpr (wpAny_mono ((hbody _ _ sZ HZ (E σZ) (hr.deeper _)).run [] _ _ HZ Q J ht) (fun w s' z => ?_) fun _ _ z => z)
      obtain ⟨w', H', J', rw', q⟩ := z
      exact ⟨w', H', J'.os, J'.bare, J'.base, J'.hok, rw', q⟩
  refine wpAny_call (codeAny_mono rc fun r s' z => ?_)
  cases r with
  | error e => exact hx σZ pinsZ HZ sZ e s' IZ z
  | ok fl =>
    cases fl with
    | ret w => exact IZ.after z
    | next => exact z.elim
    | brk => exact z.elim
    | cont => exact z.elim
end
/-- the def g that calls what it got, of what it got; TT: what it makes of the lambda's reading -/
def Gives2 (X : Cx) (Ng : List Str) (x : Str) (sg : Scope) (g : Addr) (cdg : Value) (bg : List Stmt) (a b : Str) (q : Str) (TT : (XK → V → Hp → VK → Prop) → V → Hp → VK → Prop) : Prop :=
  ∀ (f c' : Addr) (s : Shared) (H : Hp) (Q : VK) (v : V) (tl : XK → V → Hp → VK → Prop), (∃ k, Room k (X.A.deeper (envOfC x sg s.heap.objs.size g cdg))) →
    (∀ (pn : List (Addr × Obj)) (xe : Value → Shared → Prop) (E : L2.St → XK) (p1 p2 p3 : Pos), (∀ σ, PassesAt (L2.CX X.prog X.w) ((cxOf CX0 X.prog X.w X.K X.mg X.base Ng x sg g cdg X.A X.stack s H E0).tr pn xe) σ (E σ)) →
      PE ((cxOf CX0 X.prog X.w X.K X.mg X.base Ng x sg g cdg X.A X.stack s H E0).tr pn xe) (.Call (.Name a p1) [.Name b p3] [] p2) (fun σZ HZ Q => σZ[0]? = some (some (.ref f)) ∧ ∃ v, σZ[1]? = some (some v) ∧ HZ c' = some (CodeO c' q) ∧ tl (E σZ) v HZ Q)) →
    H c' = some (CodeO c' q) → TT tl v H Q → ∃ t, PSs (cxOf CX0 X.prog X.w X.K X.mg X.base Ng x sg g cdg X.A X.stack s H E0).nox bg t ∧ t { nx := fun _ H' => Q .non H', rt := Q } (L2.start Ng [.ref f, v]) H
def tLam2 (T : List (Addr × Str)) (TT : (XK → V → Hp → VK → Prop) → V → Hp → VK → Prop) (iy : Nat) (N : List Str) (js : List Nat) (t : XK → TE) : TE := fun σ H Q =>
  Tabs T H ∧ ∃ v, σ[iy]? = some (some v) ∧ ∀ H1, ExtN H H1 → Tabs T H1 → TT (fun E w H' Q' => t E (startF N [w] (js.map (slotAt σ))) H' Q') v H1 Q
section
variable {X : Cx}
theorem pe_lamcall2 {T : List (Addr × Str)} {TT : (XK → V → Hp → VK → Prop) → V → Hp → VK → Prop} {x a b y pa : Str} {g c P : Addr} {k iy : Nat} {pg : Arguments} {bg : List Stmt} {sg : Scope} {dV kV doc pm cdv ct oc : Value} {an od : Option Addr} {osl : Array (Option Value)} {Ng N fr : List Str} {js : List Nat}
    {params : Arguments} {body : Expr} {scope : Scope} {t : XK → TE} {p lpos yp pos : Pos} (hg : Gl X x) (hm : X.mg x = some (.ref g)) (hk : PySem.W.keepIn X.K (.ref g) = true)
    (lk : X.K.lookup g = some ⟨oc, od, .func (PySem.W.fnOf x x pg bg sg dV kV doc pm an cdv ct), osl⟩) (hcg : PySem.W.codeIn X.K cdv x = true) (hb : L2.Binds X.K (PySem.W.fnOf x x pg bg sg dV kV doc pm an cdv ct) [a, b] []) (Sg : FnScope Ng [a, b] sg)
    (na : Ng[0]? = some a) (va : Vis sg a) (nb : Ng[1]? = some b) (vb : Vis sg b) (da : (a == ("__debug__" : Str)) = false) (ca : (a == ("__classdict__" : Str)) = false) (db : (b == ("__debug__" : Str)) = false) (cb : (b == ("__classdict__" : Str)) = false)
    (hG : Gives2 X Ng x sg g cdv bg a b (X.env.qual ++ "<lambda>") TT) (TB : TabB X.base X.mg c P) (hcode : X.env.code = .ref c) (hmT : (P, X.env.qual ++ "<lambda>") ∈ T) (hu : ∀ p ∈ T, p.1 = P → p.2 = X.env.qual ++ "<lambda>") (hr : Room (k + 2) X.A)
    (S : NScope N [pa] fr scope) (hfree : ∀ y ∈ scope.names, y.2 = .free → X.env.scope.names.lookup y.1 = some .cell ∨ X.env.scope.names.lookup y.1 = some .free) (hfr : ∀ y ∈ fr, (y, NameKind.free) ∈ scope.names) (hjs : js.map (fun j => X.N[j]?) = fr.map some)
    (hdef : defaultsOf params X.env = ([], [])) (hbind : ∀ (q : Str) (cl : List (Str × Addr)) (pm cv ctv u : Value), bindArgs (PySem.W.kla_fn "<lambda>" q params body scope cl pm cv ctv) ⟨[u], []⟩ = pure [(pa, u)])
    (hny : X.N[iy]? = some y) (hvy : Vis X.env.scope y) (dy : (y == ("__debug__" : Str)) = false) (cy : (y == ("__classdict__" : Str)) = false)
    (hbody : ∀ (A : Around) (outer : List Env) (s : Shared) (H : Hp) (E : XK) (f c' : Addr), Room k (A.deeper (envF (lamF X params scope c') f s.heap.objs.size)) → PE (ncx (L2.CX X.prog X.w) X.prog X.w X.K X.mg X.base N (lamF X params scope c') f A outer s H E) body (t E))
    (hdb : (x == ("__debug__" : Str)) = false := by decide) :
    PE X (.Call (.Name x p) [.Lambda params body scope lpos, .Name y yp] [] pos) (tLam2 T TT iy N js t) := by
  refine ⟨fun pins s σ H Q I h => ?_⟩
  obtain ⟨hT, v, hy, h⟩ := h
  have has : ∀ y ∈ scope.names, y.2 = .free → ∃ c, X.env.cells.lookup y.1 = some c := fun y m e => (hfree y m e).elim (fun z => I.ok.has _ (.inl z)) fun z => I.ok.has _ (.inr z)
  refine wpAny_Call_Name_kw (ld_glob I hg hm ?_ hdb)
  refine PySem.W.callWith_K (h₀ := X.base) I.ok.mod.kin hk ?_ (by rfl) (by rfl)
  refine Calls.spliced_cons (lam_make2 I TB hcode hmT hu hT hdef has fun f c' pm' ctv H1 s' I1 eN T1 hf hfn hfr' hco => ?_)
  refine Calls.spliced_cons (ld_slot I1 hny hvy hy (fun u ru => Calls.spliced_nil ⟨I1.kIn, ?_⟩) dy cy)
  have cp := Caps.made (X := X) (fr := fr) (js := js) (scope := scope) I.ok hfree hfr hjs
  have rc : codeAny (model X.prog X.w) X.A (.call (.ref g) ⟨[.ref f, u], []⟩) (CR CX0 X.stack X.prog X.w H1 s' Q E0) s' := by
    refine LamX.run_ofS (N := Ng) (ps := [a, b]) (us := [.ref f, u]) (vs := [.ref f, v]) lk hcg Sg hr I1.env0 (hb s' [.ref f, u] I1.kIn rfl) (.cons rfl (.cons ru .nil)) rfl fun hr' => ?_
    obtain ⟨t', ht', hq'⟩ := hG f c' s' H1 Q v (fun E w H' Q' => t E (startF N [w] (js.map (slotAt σ))) H' Q') ⟨_, hr'⟩
      (fun pn xe E p1 p2 p3 hx => pe_act1 I1 hf hfn hfr' S cp (hbind _ _ _ _ _) hx hr' (fun A outer s H E hr2 => hbody A outer s H E f c' hr2) na va nb vb da ca db cb) hco (h H1 eN T1)
    exact ⟨t', ht'.nox, hq'⟩
  refine wpAny_call (codeAny_mono rc fun r s2 z => ?_)
  cases r with
  | error e => exact (show False from z).elim
  | ok fl =>
    cases fl with
    | ret w => exact I1.after z
    | next => exact z.elim
    | brk => exact z.elim
    | cont => exact z.elim
end
section
variable {P : Program} {w : World} {K : PySem.W.Frag} {mg : Str → Option Value} {base : Heap} {CX : CXT} {k : Nat}
/-- a def of the text whose code object stands at c -/
def DefC (K : PySem.W.Frag) (mg : Str → Option Value) (st : Stmt) (x : Str) (c : Addr) : Prop := ∃ f fd, mg x = some (.ref f) ∧ Fun K x x st f fd ∧ fd.code = .ref c
theorem DefC.def_ {st : Stmt} {x : Str} {c : Addr} (D : DefC K mg st x c) : Def K mg st x := by
  obtain ⟨f, fd, a, b, _⟩ := D
  exact ⟨f, fd, a, b⟩
theorem Cal.ofC {x : Str} {st : Stmt} {N ps : List Str} {c : Addr} {sp : Sp} (D : DefC K mg st x c) (S : FnScope N ps (defScope st))
    (hb : ∀ (kV doc pm : Value) (an : Option Addr) (cdv ct : Value) (us : List Value), us.length = ps.length → bindArgs (PySem.W.fnOf x x (defArgs st) (defBody st) (defScope st) .none kV doc pm an cdv ct) ⟨us, []⟩ = pure (ps.zip us))
    (len : ∀ vs H Q E, sp vs H Q E → vs.length = ps.length)
    (hbody : ∀ (f : Addr) (A : Around) (outer : List Env) (s : Shared) (H : Hp) (vs : List V) (Q : VK) (E : XK), Room k (A.deeper (envOfC x (defScope st) s.heap.objs.size f (.ref c))) → sp vs H Q E →
      ∃ t, PSs (cxOf CX0 P w K mg base N x (defScope st) f (.ref c) A outer s H E).nox (defBody st) t ∧ t { nx := fun _ H' => Q .non H', rt := Q } (start N vs) H) : Cal P w K mg base CX0 (k + 1) x ps sp := by
  obtain ⟨f, fd, hm, F, e⟩ := D
  have at_ := Fun.at_ F
  have kp := F.kp
  obtain ⟨oc, od, kV, doc, pm, an, cdv, ct, osl, rfl, lk, hcd⟩ := F.ex
  obtain rfl : cdv = .ref c := e
  refine ⟨f, _, hm, fn_of lk hcd S len fun A outer s H vs Q E hr h => ?_, kp, hb kV doc pm an _ ct, at_⟩
  obtain ⟨t, h1, h2⟩ := hbody f A outer s H vs Q E hr h
  exact ⟨t, h1.nox, h2⟩
/-- a def that a slot may hold -/
structure HeldX (P : Program) (w : World) (K : PySem.W.Frag) (mg : Str → Option Value) (base : Heap) (CX : CXT) (k : Nat) (f : Addr) (sp : Sp) : Prop where
  ex : ∃ (fd : FuncData) (ps : List Str), FnOk P w K mg base CX k f fd ps sp ∧ PySem.W.keepIn K (.ref f) = true ∧ L2.Binds K fd ps []
theorem Cal.held {x : Str} {ps : List Str} {sp : Sp} {f : Addr} (C : Cal P w K mg base CX k x ps sp) (e : mg x = some (.ref f)) : HeldX P w K mg base CX k f sp := by
  obtain ⟨g, fd, hm, F, hk, hb⟩ := C.bound
  cases e.symm.trans hm
  exact ⟨fd, ps, F, hk, hb⟩
theorem HeldX.mono {j : Nat} {f : Addr} {sp : Sp} (h : HeldX P w K mg base CX j f sp) (l : j ≤ k) : HeldX P w K mg base CX k f sp := by
  obtain ⟨fd, ps, F, hk, hb⟩ := h.ex
  exact ⟨fd, ps, F.mono l, hk, hb⟩
end
theorem u_divW {X : Cx} : OpR X (binaryOp .FloorDiv) rDivW := by unfold rDivW; exact op_fdivW
/-- the i-th slot holds a def, S tells which promise -/
def tCallV (i : Nat) (S : Addr → Sp → Prop) (E : L2.St → XK) (t : TA) : TE := fun σ H Q => ∃ f sp, σ[i]? = some (some (.ref f)) ∧ S f sp ∧ t σ H fun vs H1 => sp vs H1 Q (E σ)
section
variable {X : Cx} {CX : CXT} {k i : Nat} {S : Addr → Sp → Prop} {E : L2.St → XK} {x : Str} {p pos : Pos} {e : Expr} {es : List Expr} {t : TA}
theorem pe_callV (A : ∀ f sp, S f sp → HeldX X.prog X.w X.K X.mg X.base CX k f sp) (hr : Room k X.A) (hN : X.N[i]? = some x) (hv : Vis X.env.scope x) (hx : ∀ σ, PassesAt CX X σ (E σ)) (ha : PA X (e :: es) t)
    (d1 : (x == ("__debug__" : Str)) = false := by decide) (d2 : (x == ("__classdict__" : Str)) = false := by decide) (he : starEach (e :: es) X.env = (false, eval e X.env) :: starEach es X.env := by rfl) (hpl : (backTo pos (starEach es X.env)).any (·.1) = false := by rfl) :
    PE X (.Call (.Name x p) (e :: es) [] pos) (tCallV i S E t) := by
  refine ⟨fun pins s σ H Q I h => ?_⟩
  obtain ⟨f, sp, h0, hS, ht⟩ := h
  obtain ⟨fd, ps, F, hk, hb⟩ := (A f sp hS).ex
  refine wpAny_Call_Name_kw (ld_slot I hN hv h0 (fun u r => ?_) d1 d2)
  obtain rfl : u = Value.ref f := r
  refine PySem.W.callWith_K (h₀ := X.base) I.ok.mod.kin hk (thn (ha.run pos pins s σ _ _ I ht) fun us s2 ⟨vs, H2, I2, r, q⟩ => ⟨I2.kIn, ?_⟩) he hpl
  exact run_fnS F hr hb (hx σ) I2 r q
/-- the lambda handed to a def of the text -/
theorem pe_lamD {st : Stmt} {T : List (Addr × Str)} {TT : (XK → V → Hp → VK → Prop) → V → Hp → VK → Prop} {a b y pa : Str} {c P : Addr} {iy : Nat} {Ng N fr : List Str} {js : List Nat} {params : Arguments} {body : Expr} {scope : Scope} {tb : XK → TE} {lpos yp : Pos}
    (D : Def X.K X.mg st x) (hb : ∀ (kV doc pm : Value) (an : Option Addr) (cdv ct : Value) (us : List Value), us.length = 2 → bindArgs (PySem.W.fnOf x x (defArgs st) (defBody st) (defScope st) .none kV doc pm an cdv ct) ⟨us, []⟩ = pure ([a, b].zip us)) (Sg : FnScope Ng [a, b] (defScope st))
    (hg : Gl X x) (na : Ng[0]? = some a) (va : Vis (defScope st) a) (nb : Ng[1]? = some b) (vb : Vis (defScope st) b)
    (hG : ∀ (g : Addr) (cdv : Value), Gives2 X Ng x (defScope st) g cdv (defBody st) a b (X.env.qual ++ "<lambda>") TT) (TB : TabB X.base X.mg c P) (hcode : X.env.code = .ref c) (eT : T = [(P, X.env.qual ++ "<lambda>")]) (hr : Room (k + 2) X.A)
    (S : NScope N [pa] fr scope) (hn : NdefX.ndefB X.env.scope scope fr = true) (hjs : js.map (fun j => X.N[j]?) = fr.map some)
    (hdef : defaultsOf params X.env = ([], [])) (hbind : ∀ (q : Str) (cl : List (Str × Addr)) (pm cv ctv u : Value), bindArgs (PySem.W.kla_fn "<lambda>" q params body scope cl pm cv ctv) ⟨[u], []⟩ = pure [(pa, u)])
    (hny : X.N[iy]? = some y) (hvy : Vis X.env.scope y)
    (hbody : ∀ (A : Around) (outer : List Env) (s : Shared) (H : Hp) (E : XK) (f c' : Addr), Room k (A.deeper (envF (lamF X params scope c') f s.heap.objs.size)) → PE (ncx (L2.CX X.prog X.w) X.prog X.w X.K X.mg X.base N (lamF X params scope c') f A outer s H E) body (tb E))
    (da : (a == ("__debug__" : Str)) = false := by decide) (ca : (a == ("__classdict__" : Str)) = false := by decide) (db : (b == ("__debug__" : Str)) = false := by decide) (cb : (b == ("__classdict__" : Str)) = false := by decide)
    (dy : (y == ("__debug__" : Str)) = false := by decide) (cy : (y == ("__classdict__" : Str)) = false := by decide) (hdb : (x == ("__debug__" : Str)) = false := by decide) :
    PE X (.Call (.Name x p) [.Lambda params body scope lpos, .Name y yp] [] pos) (tLam2 T TT iy N js tb) := by
  obtain ⟨g, fd, hm, F⟩ := D
  have kp := F.kp
  obtain ⟨oc, od, kV, doc, pm, an, cdv, ct, osl, rfl, lk, hcd⟩ := F.ex
  subst eT
  exact pe_lamcall2 hg hm kp lk hcd (.all (hb kV doc pm an cdv ct)) Sg na va nb vb da ca db cb (hG g cdv) TB hcode List.mem_cons_self (fun p hp _ => by rw [List.mem_singleton.mp hp]) hr S (NdefX.ndef_free hn) (NdefX.ndef_fr hn) hjs hdef hbind hny hvy dy cy hbody hdb
end
/-- try: .. except c: .. -/
def tTryC (K : PySem.W.Frag) (c : Value) (tb : WX → TS) (ts : Addr → Value → Option Addr → TS) : TS := fun D σ H => tb (wOnly K c ts (fun _ _ _ _ => False) D) D σ H
end Kb

/-! ### defs and methods whose code object and table of lambdas are known -/
namespace Kb
open PySem PySem.Spec PyProof.Rows L2
open LamX (TabB Tabs TabS ExtN)
def DefMC (K : PySem.W.Frag) (C : Addr) (st : Stmt) (m qual : Str) (c : Addr) : Prop := ∃ f fd, Meth K C m f ∧ Fun K m qual st f fd ∧ fd.code = .ref c
section
variable {P : Program} {w : World} {K : PySem.W.Frag} {mg : Str → Option Value} {base : Heap} {C c : Addr} {m qual x : Str} {st : Stmt} {N ps : List Str} {k : Nat} {sp : Sp}
theorem CalF.ofC (D : DefMC K C st m qual c) (S : FnScope N ps (defScope st)) (len : ∀ vs H Q E, sp vs H Q E → vs.length = ps.length)
    (hbody : ∀ (f : Addr) (A : Around) (outer : List Env) (s : Shared) (H : Hp) (vs : List V) (Q : VK) (E : XK), Room k (A.deeper (envOfC qual (defScope st) s.heap.objs.size f (.ref c))) → sp vs H Q E →
      ∃ t, PSs (cxOf CX0 P w K mg base N qual (defScope st) f (.ref c) A outer s H E).nox (defBody st) t ∧ t { nx := fun _ H' => Q .non H', rt := Q } (start N vs) H) : CalF P w K mg base CX0 (k + 1) C st m qual ps sp := by
  obtain ⟨f, fd, hm, F, e⟩ := D
  have F' := F
  obtain ⟨oc, od, kV, doc, pm, an, cdv, ct, osl, rfl, lk, hcd⟩ := F.ex
  obtain rfl : cdv = .ref c := e
  exact ⟨f, _, hm, fn_of lk hcd S len fun A outer s H vs Q E hr h => let ⟨t, h1, h2⟩ := hbody f A outer s H vs Q E hr h; ⟨t, h1.nox, h2⟩, F'⟩
theorem Cal.ofT (D : DefC K mg st x c) (S : FnScope N ps (defScope st)) (hb : ∀ (kV doc pm : Value) (an : Option Addr) (cdv ct : Value) (us : List Value), us.length = ps.length → bindArgs (PySem.W.fnOf x x (defArgs st) (defBody st) (defScope st) .none kV doc pm an cdv ct) ⟨us, []⟩ = pure (ps.zip us))
    (len : ∀ vs H Q E, sp vs H Q E → vs.length = ps.length)
    (hbody : ∀ (f : Addr) (A : Around) (outer : List Env) (s : Shared) (H : Hp) (vs : List V) (Q : VK) (E : XK), Room k (A.deeper (envOfC x (defScope st) s.heap.objs.size f (.ref c))) → sp vs H Q E →
      ∃ t, PSs (cxOf CX0 P w K mg base N x (defScope st) f (.ref c) A outer s H E).nox (defBody st) t ∧ t { nx := fun _ H' => Q .non H', rt := Q } (start N vs) H) : Cal P w K mg base CX0 (k + 1) x ps sp := by
  obtain ⟨f, fd, hm, F, e⟩ := D
  have at_ := Fun.at_ F
  have kp := F.kp
  obtain ⟨oc, od, kV, doc, pm, an, cdv, ct, osl, rfl, lk, hcd⟩ := F.ex
  obtain rfl : cdv = .ref c := e
  exact ⟨f, _, hm, fn_of lk hcd S len fun A outer s H vs Q E hr h => let ⟨t, h1, h2⟩ := hbody f A outer s H vs Q E hr h; ⟨t, h1.nox, h2⟩, kp, hb kV doc pm an _ ct, at_⟩
end
theorem TabS.kp {M : List Addr} {H H' : Hp} {P : Addr} {q : Str} (t : TabS H P q) (k : Kp M H H') (n : P ∉ M) (nc : ∀ a ∈ M, ∀ φ, H a ≠ some (.ext φ)) : TabS H' P q := by
  obtain ⟨ps, h1, h2, h3⟩ := t
  refine ⟨ps, k _ _ n h1, h2, fun pos cv hc => ?_⟩
  obtain ⟨c, e1, e2⟩ := h3 pos cv hc
  exact ⟨c, e1, k _ _ (fun z => nc c z _ e2) e2⟩
end Kb

/-! ### an exception's fields told side by side; isinstance of it by a tuple of classes; min of two; tuples of the top -/
namespace Kb
open PySem PySem.Spec PyProof.Rows L2
/-- a tuple that stands in the written part -/
def GTup (K : PySem.W.Frag) (a : Addr) (xs : List V) : Prop := ∃ (o : Obj) (its : Array Value) (n : Nat), K.lookup a = some o ∧ o.cls = .type "tuple" ∧ o.data = .seq its n ∧ its.size ≤ sizeLine ∧ Vals xs its.toList
theorem GTup.sqT {K : PySem.W.Frag} {H : Hp} {a : Addr} {xs : List V} (h : GTup K a xs) : SqT K H a xs := .inr h
@[irreducible] def rMin2U : List V → Hp → VK → Prop := fun xs H Q => ∃ i j, xs = [.int i, .int j] ∧ Q (.int (if j < i then j else i)) H
theorem u_min2 {X : Cx} (hc : X.calm = true) : CallR X (.builtin "min") rMin2U := by unfold rMin2U; exact call_min2 hc
theorem min2_go {H : Hp} {Q : VK} {i j : Int} (q : Q (.int (if j < i then j else i)) H) : rMin2U [.int i, .int j] H Q := by unfold rMin2U; exact ⟨_, _, rfl, q⟩
/-- isinstance(e, (c, ..)), e the caught exception with its dict -/
def rIsXt (K : PySem.W.Frag) (a : Addr) (cls : Value) (d : Option Addr) : List V → Hp → VK → Prop := fun xs H Q => ∃ (C tp : Addr) (cs : List V) (us : List Value) (b : Bool) (dd : Addr) (fs : List (Str × V)),
  xs = [.ref a, .ref tp] ∧ cls = .ref C ∧ d = some dd ∧ H dd = some (.xd fs) ∧ XCls K C ∧ H tp = some (.tup cs) ∧ Paired ClsV cs us ∧ PySem.W.kitAny K (.ref C) us = some b ∧ Q (.bl b) H
theorem call_isXt {X : Cx} {a : Addr} {oe : Obj} {cls : Value} {d : Option Addr} {pn : List (Addr × Obj)} (hz : Zc cls d oe) (hf : ∃ vs, oe.data = .fields vs) : CallR (X.suite a ((a, oe) :: pn)) (.builtin "isinstance") (rIsXt X.K a cls d) := by
  intro pins s σ H xs us Q I r h
  obtain ⟨C, tp, cs, ws, b, dd, fs, rfl, rfl, rfl, ea, T, hT, k, e, q⟩ := h
  cases r with
  | cons rx rr =>
    cases rr with
    | cons rt rr =>
      cases rr
      cases rx
      cases rt
      obtain ⟨_, its, rv, o, h1, h2, n, h3⟩ := (show ObjOk X.prog X.w H s.heap tp (.tup cs) from I.hok tp _ hT)
      have e3 := ClsV.all k rv
      subst e3
      obtain ⟨oc, od, dt, sl⟩ := o
      simp only at h2 h3
      subst h2 h3
      obtain ⟨hget, _⟩ := I.pin (a, oe) (List.mem_append.mpr (.inl List.mem_cons_self))
      obtain ⟨vs, hv⟩ := hf
      have hx : ObjOk X.prog X.w H s.heap dd (.xd fs) := I.hok dd _ ea
      obtain ⟨mA, hns, hr⟩ := hx
      obtain ⟨od, ho, hl⟩ := lookIn_ns hns
      have J : PySem.W.InstAt s.heap a oe C (some od) := ⟨hget, hz.1, by unfold PySem.W.notCls; rw [hv] <;> rfl, by rw [hz.2]; exact ho⟩
      exact PySem.W.kia_tup (PySem.W.kitx_exc T.cl T.xf.ga T.xf.gg T.xf.exC T.ha T.hn T.ht T.hm) I.kIn J h1 e (fun z => nomatch z) fun tk => ⟨.bl b, H, I.kept (t' := tk) fun _ _ z => z, rfl, q⟩
/-- isinstance of the caught exception: one class, or a tuple of them -/
def rIsX2 (K : PySem.W.Frag) (a : Addr) (cls : Value) (d : Option Addr) : List V → Hp → VK → Prop := fun xs H Q => rIsXd K a cls d xs H Q ∨ rIsXt K a cls d xs H Q
theorem call_isX2 {X : Cx} {a : Addr} {oe : Obj} {cls : Value} {d : Option Addr} {pn : List (Addr × Obj)} (hz : Zc cls d oe) (hf : ∃ vs, oe.data = .fields vs) : CallR (X.suite a ((a, oe) :: pn)) (.builtin "isinstance") (rIsX2 X.K a cls d) := CallR.or (call_isXd hz hf) (call_isXt hz hf)
/-- a target o.f, o an exception that is being made -/
def gOst (K : PySem.W.Frag) (f : Str) (to : TE) : TG := fun y σ H Q => to σ H fun x H2 => ∃ a C : Addr, x = .ref a ∧ OexC K C ∧ PySem.W.findIn K (.ref C) f = some none ∧
  ((H2 a = some (exo a C none) ∧ ∀ dx, H2 dx = none → dx ≠ a → Q σ (upd (upd H2 dx (exd dx [(f, y)])) a (exo a C (some dx)))) ∨
    ∃ (dx : Addr) (fs : List (Str × V)), H2 a = some (exo a C (some dx)) ∧ H2 dx = some (exd dx fs) ∧ fs.length ≤ 900 ∧ Q σ (upd H2 dx (exd dx ((f, y) :: fs))))
section
variable {X : Cx} {o : Expr} {f : Str} {ta : TE} {pos : Pos}
theorem pg_ost (ha : PE X o ta)
    (he : ∀ v, assign (.Attribute o f pos) X.env v = (holding [v] (eval o X.env) >>= fun ov => standAt pos.atName >>= fun _ => holding [v, ov] (setAttr ov f v) >>= fun _ => release [v, ov] []) := by intro _; rfl) : PG X (.Attribute o f pos) (gOst X.K f ta) := by
  refine ⟨fun pins s σ H y u Q I ry h => ?_⟩
  unfold gOst at h
  rw [he]
  refine wpAny_bind (wpAny_holding (thn (ha.run pins s σ H _ I h) fun ov s1 ⟨x, H1, I1, rx, a, C, ex, T, hno, q⟩ => ?_))
  subst ex
  obtain rfl : ov = Value.ref a := rx
  refine wpAny_bind (wpAny_standAt (wpAny_bind (wpAny_holding ?_)))
  rcases q with ⟨ea, q⟩ | ⟨dx, fs, ea, ed, hl, q⟩
  · exact ost_new T I1 ea hno ry fun dx s' n ne J => wpAny_release ⟨σ, _, J, q dx n ne⟩
  · exact ost_old T I1 ea ed hl hno ry fun s' J => wpAny_release ⟨σ, _, J, q⟩
end
/-- an exception's __init__ of two fields, told side by side -/
@[irreducible] def spInit2 (C : Addr) (f g : Str) : Sp := fun vs H Q _ => ∃ a x y, vs = [.ref a, x, y] ∧ H a = some (exo a C none) ∧ ∀ t d, H t = none → H d = none → d ≠ a → t ≠ d → t ≠ a →
  Q .non (upd (upd (upd (upd H t (.tup [x, y])) d (exd d [(f, x)])) a (exo a C (some d))) d (exd d [(g, y), (f, x)]))
theorem spInit2_len {C : Addr} {f g : Str} (vs : List V) (H : Hp) (Q : VK) (E : XK) (h : spInit2 C f g vs H Q E) : vs.length = 3 := by
  unfold spInit2 at h
  obtain ⟨a, x, y, rfl, _⟩ := h
  rfl
theorem mkO2_go {C : Addr} {f g : Str} {x y : V} {H : Hp} {Z : XK} (h : ∀ t d, H t = none → H d = none → t ≠ d → Z (.ref C) (some d) (upd (upd H t (.tup [x, y])) d (.xd [(g, y), (f, x)]))) :
    [x, y].length ≤ 1000 ∧ ∀ a, H a = none → spInit2 C f g (.ref a :: ([x, y] ++ [])) (upd H a (exo a C none))
      (fun v H2 => v = .non ∧ ∃ (d : Addr) (fs : List (Str × V)), H2 a = some (exo a C (some d)) ∧ H2 d = some (exd d fs) ∧ H d = none ∧ Z (.ref C) (some d) (upd (del H2 a) d (.xd fs))) (fun _ _ _ => False) := by
  refine ⟨by simp, fun a ha => ?_⟩
  unfold spInit2
  refine ⟨a, x, y, rfl, upd_same, fun t d nt nd da td ta => ⟨rfl, d, [(g, y), (f, x)], (upd_ne da.symm).trans upd_same, upd_same, (upd_ne da).symm.trans nd, ?_⟩⟩
  have nd0 : H d = none := (upd_ne da).symm.trans nd
  have nt0 : H t = none := (upd_ne ta).symm.trans nt
  have e : upd (del (upd (upd (upd (upd (upd H a (exo a C none)) t (.tup [x, y])) d (exd d [(f, x)])) a (exo a C (some d))) d (exd d [(g, y), (f, x)])) a) d (.xd [(g, y), (f, x)]) = upd (upd H t (.tup [x, y])) d (.xd [(g, y), (f, x)]) := by
    funext b
    by_cases hb : b = d
    · rw [hb, upd_same, upd_same]
    · rw [upd_ne hb, upd_ne hb]
      by_cases hba : b = a
      · rw [hba, del_same, upd_ne ta.symm, ha]
      · rw [del_ne hba, upd_ne hb, upd_ne hba, upd_ne hb]
        by_cases hbt : b = t
        · rw [hbt, upd_same, upd_same]
        · rw [upd_ne hbt, upd_ne hba, upd_ne hbt]
  rw [e]
  exact h t d nt0 nd0 td
/-- x + y, of tuples whether empty or not, too -/
def rAddA (K : PySem.W.Frag) : R2 := fun x y H Q => rAddU K x y H Q ∨ rCatA K x y H Q
theorem u_addA {X : Cx} : OpR X (binaryOp .Add) (rAddA X.K) := u_add.or op_catA
theorem addA_go {K : PySem.W.Frag} {H : Hp} {Q : VK} {a b : Addr} {xs ys : List V} (ha : SqT K H a xs) (hb : SqT K H b ys) (h : xs.length + ys.length ≤ 16777216) (q : ∀ H' p, Kp [] H H' → SqT K H' p (xs ++ ys) → Q (.ref p) H') : rAddA K (.ref a) (.ref b) H Q := by
  refine .inr ⟨a, b, xs, ys, rfl, rfl, ha, hb, sz_of' h, fun e => ?_, fun _ e => ?_, fun _ _ p np => ?_⟩
  · subst e
    exact q H b Kp.refl hb
  · subst e
    exact q H a Kp.refl (by rw [List.append_nil]; exact ha)
  · exact q _ p (Kp.refl.upd_new' np) (SqT.of upd_same)
end Kb

/-! ### an own class without defaults, made by place and by name -/
namespace Kb
open PySem PySem.Spec PyProof.Rows L2
/-- how a call with n things by place and some by name (ks) puts them, nothing being left out: g -/
def Puts0 (st : Stmt) (qual : Str) (ps : List Str) (n : Nat) (ks : List Str) (g : {α : Type} → List α → List α → List α) : Prop :=
  ∀ (kV doc pm : Value) (an : Option Addr) (cdv ct : Value) (us ws : List Value), us.length = n → ws.length = ks.length →
    bindArgs (PySem.W.fnOf "__init__" qual (defArgs st) (defBody st) (defScope st) .none kV doc pm an cdv ct) ⟨us, ks.zip ws⟩ = pure (ps.zip (g us ws))
def Keeps2 (g : {α : Type} → List α → List α → List α) : Prop := ∀ {vs zs : List V} {us ws : List Value}, Vals vs us → Vals zs ws → Vals (g vs zs) (g us ws)
section
variable {X : Cx} {CX : CXT} {k n : Nat} {C : Addr} {st : Stmt} {qual : Str} {ps ks : List Str} {sp : Sp} {E : XK} {x : Str} {p pos : Pos} {e : Expr} {es : List Expr} {kws : List Keyword} {t tk : TA}
theorem pe_makeP (g : {α : Type} → List α → List α → List α) (hmk : PySem.W.makesIn X.K C = true) (hkc : PySem.W.keepIn X.K (.ref C) = true) (M : CalD X.prog X.w X.K X.mg X.base CX k C st qual [] ps sp) (hrel : Keeps2 g) (hp : Puts0 st qual ps (n + 1) ks g)
    (hr : Room (k + 1) X.A) (hg : Gl X x) (hm : X.mg x = some (.ref C)) (hx : Passes CX X E) (ha : PA X (e :: es) t) (hkw : PK X kws tk) (hall : (backToKw pos (keywordEach kws X.env)).all (·.1.isSome) = true := by rfl) (hks : (backToKw pos (keywordEach kws X.env)).filterMap (·.1) = ks := by rfl)
    (hdb : (x == ("__debug__" : Str)) = false := by decide) (he : starEach (e :: es) X.env = (false, eval e X.env) :: starEach es X.env := by rfl) (hpl : ((backTo pos (starEach (e :: es) X.env)).any (·.1) || (backToKw pos (keywordEach kws X.env)).any (·.1.isNone)) = false := by rfl) :
    PE X (.Call (.Name x p) (e :: es) kws pos) (tMakeN C n ks.length sp (fun vs zs => g vs zs) E t tk) := by
  obtain ⟨f, fd, me, F, D⟩ := M.ex
  have hb : KBn X.K fd ps (n + 1) ks (fun us ws => g us ws) (fun vs zs => g vs zs) := by
    obtain ⟨oc, od, dV, kV, doc, pm, an, cdv, ct, osl, rfl, lk, hcd, hD, hK⟩ := D.ex
    rcases hD with ⟨_, rfl⟩ | ⟨e, _⟩
    · exact ⟨fun s us ws _ l1 l2 => .of_eq (hp kV doc pm an cdv ct us ws l1 l2), fun r1 r2 => hrel r1 r2⟩
    · exact absurd rfl e
  exact pe_makeN ⟨hmk, me.at_, me.fn, hkc⟩ F hr hg hm hb hx ha hkw hall hks hdb he hpl
end
end Kb

/-! ### in, not in, index of lists and tuples of data; a tuple made whose object is known; list.insert; two tests of a comprehension -/
namespace Kb
open PySem PySem.Spec PyProof.Rows L2
/-- a list or a tuple that holds data -/
def SqD (K : PySem.W.Frag) (H : Hp) (a : Addr) (ds : List PyData) : Prop := ∃ xs, (SqL K H a xs ∨ SqT K H a xs) ∧ DpAll K H xs ds
@[irreducible] def rInD (K : PySem.W.Frag) : R2 := fun x y H Q => ∃ a d ds, y = .ref a ∧ SqD K H a ds ∧ Dp K H x d ∧ PyData.canLayAll0 ds = true ∧ SeqAt.shaped d = true ∧ Q (.bl (ds.any fun e => PyData.eqv e d)) H
@[irreducible] def rNotInD (K : PySem.W.Frag) : R2 := fun x y H Q => ∃ a d ds, y = .ref a ∧ SqD K H a ds ∧ Dp K H x d ∧ PyData.canLayAll0 ds = true ∧ SeqAt.shaped d = true ∧ Q (.bl (!ds.any fun e => PyData.eqv e d)) H
section
variable {X : Cx}
theorem hu65 {k : Nat} {A : Around} (r : Room k A) : A.units + 65 < cLine := by have := r.un; omega
theorem op_inD (hu : X.A.units + 65 < cLine) : OpR X (compareOp .In) (rInD X.K) := by
  intro pins s σ H x y v u Q I rx ry h
  unfold rInD at h
  obtain ⟨a, d, ds, rfl, ⟨xs, hl, hp⟩, hd, sc, sd, q⟩ := h
  obtain ⟨as, r1⟩ := Dp.reads I d x v hd rx
  rcases hl with hl | hl
  · obtain ⟨bs, r2⟩ := Dp.reads I (.list ds) (.ref a) u (.lst hl hp) ry
    exact SeqAt.in_list_reads r2 r1 sc (SeqAt.canLay_of_shaped sd) (PyProof.Rows.room_in_shaped sd hu) ⟨.bl _, H, I, rfl, q⟩
  · obtain ⟨bs, r2⟩ := Dp.reads I (.tuple ds) (.ref a) u (.tup hl hp) ry
    exact SeqAt.in_tuple_reads r2 r1 sc (SeqAt.canLay_of_shaped sd) (PyProof.Rows.room_in_shaped sd hu) ⟨.bl _, H, I, rfl, q⟩
theorem op_notInD (hu : X.A.units + 65 < cLine) : OpR X (compareOp .NotIn) (rNotInD X.K) := by
  intro pins s σ H x y v u Q I rx ry h
  unfold rNotInD at h
  obtain ⟨a, d, ds, rfl, ⟨xs, hl, hp⟩, hd, sc, sd, q⟩ := h
  obtain ⟨as, r1⟩ := Dp.reads I d x v hd rx
  rcases hl with hl | hl
  · obtain ⟨bs, r2⟩ := Dp.reads I (.list ds) (.ref a) u (.lst hl hp) ry
    exact SeqAt.notIn_list_reads r2 r1 sc (SeqAt.canLay_of_shaped sd) (PyProof.Rows.room_in_shaped sd hu) ⟨.bl _, H, I, rfl, q⟩
  · obtain ⟨bs, r2⟩ := Dp.reads I (.tuple ds) (.ref a) u (.tup hl hp) ry
    exact SeqAt.notIn_tuple_reads r2 r1 sc (SeqAt.canLay_of_shaped sd) (PyProof.Rows.room_in_shaped sd hu) ⟨.bl _, H, I, rfl, q⟩
/-- what == answers, item by item, held against one thing -/
theorem items_eqD {pins : List (Addr × Obj)} {σ : L2.St} {H : Hp} {s : Shared} {A : Around} (I : Inv X pins σ H s) (hu : A.units + 64 < cLine) {x : V} {v : Value} {d : PyData} (hd : Dp X.K H x d) (rx : RelV x v) (sd : SeqAt.shaped d = true) :
    ∀ {xs : List V} {ds : List PyData} {us : List Value}, DpAll X.K H xs ds → Vals xs us → PyData.canLayAll0 ds = true → us.length = ds.length ∧ ∀ j (h1 : j < us.length) (h2 : j < ds.length), SeqAt.EqAt A s us[j] v (PyData.eqv ds[j] d)
  | [], [], [], .nil, .nil, _ => ⟨rfl, fun j h1 => absurd h1 (Nat.not_lt_zero _)⟩
  | y :: xs, e :: ds, u :: us, .cons h1 h2, .cons r1 r2, c => by
    unfold PyData.canLayAll0 at c
    obtain ⟨c1, c2⟩ := Bool.and_eq_true_iff.mp c
    obtain ⟨l, ih⟩ := items_eqD I hu hd rx sd h2 r2 c2
    obtain ⟨as, q1⟩ := Dp.reads I e y u h1 r1
    obtain ⟨bs, q2⟩ := Dp.reads I d x v hd rx
    refine ⟨congrArg (· + 1) l, fun j g1 g2 => ?_⟩
    cases j with
    | zero =>
      refine SeqAt.eqAt_reads e d A s u v as bs q1 q2 c1 (SeqAt.canLay_of_shaped sd) ?_
      have h1 := SeqAt.depth_of_shaped sd
      have h2 : min e.depth d.depth ≤ d.depth := Nat.min_le_right _ _
      omega
    | succ j => exact ih j (Nat.lt_of_succ_lt_succ g1) (Nat.lt_of_succ_lt_succ g2)
/-- the first place at which a thing that is equal stands -/
def FirstEq (ds : List PyData) (d : PyData) (j : Nat) : Prop := (∃ e, ds[j]? = some e ∧ PyData.eqv e d = true) ∧ ∀ m e, m < j → ds[m]? = some e → PyData.eqv e d = false
@[irreducible] def rIdxD (K : PySem.W.Frag) : V → List V → Hp → VK → Prop := fun x xs H Q => ∃ a y d ds j, x = .ref a ∧ xs = [y] ∧ (∃ zs, SqL K H a zs ∧ DpAll K H zs ds) ∧ Dp K H y d ∧ PyData.canLayAll0 ds = true ∧ SeqAt.shaped d = true ∧ FirstEq ds d j ∧ Q (.int (j : Nat)) H
@[irreducible] def rIdxT (K : PySem.W.Frag) : V → List V → Hp → VK → Prop := fun x xs H Q => ∃ a y d ds j, x = .ref a ∧ xs = [y] ∧ (∃ zs, SqT K H a zs ∧ DpAll K H zs ds) ∧ Dp K H y d ∧ PyData.canLayAll0 ds = true ∧ SeqAt.shaped d = true ∧ FirstEq ds d j ∧ Q (.int (j : Nat)) H
theorem u_idxD (hu : X.A.units + 65 < cLine) : MtR X "list.index" (rIdxD X.K) := by
  intro pins s σ H x xs v us Q I rx rxs h
  unfold rIdxD at h
  obtain ⟨a, y, d, ds, j, rfl, rfl, ⟨zs, hs, hp⟩, hd, sc, sd, ⟨⟨e, ej, ee⟩, no⟩, q⟩ := h
  cases rx
  obtain ⟨uy, rfl, ry⟩ := vals1 rxs
  obtain ⟨its, rv, ⟨⟨cls, dd, data, sl⟩, n, ho, hc, hdn, hdt⟩, hlen⟩ := I.list hs
  simp only at hc hdt
  subst hc hdt
  obtain ⟨l, heq⟩ := items_eqD (A := X.A.in1) I (by show X.A.units + 1 + 64 < cLine; omega) hd ry sd hp rv sc
  have hj : j < ds.length := (List.getElem?_eq_some_iff.mp ej).1
  have hsl := sizeLine_eq
  have hvl := rv.length
  refine call_meets PySem.F.slot_list_index ⟨_, ho, rfl⟩ PySem.F.entry_list_index (PySem.F.args_list_index_2 _ _)
    (SeqAt.list_index2_found a its.toArray n dd sl uy (fun m => (ds[m]?.map fun e => PyData.eqv e d).getD false) j (by rw [List.size_toArray]; omega) (Nat.zero_le _) (by omega) ?_ ?_) ⟨ho, fun m hm => ?_, .int (j : Nat), H, I.tok _, ⟨_, rfl⟩, q⟩
  · rw [ej]
    exact ee
  · intro m hm _ hlt
    have hm' : m < ds.length := by omega
    rw [List.getElem?_eq_getElem hm']
    exact no m _ hlt (List.getElem?_eq_getElem hm')
  · have h1 : m < its.length := by simpa using hm
    have h2 : m < ds.length := by omega
    rw [List.getElem?_eq_getElem h2]
    simpa using heq m h1 h2
theorem u_idxT (hu : X.A.units + 65 < cLine) : MtR X "tuple.index" (rIdxT X.K) := by
  intro pins s σ H x xs v us Q I rx rxs h
  unfold rIdxT at h
  obtain ⟨a, y, d, ds, j, rfl, rfl, ⟨zs, hs, hp⟩, hd, sc, sd, ⟨⟨e, ej, ee⟩, no⟩, q⟩ := h
  cases rx
  obtain ⟨uy, rfl, ry⟩ := vals1 rxs
  obtain ⟨its, rv, ⟨⟨cls, dd, data, sl⟩, ho, hc, n, hdt⟩, hlen⟩ := I.tuple hs
  simp only at hc hdt
  subst hc hdt
  obtain ⟨l, heq⟩ := items_eqD (A := X.A.in1) I (by show X.A.units + 1 + 64 < cLine; omega) hd ry sd hp rv sc
  have hj : j < ds.length := (List.getElem?_eq_some_iff.mp ej).1
  have hvl := rv.length
  refine call_meets PySem.F.slot_tuple_index ⟨_, ho, rfl⟩ PySem.F.entry_tuple_index (PySem.F.args_tuple_index_2 _ _)
    (SeqAt.tuple_index2_found a its.toArray n dd sl uy (fun m => (ds[m]?.map fun e => PyData.eqv e d).getD false) j (by rw [List.size_toArray]; omega) (Nat.zero_le _) (by rw [List.size_toArray]; omega) ?_ ?_) ⟨ho, fun m hm => ?_, .int (j : Nat), H, I.tok _, ⟨_, rfl⟩, q⟩
  · rw [ej]
    exact ee
  · intro m hm _ hlt
    have hm' : m < ds.length := by omega
    rw [List.getElem?_eq_getElem hm']
    exact no m _ hlt (List.getElem?_eq_getElem hm')
  · have h1 : m < its.length := by simpa using hm
    have h2 : m < ds.length := by omega
    rw [List.getElem?_eq_getElem h2]
    simpa using heq m h1 h2
/-- a tuple whose object is known to have no dict -/
def KTup (H : Hp) (p : Addr) (ys : List V) : Prop := ∃ o : Obj, H p = some (.frz o (.tup ys)) ∧ o.cls = .type "tuple" ∧ o.dict = none
theorem KTup.sqT {K : PySem.W.Frag} {H : Hp} {p : Addr} {ys : List V} (h : KTup H p ys) : SqT K H p ys := let ⟨o, h, _⟩ := h; .inl (.inr ⟨o, h⟩)
theorem KTup.kp {M : List Addr} {H H' : Hp} {p : Addr} {ys : List V} (h : KTup H p ys) (k : Kp M H H') (n : p ∉ M) : KTup H' p ys := let ⟨o, h, c⟩ := h; ⟨o, k.at_ n h, c⟩
@[irreducible] def rTupK (K : PySem.W.Frag) : List V → Hp → VK → Prop := fun xs H Q => ∃ p ys, xs = [.ref p] ∧ SqL K H p ys ∧ ∀ l o, H l = none → o.cls = .type "tuple" → o.dict = none → Q (.ref l) (upd H l (.frz o (.tup ys)))
theorem u_tupK : CallR X (.type "tuple") (rTupK X.K) := by
  intro pins s σ H xs us Q I r h
  unfold rTupK at h
  obtain ⟨p, ys, rfl, hq, q⟩ := h
  obtain ⟨u, rfl, rx⟩ := vals1 r
  cases rx
  obtain ⟨its, r', pl, hz⟩ := I.list hq
  have hlen := r'.length
  refine call_tuple_list pl.isList (fun h' kp => ?_) (by simp only [List.size_toArray] <;> omega)
  have I1 : Inv X pins σ H { s with heap := h' } := I.kept (t' := s.toks) kp
  have I2 : Inv X pins σ (upd H h'.objs.size (.frz { cls := .type "tuple", data := .seq its.toArray } (.tup ys))) { s with heap := h'.push { cls := .type "tuple", data := .seq its.toArray } } :=
    I1.laid (t' := s.toks) (fun b o e => Heap.get?_push_of_some _ e) (Nat.le_refl _) (show ObjOk X.prog X.w _ _ _ (.frz _ (.tup ys)) from ⟨Heap.get?_push_size _ rfl, hz, its, r', IsTup.new _ _⟩)
  exact ⟨.ref h'.objs.size, _, I2, rfl, q _ _ (I1.hok.fresh (Nat.le_refl _)) rfl rfl⟩
/-- o.m(e, ..), o a tuple whose object is known -/
def tBMT (r : V → List V → Hp → VK → Prop) (to : TE) (t : TA) : TE := fun σ H Q => to σ H fun x H1 => (∃ p ys, x = .ref p ∧ KTup H1 p ys) ∧ t σ H1 fun xs H2 => r x xs H2 Q
theorem pe_bmT {o e : Expr} {es : List Expr} {to : TE} {t : TA} {name : Str} {apos cpos : Pos} {id : String} {r : V → List V → Hp → VK → Prop} (pa : PlainAttrs "tuple") (slot : Slot "tuple" name id) (hty : typeOf (.builtin id) = pure (.type "method_descriptor")) (hm : MtR X id r) (ho : PE X o to) (ha : PA X (e :: es) t)
    (hbase : attributeBase o name X.env (eval o X.env) = eval o X.env := by rfl)
    (hfew : ((backTo cpos (starEach (e :: es) X.env)).all (fun x => !x.1) && (backToKw cpos (keywordEach [] X.env)).all (fun x => x.1.isSome)
      && decide ((e :: es).length + ([] : List Keyword).length + (if ([] : List Keyword).isEmpty then 0 else 1) < 30)) = true := by rfl)
    (hline : (apos.endLine == cpos.line) = true := by rfl) (hs : starEach (e :: es) X.env = (false, eval e X.env) :: starEach es X.env := by rfl) (hplain : (backTo cpos (starEach es X.env)).any (·.1) = false := by rfl) :
    PE X (.Call (.Attribute o name apos) (e :: es) [] cpos) (tBMT r to t) := by
  refine ⟨fun pins s σ H Q I h => ?_⟩
  refine wpAny_Call_method_late hbase hfew hline rfl (thn (ho.run pins s σ H _ I h) fun v s1 ⟨x, H1, I1, r1, ⟨p, ys, xp, ob, hp, hc, hd⟩, q1⟩ => ?_)
  subst xp
  cases r1
  have ho1 : s1.heap.get? p = some ob := (show ObjOk _ _ _ _ _ (.frz ob (.tup ys)) from I1.hok p _ hp).1
  refine ⟨"tuple", id, pa, slot, hty, ⟨ob, ho1, hc⟩, fun a ea => by cases ea; exact ⟨ob, ho1, hd⟩, ?_⟩
  have hA := ha.run cpos pins s1 σ H1 _ I1 q1
  rw [hs] at hA ⊢
  refine Calls.callWith_builtin (by show (false || (backTo cpos (starEach es X.env)).any (·.1)) = false; rw [hplain] <;> rfl) (Calls.evalArgs_plain ?_)
  exact thn hA fun us s2 ⟨vs, H2, I2, r2, q2⟩ => hm pins s2 σ H2 (.ref p) vs _ us Q I2 rfl r2 q2
@[irreducible] def rInsU : V → List V → Hp → VK → Prop := fun x vs H Q => ∃ (l : Addr) (xs : List V) (i : Int) (y : V), x = .ref l ∧ vs = [.int i, y] ∧ H l = some (.lst xs) ∧ xs.length < sizeLine ∧ 0 ≤ i ∧ i < 2 ^ 63 ∧ Q .non (upd H l (.lst (xs.take i.toNat ++ [y] ++ xs.drop i.toNat)))
theorem u_insert : MtR X "list.insert" rInsU := by unfold rInsU; exact mt_insert
def tTwo (t u : TT) : TT := fun σ H Q => t σ H fun b H1 => if b = true then u σ H1 Q else Q false H1
/-- two tests of a comprehension's clause -/
theorem pts_two {c d : Expr} {t u : TT} (h : PT X c t) (g : PT X d u) : PTs X [c, d] (tTwo t u) := ⟨fun pins s σ H Q I hw => by
  simp only [List.forIn_cons, List.forIn_nil, if_true]
  refine wpAny_bind (wpAny_bind (thn (h.run pins s σ H _ I hw) fun b s1 ⟨H1, I1, q⟩ => wpAny_pure ?_))
  cases b with
  | true => exact wpAny_bind (wpAny_bind (thn (g.run pins s1 σ H1 Q I1 q) fun b2 s2 z => wpAny_pure (wpAny_pure z)))
  | false => exact wpAny_bind (wpAny_pure (wpAny_pure ⟨H1, I1, q⟩))⟩
end
section
variable {K : PySem.W.Frag} {H : Hp} {Q : VK} {a : Addr} {x y : V} {xs : List V} {ds : List PyData} {d : PyData} {i : Int} {j : Nat}
theorem inD_go (h : SqD K H a ds) (hd : Dp K H x d) (c : PyData.canLayAll0 ds = true) (s : SeqAt.shaped d = true) (q : Q (.bl (ds.any fun e => PyData.eqv e d)) H) : rInD K x (.ref a) H Q := by unfold rInD; exact ⟨a, d, ds, rfl, h, hd, c, s, q⟩
theorem notInD_go (h : SqD K H a ds) (hd : Dp K H x d) (c : PyData.canLayAll0 ds = true) (s : SeqAt.shaped d = true) (q : Q (.bl (!ds.any fun e => PyData.eqv e d)) H) : rNotInD K x (.ref a) H Q := by unfold rNotInD; exact ⟨a, d, ds, rfl, h, hd, c, s, q⟩
theorem idxD_go (h : SqL K H a xs) (hp : DpAll K H xs ds) (hd : Dp K H y d) (c : PyData.canLayAll0 ds = true) (s : SeqAt.shaped d = true) (f : FirstEq ds d j) (q : Q (.int (j : Nat)) H) : rIdxD K (.ref a) [y] H Q := by unfold rIdxD; exact ⟨a, y, d, ds, j, rfl, rfl, ⟨xs, h, hp⟩, hd, c, s, f, q⟩
theorem idxT_go (h : SqT K H a xs) (hp : DpAll K H xs ds) (hd : Dp K H y d) (c : PyData.canLayAll0 ds = true) (s : SeqAt.shaped d = true) (f : FirstEq ds d j) (q : Q (.int (j : Nat)) H) : rIdxT K (.ref a) [y] H Q := by unfold rIdxT; exact ⟨a, y, d, ds, j, rfl, rfl, ⟨xs, h, hp⟩, hd, c, s, f, q⟩
theorem tupK_go (h : SqL K H a xs) (q : ∀ l o, H l = none → o.cls = .type "tuple" → o.dict = none → Q (.ref l) (upd H l (.frz o (.tup xs)))) : rTupK K [.ref a] H Q := by unfold rTupK; exact ⟨a, xs, rfl, h, q⟩
theorem ins_go (h : H a = some (.lst xs)) (hl : xs.length < 16777216) (h0 : 0 ≤ i) (h1 : i < 9223372036854775808) (q : Q .non (upd H a (.lst (xs.take i.toNat ++ [y] ++ xs.drop i.toNat)))) : rInsU (.ref a) [.int i, y] H Q := by
  unfold rInsU
  exact ⟨a, xs, i, y, rfl, rfl, h, szlt_of hl, h0, h1, q⟩
end
end Kb

/-! ### things as data: kept, read, made -/
namespace Kb
open PySem PySem.Spec PyProof.Rows L2
mutual
/-- no lists in it -/
def noL : PyData → Bool
  | .list _ => false
  | .tuple ds => noLs ds
  | _ => true
def noLs : List PyData → Bool
  | [] => true
  | d :: ds => noL d && noLs ds
end
/-- no tuple stands there -/
def NoT (H : Hp) (b : Addr) : Prop := ∀ u, H b = some u → (∀ xs, u ≠ .tup xs) ∧ ∀ o xs, u ≠ .frz o (.tup xs)
theorem noT_lst {H : Hp} {b : Addr} {xs : List V} (h : H b = some (.lst xs)) : NoT H b := fun u e => by
  rw [h] at e
  cases e
  exact ⟨(fun _ e => by cases e), fun _ _ e => by cases e⟩
theorem noT_dK {H : Hp} {b : Addr} {kvs : List (Key × V)} (h : H b = some (.dK kvs)) : NoT H b := fun u e => by
  rw [h] at e
  cases e
  exact ⟨(fun _ e => by cases e), fun _ _ e => by cases e⟩
theorem noT_ins {H : Hp} {b C dx : Addr} {fs : List (Str × V)} (h : H b = some (.ins C dx fs)) : NoT H b := fun u e => by
  rw [h] at e
  cases e
  exact ⟨(fun _ e => by cases e), fun _ _ e => by cases e⟩
theorem noT_none {H : Hp} {b : Addr} (h : H b = none) : NoT H b := fun u e => by
  rw [h] at e
  cases e
theorem mem1 {P : Addr → Prop} {a : Addr} (h : P a) : ∀ x ∈ [a], P x := fun x m => by rw [List.mem_singleton.mp m]; exact h
theorem mem2 {P : Addr → Prop} {a b : Addr} (h : P a) (g : P b) : ∀ x ∈ [a, b], P x := fun x m => by
  rcases List.mem_cons.mp m with rfl | m
  · exact h
  · exact mem1 g x m
theorem sqT_kpT {K : PySem.W.Frag} {H H' : Hp} {M : List Addr} {a : Addr} {xs : List V} (k : Kp M H H') (l : ∀ b ∈ M, NoT H b) (h : SqT K H a xs) : SqT K H' a xs := by
  rcases h with (h | ⟨o, h⟩) | h
  · exact .inl (.inl (k _ _ (fun z => (l a z _ h).1 _ rfl) h))
  · exact .inl (.inr ⟨o, k _ _ (fun z => (l a z _ h).2 _ _ rfl) h⟩)
  · exact .inr h
section
variable {K : PySem.W.Frag} {H H' : Hp}
mutual
theorem dp_kp0 (k : Kp [] H H') : ∀ {d : PyData} {v : V}, Dp K H v d → Dp K H' v d
  | .none, _, h => by cases h; exact .non
  | .bool b, _, h => by cases h; exact .bl b
  | .int i, _, h => by cases h; exact .int i
  | .str x, _, h => by cases h; exact .str x
  | .list ds, _, h => by
    cases h with
    | lst hx hs => exact .lst (k.sqL List.not_mem_nil hx) (dpAll_kp0 k hs)
  | .tuple ds, _, h => by
    cases h with
    | tup hx hs => exact .tup (k.sqT List.not_mem_nil hx) (dpAll_kp0 k hs)
  | .dict _, _, h => by cases h
theorem dpAll_kp0 (k : Kp [] H H') : ∀ {ds : List PyData} {vs : List V}, DpAll K H vs ds → DpAll K H' vs ds
  | [], _, h => by cases h; exact .nil
  | d :: ds, _, h => by
    cases h with
    | cons a b => exact .cons (dp_kp0 k a) (dpAll_kp0 k b)
end
mutual
theorem dp_kpT {M : List Addr} (k : Kp M H H') (l : ∀ b ∈ M, NoT H b) : ∀ {d : PyData} {v : V}, noL d = true → Dp K H v d → Dp K H' v d
  | .none, _, _, h => by cases h; exact .non
  | .bool b, _, _, h => by cases h; exact .bl b
  | .int i, _, _, h => by cases h; exact .int i
  | .str x, _, _, h => by cases h; exact .str x
  | .list ds, _, n, _ => by cases n
  | .tuple ds, _, n, h => by
    cases h with
    | tup hx hs => exact .tup (sqT_kpT k l hx) (dpAll_kpT k l n hs)
  | .dict _, _, _, h => by cases h
theorem dpAll_kpT {M : List Addr} (k : Kp M H H') (l : ∀ b ∈ M, NoT H b) : ∀ {ds : List PyData} {vs : List V}, noLs ds = true → DpAll K H vs ds → DpAll K H' vs ds
  | [], _, _, h => by cases h; exact .nil
  | d :: ds, _, n, h => by
    have n : (noL d && noLs ds) = true := n
    rw [Bool.and_eq_true] at n
    cases h with
    | cons a b => exact .cons (dp_kpT k l n.1 a) (dpAll_kpT k l n.2 b)
end
theorem dpAll_app {xs ys : List V} {ds es : List PyData} (h1 : DpAll K H xs ds) (h2 : DpAll K H ys es) : DpAll K H (xs ++ ys) (ds ++ es) := by
  induction xs generalizing ds with
  | nil => cases h1; exact h2
  | cons x xs ih =>
    cases h1 with
    | cons a b => exact .cons a (ih b)
theorem dpAll_one {x : V} {d : PyData} (h : Dp K H x d) : DpAll K H [x] [d] := .cons h .nil
theorem dpAll_len : ∀ {xs : List V} {ds : List PyData}, DpAll K H xs ds → xs.length = ds.length
  | [], _, h => by cases h; rfl
  | x :: xs, _, h => by
    cases h with
    | cons a b => rw [List.length_cons, List.length_cons, dpAll_len b]
theorem dpAll_ix : ∀ {xs : List V} {ds : List PyData} {i : Nat} {x : V}, DpAll K H xs ds → xs[i]? = some x → ∃ d, ds[i]? = some d ∧ Dp K H x d
  | [], _, i, x, h, e => by simp at e
  | y :: xs, _, i, x, h, e => by
    cases h with
    | cons a b =>
      cases i with
      | zero => cases e; exact ⟨_, rfl, a⟩
      | succ i => exact dpAll_ix (i := i) b e
theorem dpAll_xi : ∀ {xs : List V} {ds : List PyData} {i : Nat} {d : PyData}, DpAll K H xs ds → ds[i]? = some d → ∃ x, xs[i]? = some x ∧ Dp K H x d
  | _, [], i, x, h, e => by simp at e
  | _, d :: ds, i, x, h, e => by
    cases h with
    | cons a b =>
      cases i with
      | zero => cases e; exact ⟨_, rfl, a⟩
      | succ i => exact dpAll_xi (i := i) b e
theorem dpAll_drop : ∀ {xs : List V} {ds : List PyData} (i : Nat), DpAll K H xs ds → DpAll K H (xs.drop i) (ds.drop i)
  | xs, ds, 0, h => h
  | [], _, i + 1, h => by cases h; exact .nil
  | x :: xs, _, i + 1, h => by
    cases h with
    | cons a b => exact dpAll_drop i b
theorem dpAll_take : ∀ {xs : List V} {ds : List PyData} (i : Nat), DpAll K H xs ds → DpAll K H (xs.take i) (ds.take i)
  | xs, ds, 0, h => .nil
  | [], _, i + 1, h => by cases h; exact .nil
  | x :: xs, _, i + 1, h => by
    cases h with
    | cons a b => exact .cons a (dpAll_take i b)
/-- a tuple of data -/
theorem dp_tup {x : V} {ds : List PyData} (h : Dp K H x (.tuple ds)) : ∃ a xs, x = .ref a ∧ SqT K H a xs ∧ DpAll K H xs ds := by
  cases h with
  | tup a b => exact ⟨_, _, rfl, a, b⟩
theorem dp_str {x : V} {z : Str} (h : Dp K H x (.str z)) : x = .str z := by cases h; rfl
theorem dp_int {x : V} {i : Int} (h : Dp K H x (.int i)) : x = .int i := by cases h; rfl
theorem dp_non {x : V} (h : Dp K H x .none) : x = .non := by cases h; rfl
theorem dp_bl {x : V} {b : Bool} (h : Dp K H x (.bool b)) : x = .bl b := by cases h; rfl
theorem dp_isN {x : V} {d : PyData} (h : Dp K H x d) : x = .non ↔ d = .none := by
  cases h <;> simp
/-- t[i] -/
theorem ixDp_go {Q : VK} {x : V} {ds : List PyData} {d : PyData} {i : Nat} (h : Dp K H x (.tuple ds)) (e : ds[i]? = some d) (q : ∀ v, Dp K H v d → Q v H) : rIxU K x (.int (i : Nat)) H Q := by
  obtain ⟨a, xs, rfl, ha, hd⟩ := dp_tup h
  obtain ⟨v, hv, dv⟩ := dpAll_xi hd e
  exact ixT_go ha (atI_nat hv) (q v dv)
theorem ixD0_go {Q : VK} {x : V} {ds : List PyData} {d : PyData} (h : Dp K H x (.tuple ds)) (e : ds[0]? = some d) (q : ∀ v, Dp K H v d → Q v H) : rIxU K x (.int 0) H Q := ixDp_go (i := 0) h e q
theorem ixD1_go {Q : VK} {x : V} {ds : List PyData} {d : PyData} (h : Dp K H x (.tuple ds)) (e : ds[1]? = some d) (q : ∀ v, Dp K H v d → Q v H) : rIxU K x (.int 1) H Q := ixDp_go (i := 1) h e q
theorem ixD2_go {Q : VK} {x : V} {ds : List PyData} {d : PyData} (h : Dp K H x (.tuple ds)) (e : ds[2]? = some d) (q : ∀ v, Dp K H v d → Q v H) : rIxU K x (.int 2) H Q := ixDp_go (i := 2) h e q
theorem ixD3_go {Q : VK} {x : V} {ds : List PyData} {d : PyData} (h : Dp K H x (.tuple ds)) (e : ds[3]? = some d) (q : ∀ v, Dp K H v d → Q v H) : rIxU K x (.int 3) H Q := ixDp_go (i := 3) h e q
/-- a, b = t -/
theorem gTupD_go {n : Nat} {t : TGs} {x : V} {ds : List PyData} {σ : L2.St} {Q : L2.St → Hp → Prop} (h : Dp K H x (.tuple ds)) (l : ds.length = n) (q : ∀ xs, DpAll K H xs ds → t xs σ H Q) : gTup K n t x σ H Q := by
  obtain ⟨a, xs, rfl, ha, hd⟩ := dp_tup h
  exact gTup_go ha ((dpAll_len hd).trans l) (q xs hd)
/-- a list of data that stands for itself -/
def LsD (K : PySem.W.Frag) (H : Hp) (a : Addr) (ds : List PyData) : Prop := ∃ xs, H a = some (.lst xs) ∧ DpAll K H xs ds
theorem LsD.sqD {a : Addr} {ds : List PyData} (h : LsD K H a ds) : SqD K H a ds := let ⟨xs, h, g⟩ := h; ⟨xs, .inl (SqL.of h), g⟩
theorem LsD.kp0 {a : Addr} {ds : List PyData} (h : LsD K H a ds) (k : Kp [] H H') : LsD K H' a ds := let ⟨xs, h, g⟩ := h; ⟨xs, k _ _ List.not_mem_nil h, dpAll_kp0 k g⟩
theorem LsD.dp {a : Addr} {ds : List PyData} (h : LsD K H a ds) : Dp K H (.ref a) (.list ds) := let ⟨_, h, g⟩ := h; .lst (SqL.of h) g
theorem sqD_dp {a : Addr} {ds : List PyData} (h : Dp K H (.ref a) (.tuple ds)) : SqD K H a ds := by
  cases h with
  | tup a b => exact ⟨_, .inr a, b⟩
end
theorem sh_mono {n m : Nat} {d : PyData} (h : Sh n d) (l : n ≤ m) : Sh m d := ⟨h.1, Nat.le_trans h.2 l⟩
theorem sh_lay {ds : List PyData} {n : Nat} (h : ∀ d ∈ ds, Sh n d) : PyData.canLayAll0 ds = true := (sh_all h).1
end Kb
namespace Kb
open PySem PySem.Spec PyProof.Rows L2
section
variable {K : PySem.W.Frag} {H H' : Hp} {Q : VK} {x : V} {ds : List PyData} {z : Str} {i : Int}
theorem ixDS_go {j : Nat} (h : Dp K H x (.tuple ds)) (e : ds[j]? = some (.str z)) (q : Q (.str z) H) : rIxU K x (.int (j : Nat)) H Q := ixDp_go h e fun v hv => by cases hv; exact q
theorem ixDI_go {j : Nat} (h : Dp K H x (.tuple ds)) (e : ds[j]? = some (.int i)) (q : Q (.int i) H) : rIxU K x (.int (j : Nat)) H Q := ixDp_go h e fun v hv => by cases hv; exact q
theorem ixDS0_go (h : Dp K H x (.tuple ds)) (e : ds[0]? = some (.str z)) (q : Q (.str z) H) : rIxU K x (.int 0) H Q := ixDS_go (j := 0) h e q
theorem ixDI0_go (h : Dp K H x (.tuple ds)) (e : ds[0]? = some (.int i)) (q : Q (.int i) H) : rIxU K x (.int 0) H Q := ixDI_go (j := 0) h e q
theorem ixDS1_go (h : Dp K H x (.tuple ds)) (e : ds[1]? = some (.str z)) (q : Q (.str z) H) : rIxU K x (.int 1) H Q := ixDS_go (j := 1) h e q
theorem ixDI1_go (h : Dp K H x (.tuple ds)) (e : ds[1]? = some (.int i)) (q : Q (.int i) H) : rIxU K x (.int 1) H Q := ixDI_go (j := 1) h e q
end
end Kb
namespace Kb
open PySem PySem.Spec PyProof.Rows L2
theorem dp_updL {K : PySem.W.Frag} {H : Hp} {D : Addr} {acc zs : List V} {y : V} {d : PyData} (hD : H D = some (.lst acc)) (n : noL d = true) (h : Dp K H y d) : Dp K (upd H D (.lst zs)) y d := dp_kpT (M := [D]) (Kp.refl.upd_in List.mem_cons_self) (mem1 (noT_lst hD)) n h
theorem dpAll_updL {K : PySem.W.Frag} {H : Hp} {D : Addr} {acc zs ys : List V} {ds : List PyData} (hD : H D = some (.lst acc)) (n : noLs ds = true) (h : DpAll K H ys ds) : DpAll K (upd H D (.lst zs)) ys ds := dpAll_kpT (M := [D]) (Kp.refl.upd_in List.mem_cons_self) (mem1 (noT_lst hD)) n h
theorem noLs_all : ∀ {ds : List PyData}, (∀ d ∈ ds, noL d = true) → noLs ds = true
  | [], _ => rfl
  | d :: ds, h => by
    show (noL d && noLs ds) = true
    rw [h d List.mem_cons_self, noLs_all fun e m => h e (List.mem_cons_of_mem _ m)]
    rfl
/-- a comprehension whose items are data: f tells what comes of an item, if it is let in -/
theorem lc_dat {K : PySem.W.Frag} {α : Type} {J : It} {G : Hp → Prop} {xs : List V} {as : List α} {f : α → Option PyData} {g : TG} {tt : TT} {te : TE} {vs : List Nat} {σ : L2.St} {H : Hp} {D : Addr} {Qd : Hp → Prop} (w : Walk J xs.length G (YAt xs)) (nD : H D = none) (hl : xs.length = as.length) (le : xs.length ≤ 1000000) (nl : ∀ a ∈ as, ∀ d, f a = some d → noL d = true) (hG : ∀ H', Kp [] H H' → G H')
    (hs : ∀ (i : Nat) (a : α) (x : V) (H' : Hp), as[i]? = some a → xs[i]? = some x → Kp [] H H' → ∀ (Py : V → Hp → Prop) (Pn : Hp → Prop), (∀ d y H4, f a = some d → Kp [] H' H4 → Dp K H4 y d → Py y H4) → (∀ H3, f a = none → Kp [] H' H3 → Pn H3) →
      g x (wipe σ vs) H' fun σ2 H2 => wipe σ2 vs = wipe σ vs ∧ tt σ2 H2 fun b H3 => if b = true then te σ2 H3 Py else Pn H3)
    (hd : ∀ H', Kp [] H H' → LsD K H' D (as.filterMap f) → Qd H') :
    ∃ W : Nat → Nat → Hp → Prop, (∃ m, W 0 m (upd H D (.lst []))) ∧ ∀ i m H, W i m H →
      (J.stop i H ∧ Qd H) ∨ (J.go i H ∧ ∃ Nx : Hp → Prop, (∀ H', Nx H' → ∃ m', m' < m ∧ W (i + 1) m' H') ∧ ∀ x H', J.yld i H x H' → g x (wipe σ vs) H' fun σ2 H2 => wipe σ2 vs = wipe σ vs ∧ tt σ2 H2 fun b H3 =>
        if b = true then te σ2 H3 fun y H4 => ∃ acc, H4 D = some (.lst acc) ∧ acc.length < sizeLine ∧ Nx (upd H4 D (.lst (acc ++ [y]))) else Nx H3) := by
  refine lc_acc w (fun i acc H' => Kp [] H H' ∧ DpAll K H' acc ((as.take i).filterMap f)) ⟨Kp.refl.upd_new' nD, by rw [List.take_zero]; exact .nil⟩ (fun i acc H' _ h => hG H' h.1) (fun i x acc Ha Hb hi hal hD hP hY => ?_) (fun acc Ha hal hD hP => ?_)
  · obtain ⟨rfl, ex⟩ := hY
    obtain ⟨a, ea⟩ : ∃ a, as[i]? = some a := ⟨_, List.getElem?_eq_getElem (by omega)⟩
    refine hs i a x Hb ea ex hP.1 _ _ (fun d y H4 fd k4 dy => ?_) (fun H3 fn k3 => ?_)
    · have hD4 : H4 D = some (.lst acc) := k4 _ _ List.not_mem_nil hD
      refine acc_go hal (by omega) hD4 ⟨(hP.1.trans k4).upd_new nD, ?_⟩
      rw [List.take_add_one, ea, List.filterMap_append]
      have e1 : List.filterMap f (some a).toList = [d] := by show List.filterMap f [a] = [d]; rw [List.filterMap_cons, fd]; rfl
      rw [e1]
      refine dpAll_app (dpAll_updL hD4 (noLs_all fun d' md => ?_) (dpAll_kp0 k4 hP.2)) (dpAll_one (dp_updL hD4 (nl a (List.mem_of_getElem? ea) d fd) dy))
      obtain ⟨a', ha', e'⟩ := List.mem_filterMap.mp md
      exact nl a' (List.mem_of_mem_take ha') d' e'
    · refine acc_skip hal (k3 _ _ List.not_mem_nil hD) ⟨hP.1.trans k3, ?_⟩
      rw [List.take_add_one, ea, List.filterMap_append]
      have e1 : List.filterMap f (some a).toList = [] := by show List.filterMap f [a] = []; rw [List.filterMap_cons, fn]; rfl
      rw [e1, List.append_nil]
      exact dpAll_kp0 k3 hP.2
  · obtain ⟨k, p⟩ := hP
    rw [hl, List.take_length] at p
    exact hd Ha k ⟨acc, hD, p⟩
end Kb
namespace Kb
open PySem PySem.Spec PyProof.Rows L2
section
variable {H : Hp} {Q : VK} {a : Addr}
theorem isR_go (q : Q (.bl false) H) : rIsNU (.ref a) .non H Q := isN_go (by rw [decide_eq_false (fun e : V.ref a = .non => by cases e)]; exact q)
theorem isO_go (q : Q (.bl true) H) : rIsNU .non .non H Q := isN_go (by rw [decide_eq_true rfl]; exact q)
theorem notR_go (q : Q (.bl true) H) : rNotNU (.ref a) .non H Q := notN_go (by rw [decide_eq_false (fun e : V.ref a = .non => by cases e)]; exact q)
theorem notO_go (q : Q (.bl false) H) : rNotNU .non .non H Q := notN_go (by rw [decide_eq_true rfl]; exact q)
end
end Kb

/-! ### slices of a text or of a tuple; tuples of data cut and joined; what a thing of data is -/
namespace Kb
open PySem PySem.Spec PyProof.Rows L2
def rSlW (K : PySem.W.Frag) : V → Option Int → Option Int → Hp → VK → Prop := fun x lo hi H Q => rSlSU x lo hi H Q ∨ rSlA K x lo hi H Q
theorem u_slW {X : Cx} : SlR X (rSlW X.K) := u_slS.or sl_tupA
def tyD : PyData → String
  | .none => "NoneType"
  | .bool _ => "bool"
  | .int _ => "int"
  | .str _ => "str"
  | .list _ => "list"
  | .tuple _ => "tuple"
  | .dict _ => "dict"
def cutD (ds : List PyData) (lo hi : Option Int) : List PyData := (ds.drop (HT.sIx ds.length 0 lo)).take (HT.sIx ds.length ds.length hi - HT.sIx ds.length 0 lo)
section
variable {K : PySem.W.Frag} {H : Hp} {Q : VK} {x y : V} {ds es : List PyData} {lo hi : Option Int} {a : Addr} {xs : List V} {z : Str}
theorem sqT_tyA (h : SqT K H a xs) : TyX K H (.ref a) (.type "tuple") := by
  rcases h with (h | ⟨o, h⟩) | ⟨o, its, n, h, c, _⟩
  · exact .base (.tup h)
  · exact .fTuple h
  · exact .kTuple h c
theorem sqL_tyA (h : SqL K H a xs) : TyX K H (.ref a) (.type "list") := by
  rcases h with (h | ⟨o, h⟩) | ⟨o, its, n, h, c, _⟩
  · exact .base (.lst h)
  · exact .base (.frz h)
  · exact .kList h c
theorem dp_ty {d : PyData} (h : Dp K H x d) : TyX K H x (.type (tyD d)) := by
  cases h with
  | non => exact .base .non
  | bl b => exact .base (.bl b)
  | int i => exact .base (.int i)
  | str z => exact .base (.str z)
  | lst h _ => exact sqL_tyA h
  | tup h _ => exact sqT_tyA h
theorem dpAll_cut (h : DpAll K H xs ds) : DpAll K H (cutV xs lo hi) (cutD ds lo hi) := by
  unfold cutV cutD
  rw [dpAll_len h]
  exact dpAll_take _ (dpAll_drop _ h)
theorem slA_go (h : SqT K H a xs) (q : ∀ H' p, Kp [] H H' → SqT K H' p (cutV xs lo hi) → Q (.ref p) H') : rSlA K (.ref a) lo hi H Q := by
  refine ⟨a, xs, rfl, h, fun e => ?_, fun _ p np => q _ p (Kp.refl.upd_new' np) (SqT.of upd_same)⟩
  refine q H a Kp.refl ?_
  have e1 : cutV xs lo hi = xs := by
    unfold cutV
    rw [e.1, e.2, List.drop_zero, Nat.sub_zero, List.take_length]
  rw [e1]
  exact h
theorem slD_go (h : Dp K H x (.tuple ds)) (q : ∀ H' y, Kp [] H H' → Dp K H' y (.tuple (cutD ds lo hi)) → Q y H') : rSlA K x lo hi H Q := by
  obtain ⟨a, xs, rfl, ha, hd⟩ := dp_tup h
  exact slA_go ha fun H' p k hp => q H' _ k (.tup hp (dpAll_cut (dpAll_kp0 k hd)))
theorem slWD_go (h : Dp K H x (.tuple ds)) (q : ∀ H' y, Kp [] H H' → Dp K H' y (.tuple (cutD ds lo hi)) → Q y H') : rSlW K x lo hi H Q := .inr (slD_go h q)
theorem slWS_go (h : z.length ≤ 16777216) (q : Q (.str (cutS z lo hi)) H) : rSlW K (.str z) lo hi H Q := .inl (slS_go h q)
theorem addD_go (hx : Dp K H x (.tuple ds)) (hy : Dp K H y (.tuple es)) (l : ds.length + es.length ≤ 16777216) (q : ∀ H' z, Kp [] H H' → Dp K H' z (.tuple (ds ++ es)) → Q z H') : rAddA K x y H Q := by
  obtain ⟨a, xs, rfl, ha, hd⟩ := dp_tup hx
  obtain ⟨b, ys, rfl, hb, he⟩ := dp_tup hy
  exact addA_go ha hb (by rw [dpAll_len hd, dpAll_len he]; exact l) fun H' p k hp => q H' _ k (.tup hp (dpAll_app (dpAll_kp0 k hd) (dpAll_kp0 k he)))
theorem lenD_go (h : Dp K H x (.tuple ds)) (q : Q (.int (ds.length : Nat)) H) : rLenU K [x] H Q := by
  obtain ⟨a, xs, rfl, ha, hd⟩ := dp_tup h
  exact len_tup ha (by rw [dpAll_len hd]; exact q)
/-- a list or a tuple of data: its length, one of it -/
theorem lenQ_go (h : SqD K H a ds) (q : Q (.int (ds.length : Nat)) H) : rLenU K [.ref a] H Q := by
  obtain ⟨xs, h | h, hd⟩ := h
  · exact len_lst h (by rw [dpAll_len hd]; exact q)
  · exact len_tup h (by rw [dpAll_len hd]; exact q)
theorem ixQ_go {i : Nat} {d : PyData} (h : SqD K H a ds) (e : ds[i]? = some d) (q : ∀ v, Dp K H v d → Q v H) : rIxU K (.ref a) (.int (i : Nat)) H Q := by
  obtain ⟨xs, h, hd⟩ := h
  obtain ⟨v, ev, dv⟩ := dpAll_xi hd e
  rcases h with h | h
  · exact ixL_go h (atI_nat ev) (q v dv)
  · exact ixT_go h (atI_nat ev) (q v dv)
theorem SqD.kp0 {H' : Hp} (h : SqD K H a ds) (k : Kp [] H H') : SqD K H' a ds := by
  obtain ⟨xs, h | h, hd⟩ := h
  · exact ⟨xs, .inl (k.sqL List.not_mem_nil h), dpAll_kp0 k hd⟩
  · exact ⟨xs, .inr (k.sqT List.not_mem_nil h), dpAll_kp0 k hd⟩
end
theorem walk_zipT {K : PySem.W.Frag} {a b : Addr} {xs ys : List V} {n : Nat} (hn : n = min xs.length ys.length) : Walk (RZ.ItzT K a b) n (fun H => SqT K H a xs ∧ SqT K H b ys) (YPair (fun i => xs[i]?) (fun i => ys[i]?)) := by
  subst hn
  refine ⟨fun i _ hi q => ?_, fun _ q => ⟨xs, ys, q.1, q.2, by omega⟩, fun i H v H' _ q y => ?_⟩
  · have h1 : i < xs.length := by omega
    have h2 : i < ys.length := by omega
    exact ⟨xs, ys, xs[i], ys[i], q.1, q.2, by simp [h1], by simp [h2]⟩
  · obtain ⟨T, x, z, h1, h2, h3, h4, h5⟩ := y
    exact ⟨T, x, z, h1, h2, h3, h4 xs q.1, h5 ys q.2⟩
end Kb

/-! ### str(i) (where Gk is not there) -/
namespace Kb
open PySem PySem.Spec PyProof.Rows L2
@[irreducible] def rStrU : List V → Hp → VK → Prop := fun xs H Q => ∃ i, xs = [.int i] ∧ i.natAbs.log2 < 1920 ∧ Q (.str (toString i)) H
theorem u_str {X : Cx} : CallR X (.type "str") rStrU := by unfold rStrU; exact call_str_int
theorem strI_go {H : Hp} {Q : VK} {i : Int} (h : i.natAbs.log2 < 1920) (q : Q (.str (toString i)) H) : rStrU [.int i] H Q := by unfold rStrU; exact ⟨i, rfl, h, q⟩
end Kb

/-! ### texts that are told alike or apart at once -/
namespace Kb
open PySem PySem.Spec PyProof.Rows L2
section
variable {K : PySem.W.Frag} {H : Hp} {Q : VK} {z w : Str} {i j : Int}
theorem eqSS_go (q : Q (.bl true) H) : rEqU K (.str z) (.str z) H Q := eqS_go (by rw [decide_eq_true rfl]; exact q)
theorem eqSN_go (h : ¬ z = w) (q : Q (.bl false) H) : rEqU K (.str z) (.str w) H Q := eqS_go (by rw [decide_eq_false h]; exact q)
theorem neSS_go (q : Q (.bl false) H) : rNeU K (.str z) (.str z) H Q := neS_go (by rw [decide_eq_true rfl]; exact q)
theorem neSN_go (h : ¬ z = w) (q : Q (.bl true) H) : rNeU K (.str z) (.str w) H Q := neS_go (by rw [decide_eq_false h]; exact q)
section
variable {x : V} {ds : List PyData}
theorem ixDN2_go (h : Dp K H x (.tuple ds)) (e : ds[2]? = some .none) (q : Q .non H) : rIxU K x (.int 2) H Q := ixD2_go h e fun v hv => by cases hv; exact q
theorem ixDI2_go (h : Dp K H x (.tuple ds)) (e : ds[2]? = some (.int i)) (q : Q (.int i) H) : rIxU K x (.int 2) H Q := ixDI_go (j := 2) h e q
end
end
end Kb

/-! ## the program's schemas: sorts, fields, cases; promises for good ones -/
namespace K02
open PySem PySem.Spec PyProof.Rows L2 Kb
open LamX (TabS)
inductive Srt where
  | num (lo hi : Option Int)
  | truth
  | text (n : Int)
  | row (n : Int) (s : Srt)
  | maybe (s : Srt)
  | node (k : Str)
  | pick (k : Str)
def oV : Option Int → V
  | none => .non
  | some i => .int i
/-- x is a sort's tuple -/
def SrtV (K : PySem.W.Frag) (H : Hp) : Srt → V → Prop
  | .num lo hi, x => ∃ a, x = .ref a ∧ SqT K H a [.str "number", oV lo, oV hi]
  | .truth, x => ∃ a, x = .ref a ∧ SqT K H a [.str "truth"]
  | .text n, x => ∃ a, x = .ref a ∧ SqT K H a [.str "text", .int n]
  | .row n s, x => ∃ a y, x = .ref a ∧ SqT K H a [.str "row", .int n, y] ∧ SrtV K H s y
  | .maybe s, x => ∃ a y, x = .ref a ∧ SqT K H a [.str "maybe", y] ∧ SrtV K H s y
  | .node k, x => ∃ a, x = .ref a ∧ SqT K H a [.str "node", .str k]
  | .pick k, x => ∃ a, x = .ref a ∧ SqT K H a [.str "choice", .str k]
def GREAT : Int := 999999999999999999999999999999999999999999999999999999999999
/-- a sort of a schema of these kinds and choices, at most so deep -/
def Srt.ok (nk ck : Str → Prop) : Srt → Nat → Prop
  | .num lo hi, _ => (∀ l h, lo = some l → hi = some h → l ≤ h) ∧ (∀ l, lo = some l → -GREAT ≤ l ∧ l ≤ GREAT) ∧ ∀ h, hi = some h → -GREAT ≤ h ∧ h ≤ GREAT
  | .truth, _ => True
  | .text n, _ => 0 ≤ n ∧ n ≤ 40
  | .row n s, d + 1 => 0 ≤ n ∧ n ≤ 20 ∧ s.ok nk ck d
  | .maybe s, d + 1 => s.ok nk ck d ∧ ∀ s', s ≠ .maybe s'
  | .node k, _ => nk k
  | .pick k, _ => ck k
  | _, _ => False
/-- v is a default of a sort -/
def DfOk (K : PySem.W.Frag) (H : Hp) : Srt → V → Prop
  | .num lo hi, v => ∃ i, v = .int i ∧ (∀ l, lo = some l → l ≤ i) ∧ (∀ h, hi = some h → i ≤ h) ∧ -GREAT ≤ i ∧ i ≤ GREAT
  | .truth, v => ∃ b, v = .bl b
  | .text n, v => ∃ z : Str, v = .str z ∧ (z.length : Int) ≤ n ∧ z.length ≤ 1000 ∧ 10 ∉ z.cps.toList
  | .row _ _, v => ∃ a, v = .ref a ∧ SqT K H a []
  | .maybe _, v => v = .non
  | _, _ => False
/-- one to eight small letters -/
def NameOk (z : Str) : Prop := 1 ≤ z.length ∧ z.length ≤ 8 ∧ ∀ c ∈ z.cps.toList, 97 ≤ c ∧ c ≤ 122
def keyIn (kvs : List (L2.Key × V)) (k : Str) : Prop := ∃ v, valV kvs (.inr k) = some v
structure Fld where
  num : Int
  name : Str
  s : Srt
  y : V
  dfl : Option V
/-- a field's tuple -/
structure FldV (K : PySem.W.Frag) (H : Hp) (f : Fld) (x : V) : Prop where
  at_ : ∃ a, x = .ref a ∧ SqT K H a ([.int f.num, .str f.name, f.y] ++ f.dfl.toList)
  srt : SrtV K H f.s f.y
  dfl : ∀ v, f.dfl = some v → DfOk K H f.s v
structure Fld.ok (nk ck : Str → Prop) (f : Fld) : Prop where
  lo : 1 ≤ f.num
  hi : f.num ≤ 99
  name : NameOk f.name
  srt : f.s.ok nk ck 3
structure Cse where
  num : Int
  name : Str
  s : Option Srt
  y : V
structure CseV (K : PySem.W.Frag) (H : Hp) (c : Cse) (x : V) : Prop where
  at_ : ∃ a, x = .ref a ∧ SqT K H a [.int c.num, .str c.name, c.y]
  srt : ∀ s, c.s = some s → SrtV K H s c.y
  non : c.s = none → c.y = .non
structure Cse.ok (nk ck : Str → Prop) (c : Cse) : Prop where
  lo : 0 ≤ c.num
  hi : c.num ≤ 99
  name : NameOk c.name
  srt : ∀ s, c.s = some s → s.ok nk ck 3
  zero : c.num = 0 → c.s = none
/-- a list or a tuple -/
def Sq (K : PySem.W.Frag) (H : Hp) (a : Addr) (xs : List V) : Prop := H a = some (.lst xs) ∨ SqT K H a xs
@[irreducible] def sp_is_whole (K : PySem.W.Frag) : Sp := fun vs H Q _ => ∃ i : Int, vs = [.int i] ∧ Q (.bl true) H
@[irreducible] def sp_is_within (K : PySem.W.Frag) : Sp := fun vs H Q _ => ∃ (i : Int) (lo hi : Option Int), vs = [.int i, oV lo, oV hi] ∧ Q (.bl ((lo.all fun l => decide (l ≤ i)) && hi.all fun h => decide (i ≤ h))) H
@[irreducible] def sp_is_row (K : PySem.W.Frag) : Sp := fun vs H Q _ => ∃ a xs, vs = [.ref a] ∧ Sq K H a xs ∧ ∀ H', Kp [] H H' → Q (.bl true) H'
@[irreducible] def sp_left_of (K : PySem.W.Frag) : Sp := fun vs H Q _ => ∃ a xs, vs = [.ref a] ∧ SqT K H a xs ∧ 3 ≤ xs.length ∧ ∀ H' p, Kp [] H H' → SqT K H' p (xs.drop 3) → Q (.ref p) H'
@[irreducible] def sp_is_name (K : PySem.W.Frag) : Sp := fun vs H Q _ => ∃ z, vs = [.str z] ∧ NameOk z ∧ ∀ H', Kp [] H H' → Q (.bl true) H'
@[irreducible] def sp_is_bounds (K : PySem.W.Frag) : Sp := fun vs H Q _ => ∃ lo hi : Option Int, vs = [oV lo, oV hi] ∧ (∀ l h, lo = some l → hi = some h → l ≤ h) ∧ ∀ H', Kp [] H H' → Q (.bl true) H'
@[irreducible] def sp_is_known (K : PySem.W.Frag) : Sp := fun vs H Q _ => ∃ a kvs k, vs = [.ref a, .str k] ∧ Rd H a (.dK kvs) ∧ keyIn kvs k ∧ Q (.bl true) H
@[irreducible] def sp_is_sort (K : PySem.W.Frag) : Nat → Sp
  | 0 => fun _ _ _ _ => False
  | n + 1 => fun vs H Q _ => ∃ ka ca x deep kk ck s, vs = [.ref ka, .ref ca, x, .int deep] ∧ Rd H ka (.dK kk) ∧ Rd H ca (.dK ck) ∧ SrtV K H s x ∧ s.ok (keyIn kk) (keyIn ck) n ∧ 0 ≤ deep ∧ deep + n ≤ 3 ∧ ∀ H', Kp [] H H' → Q (.bl true) H'
@[irreducible] def sp_is_default (K : PySem.W.Frag) : Sp := fun vs H Q _ => ∃ s x v, vs = [x, v] ∧ SrtV K H s x ∧ DfOk K H s v ∧ ∀ H', Kp [] H H' → Q (.bl true) H'
@[irreducible] def sp_refuse_if (K : PySem.W.Frag) : Sp := fun vs H Q _ => ∃ p w, vs = [.bl false, p, w] ∧ Q .non H
@[irreducible] def sp_look_at_heading (K : PySem.W.Frag) : Sp := fun vs H Q _ => ∃ w z a xs, vs = [.str w, .str z, .ref a] ∧ NameOk z ∧ Sq K H a xs ∧ ∀ H', Kp [] H H' → Q .non H'
/-- a part's number and name -/
def PartV (K : PySem.W.Frag) (H : Hp) (p : Int × Str) (x : V) : Prop := ∃ a r, x = .ref a ∧ SqT K H a (.int p.1 :: .str p.2 :: r)
@[irreducible] def sp_look_at_part (K : PySem.W.Frag) : Sp := fun vs H Q _ => ∃ (path x : V) (ah ln : Addr) (least : Int) (p : Int × Str) (ps : List (Int × Str)) (xs : List V) (a : Addr) (r : List V) (ls : List Int),
  vs = [path, x, .ref ah, .int least, .ref ln] ∧ x = .ref a ∧ SqT K H a (.int p.1 :: .str p.2 :: r) ∧ SqT K H ln (ls.map V.int) ∧ ((2 + r.length : Nat) : Int) ∈ ls ∧ Sq K H ah xs ∧ Paired (PartV K H) ps xs ∧ xs.length ≤ 1000 ∧
  NameOk p.2 ∧ p.2 ∉ ps.map (·.2) ∧ p.1 ∉ ps.map (·.1) ∧ least ≤ p.1 ∧ p.1 ≤ 99 ∧ ∀ H', Kp [] H H' → Q .non H'
end K02

namespace K02
open PySem PySem.Spec PyProof.Rows L2 Kb
structure OwnWalk (K : PySem.W.Frag) (C : Addr) : Prop where
  cl : Cls K C
  n_old : NoAttr K C "old"
  n_new : NoAttr K C "new"
  n_pairs : NoAttr K C "pairs"
  n_chains : NoAttr K C "chains"
  eq : PlainCls K C
  kb : PySem.W.kitOne K (.ref C) (.type "bool") = some false
structure OwnMaking (K : PySem.W.Frag) (C : Addr) : Prop where
  cl : Cls K C
  n_old : NoAttr K C "old"
  n_new : NoAttr K C "new"
  n_pairs : NoAttr K C "pairs"
  eq : PlainCls K C
  kb : PySem.W.kitOne K (.ref C) (.type "bool") = some false
structure OwnSchema (K : PySem.W.Frag) (C : Addr) : Prop where
  cl : Cls K C
  n_kinds : NoAttr K C "kinds"
  n_choices : NoAttr K C "choices"
  n_root : NoAttr K C "root"
  eq : PlainCls K C
  kb : PySem.W.kitOne K (.ref C) (.type "bool") = some false
structure Tb where
  a : Addr
  b : Addr
structure Own (K : PySem.W.Frag) (C : Addr) : Prop where
  Walk : OwnWalk K (cAt K "Walk")
  Making : OwnMaking K (cAt K "Making")
  Schema : OwnSchema K (cAt K "Schema")
  gt_INSIDE : GTup K (cAt K "INSIDE") [.str (PySem.Str.ofString "inside")]

def t_is_whole (K : PySem.W.Frag) : TS :=
 (tRet (tAndV (tCB (rIsiU K) (tCons (tVar 0) (tCons (tC (.ty "int")) tNil))) (tNotV (tCB (rIsiU K) (tCons (tVar 0) (tCons (tC (.ty "bool")) tNil))))))
def t_is_within (K : PySem.W.Frag) : TS :=
 (tSeq (tIfS (tOr (tNot (tTru K (tCall (sp_is_whole K) [] E0 (tCons (tVar 0) tNil)))) (tAnd (tTest (tOp rNotNU (tVar 1) (tC .non))) (tTest (tOp rLtU (tVar 0) (tVar 1)))))
 (tRet (tC (.bl false)))
 tNext)
 (tRet (tOrV (tOp rIsNU (tVar 2) (tC .non)) (tOp rLeU (tVar 0) (tVar 2)))))
def t_is_row (K : PySem.W.Frag) : TS :=
 (tRet (tCB (rIsiU K) (tCons (tVar 0) (tCons (tTup (tCons (tC (.ty "list")) (tCons (tC (.ty "tuple")) tNil))) tNil))))
def t_left_of (K : PySem.W.Frag) : TS :=
 (tRet (tSl (rSlA K) (tVar 0) (tPart (tC (.int 3))) tNoPart))
def t_is_name (K : PySem.W.Frag) : TS :=
 (tSeq (tIfS (tOr (tNot (tTru K (tCB (rIsiU K) (tCons (tVar 0) (tCons (tC (.ty "str")) tNil))))) (tNot (tTest (tChain rLeU rLeU (tC (.int 1)) (tCB (rLenU K) (tCons (tVar 0) tNil)) (tC (.int 8))))))
 (tRet (tC (.bl false)))
 tNext)
 (tRet (tCB (rAllU K) (tCons (tLc (iStr (tVar 0)) (gName 1) tYes (tOp (rInU K) (tVar 1) (tC (.str (PySem.Str.ofString "abcdefghijklmnopqrstuvwxyz")))) [1]) tNil))))
def t_is_bounds (K : PySem.W.Frag) : TS :=
 (tSeq (tIfS (tNot (tTru K (tCB (rAllU K) (tCons (tLc (iTup K (tTup (tCons (tVar 0) (tCons (tVar 1) tNil)))) (gName 2) tYes (tOrV (tOp rIsNU (tVar 2) (tC .non)) (tCall (sp_is_whole K) [] E0 (tCons (tVar 2) tNil))) [2]) tNil))))
 (tRet (tC (.bl false)))
 tNext)
 (tRet (tOrV (tOp rIsNU (tVar 0) (tC .non)) (tOrV (tOp rIsNU (tVar 1) (tC .non)) (tOp rLeU (tVar 0) (tVar 1))))))
def t_is_known (K : PySem.W.Frag) : TS :=
 (tRet (tAndV (tCB (rIsiU K) (tCons (tVar 1) (tCons (tC (.ty "str")) tNil))) (tDIn (tVar 1) (tVar 0))))
@[irreducible] def b_is_sort_0 (K : PySem.W.Frag) (n : Nat) : TS :=
 (tSeq (tIfS (tTest (tOp (rEqU K) (tVar 4) (tC (.str (PySem.Str.ofString "truth")))))
 (tRet (tOp (rEqX K) (tVar 5) (tLst tNil)))
 tNext)
 (tSeq (tIfS (tTest (tOp (rEqU K) (tVar 4) (tC (.str (PySem.Str.ofString "number")))))
 (tRet (tAndV (tOp (rEqU K) (tCB (rLenU K) (tCons (tVar 5) tNil)) (tC (.int 2))) (tCall (sp_is_bounds K) [] E0 (tCons (tOp (rIxU K) (tVar 5) (tC (.int 0))) (tCons (tOp (rIxU K) (tVar 5) (tC (.int 1))) tNil)))))
 tNext)
 (tSeq (tIfS (tTest (tOp (rEqU K) (tVar 4) (tC (.str (PySem.Str.ofString "text")))))
 (tRet (tAndV (tOp (rEqU K) (tCB (rLenU K) (tCons (tVar 5) tNil)) (tC (.int 1))) (tCall (sp_is_within K) [] E0 (tCons (tOp (rIxU K) (tVar 5) (tC (.int 0))) (tCons (tC (.int 0)) (tCons (tC (.int 40)) tNil))))))
 tNext)
 (tSeq (tIfS (tTest (tOp (rEqU K) (tVar 4) (tC (.str (PySem.Str.ofString "row")))))
 (tRet (tAndV (tOp (rEqU K) (tCB (rLenU K) (tCons (tVar 5) tNil)) (tC (.int 2))) (tAndV (tCall (sp_is_within K) [] E0 (tCons (tOp (rIxU K) (tVar 5) (tC (.int 0))) (tCons (tC (.int 0)) (tCons (tC (.int 20)) tNil)))) (tCall (sp_is_sort K n) (([.int 0] : List V).drop 1) E0 (tCons (tVar 0) (tCons (tVar 1) (tCons (tOp (rIxU K) (tVar 5) (tC (.int 1))) (tCons (tOp (rAddU K) (tVar 3) (tC (.int 1))) tNil))))))))
 tNext)
 (tSeq (tIfS (tTest (tOp (rNeU K) (tCB (rLenU K) (tCons (tVar 5) tNil)) (tC (.int 1))))
 (tRet (tC (.bl false)))
 tNext)
 (tSeq (tIfS (tTest (tOp (rEqU K) (tVar 4) (tC (.str (PySem.Str.ofString "maybe")))))
 (tRet (tAndV (tCall (sp_is_sort K n) (([.int 0] : List V).drop 1) E0 (tCons (tVar 0) (tCons (tVar 1) (tCons (tOp (rIxU K) (tVar 5) (tC (.int 0))) (tCons (tOp (rAddU K) (tVar 3) (tC (.int 1))) tNil))))) (tOp (rNeU K) (tOp (rIxU K) (tOp (rIxU K) (tVar 5) (tC (.int 0))) (tC (.int 0))) (tC (.str (PySem.Str.ofString "maybe"))))))
 tNext)
 (tRet (tOrV (tAndV (tOp (rEqU K) (tVar 4) (tC (.str (PySem.Str.ofString "node")))) (tCall (sp_is_known K) [] E0 (tCons (tVar 0) (tCons (tOp (rIxU K) (tVar 5) (tC (.int 0))) tNil)))) (tAndV (tOp (rEqU K) (tVar 4) (tC (.str (PySem.Str.ofString "choice")))) (tCall (sp_is_known K) [] E0 (tCons (tVar 1) (tCons (tOp (rIxU K) (tVar 5) (tC (.int 0))) tNil))))))))))))
def t_is_sort (K : PySem.W.Frag) (n : Nat) : TS :=
 (tSeq (tIfS (tOr (tTest (tOp rGtU (tVar 3) (tC (.int 3)))) (tOr (tNot (tTru K (tCB (rIsiU K) (tCons (tVar 2) (tCons (tC (.ty "tuple")) tNil))))) (tOr (tTest (tOp (rEqX K) (tVar 2) (tTup tNil))) (tNot (tTru K (tCB (rIsiU K) (tCons (tOp (rIxU K) (tVar 2) (tC (.int 0))) (tCons (tC (.ty "str")) tNil))))))))
 (tRet (tC (.bl false)))
 tNext)
 (tSeq (tAsg (tVar 2) (gStar K 1 (gCons (gName 4) (gCons (gName 5) gNil))))
 (b_is_sort_0 K n)))
def t_is_default (K : PySem.W.Frag) : TS :=
 (tSeq (tIfS (tTest (tOp (rEqU K) (tOp (rIxU K) (tVar 0) (tC (.int 0))) (tC (.str (PySem.Str.ofString "number")))))
 (tRet (tAndV (tCall (sp_is_within K) [] E0 (tCons (tVar 1) (tCons (tOp (rIxU K) (tVar 0) (tC (.int 1))) (tCons (tOp (rIxU K) (tVar 0) (tC (.int 2))) tNil)))) (tOp rLeU (tCB rAbsU (tCons (tVar 1) tNil)) (tC (.int 999999999999999999999999999999999999999999999999999999999999)))))
 tNext)
 (tSeq (tIfS (tTest (tOp (rEqU K) (tOp (rIxU K) (tVar 0) (tC (.int 0))) (tC (.str (PySem.Str.ofString "truth")))))
 (tRet (tCB (rIsiU K) (tCons (tVar 1) (tCons (tC (.ty "bool")) tNil))))
 tNext)
 (tSeq (tIfS (tTest (tOp (rEqU K) (tOp (rIxU K) (tVar 0) (tC (.int 0))) (tC (.str (PySem.Str.ofString "text")))))
 (tRet (tAndV (tCB (rIsiU K) (tCons (tVar 1) (tCons (tC (.ty "str")) tNil))) (tOp rLeU (tCB (rLenU K) (tCons (tVar 1) tNil)) (tOp (rIxU K) (tVar 0) (tC (.int 1))))))
 tNext)
 (tSeq (tIfS (tTest (tOp (rEqU K) (tOp (rIxU K) (tVar 0) (tC (.int 0))) (tC (.str (PySem.Str.ofString "row")))))
 (tRet (tAndV (tCB (rIsiU K) (tCons (tVar 1) (tCons (tC (.ty "tuple")) tNil))) (tOp (rEqX K) (tVar 1) (tTup tNil))))
 tNext)
 (tRet (tAndV (tOp (rEqU K) (tOp (rIxU K) (tVar 0) (tC (.int 0))) (tC (.str (PySem.Str.ofString "maybe")))) (tOp rIsNU (tVar 1) (tC .non))))))))
def t_refuse_if (K : PySem.W.Frag) : TS :=
 (tIfS (tTru K (tVar 0))
 tNever
 tNext)
def t_look_at_heading (K : PySem.W.Frag) : TS :=
 (tSeq (tDrop (tCall (sp_refuse_if K) [] E0 (tCons (tNotV (tCall (sp_is_name K) [] E0 (tCons (tVar 1) tNil))) (tCons (tTup (tCons (tVar 0) (tCons (tVar 1) (tCons (tUn rNegU (tC (.int 1))) tNil)))) (tCons (tC (.str (PySem.Str.ofString "name"))) tNil)))))
 (tDrop (tCall (sp_refuse_if K) [] E0 (tCons (tNotV (tCall (sp_is_row K) [] E0 (tCons (tVar 2) tNil))) (tCons (tTup (tCons (tVar 0) (tCons (tVar 1) (tCons (tUn rNegU (tC (.int 1))) tNil)))) (tCons (tC (.str (PySem.Str.ofString "row"))) tNil))))))
def t_look_at_part (K : PySem.W.Frag) : TS :=
 (tSeq (tDrop (tCall (sp_refuse_if K) [] E0 (tCons (tOrV (tNotV (tCB (rIsiU K) (tCons (tVar 1) (tCons (tC (.ty "tuple")) tNil)))) (tOp (rNotInU K) (tCB (rLenU K) (tCons (tVar 1) tNil)) (tVar 4))) (tCons (tVar 0) (tCons (tC (.str (PySem.Str.ofString "row"))) tNil)))))
 (tSeq (tDrop (tCall (sp_refuse_if K) [] E0 (tCons (tOrV (tNotV (tCall (sp_is_name K) [] E0 (tCons (tOp (rIxU K) (tVar 1) (tC (.int 1))) tNil))) (tOp (rInU K) (tOp (rIxU K) (tVar 1) (tC (.int 1))) (tLc (iSeq K (tVar 2)) (gName 5) tYes (tOp (rIxU K) (tVar 5) (tC (.int 1))) [5]))) (tCons (tVar 0) (tCons (tC (.str (PySem.Str.ofString "name"))) tNil)))))
 (tSeq (tDrop (tCall (sp_refuse_if K) [] E0 (tCons (tNotV (tCall (sp_is_within K) [] E0 (tCons (tOp (rIxU K) (tVar 1) (tC (.int 0))) (tCons (tVar 3) (tCons (tC (.int 99)) tNil))))) (tCons (tVar 0) (tCons (tC (.str (PySem.Str.ofString "number"))) tNil)))))
 (tDrop (tCall (sp_refuse_if K) [] E0 (tCons (tOp (rInU K) (tOp (rIxU K) (tVar 1) (tC (.int 0))) (tLc (iSeq K (tVar 2)) (gName 5) tYes (tOp (rIxU K) (tVar 5) (tC (.int 0))) [5])) (tCons (tVar 0) (tCons (tC (.str (PySem.Str.ofString "number"))) tNil))))))))
end K02

/-! ## the program's schemas: the class -/
namespace K02
open PySem PySem.Spec PyProof.Rows L2 Kb
open LamX (TabS)
def qa : Str := ("Schema.take_kind" : Str) ++ ".<locals>." ++ "<lambda>"
def qb : Str := ("Schema.take_choice" : Str) ++ ".<locals>." ++ "<lambda>"
def qc : Str := ("_law_sorted" : Str) ++ ".<locals>." ++ "<lambda>"
/-- the tables of the lambdas -/
structure Tbl (Pt : Tb) (H : Hp) : Prop where
  a : TabS H Pt.a qa
  b : TabS H Pt.b qb
  ab : Pt.a ≠ Pt.b
def schF (D1 D2 : Addr) (root : V) : List (Str × V) := [("kinds", .ref D1), ("choices", .ref D2), ("root", root)]
/-- good fields in a row -/
structure RowF (K : PySem.W.Frag) (H : Hp) (nk ck : Str → Prop) (fls : List Fld) (xs : List V) : Prop where
  at_ : Paired (FldV K H) fls xs
  ok : ∀ f ∈ fls, f.ok nk ck
  names : (fls.map (·.name)).Nodup
  nums : (fls.map (·.num)).Nodup
  le : xs.length ≤ 1000
structure RowC (K : PySem.W.Frag) (H : Hp) (nk ck : Str → Prop) (cs : List Cse) (xs : List V) : Prop where
  at_ : Paired (CseV K H) cs xs
  ok : ∀ c ∈ cs, c.ok nk ck
  names : (cs.map (·.name)).Nodup
  nums : (cs.map (·.num)).Nodup
  ne : cs ≠ []
  le : xs.length ≤ 1000
@[irreducible] def sp_Schema_take_kind (K : PySem.W.Frag) (Pt : Tb) : Sp := fun vs H Q _ => ∃ a ka ca z ra dx D1 D2 root kvs kk ck fls xs, vs = [.ref a, .ref ka, .ref ca, .str z, .ref ra] ∧ H a = some (.ins (cAt K "Schema") dx (schF D1 D2 root)) ∧ H D1 = some (.dK kvs) ∧ kvs.length ≤ 1000 ∧
  Rd H ka (.dK kk) ∧ Rd H ca (.dK ck) ∧ NameOk z ∧ Sq K H ra xs ∧ RowF K H (keyIn kk) (keyIn ck) fls xs ∧ Tbl Pt H ∧
  ∀ H' T ys, Kp [D1, Pt.a] H H' → Tbl Pt H' → H T = none → H' T = some (.tup ys) → ByKey (fls.map (·.num)) xs ys → H' D1 = some (.dK (putK kvs (.inr z) (.ref T))) → Q .non H'
@[irreducible] def sp_Schema_take_choice (K : PySem.W.Frag) (Pt : Tb) : Sp := fun vs H Q _ => ∃ a ka ca z ra dx D1 D2 root kvs kk ck cs xs, vs = [.ref a, .ref ka, .ref ca, .str z, .ref ra] ∧ H a = some (.ins (cAt K "Schema") dx (schF D1 D2 root)) ∧ H D2 = some (.dK kvs) ∧ kvs.length ≤ 1000 ∧
  Rd H ka (.dK kk) ∧ Rd H ca (.dK ck) ∧ NameOk z ∧ Sq K H ra xs ∧ RowC K H (keyIn kk) (keyIn ck) cs xs ∧ Tbl Pt H ∧
  ∀ H' T ys, Kp [D2, Pt.b] H H' → Tbl Pt H' → H T = none → H' T = some (.tup ys) → ByKey (cs.map (·.num)) xs ys → H' D2 = some (.dK (putK kvs (.inr z) (.ref T))) → Q .non H'
/-- where the content of a choice's first case leads -/
def Leads (K : PySem.W.Frag) (H : Hp) (kvs : List (L2.Key × V)) (z : Str) (to : Option Str) : Prop := ∃ T c r num nm y, valV kvs (.inr z) = some (.ref T) ∧ H T = some (.tup (.ref c :: r)) ∧ SqT K H c [num, nm, y] ∧
  match to with
  | some z' => ∃ b, y = .ref b ∧ SqT K H b [.str "choice", .str z']
  | none => y = .non ∨ ∃ b w r', y = .ref b ∧ SqT K H b (.str w :: r') ∧ w ≠ "choice"
@[irreducible] def sp_Schema_comes_back (K : PySem.W.Frag) : Sp := fun vs H Q _ => ∃ a z dx D1 D2 root kvs, ∃ rank : Str → Nat, ∃ N : Nat, vs = [.ref a, .str z] ∧ H a = some (.ins (cAt K "Schema") dx (schF D1 D2 root)) ∧ Rd H D2 (.dK kvs) ∧ N ≤ 1000 ∧
  (∀ z, keyIn kvs z → ∃ to, Leads K H kvs z to ∧ ∀ z', to = some z' → keyIn kvs z' ∧ rank z < rank z' ∧ rank z' ≤ N) ∧ keyIn kvs z ∧ ∀ H', Kp [] H H' → Q (.bl false) H'
/-- a kind's row in a schema's table: its name, where it is, its fields -/
structure KRow where
  name : Str
  adr : Addr
  fls : List Fld
  xs : List V
structure CRow where
  name : Str
  adr : Addr
  cs : List Cse
  xs : List V
def KRow.kv (r : KRow) : L2.Key × V := (.inr r.name, .ref r.adr)
def CRow.kv (r : CRow) : L2.Key × V := (.inr r.name, .ref r.adr)
def KRow.row (r : KRow) : Str × List Int × List V := (r.name, r.fls.map (·.num), r.xs)
def CRow.row (r : CRow) : Str × List Int × List V := (r.name, r.cs.map (·.num), r.xs)
structure KRow.ok (K : PySem.W.Frag) (H : Hp) (nk ck : Str → Prop) (r : KRow) : Prop where
  name : NameOk r.name
  sq : Sq K H r.adr r.xs
  row : RowF K H nk ck r.fls r.xs
structure CRow.ok (K : PySem.W.Frag) (H : Hp) (nk ck : Str → Prop) (rank : Str → Nat) (N : Nat) (r : CRow) : Prop where
  name : NameOk r.name
  sq : Sq K H r.adr r.xs
  row : RowC K H nk ck r.cs r.xs
  up : ∀ c ∈ r.cs, (∀ d ∈ r.cs, c.num ≤ d.num) → ∀ z', c.s = some (.pick z') → rank r.name < rank z' ∧ rank z' ≤ N
/-- a schema's own table: tuples by rising numbers, made anew -/
def Done (H H' : Hp) (rs : List (Str × List Int × List V)) (kvs : List (L2.Key × V)) : Prop := Paired (fun (r : Str × List Int × List V) (kv : L2.Key × V) => kv.1 = .inr r.1 ∧ ∃ T ys, kv.2 = .ref T ∧ H T = none ∧ H' T = some (.tup ys) ∧ ByKey r.2.1 r.2.2 ys) rs kvs
@[irreducible] def sp_Schema___init__ (K : PySem.W.Frag) (Pt : Tb) : Sp := fun vs H Q _ => ∃ a ka cv root dx s, ∃ FK : List KRow, ∃ CK : List CRow, ∃ rank : Str → Nat, ∃ N : Nat, vs = [.ref a, .ref ka, cv, root] ∧ H a = some (.ins (cAt K "Schema") dx []) ∧ H ka = some (.dK (FK.map KRow.kv)) ∧
  ((cv = .non ∧ CK = []) ∨ ∃ ca, cv = .ref ca ∧ H ca = some (.dK (CK.map CRow.kv)) ∧ ca ≠ ka) ∧ FK.length ≤ 100 ∧ CK.length ≤ 100 ∧ (FK.map (·.name)).Nodup ∧ (CK.map (·.name)).Nodup ∧
  (∀ r ∈ FK, r.ok K H (keyIn (FK.map KRow.kv)) (keyIn (CK.map CRow.kv))) ∧ (∀ r ∈ CK, r.ok K H (keyIn (FK.map KRow.kv)) (keyIn (CK.map CRow.kv)) rank N) ∧ N ≤ 1000 ∧
  SrtV K H s root ∧ s.ok (keyIn (FK.map KRow.kv)) (keyIn (CK.map CRow.kv)) 3 ∧ Tbl Pt H ∧
  ∀ H' D1 D2 kvs1 kvs2, Kp [a, Pt.a, Pt.b] H H' → Tbl Pt H' → H' a = some (.ins (cAt K "Schema") dx (schF D1 D2 root)) → H D1 = none → H D2 = none → D1 ≠ D2 → H' D1 = some (.dK kvs1) → H' D2 = some (.dK kvs2) →
    Done H H' (FK.map KRow.row) kvs1 → Done H H' (CK.map CRow.row) kvs2 → Q .non H'
end K02

namespace K02
open PySem PySem.Spec PyProof.Rows L2 Kb
def t_Schema_take_kind (K : PySem.W.Frag) (C : Addr) (Pt : Tb) : TS :=
 (tSeq (tDrop (tCall (sp_look_at_heading K) [] E0 (tCons (tC (.str (PySem.Str.ofString "kind"))) (tCons (tVar 3) (tCons (tVar 4) tNil)))))
 (tSeq (tFor (iEnumV K (tVar 4)) (gTup K 2 (gCons (gName 5) (gCons (gName 6) gNil)))
 (tSeq (tAsg (tTup (tCons (tC (.str (PySem.Str.ofString "kind"))) (tCons (tVar 3) (tCons (tVar 5) tNil)))) (gName 7))
 (tSeq (tDrop (tCall (sp_look_at_part K) [] E0 (tCons (tVar 7) (tCons (tVar 6) (tCons (tSl (rSlV K) (tVar 4) tNoPart (tPart (tVar 5))) (tCons (tC (.int 1)) (tCons (tTup (tCons (tC (.int 3)) (tCons (tC (.int 4)) tNil))) tNil)))))))
 (tSeq (tDrop (tCall (sp_refuse_if K) [] E0 (tCons (tNotV (tCall (sp_is_sort K 4) (([.int 0] : List V).drop 0) E0 (tCons (tVar 1) (tCons (tVar 2) (tCons (tOp (rIxU K) (tVar 6) (tC (.int 2))) tNil))))) (tCons (tVar 7) (tCons (tC (.str (PySem.Str.ofString "sort"))) tNil)))))
 (tDrop (tCall (sp_refuse_if K) [] E0 (tCons (tNotV (tCB (rAllU K) (tCons (tLc (iTup K (tCall (sp_left_of K) [] E0 (tCons (tVar 6) tNil))) (gName 8) tYes (tCall (sp_is_default K) [] E0 (tCons (tOp (rIxU K) (tVar 6) (tC (.int 2))) (tCons (tVar 8) tNil))) [8]) tNil))) (tCons (tVar 7) (tCons (tC (.str (PySem.Str.ofString "default"))) tNil)))))))))
 (sDPut (tUn (rFldU K "kinds") (tVar 0)) (tVar 3) (tCB (rTupleU K) (tCons (tSortKey K Pt.a (("Schema.take_kind" : Str) ++ ".<locals>." ++ "<lambda>") (tVar 4)) tNil)))))
def t_Schema_take_choice (K : PySem.W.Frag) (C : Addr) (Pt : Tb) : TS :=
 (tSeq (tDrop (tCall (sp_look_at_heading K) [] E0 (tCons (tC (.str (PySem.Str.ofString "choice"))) (tCons (tVar 3) (tCons (tVar 4) tNil)))))
 (tSeq (tDrop (tCall (sp_refuse_if K) [] E0 (tCons (tOp (rEqU K) (tCB (rLenU K) (tCons (tVar 4) tNil)) (tC (.int 0))) (tCons (tTup (tCons (tC (.str (PySem.Str.ofString "choice"))) (tCons (tVar 3) (tCons (tUn rNegU (tC (.int 1))) tNil)))) (tCons (tC (.str (PySem.Str.ofString "row"))) tNil)))))
 (tSeq (tFor (iEnumV K (tVar 4)) (gTup K 2 (gCons (gName 5) (gCons (gName 6) gNil)))
 (tSeq (tAsg (tTup (tCons (tC (.str (PySem.Str.ofString "choice"))) (tCons (tVar 3) (tCons (tVar 5) tNil)))) (gName 7))
 (tSeq (tDrop (tCall (sp_look_at_part K) [] E0 (tCons (tVar 7) (tCons (tVar 6) (tCons (tSl (rSlV K) (tVar 4) tNoPart (tPart (tVar 5))) (tCons (tC (.int 0)) (tCons (tTup (tCons (tC (.int 3)) tNil)) tNil)))))))
 (tSeq (tAsg (tVar 6) (gTup K 3 (gCons (gName 8) (gCons (gName 9) (gCons (gName 10) gNil)))))
 (tSeq (tDrop (tCall (sp_refuse_if K) [] E0 (tCons (tAndV (tOp rNotNU (tVar 10) (tC .non)) (tNotV (tCall (sp_is_sort K 4) (([.int 0] : List V).drop 0) E0 (tCons (tVar 1) (tCons (tVar 2) (tCons (tVar 10) tNil)))))) (tCons (tVar 7) (tCons (tC (.str (PySem.Str.ofString "sort"))) tNil)))))
 (tDrop (tCall (sp_refuse_if K) [] E0 (tCons (tAndV (tOp (rEqU K) (tVar 8) (tC (.int 0))) (tOp rNotNU (tVar 10) (tC .non))) (tCons (tVar 7) (tCons (tC (.str (PySem.Str.ofString "sort"))) tNil))))))))))
 (sDPut (tUn (rFldU K "choices") (tVar 0)) (tVar 3) (tCB (rTupleU K) (tCons (tSortKey K Pt.b (("Schema.take_choice" : Str) ++ ".<locals>." ++ "<lambda>") (tVar 4)) tNil))))))
def t_Schema_comes_back (K : PySem.W.Frag) (C : Addr) : TS :=
 (tSeq (tAsg tDNewK (gName 2))
 (tSeq (tAsg (tVar 1) (gName 3))
 (tSeq (tWhile (tB (tDNotIn (tVar 3) (tVar 2)))
 (tSeq (sDPut (tVar 2) (tVar 3) (tC (.bl true)))
 (tSeq (tAsg (tOp (rIxU K) (tOp (rIxU K) (tDGet (tUn (rFldU K "choices") (tVar 0)) (tVar 3)) (tC (.int 0))) (tC (.int 2))) (gName 4))
 (tSeq (tIfS (tOr (tTest (tOp rIsNU (tVar 4) (tC .non))) (tTest (tOp (rNeU K) (tOp (rIxU K) (tVar 4) (tC (.int 0))) (tC (.str (PySem.Str.ofString "choice"))))))
 (tRet (tC (.bl false)))
 tNext)
 (tAsg (tOp (rIxU K) (tVar 4) (tC (.int 1))) (gName 3))))))
 (tRet (tOp (rEqU K) (tVar 3) (tVar 1))))))
@[irreducible] def b_Schema___init___2 (K : PySem.W.Frag) (C : Addr) (Pt : Tb) : TS :=
 (tLock (tFor (iKeys (tUn (rFldU K "choices") (tVar 0))) (gName 5)
 (tDrop (tCall (sp_refuse_if K) [] E0 (tCons (tMethU (cAt K "Schema") "comes_back" (sp_Schema_comes_back K) E0 (tVar 0) (tCons (tVar 5) tNil)) (tCons (tTup (tCons (tC (.str (PySem.Str.ofString "choice"))) (tCons (tVar 5) (tCons (tUn rNegU (tC (.int 1))) tNil)))) (tCons (tC (.str (PySem.Str.ofString "sort"))) tNil)))))))
@[irreducible] def b_Schema___init___1 (K : PySem.W.Frag) (C : Addr) (Pt : Tb) : TS :=
 (tSeq (tLock (tFor (iItems (tVar 4)) (gTup K 2 (gCons (gName 5) (gCons (gName 6) gNil)))
 (tDrop (tMethU (cAt K "Schema") "take_choice" (sp_Schema_take_choice K Pt) E0 (tVar 0) (tCons (tVar 1) (tCons (tVar 4) (tCons (tVar 5) (tCons (tVar 6) tNil))))))))
 (tSeq (tDrop (tCall (sp_refuse_if K) [] E0 (tCons (tNotV (tCall (sp_is_sort K 4) (([.int 0] : List V).drop 0) E0 (tCons (tVar 1) (tCons (tVar 4) (tCons (tVar 3) tNil))))) (tCons (tTup (tCons (tC (.str (PySem.Str.ofString "root"))) tNil)) (tCons (tC (.str (PySem.Str.ofString "sort"))) tNil)))))
 (b_Schema___init___2 K C Pt)))
@[irreducible] def b_Schema___init___0 (K : PySem.W.Frag) (C : Addr) (Pt : Tb) : TS :=
 (tSeq (tLock (tFor (iItems (tVar 1)) (gTup K 2 (gCons (gName 5) (gCons (gName 6) gNil)))
 (tDrop (tMethU (cAt K "Schema") "take_kind" (sp_Schema_take_kind K Pt) E0 (tVar 0) (tCons (tVar 1) (tCons (tVar 4) (tCons (tVar 5) (tCons (tVar 6) tNil))))))))
 (b_Schema___init___1 K C Pt))
def t_Schema___init__ (K : PySem.W.Frag) (C : Addr) (Pt : Tb) : TS :=
 (tSeq (tAsg (tIf (tTest (tOp rIsNU (tVar 2) (tC .non))) tDNewK (tVar 2)) (gName 4))
 (tSeq (tAsg (tTup (tCons tDNewK (tCons tDNewK (tCons (tVar 3) tNil)))) (gTup K 3 (gCons (gFldU K (tVar 0) "kinds") (gCons (gFldU K (tVar 0) "choices") (gCons (gFldU K (tVar 0) "root") gNil)))))
 (b_Schema___init___0 K C Pt)))
end K02

/-! ## the program's schemas: plain looks -/
namespace K02
open PySem PySem.Spec PyProof.Rows L2 Kb
theorem sqT_ty {K : PySem.W.Frag} {H : Hp} {a : Addr} {xs : List V} (h : SqT K H a xs) : TyX K H (.ref a) (.type "tuple") := by
  rcases h with (h | ⟨o, h⟩) | ⟨o, its, n, h, c, _⟩
  · exact .base (.tup h)
  · exact .fTuple h
  · exact .kTuple h c
section
variable {K : PySem.W.Frag} {H : Hp} {Q : VK} {E : XK} {i l h : Int} {p w : V} {M : List Addr} {H' : Hp} {a : Addr} {xs : List V}
theorem whole_go (q : Q (.bl true) H) : sp_is_whole K [.int i] H Q E := by unfold sp_is_whole; exact ⟨i, rfl, q⟩
theorem within_go {lo hi : Option Int} (q : Q (.bl ((lo.all fun l => decide (l ≤ i)) && hi.all fun h => decide (i ≤ h))) H) : sp_is_within K [.int i, oV lo, oV hi] H Q E := by unfold sp_is_within; exact ⟨i, lo, hi, rfl, q⟩
theorem within_ss (q : Q (.bl (decide (l ≤ i) && decide (i ≤ h))) H) : sp_is_within K [.int i, .int l, .int h] H Q E := within_go (lo := some l) (hi := some h) q
theorem refuse_go (q : Q .non H) : sp_refuse_if K [.bl false, p, w] H Q E := by unfold sp_refuse_if; exact ⟨p, w, rfl, q⟩
theorem row_go (hx : Sq K H a xs) (q : ∀ H', Kp [] H H' → Q (.bl true) H') : sp_is_row K [.ref a] H Q E := by unfold sp_is_row; exact ⟨a, xs, rfl, hx, q⟩
theorem name_go {z : Str} (hz : NameOk z) (q : ∀ H', Kp [] H H' → Q (.bl true) H') : sp_is_name K [.str z] H Q E := by unfold sp_is_name; exact ⟨z, rfl, hz, q⟩
theorem known_go {kvs : List (L2.Key × V)} {k : Str} (hr : Rd H a (.dK kvs)) (hk : keyIn kvs k) (q : Q (.bl true) H) : sp_is_known K [.ref a, .str k] H Q E := by unfold sp_is_known; exact ⟨a, kvs, k, rfl, hr, hk, q⟩
theorem bounds_go {lo hi : Option Int} (hb : ∀ l h, lo = some l → hi = some h → l ≤ h) (q : ∀ H', Kp [] H H' → Q (.bl true) H') : sp_is_bounds K [oV lo, oV hi] H Q E := by unfold sp_is_bounds; exact ⟨lo, hi, rfl, hb, q⟩
theorem Sq.kp (h : Sq K H a xs) (k : Kp M H H') (n : a ∉ M) : Sq K H' a xs := by
  rcases h with h | h
  · exact .inl (k.at_ n h)
  · exact .inr (k.sqT n h)
theorem Rd.kp {u : HO} (r : Rd H a u) (k : Kp [] H H') : Rd H' a u := by
  rcases r with r | ⟨o, r⟩
  · exact .inl (k.at_ List.not_mem_nil r)
  · exact .inr ⟨o, k.at_ List.not_mem_nil r⟩
end
section
variable {K : PySem.W.Frag} {H : Hp} {Q : VK} {a : Addr} {x y z : V} {r : List V}
theorem at0 {α : Type} (x : α) (r : List α) : atI (x :: r) 0 = some x := by
  have := atI_nat (xs := x :: r) (j := 0) (v := x) rfl
  exact this
theorem at1 {α : Type} (x y : α) (r : List α) : atI (x :: y :: r) 1 = some y := by
  have := atI_nat (xs := x :: y :: r) (j := 1) (v := y) rfl
  exact this
theorem at2 {α : Type} (x y z : α) (r : List α) : atI (x :: y :: z :: r) 2 = some z := by
  have := atI_nat (xs := x :: y :: z :: r) (j := 2) (v := z) rfl
  exact this
theorem ixT0_go (h : SqT K H a (x :: r)) (q : Q x H) : rIxU K (.ref a) (.int 0) H Q := ixT_go h (at0 x r) q
theorem ixT1_go (h : SqT K H a (x :: y :: r)) (q : Q y H) : rIxU K (.ref a) (.int 1) H Q := ixT_go h (at1 x y r) q
theorem ixT2_go (h : SqT K H a (x :: y :: z :: r)) (q : Q z H) : rIxU K (.ref a) (.int 2) H Q := ixT_go h (at2 x y z r) q
end
theorem len_is_whole (K : PySem.W.Frag) : ∀ vs H Q E, sp_is_whole K vs H Q E → vs.length = ["thing"].length := by
  intro _ _ _ _ h
  unfold sp_is_whole at h
  obtain ⟨_, rfl, _⟩ := h
  rfl
theorem p_is_whole (K : PySem.W.Frag) (vs : List V) (H : Hp) (Q : VK) (E : XK) (h : sp_is_whole K vs H Q E) : t_is_whole K { nx := fun _ H' => Q .non H', rt := Q } (start ["thing"] vs) H := by
  unfold sp_is_whole at h
  obtain ⟨i, rfl, q⟩ := h
  walk_at "go"
  exact q
theorem len_is_within (K : PySem.W.Frag) : ∀ vs H Q E, sp_is_within K vs H Q E → vs.length = ["thing", "low", "high"].length := by
  intro _ _ _ _ h
  unfold sp_is_within at h
  obtain ⟨_, _, _, rfl, _⟩ := h
  rfl
theorem p_is_within (K : PySem.W.Frag) (vs : List V) (H : Hp) (Q : VK) (E : XK) (h : sp_is_within K vs H Q E) : t_is_within K { nx := fun _ H' => Q .non H', rt := Q } (start ["thing", "low", "high"] vs) H := by
  unfold sp_is_within at h
  obtain ⟨i, lo, hi, rfl, q⟩ := h
  cases lo with
  | none =>
    cases hi with
    | none =>
      dsimp only [oV]
      walk_at "go"
      refine whole_go ?_
      walk_at "go"
      · exact q
      · exact absurd rfl (by assumption)
    | some h =>
      dsimp only [oV]
      walk_at "go"
      refine whole_go ?_
      walk_at "go"
      exact q
  | some l =>
    cases hi with
    | none =>
      dsimp only [oV]
      walk_at "go"
      refine whole_go ?_
      walk_at "go"
      · rename_i c
        have e : decide (l ≤ i) = false := decide_eq_false (by omega)
        have q' := q
        simp [e] at q'
        exact q'
      · rename_i c
        have e : decide (l ≤ i) = true := decide_eq_true (by omega)
        have q' := q
        simp [e] at q'
        exact q'
      · exact absurd rfl (by assumption)
    | some h =>
      dsimp only [oV]
      walk_at "go"
      refine whole_go ?_
      walk_at "go"
      · rename_i c
        have e : decide (l ≤ i) = false := decide_eq_false (by omega)
        have q' := q
        simp [e] at q'
        exact q'
      · rename_i c
        have e : decide (l ≤ i) = true := decide_eq_true (by omega)
        have q' := q
        simp [e] at q'
        exact q'
theorem letter {c : Nat} (h : 97 ≤ c ∧ c ≤ 122) : c ∈ (PySem.Str.ofString "abcdefghijklmnopqrstuvwxyz").cps.toList := by
  have e : (PySem.Str.ofString "abcdefghijklmnopqrstuvwxyz").cps.toList = List.range' 97 26 := by decide +kernel
  rw [e, List.mem_range'_1]
  omega
theorem cut_from3 (xs : List V) (l : 3 ≤ xs.length) : cutV xs (some 3) none = xs.drop 3 := by
  unfold cutV
  rw [show (some 3 : Option Int) = some ((3 : Nat) : Int) from rfl, HT.sIx_nat, show HT.sIx xs.length xs.length none = xs.length from rfl, Nat.min_eq_left l]
  exact List.take_of_length_le (by rw [List.length_drop]; omega)
theorem len_is_row (K : PySem.W.Frag) : ∀ vs H Q E, sp_is_row K vs H Q E → vs.length = ["thing"].length := by
  intro _ _ _ _ h
  unfold sp_is_row at h
  obtain ⟨_, _, rfl, _⟩ := h
  rfl
theorem p_is_row (K : PySem.W.Frag) (vs : List V) (H : Hp) (Q : VK) (E : XK) (h : sp_is_row K vs H Q E) : t_is_row K { nx := fun _ H' => Q .non H', rt := Q } (start ["thing"] vs) H := by
  unfold sp_is_row at h
  obtain ⟨a, xs, rfl, h | h, q⟩ := h
  · walk_at "go"
    exact q _ (Kp.refl.upd_new' (by assumption))
  · walk_at "go"
    rename_i p np
    have ty := sqT_ty ((Kp.refl.upd_new' (o := .tup [.ty "list", .ty "tuple"]) np).sqT List.not_mem_nil h)
    refine isi2_go upd_same ty ki_tuple_list ki_tuple_tuple ?_
    exact q _ (Kp.refl.upd_new' np)
theorem len_left_of (K : PySem.W.Frag) : ∀ vs H Q E, sp_left_of K vs H Q E → vs.length = ["field"].length := by
  intro _ _ _ _ h
  unfold sp_left_of at h
  obtain ⟨_, _, rfl, _⟩ := h
  rfl
theorem p_left_of (K : PySem.W.Frag) (vs : List V) (H : Hp) (Q : VK) (E : XK) (h : sp_left_of K vs H Q E) : t_left_of K { nx := fun _ H' => Q .non H', rt := Q } (start ["field"] vs) H := by
  unfold sp_left_of at h
  obtain ⟨a, xs, rfl, hx, l, q⟩ := h
  walk_at "go"
  refine ⟨a, xs, rfl, hx, fun e => ?_, fun _ p np => ?_⟩
  · exfalso
    have e1 := e.1
    rw [show (some 3 : Option Int) = some ((3 : Nat) : Int) from rfl, HT.sIx_nat] at e1
    omega
  · have e := cut_from3 xs l
    refine q _ p (Kp.refl.upd_new' np) (SqT.of ?_)
    rw [upd_same]
    exact congrArg (fun y => some (HO.tup y)) e
theorem len_is_name (K : PySem.W.Frag) : ∀ vs H Q E, sp_is_name K vs H Q E → vs.length = ["thing"].length := by
  intro _ _ _ _ h
  unfold sp_is_name at h
  obtain ⟨_, rfl, _⟩ := h
  rfl
theorem p_is_name (K : PySem.W.Frag) (vs : List V) (H : Hp) (Q : VK) (E : XK) (h : sp_is_name K vs H Q E) : t_is_name K { nx := fun _ H' => Q .non H', rt := Q } (start ["thing", "sign"] vs) H := by
  unfold sp_is_name at h
  obtain ⟨z, rfl, hz, q⟩ := h
  obtain ⟨z1, z2, z3⟩ := hz
  have n1 : (1 : Int) ≤ (z.length : Int) := by omega
  have n2 : (z.length : Int) ≤ 8 := by omega
  walk_at "go"
  · rename_i c
    exact absurd n2 c
  · rename_i D nD
    refine lc_acc walk_str (fun i acc H' => acc = List.replicate i (V.bl true) ∧ Kp [] H H') ⟨rfl, Kp.refl.upd_new' nD⟩ (fun _ _ _ _ _ => trivial) (fun i x acc Hc Hb hi hl hD hP hY => ?_) (fun acc Hc hl hD hP => ?_)
    · obtain ⟨rfl, kc⟩ := hP
      obtain ⟨rfl, c, hc, rfl⟩ := hY
      refine ⟨rfl, ?_⟩
      walk_at "go"
      have hm : c ∈ z.cps.toList := by
        rw [← Array.getElem?_toList] at hc
        exact List.mem_of_getElem? hc
      have hin := letter (z3 c hm)
      rw [decide_eq_true hin]
      refine acc_go hl (by have : i < z.length := hi; omega) hD ⟨by rw [List.replicate_succ'], kc.upd_new nD⟩
    · obtain ⟨rfl, kc⟩ := hP
      walk_at "go"
      refine all_go (bs := List.replicate z.cps.size true) (SqL.of (by rw [List.map_replicate]; exact hD)) ?_
      rw [show (List.replicate z.cps.size true).all id = true from by simp]
      exact q _ kc
  · rename_i c
    exact absurd n1 c
theorem len_is_bounds (K : PySem.W.Frag) : ∀ vs H Q E, sp_is_bounds K vs H Q E → vs.length = ["low", "high"].length := by
  intro _ _ _ _ h
  unfold sp_is_bounds at h
  obtain ⟨_, _, rfl, _⟩ := h
  rfl
theorem p_is_bounds (K : PySem.W.Frag) (vs : List V) (H : Hp) (Q : VK) (E : XK) (h : sp_is_bounds K vs H Q E) : t_is_bounds K { nx := fun _ H' => Q .non H', rt := Q } (start ["low", "high", "one"] vs) H := by
  unfold sp_is_bounds at h
  obtain ⟨lo, hi, rfl, hb, q⟩ := h
  walk_at "go"
  rename_i p np
  have ne : ∀ (o : Option Int), (∃ i, oV o = .int i ∧ o = some i) ∨ (oV o = .non ∧ o = none) := fun o => by cases o <;> simp [oV]
  refine ⟨⟨_, SqT.of upd_same⟩, fun D nD => ?_⟩
  have pD : p ≠ D := ne_of_none upd_same nD
  have k1 : Kp [] H (upd H p (.tup [oV lo, oV hi])) := Kp.refl.upd_new' np
  have nDH := k1.none_of List.not_mem_nil nD
  refine lc_acc (walk_tup (xs := [oV lo, oV hi])) (fun i acc H' => acc = List.replicate i (V.bl true) ∧ Kp [] H H' ∧ H' p = some (.tup [oV lo, oV hi])) ⟨rfl, k1.upd_new' nD, (upd_ne pD).trans upd_same⟩ (fun _ _ _ _ h => SqT.of h.2.2) (fun i x acc Hc Hb hi' hl hD hP hY => ?_) (fun acc Hc hl hD hP => ?_)
  · obtain ⟨rfl, kc, hp⟩ := hP
    obtain ⟨rfl, e⟩ := hY
    have hx : ∃ o, x = oV o := by
      have := List.mem_of_getElem? e
      simp only [List.mem_cons, List.not_mem_nil, or_false] at this
      rcases this with rfl | rfl <;> exact ⟨_, rfl⟩
    obtain ⟨o, rfl⟩ := hx
    refine ⟨rfl, ?_⟩
    have fin : (∃ acc, Hb D = some (.lst acc) ∧ acc.length < sizeLine ∧ Acc D (fun i acc H' => acc = List.replicate i (V.bl true) ∧ Kp [] H H' ∧ H' p = some (.tup [oV lo, oV hi])) (i + 1) (upd Hb D (.lst (acc ++ [.bl true])))) :=
      acc_go hl (by have : i < 2 := hi'; omega) hD ⟨by rw [List.replicate_succ'], kc.upd_new nDH, (upd_ne pD).trans hp⟩
    rcases ne o with ⟨j, e1, _⟩ | ⟨e1, _⟩
    · rw [e1]
      walk_at "go"
      refine whole_go ?_
      exact fin
    · rw [e1]
      walk_at "go"
      · exact fin
      · exact absurd rfl (by assumption)
  · obtain ⟨rfl, kc, hp⟩ := hP
    walk_at "go"
    refine all_go (bs := List.replicate 2 true) (SqL.of hD) ?_
    walk_at "go"
    all_goals try exact q _ kc
    rcases ne lo with ⟨l, e1, e2⟩ | ⟨e1, _⟩
    · rcases ne hi with ⟨h, e3, e4⟩ | ⟨e3, _⟩
      · rw [e1, e3]
        refine le_go ?_
        rw [decide_eq_true (hb l h e2 e4)]
        exact q _ kc
      · exact absurd e3 (by assumption)
    · exact absurd e1 (by assumption)
theorem len_is_known (K : PySem.W.Frag) : ∀ vs H Q E, sp_is_known K vs H Q E → vs.length = ["names", "thing"].length := by
  intro _ _ _ _ h
  unfold sp_is_known at h
  obtain ⟨_, _, _, rfl, _⟩ := h
  rfl
theorem p_is_known (K : PySem.W.Frag) (vs : List V) (H : Hp) (Q : VK) (E : XK) (h : sp_is_known K vs H Q E) : t_is_known K { nx := fun _ H' => Q .non H', rt := Q } (start ["names", "thing"] vs) H := by
  unfold sp_is_known at h
  obtain ⟨a, kvs, k, rfl, hr, ⟨v, hv⟩, q⟩ := h
  walk_at "go"
  refine ⟨a, some v, rfl, .inl ⟨kvs, .inr k, hr, rfl, hv.symm⟩, ?_⟩
  exact q
end K02

/-! steps of k02 -/
local macro_rules | `(tactic| walk_at "tk") => `(tactic| first
  | (refine' K02.whole_go ?kq)
  | (refine' K02.within_ss ?kq)
  | (refine' K02.refuse_go ?kq)
  | (refine' K02.ixT0_go ?k1 ?kq; (case k1 => assumption))
  | (refine' K02.ixT1_go ?k1 ?kq; (case k1 => assumption))
  | (refine' K02.ixT2_go ?k1 ?kq; (case k1 => assumption))
  | fail)
local macro_rules | `(tactic| walk_at "go") => `(tactic| repeat' first | walk_at "tk" | walk_at "s")

/-! ## the program's schemas: sorts and parts looked at -/
namespace K02
open PySem PySem.Spec PyProof.Rows L2 Kb
section
variable {K : PySem.W.Frag} {H H' : Hp} {x : V} {M : List Addr}
theorem srt_head : ∀ {s : Srt}, SrtV K H s x → ∃ a w r, x = .ref a ∧ SqT K H a (.str w :: r)
  | .num _ _, ⟨a, h, g⟩ => ⟨a, _, _, h, g⟩
  | .truth, ⟨a, h, g⟩ => ⟨a, _, _, h, g⟩
  | .text _, ⟨a, h, g⟩ => ⟨a, _, _, h, g⟩
  | .row _ _, ⟨a, _, h, g, _⟩ => ⟨a, _, _, h, g⟩
  | .maybe _, ⟨a, _, h, g, _⟩ => ⟨a, _, _, h, g⟩
  | .node _, ⟨a, h, g⟩ => ⟨a, _, _, h, g⟩
  | .pick _, ⟨a, h, g⟩ => ⟨a, _, _, h, g⟩
theorem srt_word : ∀ {s : Srt}, SrtV K H s x → (∀ s', s ≠ .maybe s') → ∃ a w r, x = .ref a ∧ SqT K H a (.str w :: r) ∧ w ≠ "maybe"
  | .num _ _, ⟨a, h, g⟩, _ => ⟨a, _, _, h, g, by decide +kernel⟩
  | .truth, ⟨a, h, g⟩, _ => ⟨a, _, _, h, g, by decide +kernel⟩
  | .text _, ⟨a, h, g⟩, _ => ⟨a, _, _, h, g, by decide +kernel⟩
  | .row _ _, ⟨a, _, h, g, _⟩, _ => ⟨a, _, _, h, g, by decide +kernel⟩
  | .maybe s, _, n => absurd rfl (n s)
  | .node _, ⟨a, h, g⟩, _ => ⟨a, _, _, h, g, by decide +kernel⟩
  | .pick _, ⟨a, h, g⟩, _ => ⟨a, _, _, h, g, by decide +kernel⟩
theorem SrtV.kp0 (k : Kp [] H H') : ∀ {s : Srt} {x : V}, SrtV K H s x → SrtV K H' s x
  | .num _ _, _, ⟨a, h, g⟩ => ⟨a, h, k.sqT List.not_mem_nil g⟩
  | .truth, _, ⟨a, h, g⟩ => ⟨a, h, k.sqT List.not_mem_nil g⟩
  | .text _, _, ⟨a, h, g⟩ => ⟨a, h, k.sqT List.not_mem_nil g⟩
  | .row _ _, _, ⟨a, y, h, g, r⟩ => ⟨a, y, h, k.sqT List.not_mem_nil g, r.kp0 k⟩
  | .maybe _, _, ⟨a, y, h, g, r⟩ => ⟨a, y, h, k.sqT List.not_mem_nil g, r.kp0 k⟩
  | .node _, _, ⟨a, h, g⟩ => ⟨a, h, k.sqT List.not_mem_nil g⟩
  | .pick _, _, ⟨a, h, g⟩ => ⟨a, h, k.sqT List.not_mem_nil g⟩
end
theorem no_is_sort (K : PySem.W.Frag) {vs : List V} {H : Hp} {Q : VK} {E : XK} (h : sp_is_sort K 0 vs H Q E) : False := by
  unfold sp_is_sort at h
  exact h
theorem sort_go {K : PySem.W.Frag} {n : Nat} {ka ca : Addr} {x : V} {deep : Int} {kk ck : List (L2.Key × V)} {s : Srt} {H : Hp} {Q : VK} {E : XK} (hk : Rd H ka (.dK kk)) (hc : Rd H ca (.dK ck)) (hs : SrtV K H s x) (ok : s.ok (keyIn kk) (keyIn ck) n) (d0 : 0 ≤ deep) (d3 : deep + n ≤ 3)
    (q : ∀ H', Kp [] H H' → Q (.bl true) H') : sp_is_sort K (n + 1) [.ref ka, .ref ca, x, .int deep] H Q E := by
  unfold sp_is_sort
  exact ⟨ka, ca, x, deep, kk, ck, s, rfl, hk, hc, hs, ok, d0, d3, q⟩
theorem len_is_sort (K : PySem.W.Frag) (n : Nat) : ∀ vs H Q E, sp_is_sort K (n + 1) vs H Q E → vs.length = ["kinds", "choices", "thing", "deep"].length := by
  intro _ _ _ _ h
  unfold sp_is_sort at h
  obtain ⟨_, _, _, _, _, _, _, rfl, _⟩ := h
  rfl
theorem sort_front {K : PySem.W.Frag} {n : Nat} {H : Hp} {D : Ends} {ka ca a : Addr} {deep : Int} {w : Str} {r : List V} (hx : SqT K H a (.str w :: r)) (d3 : deep ≤ 3)
    (q : ∀ H2 p2, Kp [] H H2 → H2 p2 = some (.lst r) → b_is_sort_0 K n D [some (.ref ka), some (.ref ca), some (.ref a), some (.int deep), some (.str w), some (.ref p2)] H2) :
    t_is_sort K n D (start ["kinds", "choices", "thing", "deep", "word", "rest"] [.ref ka, .ref ca, .ref a, .int deep]) H := by
  have ty := sqT_ty hx
  walk_at "go"
  · exfalso; omega
  · rename_i p np
    have k1 : Kp [] H (upd H p (.tup [])) := Kp.refl.upd_new' np
    have hx1 := k1.sqT List.not_mem_nil hx
    refine eqET_go hx1 (SqT.of upd_same) ?_
    generalize upd H p (.tup []) = H1 at k1 hx1 ⊢
    walk_at "go"
    refine ⟨a, _, rfl, hx1, by simp, fun p2 np2 => ?_⟩
    walk_at "go"
    exact q _ _ (k1.upd_new' np2) upd_same
theorem p_is_sort (K : PySem.W.Frag) (n : Nat) (vs : List V) (H : Hp) (Q : VK) (E : XK) (h : sp_is_sort K (n + 1) vs H Q E) : t_is_sort K n { nx := fun _ H' => Q .non H', rt := Q } (start ["kinds", "choices", "thing", "deep", "word", "rest"] vs) H := by
  unfold sp_is_sort at h
  obtain ⟨ka, ca, x, deep, kk, ck, s, rfl, hk, hc, hs, ok, d0, d3, q⟩ := h
  have d3' : deep ≤ 3 := by omega
  cases s with
  | num lo hi =>
    obtain ⟨a, rfl, hx⟩ := hs
    refine sort_front hx d3' fun H2 p2 k2 hp => ?_
    unfold b_is_sort_0
    walk_at "go"
    show sp_is_bounds K [oV lo, oV hi] _ _ _
    exact bounds_go (by unfold Srt.ok at ok; exact ok.1) fun H' k' => q _ (k2.trans k')
  | truth =>
    obtain ⟨a, rfl, hx⟩ := hs
    refine sort_front hx d3' fun H2 p2 k2 hp => ?_
    unfold b_is_sort_0
    walk_at "go"
    refine eqEL_go (SqL.of ((upd_ne (ne_of_none hp (by assumption))).trans hp)) (SqL.of upd_same) ?_
    exact q _ (k2.upd_new' (by assumption))
  | text m =>
    obtain ⟨a, rfl, hx⟩ := hs
    have ok' : 0 ≤ m ∧ m ≤ 40 := by unfold Srt.ok at ok; exact ok
    refine sort_front hx d3' fun H2 p2 k2 hp => ?_
    unfold b_is_sort_0
    walk_at "go"
    rw [decide_eq_true ok'.1, decide_eq_true ok'.2]
    exact q _ k2
  | row m s =>
    cases n with
    | zero =>
      unfold Srt.ok at ok
      exact ok.elim
    | succ n =>
      obtain ⟨a, y, rfl, hx, hs⟩ := hs
      have ok' : 0 ≤ m ∧ m ≤ 20 ∧ s.ok (keyIn kk) (keyIn ck) n := by unfold Srt.ok at ok; exact ok
      refine sort_front hx d3' fun H2 p2 k2 hp => ?_
      unfold b_is_sort_0
      walk_at "go"
      · show sp_is_sort K (n + 1) [.ref ka, .ref ca, y, .int (deep + 1)] H2 _ _
        exact sort_go (Rd.kp hk k2) (Rd.kp hc k2) (hs.kp0 k2) ok'.2.2 (by omega) (by omega) fun H' k' => q _ (k2.trans k')
      · rename_i c
        rw [decide_eq_true ok'.1, decide_eq_true ok'.2.1] at c
        cases c
  | maybe s =>
    cases n with
    | zero =>
      unfold Srt.ok at ok
      exact ok.elim
    | succ n =>
      obtain ⟨a, y, rfl, hx, hs⟩ := hs
      have ok' : s.ok (keyIn kk) (keyIn ck) n ∧ ∀ s', s ≠ .maybe s' := by unfold Srt.ok at ok; exact ok
      refine sort_front hx d3' fun H2 p2 k2 hp => ?_
      unfold b_is_sort_0
      walk_at "go"
      show sp_is_sort K (n + 1) [.ref ka, .ref ca, y, .int (deep + 1)] H2 _ _
      refine sort_go (Rd.kp hk k2) (Rd.kp hc k2) (hs.kp0 k2) ok'.1 (by omega) (by omega) fun H' k' => ?_
      have hp' := k'.at_ List.not_mem_nil hp
      obtain ⟨b, w, r, rfl, hb, hw⟩ := srt_word ((hs.kp0 k2).kp0 k') ok'.2
      walk_at "go"
      rw [decide_eq_false hw]
      exact q _ (k2.trans k')
  | node m =>
    obtain ⟨a, rfl, hx⟩ := hs
    have ok' : keyIn kk m := by unfold Srt.ok at ok; exact ok
    refine sort_front hx d3' fun H2 p2 k2 hp => ?_
    unfold b_is_sort_0
    walk_at "go"
    show sp_is_known K [.ref ka, .str m] H2 _ _
    refine known_go (Rd.kp hk k2) ok' ?_
    walk_at "go"
    exact q _ k2
  | pick m =>
    obtain ⟨a, rfl, hx⟩ := hs
    have ok' : keyIn ck m := by unfold Srt.ok at ok; exact ok
    refine sort_front hx d3' fun H2 p2 k2 hp => ?_
    unfold b_is_sort_0
    walk_at "go"
    show sp_is_known K [.ref ca, .str m] H2 _ _
    exact known_go (Rd.kp hc k2) ok' (q _ k2)
theorem len_is_default (K : PySem.W.Frag) : ∀ vs H Q E, sp_is_default K vs H Q E → vs.length = ["of", "thing"].length := by
  intro _ _ _ _ h
  unfold sp_is_default at h
  obtain ⟨_, _, _, rfl, _⟩ := h
  rfl
theorem p_is_default (K : PySem.W.Frag) (vs : List V) (H : Hp) (Q : VK) (E : XK) (h : sp_is_default K vs H Q E) : t_is_default K { nx := fun _ H' => Q .non H', rt := Q } (start ["of", "thing"] vs) H := by
  unfold sp_is_default at h
  obtain ⟨s, x, v, rfl, hs, hv, q⟩ := h
  cases s with
  | num lo hi =>
    obtain ⟨a, rfl, hx⟩ := hs
    obtain ⟨i, rfl, h1, h2, h3, h4⟩ := hv
    walk_at "go"
    show sp_is_within K [.int i, oV lo, oV hi] H _ _
    refine within_go ?_
    have e : ((lo.all fun l => decide (l ≤ i)) && hi.all fun h => decide (i ≤ h)) = true := by
      rw [Bool.and_eq_true]
      constructor
      · cases lo with
        | none => rfl
        | some l => exact decide_eq_true (h1 l rfl)
      · cases hi with
        | none => rfl
        | some l => exact decide_eq_true (h2 l rfl)
    rw [e]
    walk_at "go"
    have e2 : decide ((if i < 0 then -i else i) ≤ 999999999999999999999999999999999999999999999999999999999999) = true := decide_eq_true (by
      unfold GREAT at h3 h4
      split <;> omega)
    have q' := q _ Kp.refl
    rw [← e2] at q'
    exact q'
  | truth =>
    obtain ⟨a, rfl, hx⟩ := hs
    obtain ⟨b, rfl⟩ := hv
    walk_at "go"
    exact q _ Kp.refl
  | text m =>
    obtain ⟨a, rfl, hx⟩ := hs
    obtain ⟨z, rfl, h1, h2, _⟩ := hv
    walk_at "go"
    rw [decide_eq_true h1]
    exact q _ Kp.refl
  | row m s =>
    obtain ⟨a, y, rfl, hx, hs⟩ := hs
    obtain ⟨b, rfl, hb⟩ := hv
    have ty := sqT_ty hb
    walk_at "go"
    rename_i p np
    have k1 : Kp [] H (upd H p (.tup [])) := Kp.refl.upd_new' np
    exact eqET_go (k1.sqT List.not_mem_nil hb) (SqT.of upd_same) (q _ k1)
  | maybe s =>
    obtain ⟨a, y, rfl, hx, hs⟩ := hs
    obtain rfl : v = .non := hv
    walk_at "go"
    exact q _ Kp.refl
  | node k => exact hv.elim
  | pick k => exact hv.elim
theorem len_refuse_if (K : PySem.W.Frag) : ∀ vs H Q E, sp_refuse_if K vs H Q E → vs.length = ["truth", "path", "why"].length := by
  intro _ _ _ _ h
  unfold sp_refuse_if at h
  obtain ⟨_, _, rfl, _⟩ := h
  rfl
theorem p_refuse_if (K : PySem.W.Frag) (vs : List V) (H : Hp) (Q : VK) (E : XK) (h : sp_refuse_if K vs H Q E) : t_refuse_if K { nx := fun _ H' => Q .non H', rt := Q } (start ["truth", "path", "why"] vs) H := by
  unfold sp_refuse_if at h
  obtain ⟨p, w, rfl, q⟩ := h
  walk_at "go"
  exact q
theorem len_look_at_heading (K : PySem.W.Frag) : ∀ vs H Q E, sp_look_at_heading K vs H Q E → vs.length = ["word", "name", "row"].length := by
  intro _ _ _ _ h
  unfold sp_look_at_heading at h
  obtain ⟨_, _, _, _, rfl, _⟩ := h
  rfl
theorem p_look_at_heading (K : PySem.W.Frag) (vs : List V) (H : Hp) (Q : VK) (E : XK) (h : sp_look_at_heading K vs H Q E) : t_look_at_heading K { nx := fun _ H' => Q .non H', rt := Q } (start ["word", "name", "row"] vs) H := by
  unfold sp_look_at_heading at h
  obtain ⟨w, z, a, xs, rfl, hz, hx, q⟩ := h
  walk_at "go"
  show sp_is_name K [.str z] H _ _
  refine name_go hz fun H1 k1 => ?_
  walk_at "go"
  rename_i p np
  show sp_is_row K [.ref a] _ _ _
  have k2 := k1.upd_new' (o := .tup [.str w, .str z, .int (-1)]) np
  refine row_go (hx.kp k2 List.not_mem_nil) fun H2 k3 => ?_
  walk_at "go"
  exact q _ ((k2.trans k3).upd_new' (by assumption))
theorem inV_strs (z : Str) : ∀ zs : List Str, inV (.str z) (zs.map V.str) = decide (z ∈ zs)
  | [] => rfl
  | y :: zs => by
    have ih := inV_strs z zs
    unfold inV at ih ⊢
    rw [List.map_cons, List.any_cons, ih]
    show ((y == z) || decide (z ∈ zs)) = decide (z ∈ y :: zs)
    by_cases e : y = z
    · rw [e]
      simp
    · have e' : ¬ z = y := fun h => e h.symm
      simp [e, e']
section
variable {K : PySem.W.Frag} {H : Hp} {Q : VK} {a : Addr} {z : Str} {zs : List Str} {k : Int} {ns : List Int}
theorem inS_go (h : SqL K H a (zs.map V.str)) (q : Q (.bl (decide (z ∈ zs))) H) : rInU K (.str z) (.ref a) H Q := by
  refine inL_go h rfl (List.all_eq_true.mpr fun v hv => by obtain ⟨i, _, rfl⟩ := List.mem_map.mp hv; rfl) ?_
  rw [inV_strs]
  exact q
theorem notInIT_go (h : SqT K H a (ns.map V.int)) (q : Q (.bl (!decide (k ∈ ns))) H) : rNotInU K (.int k) (.ref a) H Q := by
  unfold rNotInU
  refine .inr ⟨_, _, rfl, .inr h, rfl, List.all_eq_true.mpr fun v hv => by obtain ⟨i, _, rfl⟩ := List.mem_map.mp hv; rfl, ?_⟩
  rw [inV_ints]
  exact q
theorem seqQ_go {n : Nat} {xs : List V} {σ : L2.St} {R : It → Hp → Prop} (e : σ[n]? = some (some (.ref a))) (h : Sq K H a xs) (q : ∀ J G, Walk J xs.length G (YAt xs) → (∀ H', Sq K H' a xs → Kp [] H H' → G H') → R J H) : iSeq K (tVar n) σ H R := by
  unfold iSeq
  rcases h with h | h
  · exact ⟨_, e, a, rfl, .inl ⟨xs, SqL.of h, q _ _ walk_list fun H' _ k => k.sqL List.not_mem_nil (SqL.of h)⟩⟩
  · exact ⟨_, e, a, rfl, .inr ⟨xs, h, q _ _ walk_tup fun H' _ k => k.sqT List.not_mem_nil h⟩⟩
end
theorem paired_at' {α β : Type} {R : α → β → Prop} : ∀ {xs : List α} {ys : List β} {i : Nat} {y : β}, Paired R xs ys → ys[i]? = some y → ∃ x, xs[i]? = some x ∧ R x y
  | _, _, 0, y, .cons a _, h => by
    simp only [List.getElem?_cons_zero, Option.some.injEq] at h ⊢
    exact ⟨_, rfl, h ▸ a⟩
  | _, _, i + 1, y, .cons _ t, h => by
    simp only [List.getElem?_cons_succ] at h ⊢
    exact paired_at' t h
theorem PartV.kp {K : PySem.W.Frag} {H H' : Hp} {p : Int × Str} {x : V} (k : Kp [] H H') (h : PartV K H p x) : PartV K H' p x := by
  obtain ⟨a, r, e, g⟩ := h
  exact ⟨a, r, e, k.sqT List.not_mem_nil g⟩
theorem heads_go {K : PySem.W.Frag} {H : Hp} {Q : VK} {ah : Addr} {xs : List V} {ps : List (Int × Str)} {u0 u1 u3 u4 : Option V} (b : Bool) (hah : Sq K H ah xs) (hp : Paired (PartV K H) ps xs) (hl : xs.length ≤ 1000)
    (q : ∀ H' D, Kp [] H H' → H' D = some (.lst (ps.map fun p => if b then .str p.2 else .int p.1)) → Q (.ref D) H') :
    tLc (iSeq K (tVar 2)) (gName 5) tYes (tOp (rIxU K) (tVar 5) (tC (.int (if b then 1 else 0)))) [5] [u0, u1, some (.ref ah), u3, u4, none] H Q := by
  have lp : ps.length = xs.length := paired_len hp
  refine seqQ_go rfl hah fun J G w hG => ?_
  intro D nD
  refine lc_acc w (fun i acc H' => acc = (ps.take i).map (fun p => if b then V.str p.2 else .int p.1) ∧ Kp [] H H') ⟨rfl, Kp.refl.upd_new' nD⟩ (fun i acc H' _ h => hG H' (hah.kp h.2 List.not_mem_nil) h.2) (fun i x acc Hc Hb hi hl' hD hP hY => ?_) (fun acc Hc hl' hD hP => ?_)
  · obtain ⟨rfl, kc⟩ := hP
    obtain ⟨rfl, e⟩ := hY
    obtain ⟨p, ep, hpv⟩ := paired_at' hp e
    obtain ⟨c, r, rfl, hc⟩ := hpv.kp kc
    refine ⟨rfl, ?_⟩
    have fin : (∃ acc, Hb D = some (.lst acc) ∧ acc.length < sizeLine ∧ Acc D (fun i acc H' => acc = (ps.take i).map (fun p => if b then V.str p.2 else .int p.1) ∧ Kp [] H H') (i + 1) (upd Hb D (.lst (acc ++ [if b then .str p.2 else .int p.1])))) :=
      acc_go hl' (by omega) hD ⟨by rw [List.take_add_one, ep]; simp, kc.upd_new nD⟩
    cases b with
    | true =>
      walk_at "go"
      exact fin
    | false =>
      walk_at "go"
      exact fin
  · obtain ⟨rfl, kc⟩ := hP
    rw [← lp, List.take_length] at hD
    exact q _ _ kc hD
theorem len_look_at_part (K : PySem.W.Frag) : ∀ vs H Q E, sp_look_at_part K vs H Q E → vs.length = ["path", "part", "ahead", "least", "lengths"].length := by
  intro _ _ _ _ h
  unfold sp_look_at_part at h
  obtain ⟨_, _, _, _, _, _, _, _, _, _, _, rfl, _⟩ := h
  rfl
theorem p_look_at_part (K : PySem.W.Frag) (vs : List V) (H : Hp) (Q : VK) (E : XK) (h : sp_look_at_part K vs H Q E) : t_look_at_part K { nx := fun _ H' => Q .non H', rt := Q } (start ["path", "part", "ahead", "least", "lengths", "other"] vs) H := by
  unfold sp_look_at_part at h
  obtain ⟨path, x, ah, ln, least, p, ps, xs, a, r, ls, rfl, rfl, hx, hl, hm, hah, hp, hxl, hn, n1, n2, l1, l2, q⟩ := h
  have ty := sqT_ty hx
  walk_at "go"
  refine notInIT_go hl ?_
  have e0 : decide ((((V.int p.1 :: V.str p.2 :: r).length : Nat) : Int) ∈ ls) = true := decide_eq_true (by
    rw [show (V.int p.1 :: V.str p.2 :: r).length = 2 + r.length from by simp only [List.length_cons]; omega]
    exact hm)
  rw [e0]
  walk_at "go"
  show sp_is_name K [.str p.2] H _ _
  refine name_go hn fun H1 k1 => ?_
  have hx1 := k1.sqT List.not_mem_nil hx
  walk_at "go"
  refine heads_go true (hah.kp k1 List.not_mem_nil) (paired_imp (fun _ _ h => h.kp k1) hp) hxl fun H2 D k2 hD => ?_
  refine inS_go (zs := ps.map (·.2)) (SqL.of (by rw [hD, List.map_map]; rfl)) ?_
  rw [decide_eq_false n1]
  have k12 := k1.trans k2
  have hx2 := k12.sqT List.not_mem_nil hx
  walk_at "go"
  rw [decide_eq_true l1, decide_eq_true l2]
  walk_at "go"
  refine heads_go false (hah.kp k12 List.not_mem_nil) (paired_imp (fun _ _ h => h.kp k12) hp) hxl fun H3 D3 k3 hD3 => ?_
  refine inI_go (ns := ps.map (·.1)) (SqL.of (by rw [hD3, List.map_map]; rfl)) ?_
  rw [decide_eq_false n2]
  walk_at "go"
  exact q _ (k12.trans k3)
end K02

/-! ## the program's schemas: a kind taken -/
namespace K02
open PySem PySem.Spec PyProof.Rows L2 Kb
open LamX (TabS)
section
variable {K : PySem.W.Frag} {H H' : Hp} {Q : VK} {E : XK} {a : Addr} {xs : List V} {M : List Addr}
theorem heading_go {w z : Str} (hz : NameOk z) (hx : Sq K H a xs) (q : ∀ H', Kp [] H H' → Q .non H') : sp_look_at_heading K [.str w, .str z, .ref a] H Q E := by
  unfold sp_look_at_heading
  exact ⟨w, z, a, xs, rfl, hz, hx, q⟩
theorem part_go {path : V} {c ah ln : Addr} {least : Int} {p : Int × Str} {ps : List (Int × Str)} {r : List V} {ls : List Int} (hx : SqT K H c (.int p.1 :: .str p.2 :: r)) (hl : SqT K H ln (ls.map V.int)) (hm : ((2 + r.length : Nat) : Int) ∈ ls) (hah : Sq K H ah xs) (hp : Paired (PartV K H) ps xs) (hxl : xs.length ≤ 1000)
    (hn : NameOk p.2) (n1 : p.2 ∉ ps.map (·.2)) (n2 : p.1 ∉ ps.map (·.1)) (l1 : least ≤ p.1) (l2 : p.1 ≤ 99) (q : ∀ H', Kp [] H H' → Q .non H') : sp_look_at_part K [path, .ref c, .ref ah, .int least, .ref ln] H Q E := by
  unfold sp_look_at_part
  exact ⟨path, .ref c, ah, ln, least, p, ps, xs, c, r, ls, rfl, rfl, hx, hl, hm, hah, hp, hxl, hn, n1, n2, l1, l2, q⟩
theorem left_go (hx : SqT K H a xs) (l : 3 ≤ xs.length) (q : ∀ H' p, Kp [] H H' → SqT K H' p (xs.drop 3) → Q (.ref p) H') : sp_left_of K [.ref a] H Q E := by
  unfold sp_left_of
  exact ⟨a, xs, rfl, hx, l, q⟩
theorem default_go {s : Srt} {x v : V} (hs : SrtV K H s x) (hv : DfOk K H s v) (q : ∀ H', Kp [] H H' → Q (.bl true) H') : sp_is_default K [x, v] H Q E := by
  unfold sp_is_default
  exact ⟨s, x, v, rfl, hs, hv, q⟩
theorem DfOk.kp0 (k : Kp [] H H') : ∀ {s : Srt} {v : V}, DfOk K H s v → DfOk K H' s v
  | .num _ _, _, h => h
  | .truth, _, h => h
  | .text _, _, h => h
  | .row _ _, _, ⟨a, e, h⟩ => ⟨a, e, k.sqT List.not_mem_nil h⟩
  | .maybe _, _, h => h
  | .node _, _, h => h
  | .pick _, _, h => h
theorem FldV.kp0 {f : Fld} {x : V} (k : Kp [] H H') (h : FldV K H f x) : FldV K H' f x := by
  obtain ⟨a, e, g⟩ := h.at_
  exact ⟨⟨a, e, k.sqT List.not_mem_nil g⟩, h.srt.kp0 k, fun v e => (h.dfl v e).kp0 k⟩
theorem FldV.part {f : Fld} {x : V} (h : FldV K H f x) : PartV K H (f.num, f.name) x := by
  obtain ⟨a, e, g⟩ := h.at_
  exact ⟨a, f.y :: f.dfl.toList, e, g⟩
theorem enumQ_go {n : Nat} {σ : L2.St} {R : It → Hp → Prop} (e : σ[n]? = some (some (.ref a))) (h : Sq K H a xs)
    (q : ∀ J G, Walk J xs.length G (fun i H v H' => ∃ T x, v = .ref T ∧ H T = none ∧ H' = upd H T (.tup [.int (0 + (i : Nat)), x]) ∧ xs[i]? = some x) → (∀ H', Kp [] H H' → G H') → R J H) : iEnumV K (tVar n) σ H R := by
  unfold iEnumV
  rcases h with h | h
  · exact ⟨_, e, a, rfl, .inl ⟨xs, SqL.of h, q _ _ (walk_enumS (S := fun H ys => SqL K H a ys)) fun H' k => k.sqL List.not_mem_nil (SqL.of h)⟩⟩
  · exact ⟨_, e, a, rfl, .inr ⟨xs, h, q _ _ (walk_enumS (S := fun H ys => SqT K H a ys)) fun H' k => k.sqT List.not_mem_nil h⟩⟩
theorem cut_take (xs : List V) {i : Nat} (l : i ≤ xs.length) : cutV xs none (some (i : Int)) = xs.take i := by
  unfold cutV
  rw [HT.sIx_nat, show HT.sIx xs.length 0 none = 0 from rfl, Nat.min_eq_left l]
  simp
theorem slQ_go {i : Nat} (h : Sq K H a xs) (l : i < xs.length) (q : ∀ H' p, Kp [] H H' → Sq K H' p (xs.take i) → Q (.ref p) H') : rSlV K (.ref a) none (some (i : Int)) H Q := by
  unfold rSlV
  rcases h with h | h
  · refine .inl (slL_go (SqL.of h) fun p np => ?_)
    rw [cut_take xs (by omega)]
    exact q _ p (Kp.refl.upd_new' np) (.inl upd_same)
  · refine .inr ⟨a, xs, rfl, h, fun e => ?_, fun _ p np => ?_⟩
    · have := e.2
      rw [HT.sIx_nat] at this
      omega
    · rw [cut_take xs (by omega)]
      exact q _ p (Kp.refl.upd_new' np) (.inr (SqT.of upd_same))
theorem tabS_kp {P : Addr} {q : Str} (t : TabS H P q) (k : Kp M H H') (n : P ∉ M) (nc : ∀ a ∈ M, ∀ c z, H a ≠ some (LamX.CodeO c z)) : TabS H' P q := by
  obtain ⟨ps, h1, h2, h3⟩ := t
  refine ⟨ps, k _ _ n h1, h2, fun pos cv hc => ?_⟩
  obtain ⟨c, e1, e2⟩ := h3 pos cv hc
  exact ⟨c, e1, k _ _ (fun z => nc c z _ _ e2) e2⟩
theorem tabS_no {P : Addr} {q : Str} (t : TabS H P q) : ∀ c z, H P ≠ some (LamX.CodeO c z) := fun c z e => by
  obtain ⟨ps, h1, _⟩ := t
  rw [h1] at e
  exact LamX.codeO_ne ps (Option.some.inj e).symm
theorem tabS_ne {P : Addr} {q : Str} {o : HO} (t : TabS H P q) (h : H a = some o) (n : ∀ ps, o ≠ .tbl ps) : a ≠ P := fun e => by
  obtain ⟨ps, h1, _⟩ := t
  rw [← e, h] at h1
  exact n ps (Option.some.inj h1)
theorem Tbl.kpA {Pt : Tb} (t : Tbl Pt H) (k : Kp [Pt.a] H H') (ta : TabS H' Pt.a qa) : Tbl Pt H' := ⟨ta, tabS_kp t.b k (fun m => t.ab (List.mem_singleton.mp m).symm) (fun a m => by rw [List.mem_singleton.mp m]; exact tabS_no t.a), t.ab⟩
theorem Tbl.kpB {Pt : Tb} (t : Tbl Pt H) (k : Kp [Pt.b] H H') (tb : TabS H' Pt.b qb) : Tbl Pt H' := ⟨tabS_kp t.a k (fun m => t.ab (List.mem_singleton.mp m)) (fun a m => by rw [List.mem_singleton.mp m]; exact tabS_no t.b), tb, t.ab⟩
theorem Tbl.updD {Pt : Tb} (t : Tbl Pt H) {D : Addr} {kvs : List (L2.Key × V)} {o : HO} (h : H D = some (.dK kvs)) : Tbl Pt (upd H D o) := by
  have kD : Kp [D] H (upd H D o) := Kp.refl.upd_in List.mem_cons_self
  have n : ∀ {P : Addr} {q : Str}, TabS H P q → P ∉ [D] := fun t m => tabS_ne t h (fun ps e => by cases e) (List.mem_singleton.mp m).symm
  have no : ∀ a ∈ [D], ∀ c z, H a ≠ some (LamX.CodeO c z) := fun a m c z e => by
    rw [List.mem_singleton.mp m, h] at e
    cases e
  exact ⟨tabS_kp t.a kD (n t.a) no, tabS_kp t.b kD (n t.b) no, t.ab⟩
theorem Tbl.kp {Pt : Tb} (t : Tbl Pt H) (k : Kp M H H') (n1 : Pt.a ∉ M) (n2 : Pt.b ∉ M) (nc : ∀ a ∈ M, ∀ φ, H a ≠ some (.ext φ)) : Tbl Pt H' := ⟨Kb.TabS.kp t.a k n1 nc, Kb.TabS.kp t.b k n2 nc, t.ab⟩
theorem Tbl.kp0 {Pt : Tb} (t : Tbl Pt H) (k : Kp [] H H') : Tbl Pt H' := t.kp k List.not_mem_nil List.not_mem_nil fun a m => nomatch m
theorem paired_take {α β : Type} {R : α → β → Prop} : ∀ {xs : List α} {ys : List β} (i : Nat), Paired R xs ys → Paired R (xs.take i) (ys.take i)
  | _, _, 0, _ => by simp; exact .nil
  | _, _, i + 1, .nil => .nil
  | _, _, i + 1, .cons a t => .cons a (paired_take i t)
theorem paired_map {α β γ : Type} {R : α → β → Prop} {S : γ → β → Prop} (f : α → γ) (h : ∀ a b, R a b → S (f a) b) : ∀ {xs : List α} {ys : List β}, Paired R xs ys → Paired S (xs.map f) ys
  | _, _, .nil => .nil
  | _, _, .cons a t => .cons (h _ _ a) (paired_map f h t)
theorem nodup_take {α : Type} {xs : List α} {i : Nat} {x : α} (h : xs.Nodup) (e : xs[i]? = some x) : x ∉ xs.take i := fun m => by
  obtain ⟨j, hj, ej⟩ := List.getElem_of_mem m
  rw [List.length_take] at hj
  rw [List.getElem_take] at ej
  obtain ⟨hi, ei⟩ := List.getElem?_eq_some_iff.mp e
  have := (List.getElem_inj (h₀ := by omega) (h₁ := hi) h).mp (ej.trans ei.symm)
  omega
end
theorem len_Schema_take_kind (K : PySem.W.Frag) (Pt : Tb) : ∀ vs H Q E, sp_Schema_take_kind K Pt vs H Q E → vs.length = ["self", "kinds", "choices", "name", "row"].length := by
  intro _ _ _ _ h
  unfold sp_Schema_take_kind at h
  obtain ⟨_, _, _, _, _, _, _, _, _, _, _, _, _, _, rfl, _⟩ := h
  rfl
theorem p_Schema_take_kind (K : PySem.W.Frag) (C : Addr) (O : Own K C) (Pt : Tb) (vs : List V) (H : Hp) (Q : VK) (E : XK) (h : sp_Schema_take_kind K Pt vs H Q E) : t_Schema_take_kind K C Pt { nx := fun _ H' => Q .non H', rt := Q } (start ["self", "kinds", "choices", "name", "row", "place", "field", "path", "left"] vs) H := by
  unfold sp_Schema_take_kind at h
  obtain ⟨a, ka, ca, z, ra, dx, D1, D2, root, kvs, kk, ck, fls, xs, rfl, ha, hD, hl, hk, hc, hz, hx, rf, tb, q⟩ := h
  obtain ⟨cl, n1, n2, n3, _, _⟩ := O.Schema
  walk_at "go"
  show sp_look_at_heading K [.str (PySem.Str.ofString "kind"), .str z, .ref ra] H _ _
  refine heading_go hz hx fun H1 k1 => ?_
  walk_at "go"
  refine enumQ_go rfl (hx.kp k1 List.not_mem_nil) fun J G w hG => ?_
  refine for_it w (fun i σ H' => Kp [] H1 H' ∧ ∃ u5 u6 u7 u8, σ = [some (.ref a), some (.ref ka), some (.ref ca), some (.str z), some (.ref ra), u5, u6, u7, u8]) ⟨Kp.refl, _, _, _, _, rfl⟩ (fun i σ H' _ h => hG H' h.1) ?_ (fun σ H' h => ?_)
  · rintro i x σ Ha Hb hi ⟨ka8, u5, u6, u7, u8, rfl⟩ ⟨T, y, rfl, nT, rfl, ey⟩
    have kT := ka8.upd_new' (o := .tup [.int (0 + (i : Nat)), y]) nT
    have hT : (upd Ha T (.tup [.int (0 + (i : Nat)), y])) T = some (.tup [.int (0 + (i : Nat)), y]) := upd_same
    rw [show (0 : Int) + (i : Nat) = (i : Int) by omega] at kT hT ⊢
    generalize upd Ha T (.tup [.int (i : Int), y]) = Hc at kT hT ⊢
    obtain ⟨f, ef, fv⟩ := paired_at' rf.at_ ey
    obtain ⟨c, rfl, hcc⟩ := fv.at_
    have fok := rf.ok f (List.mem_of_getElem? ef)
    have kH := k1.trans kT
    have hra := hx.kp kH List.not_mem_nil
    walk_at "go"
    rename_i p np
    refine slQ_go (hra.kp (Kp.refl.upd_new' np) List.not_mem_nil) hi fun H2 p2 k2 hp2 => ?_
    have k3 : Kp [] Hc H2 := (Kp.refl.upd_new' np).trans k2
    walk_at "go"
    rename_i ln nln
    show sp_look_at_part K [.ref p, .ref c, .ref p2, .int 1, .ref ln] _ _ _
    have k4 : Kp [] Hc (upd H2 ln (.tup [.int 3, .int 4])) := k3.upd_new' nln
    have kH4 := kH.trans k4
    have fv4 := fv.kp0 kH4
    obtain ⟨c', ec, hc4⟩ := fv4.at_
    cases ec
    have lf : f.dfl.toList.length ≤ 1 := by cases f.dfl <;> simp
    refine part_go (p := (f.num, f.name)) (ps := (fls.take i).map fun f => (f.num, f.name)) (xs := xs.take i) (ls := [3, 4]) hc4 (SqT.of upd_same) ?_ (hp2.kp (Kp.refl.upd_new' nln) List.not_mem_nil) (paired_map _ (fun f x h => (h.kp0 kH4).part) (paired_take i rf.at_)) (by have := rf.le; rw [List.length_take]; omega) fok.name ?_ ?_ fok.lo fok.hi fun H5 k5 => ?_
    · cases f.dfl <;> simp
    · have h := nodup_take rf.names (i := i) (x := f.name) (by rw [List.getElem?_map, ef]; rfl)
      rw [List.map_map]
      rw [← List.map_take] at h
      exact h
    · have h := nodup_take rf.nums (i := i) (x := f.num) (by rw [List.getElem?_map, ef]; rfl)
      rw [List.map_map]
      rw [← List.map_take] at h
      exact h
    · have kH5 := kH4.trans k5
      have fv5 := fv.kp0 kH5
      obtain ⟨c', ec, hc5⟩ := fv5.at_
      cases ec
      have hc5' : SqT K H5 c (.int f.num :: .str f.name :: f.y :: f.dfl.toList) := hc5
      walk_at "go"
      show sp_is_sort K 4 [.ref ka, .ref ca, f.y, .int 0] H5 _ _
      refine sort_go (n := 3) (Rd.kp hk kH5) (Rd.kp hc kH5) fv5.srt fok.srt (by omega) (by omega) fun H6 k6 => ?_
      have hc6 := k6.sqT List.not_mem_nil hc5'
      have kH6 := kH5.trans k6
      have fv6 := fv5.kp0 k6
      walk_at "go"
      show sp_left_of K [.ref c] H6 _ _
      refine left_go hc6 (by simp) fun H7 pl k7 hpl => ?_
      have kH7 := kH6.trans k7
      refine ⟨pl, rfl, ⟨_, hpl⟩, fun D nD => ?_⟩
      refine lc_acc (walk_tup (xs := f.dfl.toList)) (fun i acc H' => acc = List.replicate i (V.bl true) ∧ Kp [] H7 H') ⟨rfl, Kp.refl.upd_new' nD⟩ (fun _ _ _ _ h => h.2.sqT List.not_mem_nil hpl) (fun j v acc Hd He hj hl' hD' hP hY => ?_) (fun acc Hd hl' hD' hP => ?_)
      · obtain ⟨rfl, kd⟩ := hP
        obtain ⟨rfl, e⟩ := hY
        have fvd := (fv6.kp0 k7).kp0 kd
        have dv := fvd.dfl v (by
          have := List.mem_of_getElem? e
          rwa [Option.mem_toList] at this)
        have hcd := (k7.trans kd).sqT List.not_mem_nil hc6
        refine ⟨rfl, ?_⟩
        walk_at "go"
        show sp_is_default K [f.y, v] He _ _
        refine default_go fvd.srt dv fun H8 k8 => ?_
        exact acc_go hl' (by omega) (k8.at_ List.not_mem_nil hD') ⟨by rw [List.replicate_succ'], (kd.trans k8).upd_new nD⟩
      · obtain ⟨rfl, kd⟩ := hP
        walk_at "go"
        refine all_go (bs := List.replicate f.dfl.toList.length true) (SqL.of (by rw [List.map_replicate]; exact hD')) ?_
        rw [show (List.replicate f.dfl.toList.length true).all id = true from by simp]
        walk_at "go"
        exact ⟨kT.trans (k4.trans (k5.trans (k6.trans (k7.trans kd)))), _, _, _, _, rfl⟩
  · obtain ⟨kG, u5, u6, u7, u8, rfl⟩ := h
    have kH := k1.trans kG
    walk_at "go"
    have hra := hx.kp kH List.not_mem_nil
    have tb2 := tb.kp0 kH
    refine ⟨tb2.a, ra, xs, fls.map (·.num), rfl, hra.imp SqL.of id, paired_map _ (fun f x h => by
      obtain ⟨c, e, g⟩ := (h.kp0 kH).at_
      exact ⟨c, _, e, g⟩) rf.at_, fun H2 ys p k2 ta np bk => ?_⟩
    have aP := tabS_ne tb.a ha (fun ps e => by cases e)
    have dP := tabS_ne tb.a hD (fun ps e => by cases e)
    have ha2 := k2.at_ (fun m => aP (List.mem_singleton.mp m)) (kH.at_ List.not_mem_nil ha)
    have hD2 := k2.at_ (fun m => dP (List.mem_singleton.mp m)) (kH.at_ List.not_mem_nil hD)
    refine tuple_goL (SqL.of upd_same) fun l nl => ?_
    have pl : p ≠ l := ne_of_none upd_same nl
    have nl2 : H2 l = none := by rwa [upd_ne pl.symm] at nl
    have ha3 : (upd (upd H2 p (.lst ys)) l (.tup ys)) a = some (.ins (cAt K "Schema") dx (schF D1 D2 root)) := (upd_ne (ne_of_none ha2 nl2)).trans ((upd_ne (ne_of_none ha2 np)).trans ha2)
    have hD3 : (upd (upd H2 p (.lst ys)) l (.tup ys)) D1 = some (.dK kvs) := (upd_ne (ne_of_none hD2 nl2)).trans ((upd_ne (ne_of_none hD2 np)).trans hD2)
    have k3 : Kp [Pt.a] H (upd (upd H2 p (.lst ys)) l (.tup ys)) := (kH.mono fun _ m => nomatch m).trans ((k2.upd_new' np).upd_new' nl)
    walk_at "go"
    have tb3 : Tbl Pt (upd (upd H2 p (.lst ys)) l (.tup ys)) := (tb2.kpA k2 ta).kp0 ((Kp.refl.upd_new' np).upd_new' nl)
    refine ⟨D1, _, rfl, DPut.k (k := .inr z) hD3 (szlt_of (by omega)), ?_⟩
    have lD : l ≠ D1 := (ne_of_none hD2 nl2).symm
    exact q _ l ys ((k3.mono fun x m => List.mem_cons_of_mem _ m).upd_in List.mem_cons_self) (tb3.updD hD3) (kH.none_of List.not_mem_nil (k2.none_of (fun m => by
      obtain ⟨ps, h, _⟩ := ta
      rw [← List.mem_singleton.mp m, nl2] at h
      cases h) nl2)) ((upd_ne lD).trans upd_same) bk upd_same
end K02

/-! ## the program's schemas: a choice taken -/
namespace K02
open PySem PySem.Spec PyProof.Rows L2 Kb
open LamX (TabS)
section
variable {K : PySem.W.Frag} {H H' : Hp} {Q : VK} {E : XK} {a : Addr} {xs : List V} {M : List Addr}
theorem CseV.kp0 {f : Cse} {x : V} (k : Kp [] H H') (h : CseV K H f x) : CseV K H' f x := by
  obtain ⟨a, e, g⟩ := h.at_
  exact ⟨⟨a, e, k.sqT List.not_mem_nil g⟩, fun s e => (h.srt s e).kp0 k, h.non⟩
theorem CseV.part {f : Cse} {x : V} (h : CseV K H f x) : PartV K H (f.num, f.name) x := by
  obtain ⟨a, e, g⟩ := h.at_
  exact ⟨a, [f.y], e, g⟩
theorem lenQ_go (h : Sq K H a xs) (q : Q (.int xs.length) H) : rLenU K [.ref a] H Q := by
  rcases h with h | h
  · exact len_lst (SqL.of h) q
  · exact len_tup h q
end
theorem len_Schema_take_choice (K : PySem.W.Frag) (Pt : Tb) : ∀ vs H Q E, sp_Schema_take_choice K Pt vs H Q E → vs.length = ["self", "kinds", "choices", "name", "row"].length := by
  intro _ _ _ _ h
  unfold sp_Schema_take_choice at h
  obtain ⟨_, _, _, _, _, _, _, _, _, _, _, _, _, _, rfl, _⟩ := h
  rfl
theorem p_Schema_take_choice (K : PySem.W.Frag) (C : Addr) (O : Own K C) (Pt : Tb) (vs : List V) (H : Hp) (Q : VK) (E : XK) (h : sp_Schema_take_choice K Pt vs H Q E) : t_Schema_take_choice K C Pt { nx := fun _ H' => Q .non H', rt := Q } (start ["self", "kinds", "choices", "name", "row", "place", "case", "path", "number", "word", "content"] vs) H := by
  unfold sp_Schema_take_choice at h
  obtain ⟨a, ka, ca, z, ra, dx, D1, D2, root, kvs, kk, ck, cs, xs, rfl, ha, hD, hl, hk, hc, hz, hx, rf, tb, q⟩ := h
  obtain ⟨cl, n1, n2, n3, _, _⟩ := O.Schema
  walk_at "go"
  show sp_look_at_heading K [.str (PySem.Str.ofString "choice"), .str z, .ref ra] H _ _
  refine heading_go hz hx fun H1 k1 => ?_
  walk_at "go"
  refine lenQ_go (hx.kp k1 List.not_mem_nil) ?_
  have xs0 : xs.length ≠ 0 := by
    rw [← paired_len rf.at_]
    have := rf.ne
    cases cs with
    | nil => exact absurd rfl this
    | cons _ _ => simp
  walk_at "go"
  rw [decide_eq_false (show ¬ (xs.length : Int) = 0 by omega)]
  walk_at "go"
  rename_i p0 np0
  have k1 := k1.upd_new' (o := .tup [.str "choice", .str z, .int (-1)]) np0
  generalize upd H1 p0 _ = H1 at k1 ⊢
  refine enumQ_go rfl (hx.kp k1 List.not_mem_nil) fun J G w hG => ?_
  refine for_it w (fun i σ H' => Kp [] H1 H' ∧ ∃ u5 u6 u7 u8 u9 u10, σ = [some (.ref a), some (.ref ka), some (.ref ca), some (.str z), some (.ref ra), u5, u6, u7, u8, u9, u10]) ⟨Kp.refl, _, _, _, _, _, _, rfl⟩ (fun i σ H' _ h => hG H' h.1) ?_ (fun σ H' h => ?_)
  · rintro i x σ Ha Hb hi ⟨ka8, u5, u6, u7, u8, u9, u10, rfl⟩ ⟨T, y, rfl, nT, rfl, ey⟩
    have kT := ka8.upd_new' (o := .tup [.int (0 + (i : Nat)), y]) nT
    have hT : (upd Ha T (.tup [.int (0 + (i : Nat)), y])) T = some (.tup [.int (0 + (i : Nat)), y]) := upd_same
    rw [show (0 : Int) + (i : Nat) = (i : Int) by omega] at kT hT ⊢
    generalize upd Ha T (.tup [.int (i : Int), y]) = Hc at kT hT ⊢
    obtain ⟨f, ef, fv⟩ := paired_at' rf.at_ ey
    obtain ⟨c, rfl, hcc⟩ := fv.at_
    have fok := rf.ok f (List.mem_of_getElem? ef)
    have kH := k1.trans kT
    have hra := hx.kp kH List.not_mem_nil
    walk_at "go"
    rename_i p np
    refine slQ_go (hra.kp (Kp.refl.upd_new' np) List.not_mem_nil) hi fun H2 p2 k2 hp2 => ?_
    have k3 : Kp [] Hc H2 := (Kp.refl.upd_new' np).trans k2
    walk_at "go"
    rename_i ln nln
    show sp_look_at_part K [.ref p, .ref c, .ref p2, .int 0, .ref ln] _ _ _
    have k4 : Kp [] Hc (upd H2 ln (.tup [.int 3])) := k3.upd_new' nln
    have kH4 := kH.trans k4
    have fv4 := fv.kp0 kH4
    obtain ⟨c', ec, hc4⟩ := fv4.at_
    cases ec
    refine part_go (p := (f.num, f.name)) (ps := (cs.take i).map fun f => (f.num, f.name)) (xs := xs.take i) (ls := [3]) hc4 (SqT.of upd_same) ?_ (hp2.kp (Kp.refl.upd_new' nln) List.not_mem_nil) (paired_map _ (fun f x h => (h.kp0 kH4).part) (paired_take i rf.at_)) (by have := rf.le; rw [List.length_take]; omega) fok.name ?_ ?_ fok.lo fok.hi fun H5 k5 => ?_
    · simp
    · have h := nodup_take rf.names (i := i) (x := f.name) (by rw [List.getElem?_map, ef]; rfl)
      rw [List.map_map]
      rw [← List.map_take] at h
      exact h
    · have h := nodup_take rf.nums (i := i) (x := f.num) (by rw [List.getElem?_map, ef]; rfl)
      rw [List.map_map]
      rw [← List.map_take] at h
      exact h
    · have kH5 := kH4.trans k5
      have fv5 := fv.kp0 kH5
      obtain ⟨c', ec, hc5⟩ := fv5.at_
      cases ec
      have fz : f.s = none ∨ ∃ s, f.s = some s := by cases f.s <;> simp
      have hc5' : SqT K H5 c (.int f.num :: .str f.name :: [f.y]) := hc5
      rcases fz with fz | ⟨s, fz⟩
      · rw [fv5.non fz] at hc5'
        walk_at "go"
        all_goals exact ⟨kT.trans (k4.trans k5), _, _, _, _, _, _, rfl⟩
      · have ss := fv5.srt s fz
        obtain ⟨b, w, r, eb, hb⟩ := srt_head ss
        rw [eb] at hc5' ss
        have nz : ¬ f.num = 0 := fun e => by
          rw [fok.zero e] at fz
          cases fz
        walk_at "go"
        show sp_is_sort K 4 [.ref ka, .ref ca, .ref b, .int 0] H5 _ _
        refine sort_go (n := 3) (Rd.kp hk kH5) (Rd.kp hc kH5) ss (fok.srt s fz) (by omega) (by omega) fun H6 k6 => ?_
        walk_at "go"
        all_goals first
          | exact absurd (by assumption) nz
          | exact ⟨kT.trans (k4.trans (k5.trans k6)), _, _, _, _, _, _, rfl⟩
  · obtain ⟨kG, u5, u6, u7, u8, u9, u10, rfl⟩ := h
    have kH := k1.trans kG
    walk_at "go"
    have hra := hx.kp kH List.not_mem_nil
    have tb2 := tb.kp0 kH
    refine ⟨tb2.b, ra, xs, cs.map (·.num), rfl, hra.imp SqL.of id, paired_map _ (fun f x h => by
      obtain ⟨c, e, g⟩ := (h.kp0 kH).at_
      exact ⟨c, _, e, g⟩) rf.at_, fun H2 ys p k2 ta np bk => ?_⟩
    have aP := tabS_ne tb.b ha (fun ps e => by cases e)
    have dP := tabS_ne tb.b hD (fun ps e => by cases e)
    have ha2 := k2.at_ (fun m => aP (List.mem_singleton.mp m)) (kH.at_ List.not_mem_nil ha)
    have hD1 := k2.at_ (fun m => dP (List.mem_singleton.mp m)) (kH.at_ List.not_mem_nil hD)
    refine tuple_goL (SqL.of upd_same) fun l nl => ?_
    have pl : p ≠ l := ne_of_none upd_same nl
    have nl2 : H2 l = none := by rwa [upd_ne pl.symm] at nl
    have ha3 : (upd (upd H2 p (.lst ys)) l (.tup ys)) a = some (.ins (cAt K "Schema") dx (schF D1 D2 root)) := (upd_ne (ne_of_none ha2 nl2)).trans ((upd_ne (ne_of_none ha2 np)).trans ha2)
    have hD3 : (upd (upd H2 p (.lst ys)) l (.tup ys)) D2 = some (.dK kvs) := (upd_ne (ne_of_none hD1 nl2)).trans ((upd_ne (ne_of_none hD1 np)).trans hD1)
    have k3 : Kp [Pt.b] H (upd (upd H2 p (.lst ys)) l (.tup ys)) := (kH.mono fun _ m => nomatch m).trans ((k2.upd_new' np).upd_new' nl)
    walk_at "go"
    have tb3 : Tbl Pt (upd (upd H2 p (.lst ys)) l (.tup ys)) := (tb2.kpB k2 ta).kp0 ((Kp.refl.upd_new' np).upd_new' nl)
    refine ⟨D2, _, rfl, DPut.k (k := .inr z) hD3 (szlt_of (by omega)), ?_⟩
    have lD : l ≠ D2 := (ne_of_none hD1 nl2).symm
    exact q _ l ys ((k3.mono fun x m => List.mem_cons_of_mem _ m).upd_in List.mem_cons_self) (tb3.updD hD3) (kH.none_of List.not_mem_nil (k2.none_of (fun m => by
      obtain ⟨ps, h, _⟩ := ta
      rw [← List.mem_singleton.mp m, nl2] at h
      cases h) nl2)) ((upd_ne lD).trans upd_same) bk upd_same
end K02

/-! ## the program's schemas: does a choice come back to itself -/
namespace K02
open PySem PySem.Spec PyProof.Rows L2 Kb
theorem len_Schema_comes_back (K : PySem.W.Frag) : ∀ vs H Q E, sp_Schema_comes_back K vs H Q E → vs.length = ["self", "name"].length := by
  intro _ _ _ _ h
  unfold sp_Schema_comes_back at h
  obtain ⟨_, _, _, _, _, _, _, _, _, rfl, _⟩ := h
  rfl
theorem Leads.kp0 {K : PySem.W.Frag} {H H' : Hp} {kvs : List (L2.Key × V)} {z : Str} {to : Option Str} (k : Kp [] H H') (h : Leads K H kvs z to) : Leads K H' kvs z to := by
  obtain ⟨T, c, r, num, nm, y, h1, h2, h3, h4⟩ := h
  refine ⟨T, c, r, num, nm, y, h1, k.at_ List.not_mem_nil h2, k.sqT List.not_mem_nil h3, ?_⟩
  cases to with
  | none => exact h4.imp id fun ⟨b, w, r', e, g, n⟩ => ⟨b, w, r', e, k.sqT List.not_mem_nil g, n⟩
  | some z' =>
    obtain ⟨b, e, g⟩ := h4
    exact ⟨b, e, k.sqT List.not_mem_nil g⟩
theorem p_Schema_comes_back (K : PySem.W.Frag) (C : Addr) (O : Own K C) (vs : List V) (H : Hp) (Q : VK) (E : XK) (h : sp_Schema_comes_back K vs H Q E) : t_Schema_comes_back K C { nx := fun _ H' => Q .non H', rt := Q } (start ["self", "name", "seen", "at", "content"] vs) H := by
  unfold sp_Schema_comes_back at h
  obtain ⟨a, z, dx, D1, D2, root, kvs, rank, N, rfl, ha, hD, hN, hw, hz, q⟩ := h
  obtain ⟨cl, n1, n2, n3, _, _⟩ := O.Schema
  walk_at "go"
  rename_i S nS
  refine ⟨fun m σ H' => Kp [] H H' ∧ ∃ w ss u, m = N - rank w ∧ σ = [some (.ref a), some (.str z), some (.ref S), some (.str w), u] ∧ H' S = some (.dK ss) ∧ keyIn kvs w ∧ ss.length + (N - rank w) ≤ N ∧ ∀ k, (valV ss k).isSome = true → ∃ v, k = .inr v ∧ rank v < rank w, ⟨_, Kp.refl.upd_new' nS, z, [], none, rfl, rfl, upd_same, hz, by simp, fun k e => by cases e⟩, ?_⟩
  rintro m σ H1 ⟨k1, w, ss, u, rfl, rfl, hS, hk, hl, hr⟩
  have nw : valV ss (.inr w) = none := by
    cases e : valV ss (.inr w) with
    | none => rfl
    | some _ =>
      obtain ⟨v, ev, lt⟩ := hr (.inr w) (by rw [e]; rfl)
      cases ev
      omega
  walk_at "go"
  refine ⟨S, none, rfl, nw ▸ DGet.k (k := .inr w) hS, ?_⟩
  refine ⟨true, rfl, iteT ?_⟩
  have hDr := Rd.kp hD k1
  refine ⟨_, fun σ' H' h => h, ?_⟩
  obtain ⟨to, ld, lt⟩ := hw w hk
  have ld1 := ld.kp0 k1
  walk_at "go"
  refine ⟨S, _, rfl, DPut.k (k := .inr w) hS (szlt_of (by omega)), ?_⟩
  have nSH := nS
  have k2 : Kp [] H (upd H1 S (.dK (putK ss (.inr w) (.bl true)))) := k1.upd_new nS
  have ld2 := ld.kp0 k2
  have hD2 := Rd.kp hD k2
  have ha2 := k2.at_ List.not_mem_nil ha
  have hS2 : (upd H1 S (.dK (putK ss (.inr w) (.bl true)))) S = some (.dK (putK ss (.inr w) (.bl true))) := upd_same
  generalize upd H1 S (.dK (putK ss (.inr w) (.bl true))) = H2 at k2 ld2 hD2 ha2 hS2 ⊢
  obtain ⟨T, c, r, num, nm, y, e1, e2, e3, e4⟩ := ld2
  have e2' : SqT K H2 T (.ref c :: r) := SqT.of e2
  walk_at "go"
  refine ⟨D2, .ref T, rfl, .inl ⟨kvs, .inr w, hD2, rfl, e1.symm⟩, ?_⟩
  cases to with
  | none =>
    rcases e4 with rfl | ⟨b, w', r', rfl, e4, ne⟩
    · walk_at "go"
      all_goals first
        | exact q _ k2
        | exact absurd rfl (by assumption)
    · walk_at "go"
      all_goals first
        | exact q _ k2
        | exact absurd (by assumption) ne
  | some z' =>
    obtain ⟨b, rfl, e4⟩ := e4
    obtain ⟨l1, l2, l3⟩ := lt z' rfl
    walk_at "go"
    all_goals first
      | exact absurd rfl (by assumption)
      | skip
    refine ⟨N - rank z', by omega, k2, z', _, _, rfl, rfl, hS2, l1, ?_, ?_⟩
    · have := length_putK ss (.inr w) (.bl true)
      omega
    · intro k hk
      rw [valV_put] at hk
      by_cases e : k = .inr w
      · exact ⟨w, e, l2⟩
      · rw [if_neg e] at hk
        obtain ⟨v, e, l⟩ := hr k hk
        exact ⟨v, e, by omega⟩
end K02

/-! ## the program's schemas: made -/
namespace K02
open PySem PySem.Spec PyProof.Rows L2 Kb
open LamX (TabS)
section
variable {K : PySem.W.Frag} {H H' : Hp} {a : Addr} {xs : List V} {M : List Addr}
/-- no list and no tuple stands at b -/
def NoSq (H : Hp) (b : Addr) : Prop := ∀ u, H b = some u → (∀ xs, u ≠ .tup xs) ∧ (∀ o xs, u ≠ .frz o (.tup xs)) ∧ ∀ xs, u ≠ .lst xs
theorem sqT_kpN (k : Kp M H H') (l : ∀ b ∈ M, NoSq H b) (h : SqT K H a xs) : SqT K H' a xs := by
  rcases h with (h | ⟨o, h⟩) | h
  · exact .inl (.inl (k _ _ (fun z => (l a z _ h).1 _ rfl) h))
  · exact .inl (.inr ⟨o, k _ _ (fun z => (l a z _ h).2.1 _ _ rfl) h⟩)
  · exact .inr h
theorem Sq.kpN (k : Kp M H H') (l : ∀ b ∈ M, NoSq H b) (h : Sq K H a xs) : Sq K H' a xs :=
  h.imp (fun h => k _ _ (fun z => (l a z _ h).2.2 _ rfl) h) (sqT_kpN k l)
theorem SrtV.kpN (k : Kp M H H') (l : ∀ b ∈ M, NoSq H b) : ∀ {s : Srt} {x : V}, SrtV K H s x → SrtV K H' s x
  | .num _ _, _, ⟨a, h, g⟩ => ⟨a, h, sqT_kpN k l g⟩
  | .truth, _, ⟨a, h, g⟩ => ⟨a, h, sqT_kpN k l g⟩
  | .text _, _, ⟨a, h, g⟩ => ⟨a, h, sqT_kpN k l g⟩
  | .row _ _, _, ⟨a, y, h, g, r⟩ => ⟨a, y, h, sqT_kpN k l g, r.kpN k l⟩
  | .maybe _, _, ⟨a, y, h, g, r⟩ => ⟨a, y, h, sqT_kpN k l g, r.kpN k l⟩
  | .node _, _, ⟨a, h, g⟩ => ⟨a, h, sqT_kpN k l g⟩
  | .pick _, _, ⟨a, h, g⟩ => ⟨a, h, sqT_kpN k l g⟩
theorem DfOk.kpN (k : Kp M H H') (l : ∀ b ∈ M, NoSq H b) : ∀ {s : Srt} {v : V}, DfOk K H s v → DfOk K H' s v
  | .num _ _, _, h => h
  | .truth, _, h => h
  | .text _, _, h => h
  | .row _ _, _, ⟨a, e, h⟩ => ⟨a, e, sqT_kpN k l h⟩
  | .maybe _, _, h => h
  | .node _, _, h => h
  | .pick _, _, h => h
theorem FldV.kpN {f : Fld} {x : V} (k : Kp M H H') (l : ∀ b ∈ M, NoSq H b) (h : FldV K H f x) : FldV K H' f x := by
  obtain ⟨a, e, g⟩ := h.at_
  exact ⟨⟨a, e, sqT_kpN k l g⟩, h.srt.kpN k l, fun v e => (h.dfl v e).kpN k l⟩
theorem CseV.kpN {f : Cse} {x : V} (k : Kp M H H') (l : ∀ b ∈ M, NoSq H b) (h : CseV K H f x) : CseV K H' f x := by
  obtain ⟨a, e, g⟩ := h.at_
  exact ⟨⟨a, e, sqT_kpN k l g⟩, fun s e => (h.srt s e).kpN k l, h.non⟩
theorem KRow.ok.kpN {nk ck : Str → Prop} {r : KRow} (k : Kp M H H') (l : ∀ b ∈ M, NoSq H b) (h : r.ok K H nk ck) : r.ok K H' nk ck :=
  ⟨h.name, h.sq.kpN k l, paired_imp (fun _ _ g => g.kpN k l) h.row.at_, h.row.ok, h.row.names, h.row.nums, h.row.le⟩
theorem CRow.ok.kpN {nk ck : Str → Prop} {rank : Str → Nat} {N : Nat} {r : CRow} (k : Kp M H H') (l : ∀ b ∈ M, NoSq H b) (h : r.ok K H nk ck rank N) : r.ok K H' nk ck rank N :=
  ⟨h.name, h.sq.kpN k l, ⟨paired_imp (fun _ _ g => g.kpN k l) h.row.at_, h.row.ok, h.row.names, h.row.nums, h.row.ne, h.row.le⟩, h.up⟩
theorem paired_snoc {α β : Type} {R : α → β → Prop} {a : α} {b : β} : ∀ {xs : List α} {ys : List β}, Paired R xs ys → R a b → Paired R (xs ++ [a]) (ys ++ [b])
  | _, _, .nil, h => .cons h .nil
  | _, _, .cons a t, h => .cons a (paired_snoc t h)
theorem Done.keys {H H' : Hp} {rs : List (Str × List Int × List V)} {kvs : List (L2.Key × V)} (h : Done H H' rs kvs) : kvs.map (·.1) = rs.map fun r => .inr r.1 := by
  unfold Done at h
  induction h with
  | nil => rfl
  | cons a _ ih => rw [List.map_cons, List.map_cons, ih, a.1]
theorem Done.kp {H H' H2 : Hp} {rs : List (Str × List Int × List V)} {kvs : List (L2.Key × V)} (h : Done H H' rs kvs) (k : Kp M H' H2) (l : ∀ b ∈ M, NoSq H' b) : Done H H2 rs kvs :=
  paired_imp (fun _ _ g => by
    obtain ⟨e, T, ys, e1, e2, e3, e4⟩ := g
    exact ⟨e, T, ys, e1, e2, k _ _ (fun m => (l T m _ e3).1 _ rfl) e3, e4⟩) h
theorem val_no {kvs : List (L2.Key × V)} {k : L2.Key} (h : k ∉ kvs.map (·.1)) : valV kvs k = none := by
  unfold valV
  rw [List.find?_eq_none.mpr]
  · rfl
  · intro q hq e
    exact h (List.mem_map.mpr ⟨q, hq, by simpa using e⟩)
theorem Done.put {H H' : Hp} {rs : List (Str × List Int × List V)} {kvs : List (L2.Key × V)} {r : Str × List Int × List V} {T : Addr} {ys : List V} (h : Done H H' rs kvs) (n : r.1 ∉ rs.map (·.1)) (e2 : H T = none) (e3 : H' T = some (.tup ys)) (e4 : ByKey r.2.1 r.2.2 ys) :
    Done H H' (rs ++ [r]) (putK kvs (.inr r.1) (.ref T)) := by
  have nv : valV kvs (.inr r.1) = none := val_no (by
    rw [h.keys]
    intro m
    obtain ⟨q, hq, e⟩ := List.mem_map.mp m
    exact n (List.mem_map.mpr ⟨q, hq, Sum.inr.inj e⟩))
  rw [putK_new _ nv]
  exact paired_snoc h ⟨rfl, T, ys, rfl, e2, e3, e4⟩
theorem take_kind_go {K : PySem.W.Frag} {Pt : Tb} {H : Hp} {Q : VK} {E : XK} {a ka ca dx D1 D2 : Addr} {root : V} {kvs kk ck : List (L2.Key × V)} {r : KRow} (ha : H a = some (.ins (cAt K "Schema") dx (schF D1 D2 root))) (hD : H D1 = some (.dK kvs)) (hl : kvs.length ≤ 1000) (hk : Rd H ka (.dK kk)) (hc : Rd H ca (.dK ck)) (ok : r.ok K H (keyIn kk) (keyIn ck)) (tb : Tbl Pt H)
    (q : ∀ H' T ys, Kp [D1, Pt.a] H H' → Tbl Pt H' → H T = none → H' T = some (.tup ys) → ByKey (r.fls.map (·.num)) r.xs ys → H' D1 = some (.dK (putK kvs (.inr r.name) (.ref T))) → Q .non H') : sp_Schema_take_kind K Pt [.ref a, .ref ka, .ref ca, .str r.name, .ref r.adr] H Q E := by
  unfold sp_Schema_take_kind
  exact ⟨a, ka, ca, r.name, r.adr, dx, D1, D2, root, kvs, kk, ck, r.fls, r.xs, rfl, ha, hD, hl, hk, hc, ok.name, ok.sq, ok.row, tb, q⟩
theorem take_choice_go {K : PySem.W.Frag} {Pt : Tb} {H : Hp} {Q : VK} {E : XK} {a ka ca dx D1 D2 : Addr} {root : V} {kvs kk ck : List (L2.Key × V)} {rank : Str → Nat} {N : Nat} {r : CRow} (ha : H a = some (.ins (cAt K "Schema") dx (schF D1 D2 root))) (hD : H D2 = some (.dK kvs)) (hl : kvs.length ≤ 1000) (hk : Rd H ka (.dK kk)) (hc : Rd H ca (.dK ck)) (ok : r.ok K H (keyIn kk) (keyIn ck) rank N) (tb : Tbl Pt H)
    (q : ∀ H' T ys, Kp [D2, Pt.b] H H' → Tbl Pt H' → H T = none → H' T = some (.tup ys) → ByKey (r.cs.map (·.num)) r.xs ys → H' D2 = some (.dK (putK kvs (.inr r.name) (.ref T))) → Q .non H') : sp_Schema_take_choice K Pt [.ref a, .ref ka, .ref ca, .str r.name, .ref r.adr] H Q E := by
  unfold sp_Schema_take_choice
  exact ⟨a, ka, ca, r.name, r.adr, dx, D1, D2, root, kvs, kk, ck, r.cs, r.xs, rfl, ha, hD, hl, hk, hc, ok.name, ok.sq, ok.row, tb, q⟩
end
theorem len_Schema___init__ (K : PySem.W.Frag) (Pt : Tb) : ∀ vs H Q E, sp_Schema___init__ K Pt vs H Q E → vs.length = ["self", "kinds", "choices", "root"].length := by
  intro _ _ _ _ h
  unfold sp_Schema___init__ at h
  obtain ⟨_, _, _, _, _, _, _, _, _, _, rfl, _⟩ := h
  rfl
theorem take_snoc {α : Type} {xs : List α} {i : Nat} {x : α} (e : xs[i]? = some x) : xs.take (i + 1) = xs.take i ++ [x] := by rw [List.take_add_one, e]; rfl
theorem noSq_tab {H : Hp} {P : Addr} {q : Str} (t : TabS H P q) : NoSq H P := fun u h => by
  obtain ⟨ps, h1, _⟩ := t
  rw [h1] at h
  cases h
  exact ⟨(fun _ e => by cases e), (fun _ _ e => by cases e), (fun _ e => by cases e)⟩
theorem noSq_dK {H : Hp} {D : Addr} {kvs : List (L2.Key × V)} (h1 : Rd H D (.dK kvs)) : NoSq H D := fun u h => by
  rcases h1 with h1 | ⟨o, h1⟩
  · rw [h1] at h
    cases h
    exact ⟨(fun _ e => by cases e), (fun _ _ e => by cases e), (fun _ e => by cases e)⟩
  · rw [h1] at h
    cases h
    exact ⟨(fun _ e => by cases e), (fun _ _ e => by cases e), (fun _ e => by cases e)⟩
theorem noSq_ins {H : Hp} {a C dx : Addr} {fs : List (Str × V)} (h1 : H a = some (.ins C dx fs)) : NoSq H a := fun u h => by
  rw [h1] at h
  cases h
  exact ⟨(fun _ e => by cases e), (fun _ _ e => by cases e), (fun _ e => by cases e)⟩
theorem noSq2 {H : Hp} {a b : Addr} (h1 : NoSq H a) (h2 : NoSq H b) : ∀ x ∈ [a, b], NoSq H x := fun x m => by
  rcases List.mem_cons.mp m with rfl | m
  · exact h1
  · rw [List.mem_singleton.mp m]
    exact h2
theorem not2 {x a b : Addr} (h1 : x ≠ a) (h2 : x ≠ b) : x ∉ [a, b] := fun m => by
  rcases List.mem_cons.mp m with e | m
  · exact h1 e
  · exact h2 (List.mem_singleton.mp m)
theorem Tbl.updM {Pt : Tb} {H : Hp} (t : Tbl Pt H) {D : Addr} {u o : HO} (h : H D = some u) (n1 : ∀ ps, u ≠ .tbl ps) (n2 : ∀ c z, u ≠ LamX.CodeO c z) : Tbl Pt (upd H D o) := by
  have kD : Kp [D] H (upd H D o) := Kp.refl.upd_in List.mem_cons_self
  have n : ∀ {P : Addr} {q : Str}, TabS H P q → P ∉ [D] := fun t m => tabS_ne t h n1 (List.mem_singleton.mp m).symm
  have no : ∀ a ∈ [D], ∀ c z, H a ≠ some (LamX.CodeO c z) := fun a m c z e => by
    rw [List.mem_singleton.mp m, h] at e
    exact n2 c z (Option.some.inj e)
  exact ⟨tabS_kp t.a kD (n t.a) no, tabS_kp t.b kD (n t.b) no, t.ab⟩
theorem init_0 {K : PySem.W.Frag} {C : Addr} (O : Own K C) {Pt : Tb} {H : Hp} {D : Ends} {a ka ca dx D1 D2 : Addr} {cv root : V} {FK : List KRow} {ck : List (L2.Key × V)} (ha : H a = some (.ins (cAt K "Schema") dx (schF D1 D2 root))) (h1 : H D1 = some (.dK [])) (h2 : H D2 = some (.dK [])) (hk : H ka = some (.dK (FK.map KRow.kv))) (hc : H ca = some (.dK ck)) (d1k : D1 ≠ ka) (d1c : D1 ≠ ca) (kc : ca ≠ ka) (d2k : D2 ≠ ka)
    (lk : FK.length ≤ 100) (nk : (FK.map (·.name)).Nodup) (ok : ∀ r ∈ FK, r.ok K H (keyIn (FK.map KRow.kv)) (keyIn ck)) (tb : Tbl Pt H)
    (q : ∀ H' kvs1 u5 u6, Kp [D1, Pt.a] H H' → Tbl Pt H' → H' D1 = some (.dK kvs1) → Done H H' (FK.map KRow.row) kvs1 → b_Schema___init___1 K C Pt D [some (.ref a), some (.ref ka), some cv, some root, some (.ref ca), u5, u6] H') :
    b_Schema___init___0 K C Pt D [some (.ref a), some (.ref ka), some cv, some root, some (.ref ca), none, none] H := by
  obtain ⟨cl, n1, n2, n3, _, _⟩ := O.Schema
  unfold b_Schema___init___0
  walk_at "go"
  refine ⟨ka, .dK (FK.map KRow.kv), hk, trivial, fun od => ⟨_, rfl, ka, od, _, rfl, upd_same, ?_⟩⟩
  obtain ⟨G, hG⟩ : ∃ G, G = upd H ka (.frz od (.dK (FK.map KRow.kv))) := ⟨_, rfl⟩
  have kpE : Kp [ka] H G := by rw [hG]; exact Kp.refl.upd_in List.mem_cons_self
  have lo : ∀ b ∈ [ka], NoSq H b := fun b hb => by
    rw [List.mem_singleton.mp hb]
    exact noSq_dK (.inl hk)
  have gk : G ka = some (.frz od (.dK (FK.map KRow.kv))) := by rw [hG]; exact upd_same
  have aka : a ≠ ka := fun e => by rw [e, hk] at ha; cases ha
  have ga := kpE.at_ (fun m => aka (List.mem_singleton.mp m)) ha
  have g1 := kpE.at_ (fun m => d1k (List.mem_singleton.mp m)) h1
  have gc := kpE.at_ (fun m => kc (List.mem_singleton.mp m)) hc
  have tbG : Tbl Pt G := by rw [hG]; exact tb.updD hk
  rw [← hG]
  have ad1 : a ≠ D1 := fun e => by rw [e, h1] at ha; cases ha
  have aP := tabS_ne tbG.a ga (fun ps e => by cases e)
  have kP := tabS_ne tbG.a gk (fun ps e => by cases e)
  have cP := tabS_ne tbG.a gc (fun ps e => by cases e)
  have okG : ∀ r ∈ FK, r.ok K G (keyIn (FK.map KRow.kv)) (keyIn ck) := fun r hr => (ok r hr).kpN kpE lo
  have loG : ∀ b ∈ [D1, Pt.a], NoSq G b := noSq2 (noSq_dK (.inl g1)) (noSq_tab tbG.a)
  have nG : ∀ T, G T = none → H T = none := fun T h => by
    by_cases e : T = ka
    · rw [e, gk] at h
      cases h
    · rw [hG, upd_ne e] at h
      exact h
  refine for_it walk_items (fun i σ H' => Kp [D1, Pt.a] G H' ∧ Tbl Pt H' ∧ (∃ kvs1, H' D1 = some (.dK kvs1) ∧ Done H H' ((FK.take i).map KRow.row) kvs1 ∧ kvs1.length ≤ i) ∧ ∃ u5 u6, σ = [some (.ref a), some (.ref ka), some cv, some root, some (.ref ca), u5, u6])
    ⟨Kp.refl, tbG, ⟨[], g1, .nil, Nat.le_refl _⟩, _, _, rfl⟩ (fun i σ H' _ h => h.1.at_ (not2 d1k.symm kP) gk) ?_ (fun σ H' h => ?_)
  · rintro i x σ Ha Hb hi ⟨ka8, tba, ⟨kvs1, hD, dn, hl⟩, u5, u6, rfl⟩ hy
    obtain ⟨T, y1, y2, rfl, nT, rfl, e1, e2⟩ := hy
    rw [List.length_map] at hi
    obtain ⟨r, er⟩ : ∃ r, FK[i]? = some r := ⟨FK[i], List.getElem?_eq_getElem hi⟩
    have e1 : ((FK.map KRow.kv)[i]?.map fun kv => kV kv.1) = some y1 := e1
    have e2 : ((FK.map KRow.kv)[i]?.map Prod.snd) = some y2 := e2
    rw [List.getElem?_map, er] at e1 e2
    obtain rfl : V.str r.name = y1 := Option.some.inj e1
    obtain rfl : V.ref r.adr = y2 := Option.some.inj e2
    have kT := ka8.upd_new' (o := .tup [.str r.name, .ref r.adr]) nT
    have k0T : Kp [] Ha (upd Ha T (.tup [.str r.name, .ref r.adr])) := Kp.refl.upd_new' nT
    have hT : (upd Ha T (.tup [.str r.name, .ref r.adr])) T = some (.tup [.str r.name, .ref r.adr]) := upd_same
    have hD' := k0T.at_ List.not_mem_nil hD
    have dn' := dn.kp k0T (fun b m => nomatch m)
    have tb' := tba.kp0 k0T
    generalize upd Ha T (.tup [.str r.name, .ref r.adr]) = Hc at kT k0T hT hD' dn' tb' ⊢
    have gac := kT.at_ (not2 ad1 aP) ga
    have gkc := kT.at_ (not2 d1k.symm kP) gk
    have gcc := kT.at_ (not2 d1c.symm cP) gc
    have okr := (okG r (List.mem_of_getElem? er)).kpN kT loG
    walk_at "go"
    show sp_Schema_take_kind K Pt [.ref a, .ref ka, .ref ca, .str r.name, .ref r.adr] Hc _ _
    refine take_kind_go gac hD' (by omega) (.inr ⟨od, gkc⟩) (.inl gcc) okr tb' fun H2 T2 ys k2 tb2 nT2 hT2 bk hD2 => ?_
    have lo2 : ∀ b ∈ [D1, Pt.a], NoSq Hc b := noSq2 (noSq_dK (.inl hD')) (noSq_tab tb'.a)
    have nr : r.name ∉ ((FK.take i).map KRow.row).map (·.1) := by
      rw [List.map_map]
      have h := nodup_take nk (i := i) (x := r.name) (by rw [List.getElem?_map, er]; rfl)
      rw [← List.map_take] at h
      exact h
    refine ⟨kT.trans k2, tb2, ⟨_, hD2, ?_, by have := length_putK kvs1 (.inr r.name) (.ref T2); omega⟩, _, _, rfl⟩
    rw [take_snoc er, List.map_append]
    refine (dn'.kp k2 lo2).put (r := r.row) nr (nG T2 (kT.none_of (not2 (fun e => by rw [e, hD'] at nT2; cases nT2) (fun e => by
      obtain ⟨ps, h, _⟩ := tb'.a
      rw [← e, nT2] at h
      cases h)) nT2)) hT2 bk
  · obtain ⟨kG, tbF, ⟨kvs1, hD, dn, hl⟩, u5, u6, rfl⟩ := h
    rw [List.length_map, List.take_length] at dn
    have hkF := kG.at_ (not2 d1k.symm kP) gk
    refine ⟨hkF, ?_⟩
    have kF : Kp [D1, Pt.a] H (upd H' ka (.dK (FK.map KRow.kv))) := fun b o n hb => by
      by_cases e : b = ka
      · rw [e] at hb ⊢
        rw [hk] at hb
        cases hb
        exact upd_same
      · exact (upd_ne e).trans (kG b o n (kpE b o (fun m => e (List.mem_singleton.mp m)) hb))
    have kU : Kp [ka] H' (upd H' ka (.dK (FK.map KRow.kv))) := Kp.refl.upd_in List.mem_cons_self
    have loU : ∀ b ∈ [ka], NoSq H' b := fun b hb => by
      rw [List.mem_singleton.mp hb]
      exact noSq_dK (.inr ⟨od, hkF⟩)
    exact q _ kvs1 _ _ kF (tbF.updM hkF (fun _ e => by cases e) (fun _ _ e => by cases e)) ((upd_ne d1k).trans hD) (dn.kp kU loU)
theorem init_1 {K : PySem.W.Frag} {C : Addr} (O : Own K C) {Pt : Tb} {H : Hp} {D : Ends} {a ka ca dx D1 D2 : Addr} {cv root : V} {u5 u6 : Option V} {CK : List CRow} {kk kvs0 : List (L2.Key × V)} {rank : Str → Nat} {N : Nat} {s : Srt} (ha : H a = some (.ins (cAt K "Schema") dx (schF D1 D2 root))) (h1 : H D1 = some (.dK kvs0)) (h2 : H D2 = some (.dK [])) (hk : H ka = some (.dK kk)) (hc : H ca = some (.dK (CK.map CRow.kv))) (d1c : D1 ≠ ca) (d2k : D2 ≠ ka) (d2c : D2 ≠ ca) (kc : ca ≠ ka) (d12 : D1 ≠ D2)
    (lk : CK.length ≤ 100) (nk : (CK.map (·.name)).Nodup) (ok : ∀ r ∈ CK, r.ok K H (keyIn kk) (keyIn (CK.map CRow.kv)) rank N) (tb : Tbl Pt H) (hs : SrtV K H s root) (sok : s.ok (keyIn kk) (keyIn (CK.map CRow.kv)) 3)
    (q : ∀ H' kvs1 u5 u6, Kp [D2, Pt.b] H H' → Tbl Pt H' → H' D2 = some (.dK kvs1) → Done H H' (CK.map CRow.row) kvs1 → b_Schema___init___2 K C Pt D [some (.ref a), some (.ref ka), some cv, some root, some (.ref ca), u5, u6] H') :
    b_Schema___init___1 K C Pt D [some (.ref a), some (.ref ka), some cv, some root, some (.ref ca), u5, u6] H := by
  obtain ⟨cl, n1, n2, n3, _, _⟩ := O.Schema
  unfold b_Schema___init___1
  walk_at "go"
  refine ⟨ca, .dK (CK.map CRow.kv), hc, trivial, fun od => ⟨_, rfl, ca, od, _, rfl, upd_same, ?_⟩⟩
  obtain ⟨G, hG⟩ : ∃ G, G = upd H ca (.frz od (.dK (CK.map CRow.kv))) := ⟨_, rfl⟩
  have kpE : Kp [ca] H G := by rw [hG]; exact Kp.refl.upd_in List.mem_cons_self
  have lo : ∀ b ∈ [ca], NoSq H b := fun b hb => by
    rw [List.mem_singleton.mp hb]
    exact noSq_dK (.inl hc)
  have gf : G ca = some (.frz od (.dK (CK.map CRow.kv))) := by rw [hG]; exact upd_same
  have aca : a ≠ ca := fun e => by rw [e, hc] at ha; cases ha
  have ga := kpE.at_ (fun m => aca (List.mem_singleton.mp m)) ha
  have g1 := kpE.at_ (fun m => d2c (List.mem_singleton.mp m)) h2
  have gk := kpE.at_ (fun m => kc (List.mem_singleton.mp m).symm) hk
  have tbG : Tbl Pt G := by rw [hG]; exact tb.updD hc
  rw [← hG]
  have ad1 : a ≠ D2 := fun e => by rw [e, h2] at ha; cases ha
  have aP := tabS_ne tbG.b ga (fun ps e => by cases e)
  have cP := tabS_ne tbG.b gf (fun ps e => by cases e)
  have kP := tabS_ne tbG.b gk (fun ps e => by cases e)
  have okG : ∀ r ∈ CK, r.ok K G (keyIn kk) (keyIn (CK.map CRow.kv)) rank N := fun r hr => (ok r hr).kpN kpE lo
  have loG : ∀ b ∈ [D2, Pt.b], NoSq G b := noSq2 (noSq_dK (.inl g1)) (noSq_tab tbG.b)
  have nG : ∀ T, G T = none → H T = none := fun T h => by
    by_cases e : T = ca
    · rw [e, gf] at h
      cases h
    · rw [hG, upd_ne e] at h
      exact h
  refine for_it walk_items (fun i σ H' => Kp [D2, Pt.b] G H' ∧ Tbl Pt H' ∧ (∃ kvs1, H' D2 = some (.dK kvs1) ∧ Done H H' ((CK.take i).map CRow.row) kvs1 ∧ kvs1.length ≤ i) ∧ ∃ u5 u6, σ = [some (.ref a), some (.ref ka), some cv, some root, some (.ref ca), u5, u6])
    ⟨Kp.refl, tbG, ⟨[], g1, .nil, Nat.le_refl _⟩, _, _, rfl⟩ (fun i σ H' _ h => h.1.at_ (not2 d2c.symm cP) gf) ?_ (fun σ H' h => ?_)
  · rintro i x σ Ha Hb hi ⟨ka8, tba, ⟨kvs1, hD, dn, hl⟩, u5, u6, rfl⟩ hy
    obtain ⟨T, y1, y2, rfl, nT, rfl, e1, e2⟩ := hy
    rw [List.length_map] at hi
    obtain ⟨r, er⟩ : ∃ r, CK[i]? = some r := ⟨CK[i], List.getElem?_eq_getElem hi⟩
    have e1 : ((CK.map CRow.kv)[i]?.map fun kv => kV kv.1) = some y1 := e1
    have e2 : ((CK.map CRow.kv)[i]?.map Prod.snd) = some y2 := e2
    rw [List.getElem?_map, er] at e1 e2
    obtain rfl : V.str r.name = y1 := Option.some.inj e1
    obtain rfl : V.ref r.adr = y2 := Option.some.inj e2
    have kT := ka8.upd_new' (o := .tup [.str r.name, .ref r.adr]) nT
    have k0T : Kp [] Ha (upd Ha T (.tup [.str r.name, .ref r.adr])) := Kp.refl.upd_new' nT
    have hT : (upd Ha T (.tup [.str r.name, .ref r.adr])) T = some (.tup [.str r.name, .ref r.adr]) := upd_same
    have hD' := k0T.at_ List.not_mem_nil hD
    have dn' := dn.kp k0T (fun b m => nomatch m)
    have tb' := tba.kp0 k0T
    generalize upd Ha T (.tup [.str r.name, .ref r.adr]) = Hc at kT k0T hT hD' dn' tb' ⊢
    have gac := kT.at_ (not2 ad1 aP) ga
    have gkc := kT.at_ (not2 d2k.symm kP) gk
    have gcc := kT.at_ (not2 d2c.symm cP) gf
    have okr := (okG r (List.mem_of_getElem? er)).kpN kT loG
    walk_at "go"
    show sp_Schema_take_choice K Pt [.ref a, .ref ka, .ref ca, .str r.name, .ref r.adr] Hc _ _
    refine take_choice_go gac hD' (by omega) (.inl gkc) (.inr ⟨od, gcc⟩) okr tb' fun H2 T2 ys k2 tb2 nT2 hT2 bk hD2 => ?_
    have lo2 : ∀ b ∈ [D2, Pt.b], NoSq Hc b := noSq2 (noSq_dK (.inl hD')) (noSq_tab tb'.b)
    have nr : r.name ∉ ((CK.take i).map CRow.row).map (·.1) := by
      rw [List.map_map]
      have h := nodup_take nk (i := i) (x := r.name) (by rw [List.getElem?_map, er]; rfl)
      rw [← List.map_take] at h
      exact h
    refine ⟨kT.trans k2, tb2, ⟨_, hD2, ?_, by have := length_putK kvs1 (.inr r.name) (.ref T2); omega⟩, _, _, rfl⟩
    rw [take_snoc er, List.map_append]
    refine (dn'.kp k2 lo2).put (r := r.row) nr (nG T2 (kT.none_of (not2 (fun e => by rw [e, hD'] at nT2; cases nT2) (fun e => by
      obtain ⟨ps, h, _⟩ := tb'.b
      rw [← e, nT2] at h
      cases h)) nT2)) hT2 bk
  · obtain ⟨kG, tbF, ⟨kvs1, hD, dn, hl⟩, u5, u6, rfl⟩ := h
    rw [List.length_map, List.take_length] at dn
    have hcF := kG.at_ (not2 d2c.symm cP) gf
    refine ⟨hcF, ?_⟩
    have kF : Kp [D2, Pt.b] H (upd H' ca (.dK (CK.map CRow.kv))) := fun b o n hb => by
      by_cases e : b = ca
      · rw [e] at hb ⊢
        rw [hc] at hb
        cases hb
        exact upd_same
      · exact (upd_ne e).trans (kG b o n (kpE b o (fun m => e (List.mem_singleton.mp m)) hb))
    have kU : Kp [ca] H' (upd H' ca (.dK (CK.map CRow.kv))) := Kp.refl.upd_in List.mem_cons_self
    have loU : ∀ b ∈ [ca], NoSq H' b := fun b hb => by
      rw [List.mem_singleton.mp hb]
      exact noSq_dK (.inr ⟨od, hcF⟩)
    have tbU := tbF.updM (o := .dK (CK.map CRow.kv)) hcF (fun _ e => by cases e) (fun _ _ e => by cases e)
    have D2U := (upd_ne (o := .dK (CK.map CRow.kv)) d2c).trans hD
    have dnU := dn.kp kU loU
    obtain ⟨H5, e5⟩ : ∃ H5, H5 = upd H' ca (.dK (CK.map CRow.kv)) := ⟨_, rfl⟩
    have tbH := tb.b
    have lo5 : ∀ b ∈ [D2, Pt.b], NoSq H b := noSq2 (noSq_dK (.inl h2)) (noSq_tab tb.b)
    have hk5 := kF.at_ (not2 d2k.symm (tabS_ne tb.b hk (fun ps e => by cases e))) hk
    have hc5 := kF.at_ (not2 d2c.symm (tabS_ne tb.b hc (fun ps e => by cases e))) hc
    have hs5 := hs.kpN kF lo5
    show tSeq _ _ _ _ (upd H' ca (.dK (CK.map CRow.kv)))
    rw [← e5] at kF tbU D2U dnU hk5 hc5 hs5 ⊢
    walk_at "go"
    show sp_is_sort K 4 [.ref ka, .ref ca, root, .int 0] H5 _ _
    refine sort_go (n := 3) (.inl hk5) (.inl hc5) hs5 sok (by omega) (by omega) fun H6 k6 => ?_
    walk_at "go"
    rename_i pr npr
    have k7 : Kp [] H5 (upd H6 pr (.tup [.str "root"])) := k6.upd_new' npr
    exact q _ kvs1 _ _ (kF.trans (k7.mono fun _ m => nomatch m)) (tbU.kp0 k7) (k7.at_ List.not_mem_nil D2U) (dnU.kp k7 fun _ m => nomatch m)
theorem key_mem {kvs : List (L2.Key × V)} {z : Str} : keyIn kvs z ↔ (.inr z) ∈ kvs.map (·.1) := by
  constructor
  · rintro ⟨v, h⟩
    unfold valV at h
    cases e : kvs.find? fun kv => decide (kv.1 = .inr z) with
    | none =>
      rw [e] at h
      cases h
    | some p =>
      have h1 := List.find?_some e
      exact List.mem_map.mpr ⟨p, List.mem_of_find?_eq_some e, by simpa using h1⟩
  · intro m
    cases e : valV kvs (.inr z) with
    | some v => exact ⟨v, e⟩
    | none =>
      exfalso
      unfold valV at e
      obtain ⟨p, hp, ep⟩ := List.mem_map.mp m
      rw [Option.map_eq_none_iff, List.find?_eq_none] at e
      exact e p hp (by simp [ep])
theorem zip_at {α β : Type} {R : α → β → Prop} {f : α → Int} {xs : List β} {cs : List α} (h : Paired R cs xs) {k : Int} {x : β} (m : (k, x) ∈ (cs.map f).zip xs) : ∃ c ∈ cs, f c = k ∧ R c x := by
  induction h with
  | nil => cases m
  | cons a _ ih =>
    rw [List.map_cons, List.zip_cons_cons] at m
    rcases List.mem_cons.mp m with e | m
    · cases e
      exact ⟨_, List.mem_cons_self, rfl, a⟩
    · obtain ⟨c, hc, e, r⟩ := ih m
      exact ⟨c, List.mem_cons_of_mem _ hc, e, r⟩
theorem zip_has {α β : Type} {R : α → β → Prop} {f : α → Int} {xs : List β} {cs : List α} (h : Paired R cs xs) {c : α} (m : c ∈ cs) : ∃ x, (f c, x) ∈ (cs.map f).zip xs := by
  induction h with
  | nil => cases m
  | cons a _ ih =>
    rw [List.map_cons, List.zip_cons_cons]
    rcases List.mem_cons.mp m with e | m
    · cases e
      exact ⟨_, List.mem_cons_self⟩
    · obtain ⟨x, hx⟩ := ih m
      exact ⟨x, List.mem_cons_of_mem _ hx⟩
theorem by_head {α : Type} {R : α → V → Prop} {f : α → Int} {xs ys : List V} {cs : List α} (h : Paired R cs xs) (ne : cs ≠ []) (b : ByKey (cs.map f) xs ys) : ∃ c ∈ cs, ∃ x r, ys = x :: r ∧ R c x ∧ ∀ d ∈ cs, f c ≤ f d := by
  obtain ⟨ps, pm, rfl, pw⟩ := b
  cases ps with
  | nil =>
    have l := pm.length_eq
    cases h with
    | nil => exact absurd rfl ne
    | cons _ _ => cases l
  | cons p ps =>
    obtain ⟨k, x⟩ := p
    have m : (k, x) ∈ (cs.map f).zip xs := pm.mem_iff.mp List.mem_cons_self
    obtain ⟨c, hc, e, r⟩ := zip_at h m
    refine ⟨c, hc, x, ps.map Prod.snd, rfl, r, fun d hd => ?_⟩
    obtain ⟨y, hy⟩ := zip_has (f := f) h hd
    have hy := pm.mem_iff.mpr hy
    rcases List.mem_cons.mp hy with e2 | hy
    · cases e2
      omega
    · have := (List.pairwise_cons.mp pw).1 _ hy
      rw [e]
      exact this
theorem paired_find {α β : Type} {R : α → β → Prop} {P : β → Bool} : ∀ {xs : List α} {ys : List β} {y : β}, Paired R xs ys → ys.find? P = some y → ∃ x ∈ xs, R x y
  | _, _, _, .nil, h => by cases h
  | _, _, y, .cons (b := b) a t, h => by
    rw [List.find?_cons] at h
    cases e : P b with
    | true =>
      rw [e] at h
      cases h
      exact ⟨_, List.mem_cons_self, a⟩
    | false =>
      rw [e] at h
      obtain ⟨x, hx, r⟩ := paired_find t h
      exact ⟨x, List.mem_cons_of_mem _ hx, r⟩
theorem Done.leads {K : PySem.W.Frag} {H0 H : Hp} {nk : Str → Prop} {CK : List CRow} {kvs : List (L2.Key × V)} {rank : Str → Nat} {N : Nat} (h : Done H0 H (CK.map CRow.row) kvs) (ok : ∀ r ∈ CK, r.ok K H nk (keyIn (CK.map CRow.kv)) rank N) (z : Str) (hz : keyIn kvs z) :
    ∃ to, Leads K H kvs z to ∧ ∀ z', to = some z' → keyIn kvs z' ∧ rank z < rank z' ∧ rank z' ≤ N := by
  have ks : ∀ z', keyIn (CK.map CRow.kv) z' → keyIn kvs z' := fun z' h' => by
    rw [key_mem] at h' ⊢
    rw [h.keys]
    rw [List.map_map] at h' ⊢
    exact h'
  obtain ⟨v, hv⟩ := hz
  have hv' := hv
  unfold valV at hv
  obtain ⟨p, ep, rfl⟩ := Option.map_eq_some_iff.mp hv
  have pz : p.1 = .inr z := by simpa using List.find?_some ep
  obtain ⟨q, hq, e, T, ys, e1, e2, e3, e4⟩ := paired_find h ep
  obtain ⟨r, hr, rfl⟩ := List.mem_map.mp hq
  have rz : r.name = z := Sum.inr.inj (e.symm.trans pz)
  have okr := ok r hr
  obtain ⟨c, hc, x, rest, rfl, cv, lst⟩ := by_head okr.row.at_ okr.row.ne e4
  obtain ⟨b, rfl, hb⟩ := cv.at_
  have cok := okr.row.ok c hc
  cases es : c.s with
  | none =>
    refine ⟨none, ⟨T, b, rest, _, _, _, by rw [hv', e1], e3, hb, .inl (cv.non es)⟩, fun z' e => by cases e⟩
  | some s =>
    have sv := cv.srt s es
    by_cases isp : ∃ z', s = .pick z'
    · obtain ⟨z', rfl⟩ := isp
      have sok := cok.srt _ es
      unfold Srt.ok at sok
      refine ⟨some z', ⟨T, b, rest, _, _, _, by rw [hv', e1], e3, hb, sv⟩, fun z2 e => ?_⟩
      cases e
      have := okr.up c hc lst _ es
      rw [rz] at this
      exact ⟨ks _ sok, this⟩
    · refine ⟨none, ⟨T, b, rest, _, _, _, by rw [hv', e1], e3, hb, .inr ?_⟩, fun z' e => by cases e⟩
      cases s with
      | num _ _ => obtain ⟨a, h, g⟩ := sv; exact ⟨a, _, _, h, g, by decide +kernel⟩
      | truth => obtain ⟨a, h, g⟩ := sv; exact ⟨a, _, _, h, g, by decide +kernel⟩
      | text _ => obtain ⟨a, h, g⟩ := sv; exact ⟨a, _, _, h, g, by decide +kernel⟩
      | row _ _ => obtain ⟨a, _, h, g, _⟩ := sv; exact ⟨a, _, _, h, g, by decide +kernel⟩
      | maybe _ => obtain ⟨a, _, h, g, _⟩ := sv; exact ⟨a, _, _, h, g, by decide +kernel⟩
      | node _ => obtain ⟨a, h, g⟩ := sv; exact ⟨a, _, _, h, g, by decide +kernel⟩
      | pick z' => exact absurd ⟨z', rfl⟩ isp
theorem Leads.kpN {K : PySem.W.Frag} {H H' : Hp} {M : List Addr} {kvs : List (L2.Key × V)} {z : Str} {to : Option Str} (k : Kp M H H') (l : ∀ b ∈ M, NoSq H b) (h : Leads K H kvs z to) : Leads K H' kvs z to := by
  obtain ⟨T, c, r, num, nm, y, h1, h2, h3, h4⟩ := h
  refine ⟨T, c, r, num, nm, y, h1, k _ _ (fun m => (l T m _ h2).1 _ rfl) h2, sqT_kpN k l h3, ?_⟩
  cases to with
  | none => exact h4.imp id fun ⟨b, w, r', e, g, n⟩ => ⟨b, w, r', e, sqT_kpN k l g, n⟩
  | some z' =>
    obtain ⟨b, e, g⟩ := h4
    exact ⟨b, e, sqT_kpN k l g⟩
theorem comes_go {K : PySem.W.Frag} {H : Hp} {Q : VK} {E : XK} {a dx D1 D2 : Addr} {root : V} {kvs : List (L2.Key × V)} {z : Str} {rank : Str → Nat} {N : Nat} (ha : H a = some (.ins (cAt K "Schema") dx (schF D1 D2 root))) (hD : Rd H D2 (.dK kvs)) (hN : N ≤ 1000)
    (hw : ∀ z, keyIn kvs z → ∃ to, Leads K H kvs z to ∧ ∀ z', to = some z' → keyIn kvs z' ∧ rank z < rank z' ∧ rank z' ≤ N) (hz : keyIn kvs z) (q : ∀ H', Kp [] H H' → Q (.bl false) H') : sp_Schema_comes_back K [.ref a, .str z] H Q E := by
  unfold sp_Schema_comes_back
  exact ⟨a, z, dx, D1, D2, root, kvs, rank, N, rfl, ha, hD, hN, hw, hz, q⟩
theorem init_2 {K : PySem.W.Frag} {C : Addr} (O : Own K C) {Pt : Tb} {H H0 : Hp} {D : Ends} {a dx D1 D2 : Addr} {root : V} {u1 u2 u3 u4 u5 u6 : Option V} {CK : List CRow} {kvs : List (L2.Key × V)} {nk : Str → Prop} {rank : Str → Nat} {N : Nat} (ha : H a = some (.ins (cAt K "Schema") dx (schF D1 D2 root))) (h2 : H D2 = some (.dK kvs)) (hN : N ≤ 1000)
    (ok : ∀ r ∈ CK, r.ok K H nk (keyIn (CK.map CRow.kv)) rank N) (dn : Done H0 H (CK.map CRow.row) kvs) (q : ∀ σ H', Kp [] H H' → D.nx σ H') :
    b_Schema___init___2 K C Pt D [some (.ref a), u1, u2, u3, u4, u5, u6] H := by
  obtain ⟨cl, n1, n2, n3, _, _⟩ := O.Schema
  have ld := dn.leads ok
  unfold b_Schema___init___2
  refine ⟨D2, .dK kvs, h2, trivial, fun od => ?_⟩
  have aD : a ≠ D2 := fun e => by rw [e, h2] at ha; cases ha
  obtain ⟨G, hG⟩ : ∃ G, G = upd H D2 (.frz od (.dK kvs)) := ⟨_, rfl⟩
  have ga : G a = some (.ins (cAt K "Schema") dx (schF D1 D2 root)) := by rw [hG]; exact (upd_ne aD).trans ha
  have g2 : G D2 = some (.frz od (.dK kvs)) := by rw [hG]; exact upd_same
  rw [← hG]
  walk_at "go"
  have kpE : Kp [D2] H G := by rw [hG]; exact Kp.refl.upd_in List.mem_cons_self
  have lo : ∀ b ∈ [D2], NoSq H b := fun b hb => by
    rw [List.mem_singleton.mp hb]
    exact noSq_dK (.inl h2)
  have ldG : ∀ z, keyIn kvs z → ∃ to, Leads K G kvs z to ∧ ∀ z', to = some z' → keyIn kvs z' ∧ rank z < rank z' ∧ rank z' ≤ N := fun z hz => by
    obtain ⟨to, l, r⟩ := ld z hz
    exact ⟨to, l.kpN kpE lo, r⟩
  have ks := dn.keys
  refine ⟨D2, od, rfl, .inl ⟨kvs, g2, ?_⟩⟩
  refine for_it walk_keys (fun i σ H' => Kp [] G H' ∧ ∃ v5 v6, σ = [some (.ref a), u1, u2, u3, u4, v5, v6]) ⟨Kp.refl, _, _, rfl⟩ (fun i σ H' _ h => h.1.at_ List.not_mem_nil g2) ?_ (fun σ H' h => ?_)
  · rintro i x σ Ha Hb hi ⟨ka, v5, v6, rfl⟩ ⟨rfl, k, v, hkv, rfl⟩
    have mk : k ∈ kvs.map (·.1) := List.mem_map.mpr ⟨_, List.mem_of_getElem? hkv, rfl⟩
    obtain ⟨z, rfl⟩ : ∃ z, k = .inr z := by
      rw [ks] at mk
      obtain ⟨r, _, e⟩ := List.mem_map.mp mk
      exact ⟨_, e.symm⟩
    have gaa := ka.at_ List.not_mem_nil ga
    have gDa := ka.at_ List.not_mem_nil g2
    show gName 5 (.str z) _ _ _
    walk_at "go"
    show sp_Schema_comes_back K [.ref a, .str z] Hb _ _
    refine comes_go gaa (.inr ⟨od, gDa⟩) hN (fun z hz => by
      obtain ⟨to, l, r⟩ := ldG z hz
      exact ⟨to, l.kp0 ka, r⟩) (key_mem.mpr mk) fun H' k' => ?_
    walk_at "go"
    exact ⟨(ka.trans k').upd_new' (by assumption), _, _, rfl⟩
  · obtain ⟨kG, v5, v6, rfl⟩ := h
    refine ⟨kG.at_ List.not_mem_nil g2, q _ _ fun b o _ hb => ?_⟩
    by_cases e : b = D2
    · rw [e] at hb ⊢
      rw [h2] at hb
      cases hb
      exact upd_same
    · exact (upd_ne e).trans (kG b o List.not_mem_nil (kpE b o (fun m => e (List.mem_singleton.mp m)) hb))
theorem init_all {K : PySem.W.Frag} {C : Addr} (O : Own K C) {Pt : Tb} {H H1 : Hp} {Q : VK} {a ka ca dx D1 D2 : Addr} {cv root : V} {FK : List KRow} {CK : List CRow} {rank : Str → Nat} {N : Nat} {s : Srt} (k1 : Kp [a] H H1) (ha0 : H a = some (.ins (cAt K "Schema") dx [])) (ha : H1 a = some (.ins (cAt K "Schema") dx (schF D1 D2 root))) (h1 : H1 D1 = some (.dK [])) (h2 : H1 D2 = some (.dK [])) (hk : H1 ka = some (.dK (FK.map KRow.kv))) (hc : H1 ca = some (.dK (CK.map CRow.kv)))
    (nD1 : H D1 = none) (nD2 : H D2 = none) (d12 : D1 ≠ D2) (d1k : D1 ≠ ka) (d1c : D1 ≠ ca) (d2k : D2 ≠ ka) (d2c : D2 ≠ ca) (kc : ca ≠ ka) (lk : FK.length ≤ 100) (lc : CK.length ≤ 100) (nk : (FK.map (·.name)).Nodup) (nc : (CK.map (·.name)).Nodup)
    (okK : ∀ r ∈ FK, r.ok K H (keyIn (FK.map KRow.kv)) (keyIn (CK.map CRow.kv))) (okC : ∀ r ∈ CK, r.ok K H (keyIn (FK.map KRow.kv)) (keyIn (CK.map CRow.kv)) rank N) (hN : N ≤ 1000) (hs : SrtV K H s root) (sok : s.ok (keyIn (FK.map KRow.kv)) (keyIn (CK.map CRow.kv)) 3) (tb : Tbl Pt H)
    (q : ∀ H' D1 D2 kvs1 kvs2, Kp [a, Pt.a, Pt.b] H H' → Tbl Pt H' → H' a = some (.ins (cAt K "Schema") dx (schF D1 D2 root)) → H D1 = none → H D2 = none → D1 ≠ D2 → H' D1 = some (.dK kvs1) → H' D2 = some (.dK kvs2) →
      Done H H' (FK.map KRow.row) kvs1 → Done H H' (CK.map CRow.row) kvs2 → Q .non H') :
    b_Schema___init___0 K C Pt { nx := fun _ H' => Q .non H', rt := Q } [some (.ref a), some (.ref ka), some cv, some root, some (.ref ca), none, none] H1 := by
  have loA : ∀ b ∈ [a], NoSq H b := fun b hb => by
    rw [List.mem_singleton.mp hb]
    exact noSq_ins ha0
  have tb1 : Tbl Pt H1 := tb.kp k1 (fun m => tabS_ne tb.a ha0 (fun ps e => by cases e) (List.mem_singleton.mp m).symm) (fun m => tabS_ne tb.b ha0 (fun ps e => by cases e) (List.mem_singleton.mp m).symm) (fun b m φ e => by
    rw [List.mem_singleton.mp m, ha0] at e
    cases e)
  have up1 : ∀ {rs : List (Str × List Int × List V)} {kvs : List (L2.Key × V)} {H2 : Hp}, Done H1 H2 rs kvs → Done H H2 rs kvs := fun h => paired_imp (fun _ _ g => by
    obtain ⟨e, T, ys, e1, e2, e3⟩ := g
    refine ⟨e, T, ys, e1, ?_, e3⟩
    by_cases ea : T = a
    · rw [ea, ha] at e2
      cases e2
    · exact k1.none_of (fun m => ea (List.mem_singleton.mp m)) e2) h
  refine init_0 O ha h1 h2 hk hc d1k d1c kc d2k lk nk (fun r hr => (okK r hr).kpN k1 loA) tb1 fun H2 kvs1 u5 u6 k2 tb2 hD dn => ?_
  have lo2 : ∀ b ∈ [D1, Pt.a], NoSq H1 b := noSq2 (noSq_dK (.inl h1)) (noSq_tab tb1.a)
  have aD1 : a ≠ D1 := fun e => by rw [e, h1] at ha; cases ha
  have aD2 : a ≠ D2 := fun e => by rw [e, h2] at ha; cases ha
  have ha2 := k2.at_ (not2 aD1 (tabS_ne tb1.a ha (fun ps e => by cases e))) ha
  have h22 := k2.at_ (not2 d12.symm (tabS_ne tb1.a h2 (fun ps e => by cases e))) h2
  have hk2 := k2.at_ (not2 d1k.symm (tabS_ne tb1.a hk (fun ps e => by cases e))) hk
  have hc2 := k2.at_ (not2 d1c.symm (tabS_ne tb1.a hc (fun ps e => by cases e))) hc
  refine init_1 O ha2 hD h22 hk2 hc2 d1c d2k d2c kc d12 lc nc (fun r hr => ((okC r hr).kpN k1 loA).kpN k2 lo2) tb2 ((hs.kpN k1 loA).kpN k2 lo2) sok fun H3 kvs2 u5 u6 k3 tb3 hD3 dn3 => ?_
  have lo3 : ∀ b ∈ [D2, Pt.b], NoSq H2 b := noSq2 (noSq_dK (.inl h22)) (noSq_tab tb2.b)
  have ha3 := k3.at_ (not2 aD2 (tabS_ne tb2.b ha2 (fun ps e => by cases e))) ha2
  have hD13 := k3.at_ (not2 d12 (tabS_ne tb2.b hD (fun ps e => by cases e))) hD
  have okC3 : ∀ r ∈ CK, r.ok K H3 (keyIn (FK.map KRow.kv)) (keyIn (CK.map CRow.kv)) rank N := fun r hr => (((okC r hr).kpN k1 loA).kpN k2 lo2).kpN k3 lo3
  refine init_2 O ha3 hD3 hN okC3 dn3 fun σ H4 k4 => ?_
  have nn : ∀ T, H2 T = none → H1 T = none := fun T h => k2.none_of (not2 (fun e => by rw [e, hD] at h; cases h) (fun e => by
    obtain ⟨ps, h', _⟩ := tb2.a
    rw [← e, h] at h'
    cases h')) h
  have dn4 : Done H1 H3 (CK.map CRow.row) kvs2 := paired_imp (fun _ _ g => by
    obtain ⟨e, T, ys, e1, e2, e3⟩ := g
    exact ⟨e, T, ys, e1, nn T e2, e3⟩) dn3
  refine q H4 D1 D2 kvs1 kvs2 ?_ (tb3.kp0 k4) (k4.at_ List.not_mem_nil ha3) nD1 nD2 d12 (k4.at_ List.not_mem_nil hD13) (k4.at_ List.not_mem_nil hD3) (up1 ((dn.kp k3 lo3).kp k4 fun b m => nomatch m)) (up1 (dn4.kp k4 fun b m => nomatch m))
  intro b o n hb
  have n1 : b ≠ a := fun e => n (by rw [e]; exact List.mem_cons_self)
  have n2 : b ≠ Pt.a := fun e => n (by rw [e]; exact List.mem_cons_of_mem _ List.mem_cons_self)
  have n3 : b ≠ Pt.b := fun e => n (by rw [e]; exact List.mem_cons_of_mem _ (List.mem_cons_of_mem _ List.mem_cons_self))
  exact k4 b o List.not_mem_nil (k3 b o (not2 (ne_of_none hb nD2) n3) (k2 b o (not2 (ne_of_none hb nD1) n2) (k1 b o (fun m => n1 (List.mem_singleton.mp m)) hb)))
theorem p_Schema___init__ (K : PySem.W.Frag) (C : Addr) (O : Own K C) (Pt : Tb) (vs : List V) (H : Hp) (Q : VK) (E : XK) (h : sp_Schema___init__ K Pt vs H Q E) : t_Schema___init__ K C Pt { nx := fun _ H' => Q .non H', rt := Q } (start ["self", "kinds", "choices", "root", "some", "name", "row"] vs) H := by
  unfold sp_Schema___init__ at h
  obtain ⟨a, ka, cv, root, dx, s, FK, CK, rank, N, rfl, ha, hk, hcv, lk, lc, nk, nc, okK, okC, hN, hs, sok, tb, q⟩ := h
  obtain ⟨cl, n1, n2, n3, _, _⟩ := O.Schema
  have ha0 := ha
  rcases hcv with ⟨rfl, rfl⟩ | ⟨ca, rfl, hc, cak⟩
  · walk_at "go"
    all_goals try exact absurd rfl (by assumption)
    rename_i p3 n3' p1 n1' p2 n2' pt nt
    have e31 : p3 ≠ p1 := ne_of_none upd_same n1'
    rw [upd_ne e31.symm] at n1'
    have e12 : p1 ≠ p2 := ne_of_none upd_same n2'
    have e32 : p3 ≠ p2 := fun e => by
      rw [upd_ne e12.symm, e, upd_same] at n2'
      cases n2'
    rw [upd_ne e12.symm, upd_ne e32.symm] at n2'
    have e2t : p2 ≠ pt := ne_of_none upd_same nt
    have e1t : p1 ≠ pt := fun e => by
      rw [upd_ne e2t.symm, e, upd_same] at nt
      cases nt
    have e3t : p3 ≠ pt := fun e => by
      rw [upd_ne e2t.symm, upd_ne e1t.symm, e, upd_same] at nt
      cases nt
    rw [upd_ne e2t.symm, upd_ne e1t.symm, upd_ne e3t.symm] at nt
    have a1 := ne_of_none ha n1'
    have a2 := ne_of_none ha n2'
    have a3 := ne_of_none ha n3'
    have k1 := ne_of_none hk n1'
    have k2 := ne_of_none hk n2'
    have k3 := ne_of_none hk n3'
    have kt := ne_of_none hk nt
    have ak : a ≠ ka := fun e => by rw [e, hk] at ha; cases ha
    refine init_all (CK := []) O (a := a) (H := H) (ca := p3) ?_ ha upd_same ?_ ?_ ?_ ?_ n1' n2' e12 k1.symm e31.symm k2.symm e32.symm k3.symm lk lc nk nc okK okC hN hs sok tb q
    · exact (((((((Kp.refl.upd_new n3').upd_new n1').upd_new n2').upd_new nt).upd_in List.mem_cons_self).upd_in List.mem_cons_self).upd_in List.mem_cons_self)
    · rw [upd_ne a1.symm, upd_ne a1.symm, upd_ne a1.symm, upd_ne e1t, upd_ne e12, upd_same]
    · rw [upd_ne a2.symm, upd_ne a2.symm, upd_ne a2.symm, upd_ne e2t, upd_same]
    · rw [upd_ne ak.symm, upd_ne ak.symm, upd_ne ak.symm, upd_ne kt, upd_ne k2, upd_ne k1, upd_ne k3, hk]
    · rw [upd_ne a3.symm, upd_ne a3.symm, upd_ne a3.symm, upd_ne e3t, upd_ne e32, upd_ne e31, upd_same]
      rfl
  · walk_at "go"
    all_goals try exact absurd (by assumption) (fun e => by cases e)
    rename_i p1 n1' p2 n2' pt nt
    have e12 : p1 ≠ p2 := ne_of_none upd_same n2'
    rw [upd_ne e12.symm] at n2'
    have e2t : p2 ≠ pt := ne_of_none upd_same nt
    have e1t : p1 ≠ pt := fun e => by
      rw [upd_ne e2t.symm, e, upd_same] at nt
      cases nt
    rw [upd_ne e2t.symm, upd_ne e1t.symm] at nt
    have a1 := ne_of_none ha n1'
    have a2 := ne_of_none ha n2'
    have k1 := ne_of_none hk n1'
    have k2 := ne_of_none hk n2'
    have kt := ne_of_none hk nt
    have c1 := ne_of_none hc n1'
    have c2 := ne_of_none hc n2'
    have ct := ne_of_none hc nt
    have ak : a ≠ ka := fun e => by rw [e, hk] at ha; cases ha
    have ac : a ≠ ca := fun e => by rw [e, hc] at ha; cases ha
    refine init_all (CK := CK) O (a := a) (H := H) (ca := ca) ?_ ha upd_same ?_ ?_ ?_ ?_ n1' n2' e12 k1.symm c1.symm k2.symm c2.symm cak lk lc nk nc okK okC hN hs sok tb q
    · exact ((((((Kp.refl.upd_new n1').upd_new n2').upd_new nt).upd_in List.mem_cons_self).upd_in List.mem_cons_self).upd_in List.mem_cons_self)
    · rw [upd_ne a1.symm, upd_ne a1.symm, upd_ne a1.symm, upd_ne e1t, upd_ne e12, upd_same]
    · rw [upd_ne a2.symm, upd_ne a2.symm, upd_ne a2.symm, upd_ne e2t, upd_same]
    · rw [upd_ne ak.symm, upd_ne ak.symm, upd_ne ak.symm, upd_ne kt, upd_ne k2, upd_ne k1, hk]
    · rw [upd_ne ac.symm, upd_ne ac.symm, upd_ne ac.symm, upd_ne ct, upd_ne c2, upd_ne c1, hc]
end K02

/-! ## meeting and made readers: plain functions, promises -/
namespace K02
open PySem PySem.Spec PyProof.Rows L2 Kb
def Srt.same : Srt → Srt → Bool
  | .num a b, .num c d => decide (a = c) && decide (b = d)
  | .truth, .truth => true
  | .text a, .text b => decide (a = b)
  | .row a s, .row b t => decide (a = b) && s.same t
  | .maybe s, .maybe t => s.same t
  | .node a, .node b => decide (a = b)
  | .pick a, .pick b => decide (a = b)
  | _, _ => false
theorem Srt.same_iff : ∀ {s t : Srt}, s.same t = true ↔ s = t := by
  intro s
  induction s with
  | row n s ih => intro t; cases t <;> simp [Srt.same, ih]
  | maybe s ih => intro t; cases t <;> simp [Srt.same, ih]
  | _ => intro t; cases t <;> simp [Srt.same]
instance : DecidableEq Srt := fun _ _ => decidable_of_iff _ Srt.same_iff
def oD : Option Int → PyData
  | none => .none
  | some i => .int i
/-- a sort as data -/
def srtD : Srt → PyData
  | .num lo hi => .tuple [.str "number", oD lo, oD hi]
  | .truth => .tuple [.str "truth"]
  | .text n => .tuple [.str "text", .int n]
  | .row n s => .tuple [.str "row", .int n, srtD s]
  | .maybe s => .tuple [.str "maybe", srtD s]
  | .node k => .tuple [.str "node", .str k]
  | .pick k => .tuple [.str "choice", .str k]
def osD : Option Srt → PyData
  | none => .none
  | some s => srtD s
def wrd : Srt → Str
  | .num _ _ => "number"
  | .truth => "truth"
  | .text _ => "text"
  | .row _ _ => "row"
  | .maybe _ => "maybe"
  | .node _ => "node"
  | .pick _ => "choice"
structure PF where
  num : Int
  name : Str
  s : Srt
  d : Option PyData
structure PC where
  num : Int
  name : Str
  s : Option Srt
/-- a row's number, and what stands behind it -/
abbrev Raw := Int × List PyData
def Raw.dat (r : Raw) : PyData := .tuple (.int r.1 :: r.2)
def PF.raw (f : PF) : Raw := (f.num, [.str f.name, srtD f.s] ++ f.d.toList)
def PC.raw (c : PC) : Raw := (c.num, [.str c.name, osD c.s])
/-- a schema -/
structure SM where
  kinds : List (Str × List PF)
  picks : List (Str × List PC)
  root : Srt
def SM.kind (m : SM) (k : Str) : List PF := (m.kinds.lookup k).getD []
def SM.pick (m : SM) (k : Str) : List PC := (m.picks.lookup k).getD []
abbrev Pr := Srt × Srt
def prD (p : Pr) : PyData := .tuple [srtD p.1, srtD p.2]
def insD : PyData := .tuple [.str "inside"]
/-- the rows of two that have one number, in the order of the first -/
def bothF {α β : Type} (na : α → Int) (nb : β → Int) (xs : List α) (ys : List β) : List (α × β) := xs.filterMap fun a => (ys.find? fun b => nb b == na a).map fun b => (a, b)
def both (m m' : SM) (k k' : Str) : List (PF × PF) := bothF PF.num PF.num (m.kind k) (m'.kind k')
def bothC (m m' : SM) (k k' : Str) : List (PC × PC) := bothF PC.num PC.num (m.pick k) (m'.pick k')
def cInto : PC × PC → Option (List PyData × Pr)
  | (⟨_, _, some s⟩, ⟨_, z, some t⟩) => some ([.tuple [.str "case", .str z]], (s, t))
  | _ => none
/-- what a pair leads to, each with the steps to it -/
def intoF (m m' : SM) : Srt → Srt → List (List PyData × Pr)
  | .maybe s, .maybe t => [([insD], (s, t))]
  | .maybe s, t => [([insD], (s, t))]
  | s, .maybe t => [([], (s, t))]
  | .row a s, .row b t => if 0 < a ∧ 0 < b then [([.int 0], (s, t))] else []
  | .pick k, .pick k' => (bothC m m' k k').filterMap cInto
  | .node k, .node k' => (both m m' k k').map fun q => ([.str q.2.name], (q.1.s, q.2.s))
  | _, _ => []
def intoP (m m' : SM) (p : Pr) : List Pr := (intoF m m' p.1 p.2).map (·.2)
/-- all that is met, depth first -/
def walkF (m m' : SM) : Nat → List Pr → Pr → List Pr
  | 0, acc, _ => acc
  | n + 1, acc, p => if p ∈ acc then acc else (intoP m m' p).foldl (walkF m m' n) (acc ++ [p])
def NN : Nat := 160
def pairsF (m m' : SM) : List Pr := walkF m m' NN [] (m.root, m'.root)
/-- the number of a pair's step -/
def numF (ps : List Pr) (p : Pr) : Int := if p ∈ ps then (ps.idxOf p : Nat) else -1
def caseF (ps : List Pr) (q : PC × PC) : PyData := .tuple [.int q.1.num, .str q.2.name, match q.2.s with
  | none => .none
  | some t => match q.1.s with
    | none => .int (-1)
    | some s => .int (numF ps (s, t))]
def otherF (cs : List PC) : PyData := match cs.find? fun c => c.num == 0 with
  | none => .none
  | some c => .str c.name
def choiceF (m m' : SM) (ps : List Pr) (k k' : Str) : PyData := .tuple [.str "choice", .tuple ((bothC m m' k k').map (caseF ps)), otherF (m'.pick k')]
def fieldF (ps : List Pr) (q : PF × PF) : PyData := .tuple [.int q.1.num, .str q.2.name, .int (numF ps (q.1.s, q.2.s)), .tuple q.1.d.toList]
/-- the rows of ys whose numbers are not among xs -/
def aloneF (xs ys : List PF) : List PF := ys.filter fun g => (xs.find? fun f => f.num == g.num).isNone
def dfltF (g : PF) : Option PyData := g.d.map fun d => .tuple [.str g.name, d]
def lackF (g : PF) : Option Str := match g.d with
  | none => some g.name
  | some _ => none
def lacksF (xs ys : List PF) : List Str := (aloneF xs ys).filterMap lackF
def nodeF (m m' : SM) (ps : List Pr) (k k' : Str) : PyData := .tuple [.str "node", .str k', .tuple ((both m m' k k').map (fieldF ps)), .tuple ((aloneF (m.kind k) (m'.kind k')).filterMap dfltF), .tuple ((lacksF (m.kind k) (m'.kind k')).map .str)]
/-- the step for a pair -/
def stepF (m m' : SM) (ps : List Pr) : Srt → Srt → PyData
  | .maybe s, .maybe t => .tuple [.str "maybe", .int (numF ps (s, t))]
  | .maybe s, t => .tuple [.str "force", .int (numF ps (s, t))]
  | s, .maybe t => .tuple [.str "wrap", .int (numF ps (s, t))]
  | .row a s, .row b t => .tuple [.str "row", .int b, .int (if 0 < a ∧ 0 < b then numF ps (s, t) else -1)]
  | .pick k, .pick k' => choiceF m m' ps k k'
  | .node k, .node k' => nodeF m m' ps k k'
  | .num _ _, .num lo hi => srtD (.num lo hi)
  | .truth, .truth => srtD .truth
  | .text _, .text n => srtD (.text n)
  | _, _ => .tuple [.str "bad"]
def madeF (m m' : SM) : List PyData := (pairsF m m').map fun p => stepF m m' (pairsF m m') p.1 p.2
/-- a sort of a schema -/
def SIn (m : SM) (s : Srt) : Prop := s.ok (fun k => (m.kinds.lookup k).isSome = true ∧ NameOk k) (fun k => (m.picks.lookup k).isSome = true ∧ NameOk k) 3
def Up {α : Type} (num : α → Int) (xs : List α) : Prop := xs.Pairwise fun a b => num a < num b
structure SM.wf (m : SM) : Prop where
  ks : ∀ r ∈ m.kinds, Up PF.num r.2 ∧ ∀ f ∈ r.2, SIn m f.s ∧ NameOk f.name ∧ 1 ≤ f.num ∧ f.num ≤ 99 ∧ ∀ d, f.d = some d → Sh 2 d ∧ noL d = true
  cs : ∀ r ∈ m.picks, Up PC.num r.2 ∧ ∀ c ∈ r.2, (∀ s, c.s = some s → SIn m s) ∧ NameOk c.name ∧ 0 ≤ c.num ∧ c.num ≤ 99
  rt : SIn m m.root
  kl : ∀ r ∈ m.kinds, r.2.length ≤ 100
  cl : ∀ r ∈ m.picks, r.2.length ≤ 100
/-- a place from which nothing leads out, all pairs that may be met within it -/
structure Clo (m m' : SM) (U : List Pr) : Prop where
  to : ∀ p ∈ U, ∀ q ∈ intoP m m' p, q ∈ U
  l : ∀ p ∈ U, SIn m p.1
  r : ∀ p ∈ U, SIn m' p.2
structure Met (m m' : SM) (U : List Pr) : Prop where
  a : m.wf
  b : m'.wf
  clo : Clo m m' U
  top : (m.root, m'.root) ∈ U
  few : U.length < NN
section
variable (K : PySem.W.Frag)
/-- a schema's table -/
def TabD (H : Hp) (rows : List (Str × List Raw)) (kvs : List (L2.Key × V)) : Prop := Paired (fun (r : Str × List Raw) (kv : L2.Key × V) => kv.1 = .inr r.1 ∧ Dp K H kv.2 (.tuple (r.2.map Raw.dat))) rows kvs
structure SV (H : Hp) (a : Addr) (m : SM) : Prop where
  ex : ∃ dx D1 D2 root k1 k2, H a = some (.ins (cAt K "Schema") dx (schF D1 D2 root)) ∧ H D1 = some (.dK k1) ∧ H D2 = some (.dK k2) ∧ TabD K H (m.kinds.map fun r => (r.1, r.2.map PF.raw)) k1 ∧ TabD K H (m.picks.map fun r => (r.1, r.2.map PC.raw)) k2 ∧ Dp K H root (srtD m.root)
@[irreducible] def sp_fields_of : Sp := fun vs H Q _ => ∃ a m k, vs = [.ref a, .str k] ∧ SV K H a m ∧ (m.kinds.lookup k).isSome = true ∧ ∀ y, Dp K H y (.tuple ((m.kind k).map fun f => f.raw.dat)) → Q y H
@[irreducible] def sp_cases_of : Sp := fun vs H Q _ => ∃ a m k, vs = [.ref a, .str k] ∧ SV K H a m ∧ (m.picks.lookup k).isSome = true ∧ ∀ y, Dp K H y (.tuple ((m.pick k).map fun f => f.raw.dat)) → Q y H
@[irreducible] def sp_by_number : Sp := fun vs H Q _ => ∃ x n, ∃ rs : List Raw, vs = [x, .int n] ∧ Dp K H x (.tuple (rs.map Raw.dat)) ∧ match rs.find? fun r => r.1 == n with
  | none => Q .non H
  | some r => ∀ y, Dp K H y r.dat → Q y H
@[irreducible] def sp_lacking_names : Sp := fun vs H Q _ => ∃ x y, ∃ ys xs : List PF, vs = [y, x] ∧ Dp K H y (.tuple (ys.map fun f => f.raw.dat)) ∧ Dp K H x (.tuple (xs.map fun f => f.raw.dat)) ∧ ys.length ≤ 100 ∧ (∀ f ∈ ys, ∀ d, f.d = some d → Sh 2 d) ∧ ∀ H' L, Kp [] H H' → LsD K H' L ((lacksF xs ys).map .str) → Q (.ref L) H'
@[irreducible] def sp_both_of : Sp := fun vs H Q _ => ∃ x y, ∃ xs ys : List Raw, vs = [x, y] ∧ Dp K H x (.tuple (xs.map Raw.dat)) ∧ Dp K H y (.tuple (ys.map Raw.dat)) ∧ xs.length ≤ 100 ∧ ((∀ r ∈ xs, noLs r.2 = true) ∧ ∀ r ∈ ys, noLs r.2 = true) ∧ ∀ H' L, Kp [] H H' → LsD K H' L ((bothF (·.1) (·.1) xs ys).map fun q => .tuple [q.1.dat, q.2.dat]) → Q (.ref L) H'
@[irreducible] def sp_gone_into : Sp := fun vs H Q _ => ∃ a b x m m' p, vs = [.ref a, .ref b, x] ∧ SV K H a m ∧ SV K H b m' ∧ m.wf ∧ m'.wf ∧ Dp K H x (prD p) ∧ SIn m p.1 ∧ SIn m' p.2 ∧ ∀ H' L, Kp [] H H' → H L = none → LsD K H' L ((intoF m m' p.1 p.2).map fun q => .tuple [.tuple q.1, prD q.2]) → Q (.ref L) H'
/-- a walk under way -/
structure WkV (H : Hp) (w a b L1 L2 : Addr) (m m' : SM) (acc : List Pr) : Prop where
  ex : ∃ dx, H w = some (.ins (cAt K "Walk") dx [("old", .ref a), ("new", .ref b), ("pairs", .ref L1), ("chains", .ref L2)])
  sa : SV K H a m
  sb : SV K H b m'
  ps : LsD K H L1 (acc.map prD)
  cs : ∃ ys, H L2 = some (.lst ys) ∧ ys.length = acc.length
  ne : L1 ≠ L2
@[irreducible] def sp_Walk_meet : Nat → Sp
  | 0 => fun _ _ _ _ => False
  | n + 1 => fun vs H Q _ => ∃ w x c a b L1 L2 m m' p acc U cd, vs = [.ref w, x, c] ∧ WkV K H w a b L1 L2 m m' acc ∧ Met m m' U ∧ acc.Nodup ∧ (∀ q ∈ acc, q ∈ U) ∧ p ∈ U ∧ U.length ≤ acc.length + n ∧ Dp K H x (prD p) ∧ Dp K H c (.tuple cd) ∧ noLs cd = true ∧ cd.length + n ≤ 1000 ∧
    ∀ H', Kp [L1, L2] H H' → WkV K H' w a b L1 L2 m m' (walkF m m' (n + 1) acc p) → Q .non H'
@[irreducible] def sp_Walk___init__ : Sp := fun vs H Q _ => ∃ w a b m m' U dx, vs = [.ref w, .ref a, .ref b] ∧ H w = some (.ins (cAt K "Walk") dx []) ∧ SV K H a m ∧ SV K H b m' ∧ Met m m' U ∧ ∀ H' L1 L2, Kp [w] H H' → WkV K H' w a b L1 L2 m m' (pairsF m m') → Q .non H'
@[irreducible] def sp_all_pairs : Sp := fun vs H Q _ => ∃ a b m m' U, vs = [.ref a, .ref b] ∧ SV K H a m ∧ SV K H b m' ∧ Met m m' U ∧ ∀ H' p xs, Kp [] H H' → KTup H' p xs → DpAll K H' xs ((pairsF m m').map prD) → Q (.ref p) H'
/-- a reader being made -/
structure MkV (H : Hp) (z a b : Addr) (m m' : SM) : Prop where
  ex : ∃ dx P xs, H z = some (.ins (cAt K "Making") dx [("old", .ref a), ("new", .ref b), ("pairs", .ref P)]) ∧ KTup H P xs ∧ DpAll K H xs ((pairsF m m').map prD)
  sa : SV K H a m
  sb : SV K H b m'
@[irreducible] def sp_Making___init__ : Sp := fun vs H Q _ => ∃ z a b m m' U dx, vs = [.ref z, .ref a, .ref b] ∧ H z = some (.ins (cAt K "Making") dx []) ∧ SV K H a m ∧ SV K H b m' ∧ Met m m' U ∧ ∀ H', Kp [z] H H' → MkV K H' z a b m m' → Q .non H'
@[irreducible] def sp_Making_number_of : Sp := fun vs H Q _ => ∃ z x y a b m m' U s t, vs = [.ref z, x, y] ∧ MkV K H z a b m m' ∧ Met m m' U ∧ Dp K H x (srtD s) ∧ Dp K H y (srtD t) ∧ SIn m s ∧ SIn m' t ∧ ∀ H', Kp [] H H' → Q (.int (numF (pairsF m m') (s, t))) H'
@[irreducible] def sp_Making_choice : Sp := fun vs H Q _ => ∃ z a b m m' U k k', vs = [.ref z, .str k, .str k'] ∧ MkV K H z a b m m' ∧ Met m m' U ∧ (m.picks.lookup k).isSome = true ∧ (m'.picks.lookup k').isSome = true ∧ ∀ H' y, Kp [] H H' → Dp K H' y (choiceF m m' (pairsF m m') k k') → Q y H'
@[irreducible] def sp_Making_node : Sp := fun vs H Q _ => ∃ z a b m m' U k k', vs = [.ref z, .str k, .str k'] ∧ MkV K H z a b m m' ∧ Met m m' U ∧ (m.kinds.lookup k).isSome = true ∧ (m'.kinds.lookup k').isSome = true ∧ ∀ H' y, Kp [] H H' → Dp K H' y (nodeF m m' (pairsF m m') k k') → Q y H'
@[irreducible] def sp_Making_step : Sp := fun vs H Q _ => ∃ z x y a b m m' U s t, vs = [.ref z, x, y] ∧ MkV K H z a b m m' ∧ Met m m' U ∧ Dp K H x (srtD s) ∧ Dp K H y (srtD t) ∧ SIn m s ∧ SIn m' t ∧ ∀ H' v, Kp [] H H' → Dp K H' v (stepF m m' (pairsF m m') s t) → Q v H'
@[irreducible] def sp_made : Sp := fun vs H Q _ => ∃ a b m m' U, vs = [.ref a, .ref b] ∧ SV K H a m ∧ SV K H b m' ∧ Met m m' U ∧ ∀ H' y, Kp [] H H' → Dp K H' y (.tuple (madeF m m')) → Q y H'
end
end K02

namespace K02
open PySem PySem.Spec PyProof.Rows L2 Kb
def t_fields_of (K : PySem.W.Frag) (C : Addr) : TS :=
 (tRet (tDGet (tUn (rFldU K "kinds") (tVar 0)) (tVar 1)))
def t_cases_of (K : PySem.W.Frag) (C : Addr) : TS :=
 (tRet (tDGet (tUn (rFldU K "choices") (tVar 0)) (tVar 1)))
def t_by_number (K : PySem.W.Frag) : TS :=
 (tSeq (tFor (iTup K (tVar 0)) (gName 2)
 (tIfS (tTest (tOp (rEqU K) (tOp (rIxU K) (tVar 2) (tC (.int 0))) (tVar 1)))
 (tRet (tVar 2))
 tNext))
 (tRet (tC .non)))
def t_lacking_names (K : PySem.W.Frag) : TS :=
 (tRet (tLc (iTup K (tVar 0)) (gName 2) (tAnd (tTest (tOp rIsNU (tCall (sp_by_number K) [] E0 (tCons (tVar 1) (tCons (tOp (rIxU K) (tVar 2) (tC (.int 0))) tNil))) (tC .non))) (tTest (tOp (rEqX K) (tCall (sp_left_of K) [] E0 (tCons (tVar 2) tNil)) (tTup tNil)))) (tOp (rIxU K) (tVar 2) (tC (.int 1))) [2]))
def t_both_of (K : PySem.W.Frag) : TS :=
 (tRet (tLc (iTup K (tVar 0)) (gName 2) (tTest (tOp rNotNU (tCall (sp_by_number K) [] E0 (tCons (tVar 1) (tCons (tOp (rIxU K) (tVar 2) (tC (.int 0))) tNil))) (tC .non))) (tTup (tCons (tVar 2) (tCons (tCall (sp_by_number K) [] E0 (tCons (tVar 1) (tCons (tOp (rIxU K) (tVar 2) (tC (.int 0))) tNil))) tNil))) [2]))
@[irreducible] def b_gone_into_1 (K : PySem.W.Frag) (C : Addr) : TS :=
 (tSeq (tIfS (tTest (tOp (rEqU K) (tOp (rIxU K) (tVar 3) (tC (.int 0))) (tC (.str (PySem.Str.ofString "node")))))
 (tSeq (tAsg (tCall (sp_both_of K) [] E0 (tCons (tCall (sp_fields_of K) [] E0 (tCons (tVar 0) (tCons (tOp (rIxU K) (tVar 3) (tC (.int 1))) tNil))) (tCons (tCall (sp_fields_of K) [] E0 (tCons (tVar 1) (tCons (tOp (rIxU K) (tVar 4) (tC (.int 1))) tNil))) tNil))) (gName 5))
 (tRet (tLc (iList K (tVar 5)) (gTup K 2 (gCons (gName 6) (gCons (gName 7) gNil))) tYes (tTup (tCons (tTup (tCons (tOp (rIxU K) (tVar 7) (tC (.int 1))) tNil)) (tCons (tTup (tCons (tOp (rIxU K) (tVar 6) (tC (.int 2))) (tCons (tOp (rIxU K) (tVar 7) (tC (.int 2))) tNil))) tNil))) [6, 7])))
 tNext)
 (tRet (tLst tNil)))
@[irreducible] def b_gone_into_0 (K : PySem.W.Frag) (C : Addr) : TS :=
 (tSeq (tIfS (tTest (tOp (rEqU K) (tOp (rIxU K) (tVar 3) (tC (.int 0))) (tC (.str (PySem.Str.ofString "choice")))))
 (tSeq (tAsg (tCall (sp_both_of K) [] E0 (tCons (tCall (sp_cases_of K) [] E0 (tCons (tVar 0) (tCons (tOp (rIxU K) (tVar 3) (tC (.int 1))) tNil))) (tCons (tCall (sp_cases_of K) [] E0 (tCons (tVar 1) (tCons (tOp (rIxU K) (tVar 4) (tC (.int 1))) tNil))) tNil))) (gName 5))
 (tSeq (tAsg (tLc (iList K (tVar 5)) (gTup K 2 (gCons (gName 6) (gCons (gName 7) gNil))) (tTwo (tTest (tOp rNotNU (tOp (rIxU K) (tVar 6) (tC (.int 2))) (tC .non))) (tTest (tOp rNotNU (tOp (rIxU K) (tVar 7) (tC (.int 2))) (tC .non)))) (tTup (tCons (tVar 6) (tCons (tVar 7) tNil))) [6, 7]) (gName 5))
 (tRet (tLc (iList K (tVar 5)) (gTup K 2 (gCons (gName 6) (gCons (gName 7) gNil))) tYes (tTup (tCons (tTup (tCons (tTup (tCons (tC (.str (PySem.Str.ofString "case"))) (tCons (tOp (rIxU K) (tVar 7) (tC (.int 1))) tNil))) tNil)) (tCons (tTup (tCons (tOp (rIxU K) (tVar 6) (tC (.int 2))) (tCons (tOp (rIxU K) (tVar 7) (tC (.int 2))) tNil))) tNil))) [6, 7]))))
 tNext)
 (b_gone_into_1 K C))
def t_gone_into (K : PySem.W.Frag) (C : Addr) : TS :=
 (tSeq (tAsg (tVar 2) (gTup K 2 (gCons (gName 3) (gCons (gName 4) gNil))))
 (tSeq (tIfS (tAnd (tTest (tOp (rEqU K) (tOp (rIxU K) (tVar 3) (tC (.int 0))) (tC (.str (PySem.Str.ofString "maybe"))))) (tTest (tOp (rEqU K) (tOp (rIxU K) (tVar 4) (tC (.int 0))) (tC (.str (PySem.Str.ofString "maybe"))))))
 (tRet (tLst (tCons (tTup (tCons (tTup (tCons (tC (.ref (cAt K "INSIDE"))) tNil)) (tCons (tTup (tCons (tOp (rIxU K) (tVar 3) (tC (.int 1))) (tCons (tOp (rIxU K) (tVar 4) (tC (.int 1))) tNil))) tNil))) tNil)))
 tNext)
 (tSeq (tIfS (tTest (tOp (rEqU K) (tOp (rIxU K) (tVar 3) (tC (.int 0))) (tC (.str (PySem.Str.ofString "maybe")))))
 (tRet (tLst (tCons (tTup (tCons (tTup (tCons (tC (.ref (cAt K "INSIDE"))) tNil)) (tCons (tTup (tCons (tOp (rIxU K) (tVar 3) (tC (.int 1))) (tCons (tVar 4) tNil))) tNil))) tNil)))
 tNext)
 (tSeq (tIfS (tTest (tOp (rEqU K) (tOp (rIxU K) (tVar 4) (tC (.int 0))) (tC (.str (PySem.Str.ofString "maybe")))))
 (tRet (tLst (tCons (tTup (tCons (tTup tNil) (tCons (tTup (tCons (tVar 3) (tCons (tOp (rIxU K) (tVar 4) (tC (.int 1))) tNil))) tNil))) tNil)))
 tNext)
 (tSeq (tIfS (tTest (tOp (rNeU K) (tOp (rIxU K) (tVar 3) (tC (.int 0))) (tOp (rIxU K) (tVar 4) (tC (.int 0)))))
 (tRet (tLst tNil))
 tNext)
 (tSeq (tIfS (tAnd (tTest (tOp (rEqU K) (tOp (rIxU K) (tVar 3) (tC (.int 0))) (tC (.str (PySem.Str.ofString "row"))))) (tAnd (tTest (tOp rGtU (tOp (rIxU K) (tVar 3) (tC (.int 1))) (tC (.int 0)))) (tTest (tOp rGtU (tOp (rIxU K) (tVar 4) (tC (.int 1))) (tC (.int 0))))))
 (tRet (tLst (tCons (tTup (tCons (tTup (tCons (tC (.int 0)) tNil)) (tCons (tTup (tCons (tOp (rIxU K) (tVar 3) (tC (.int 2))) (tCons (tOp (rIxU K) (tVar 4) (tC (.int 2))) tNil))) tNil))) tNil)))
 tNext)
 (b_gone_into_0 K C)))))))
def t_Walk_meet (K : PySem.W.Frag) (C : Addr) (n : Nat) : TS :=
 (tSeq (tIfS (tTest (tOp (rInD K) (tVar 1) (tUn (rFldU K "pairs") (tVar 0))))
 tRetN
 tNext)
 (tSeq (tAsg (tCB (rLenU K) (tCons (tUn (rFldU K "pairs") (tVar 0)) tNil)) (gName 3))
 (tSeq (tDrop (tBM K "list" rAppU (tUn (rFldU K "pairs") (tVar 0)) (tCons (tVar 1) tNil)))
 (tSeq (tDrop (tBM K "list" rAppU (tUn (rFldU K "chains") (tVar 0)) (tCons (tVar 2) tNil)))
 (tFor (iList K (tCall (sp_gone_into K) [] E0 (tCons (tUn (rFldU K "old") (tVar 0)) (tCons (tUn (rFldU K "new") (tVar 0)) (tCons (tVar 1) tNil))))) (gTup K 2 (gCons (gName 4) (gCons (gName 5) gNil)))
 (tDrop (tMethU (cAt K "Walk") "meet" (sp_Walk_meet K n) E0 (tVar 0) (tCons (tVar 5) (tCons (tOp (rAddA K) (tVar 2) (tTup (tCons (tTup (tCons (tVar 3) (tCons (tVar 4) tNil))) tNil))) tNil)))))))))
def t_Walk___init__ (K : PySem.W.Frag) (C : Addr) : TS :=
 (tSeq (sFldU K (tVar 0) (tVar 1) "old")
 (tSeq (sFldU K (tVar 0) (tVar 2) "new")
 (tSeq (sFldU K (tVar 0) (tLst tNil) "pairs")
 (tSeq (sFldU K (tVar 0) (tLst tNil) "chains")
 (tDrop (tMethU (cAt K "Walk") "meet" (sp_Walk_meet K 160) E0 (tVar 0) (tCons (tTup (tCons (tUn (rFldU K "root") (tVar 1)) (tCons (tUn (rFldU K "root") (tVar 2)) tNil))) (tCons (tTup tNil) tNil))))))))
def t_all_pairs (K : PySem.W.Frag) (C : Addr) : TS :=
 (tRet (tCB (rTupK K) (tCons (tUn (rFldU K "pairs") (tMakeN (cAt K "Walk") 2 0 (sp_Walk___init__ K) (fun (vs zs : List V) => vs) E0 (tCons (tVar 0) (tCons (tVar 1) tNil)) tNil)) tNil)))
def t_Making___init__ (K : PySem.W.Frag) (C : Addr) : TS :=
 (tSeq (sFldU K (tVar 0) (tVar 1) "old")
 (tSeq (sFldU K (tVar 0) (tVar 2) "new")
 (sFldU K (tVar 0) (tCall (sp_all_pairs K) [] E0 (tCons (tVar 1) (tCons (tVar 2) tNil))) "pairs")))
def t_Making_number_of (K : PySem.W.Frag) (C : Addr) : TS :=
 (tSeq (tIfS (tTest (tOp (rInD K) (tTup (tCons (tVar 1) (tCons (tVar 2) tNil))) (tUn (rFldU K "pairs") (tVar 0))))
 (tRet (tBMT (rIdxT K) (tUn (rFldU K "pairs") (tVar 0)) (tCons (tTup (tCons (tVar 1) (tCons (tVar 2) tNil))) tNil)))
 tNext)
 (tRet (tUn rNegU (tC (.int 1)))))
@[irreducible] def b_Making_choice_1 (K : PySem.W.Frag) (C : Addr) : TS :=
 (tSeq (tAsg (tCall (sp_by_number K) [] E0 (tCons (tVar 3) (tCons (tC (.int 0)) tNil))) (gName 9))
 (tSeq (tIfS (tTest (tOp rNotNU (tVar 9) (tC .non)))
 (tAsg (tOp (rIxU K) (tVar 9) (tC (.int 1))) (gName 9))
 tNext)
 (tRet (tTup (tCons (tC (.str (PySem.Str.ofString "choice"))) (tCons (tCB (rTupleU K) (tCons (tVar 4) tNil)) (tCons (tVar 9) tNil)))))))
@[irreducible] def b_Making_choice_0 (K : PySem.W.Frag) (C : Addr) : TS :=
 (tSeq (tFor (iTup K (tCall (sp_cases_of K) [] E0 (tCons (tUn (rFldU K "old") (tVar 0)) (tCons (tVar 1) tNil)))) (gTup K 3 (gCons (gName 5) (gCons (gName 6) (gCons (gName 7) gNil))))
 (tSeq (tAsg (tCall (sp_by_number K) [] E0 (tCons (tVar 3) (tCons (tVar 5) tNil))) (gName 8))
 (tIfS (tAnd (tTest (tOp rNotNU (tVar 8) (tC .non))) (tTest (tOp rIsNU (tOp (rIxU K) (tVar 8) (tC (.int 2))) (tC .non))))
 (tDrop (tBM K "list" rAppU (tVar 4) (tCons (tTup (tCons (tVar 5) (tCons (tOp (rIxU K) (tVar 8) (tC (.int 1))) (tCons (tC .non) tNil)))) tNil)))
 (tIfS (tAnd (tTest (tOp rNotNU (tVar 8) (tC .non))) (tTest (tOp rIsNU (tVar 7) (tC .non))))
 (tDrop (tBM K "list" rAppU (tVar 4) (tCons (tTup (tCons (tVar 5) (tCons (tOp (rIxU K) (tVar 8) (tC (.int 1))) (tCons (tUn rNegU (tC (.int 1))) tNil)))) tNil)))
 (tIfS (tTest (tOp rNotNU (tVar 8) (tC .non)))
 (tDrop (tBM K "list" rAppU (tVar 4) (tCons (tTup (tCons (tVar 5) (tCons (tOp (rIxU K) (tVar 8) (tC (.int 1))) (tCons (tMethU (cAt K "Making") "number_of" (sp_Making_number_of K) E0 (tVar 0) (tCons (tVar 7) (tCons (tOp (rIxU K) (tVar 8) (tC (.int 2))) tNil))) tNil)))) tNil)))
 tNext)))))
 (b_Making_choice_1 K C))
def t_Making_choice (K : PySem.W.Frag) (C : Addr) : TS :=
 (tSeq (tAsg (tCall (sp_cases_of K) [] E0 (tCons (tUn (rFldU K "new") (tVar 0)) (tCons (tVar 2) tNil))) (gName 3))
 (tSeq (tAsg (tLst tNil) (gName 4))
 (b_Making_choice_0 K C)))
@[irreducible] def b_Making_node_0 (K : PySem.W.Frag) (C : Addr) : TS :=
 (tSeq (tFor (iTup K (tVar 4)) (gName 7)
 (tSeq (tAsg (tCall (sp_by_number K) [] E0 (tCons (tVar 3) (tCons (tOp (rIxU K) (tVar 7) (tC (.int 0))) tNil))) (gName 8))
 (tIfS (tTest (tOp rNotNU (tVar 8) (tC .non)))
 (tDrop (tBM K "list" rAppU (tVar 5) (tCons (tTup (tCons (tOp (rIxU K) (tVar 7) (tC (.int 0))) (tCons (tOp (rIxU K) (tVar 7) (tC (.int 1))) (tCons (tMethU (cAt K "Making") "number_of" (sp_Making_number_of K) E0 (tVar 0) (tCons (tOp (rIxU K) (tVar 8) (tC (.int 2))) (tCons (tOp (rIxU K) (tVar 7) (tC (.int 2))) tNil))) (tCons (tCB (rTupleU K) (tCons (tCall (sp_left_of K) [] E0 (tCons (tVar 8) tNil)) tNil)) tNil))))) tNil)))
 (tIfS (tTest (tOp (rNeX K) (tCall (sp_left_of K) [] E0 (tCons (tVar 7) tNil)) (tTup tNil)))
 (tDrop (tBM K "list" rAppU (tVar 6) (tCons (tTup (tCons (tOp (rIxU K) (tVar 7) (tC (.int 1))) (tCons (tOp (rIxU K) (tCall (sp_left_of K) [] E0 (tCons (tVar 7) tNil)) (tC (.int 0))) tNil))) tNil)))
 tNext))))
 (tRet (tTup (tCons (tC (.str (PySem.Str.ofString "node"))) (tCons (tVar 2) (tCons (tCB (rTupleU K) (tCons (tVar 5) tNil)) (tCons (tCB (rTupleU K) (tCons (tVar 6) tNil)) (tCons (tCB (rTupleU K) (tCons (tCall (sp_lacking_names K) [] E0 (tCons (tVar 4) (tCons (tVar 3) tNil))) tNil)) tNil))))))))
def t_Making_node (K : PySem.W.Frag) (C : Addr) : TS :=
 (tSeq (tPar 3 4 (tCons (tCall (sp_fields_of K) [] E0 (tCons (tUn (rFldU K "old") (tVar 0)) (tCons (tVar 1) tNil))) (tCons (tCall (sp_fields_of K) [] E0 (tCons (tUn (rFldU K "new") (tVar 0)) (tCons (tVar 2) tNil))) tNil)))
 (tSeq (tAsg (tLst tNil) (gName 5))
 (tSeq (tAsg (tLst tNil) (gName 6))
 (b_Making_node_0 K C))))
@[irreducible] def b_Making_step_1 (K : PySem.W.Frag) (C : Addr) : TS :=
 (tSeq (tIfS (tTest (tOp (rEqU K) (tOp (rIxU K) (tVar 1) (tC (.int 0))) (tC (.str (PySem.Str.ofString "choice")))))
 (tRet (tMethU (cAt K "Making") "choice" (sp_Making_choice K) E0 (tVar 0) (tCons (tOp (rIxU K) (tVar 1) (tC (.int 1))) (tCons (tOp (rIxU K) (tVar 2) (tC (.int 1))) tNil))))
 tNext)
 (tSeq (tIfS (tTest (tOp (rEqU K) (tOp (rIxU K) (tVar 1) (tC (.int 0))) (tC (.str (PySem.Str.ofString "node")))))
 (tRet (tMethU (cAt K "Making") "node" (sp_Making_node K) E0 (tVar 0) (tCons (tOp (rIxU K) (tVar 1) (tC (.int 1))) (tCons (tOp (rIxU K) (tVar 2) (tC (.int 1))) tNil))))
 tNext)
 (tRet (tVar 2))))
@[irreducible] def b_Making_step_0 (K : PySem.W.Frag) (C : Addr) : TS :=
 (tSeq (tIfS (tTest (tOp (rEqU K) (tOp (rIxU K) (tVar 1) (tC (.int 0))) (tC (.str (PySem.Str.ofString "row")))))
 (tSeq (tAsg (tUn rNegU (tC (.int 1))) (gName 3))
 (tSeq (tIfS (tAnd (tTest (tOp rGtU (tOp (rIxU K) (tVar 1) (tC (.int 1))) (tC (.int 0)))) (tTest (tOp rGtU (tOp (rIxU K) (tVar 2) (tC (.int 1))) (tC (.int 0)))))
 (tAsg (tMethU (cAt K "Making") "number_of" (sp_Making_number_of K) E0 (tVar 0) (tCons (tOp (rIxU K) (tVar 1) (tC (.int 2))) (tCons (tOp (rIxU K) (tVar 2) (tC (.int 2))) tNil))) (gName 3))
 tNext)
 (tRet (tTup (tCons (tC (.str (PySem.Str.ofString "row"))) (tCons (tOp (rIxU K) (tVar 2) (tC (.int 1))) (tCons (tVar 3) tNil)))))))
 tNext)
 (b_Making_step_1 K C))
def t_Making_step (K : PySem.W.Frag) (C : Addr) : TS :=
 (tSeq (tIfS (tAnd (tTest (tOp (rEqU K) (tOp (rIxU K) (tVar 1) (tC (.int 0))) (tC (.str (PySem.Str.ofString "maybe"))))) (tTest (tOp (rEqU K) (tOp (rIxU K) (tVar 2) (tC (.int 0))) (tC (.str (PySem.Str.ofString "maybe"))))))
 (tRet (tTup (tCons (tC (.str (PySem.Str.ofString "maybe"))) (tCons (tMethU (cAt K "Making") "number_of" (sp_Making_number_of K) E0 (tVar 0) (tCons (tOp (rIxU K) (tVar 1) (tC (.int 1))) (tCons (tOp (rIxU K) (tVar 2) (tC (.int 1))) tNil))) tNil))))
 tNext)
 (tSeq (tIfS (tTest (tOp (rEqU K) (tOp (rIxU K) (tVar 1) (tC (.int 0))) (tC (.str (PySem.Str.ofString "maybe")))))
 (tRet (tTup (tCons (tC (.str (PySem.Str.ofString "force"))) (tCons (tMethU (cAt K "Making") "number_of" (sp_Making_number_of K) E0 (tVar 0) (tCons (tOp (rIxU K) (tVar 1) (tC (.int 1))) (tCons (tVar 2) tNil))) tNil))))
 tNext)
 (tSeq (tIfS (tTest (tOp (rEqU K) (tOp (rIxU K) (tVar 2) (tC (.int 0))) (tC (.str (PySem.Str.ofString "maybe")))))
 (tRet (tTup (tCons (tC (.str (PySem.Str.ofString "wrap"))) (tCons (tMethU (cAt K "Making") "number_of" (sp_Making_number_of K) E0 (tVar 0) (tCons (tVar 1) (tCons (tOp (rIxU K) (tVar 2) (tC (.int 1))) tNil))) tNil))))
 tNext)
 (tSeq (tIfS (tTest (tOp (rNeU K) (tOp (rIxU K) (tVar 1) (tC (.int 0))) (tOp (rIxU K) (tVar 2) (tC (.int 0)))))
 (tRet (tTup (tCons (tC (.str (PySem.Str.ofString "bad"))) tNil)))
 tNext)
 (b_Making_step_0 K C)))))
def t_made (K : PySem.W.Frag) (C : Addr) : TS :=
 (tSeq (tAsg (tMakeN (cAt K "Making") 2 0 (sp_Making___init__ K) (fun (vs zs : List V) => vs) E0 (tCons (tVar 0) (tCons (tVar 1) tNil)) tNil) (gName 2))
 (tRet (tCB (rTupleU K) (tCons (tLc (iTup K (tUn (rFldU K "pairs") (tVar 2))) (gTup K 2 (gCons (gName 3) (gCons (gName 4) gNil))) tYes (tMethU (cAt K "Making") "step" (sp_Making_step K) E0 (tVar 2) (tCons (tVar 3) (tCons (tVar 4) tNil))) [3, 4]) tNil))))
end K02

/-! steps over data: "dp" Dp K H x d, "da" DpAll -/
local macro_rules | `(tactic| walk_at "dp") => `(tactic| first
  | assumption
  | exact .int _
  | exact .str _
  | exact .bl _
  | exact .non
  | (refine' dp_kp0 ?kk ?kh; (case kh => assumption); (case kk => walk_at "kp"))
  | (refine' Dp.tup ?kt ?ka; (case kt => walk_at "t"); (case ka => walk_at "da"))
  | fail)
local macro_rules | `(tactic| walk_at "da") => `(tactic| first
  | exact .nil
  | assumption
  | (refine' .cons ?k1 ?k2; (case k1 => walk_at "dp"); (case k2 => walk_at "da"))
  | (refine' dpAll_kp0 ?kk ?kh; (case kh => assumption); (case kk => walk_at "kp"))
  | fail)
local macro_rules | `(tactic| walk_at "td") => `(tactic| first
  | (refine' ixD0_go ?k1 ?k2 fun v hv => ?kq; (case k1 => walk_at "dp"); (case k2 => rfl))
  | (refine' ixD1_go ?k1 ?k2 fun v hv => ?kq; (case k1 => walk_at "dp"); (case k2 => rfl))
  | (refine' ixD2_go ?k1 ?k2 fun v hv => ?kq; (case k1 => walk_at "dp"); (case k2 => rfl))
  | (refine' ixD3_go ?k1 ?k2 fun v hv => ?kq; (case k1 => walk_at "dp"); (case k2 => rfl))
  | fail)

/-! steps of k63 -/
local macro_rules | `(tactic| walk_at "td") => `(tactic| first
  | (refine' isR_go ?kq)
  | (refine' eqSS_go ?kq)
  | (refine' eqSN_go ?k1 ?kq; (case k1 => first | assumption | decide +kernel))
  | (refine' neSS_go ?kq)
  | (refine' neSN_go ?k1 ?kq; (case k1 => first | assumption | decide +kernel))
  | (refine' isO_go ?kq)
  | (refine' notR_go ?kq)
  | (refine' notO_go ?kq)
  | (refine' ixDS0_go ?k1 ?k2 ?kq; (case k1 => walk_at "dp"); (case k2 => rfl))
  | (refine' ixDI0_go ?k1 ?k2 ?kq; (case k1 => walk_at "dp"); (case k2 => rfl))
  | (refine' ixD0_go ?k1 ?k2 fun v hv => ?kq; (case k1 => walk_at "dp"); (case k2 => rfl))
  | (refine' ixDS1_go ?k1 ?k2 ?kq; (case k1 => walk_at "dp"); (case k2 => rfl))
  | (refine' ixDI1_go ?k1 ?k2 ?kq; (case k1 => walk_at "dp"); (case k2 => rfl))
  | (refine' ixD1_go ?k1 ?k2 fun v hv => ?kq; (case k1 => walk_at "dp"); (case k2 => rfl))
  | (refine' ixDN2_go ?k1 ?k2 ?kq; (case k1 => walk_at "dp"); (case k2 => rfl))
  | (refine' ixDI2_go ?k1 ?k2 ?kq; (case k1 => walk_at "dp"); (case k2 => rfl))
  | (refine' ixD2_go ?k1 ?k2 fun v hv => ?kq; (case k1 => walk_at "dp"); (case k2 => rfl))
  | (refine' ixD3_go ?k1 ?k2 fun v hv => ?kq; (case k1 => walk_at "dp"); (case k2 => rfl))
  | fail)
local macro_rules | `(tactic| walk_at "go") => `(tactic| repeat' first | walk_at "td" | walk_at "s")

-- imports: 
/-! ## meeting: sorts and rows as data -/
namespace K02
open PySem PySem.Spec PyProof.Rows L2 Kb
section
variable {K : PySem.W.Frag} {H H' : Hp}
theorem dp_o {o : Option Int} : Dp K H (oV o) (oD o) := by cases o <;> constructor
theorem dp_srt : ∀ {s : Srt} {x : V}, SrtV K H s x → Dp K H x (srtD s)
  | .num lo hi, _, ⟨a, h, g⟩ => by subst h; exact .tup g (.cons (.str _) (.cons dp_o (.cons dp_o .nil)))
  | .truth, _, ⟨a, h, g⟩ => by subst h; exact .tup g (.cons (.str _) .nil)
  | .text n, _, ⟨a, h, g⟩ => by subst h; exact .tup g (.cons (.str _) (.cons (.int _) .nil))
  | .row n s, _, ⟨a, y, h, g, r⟩ => by subst h; exact .tup g (.cons (.str _) (.cons (.int _) (.cons (dp_srt (s := s) r) .nil)))
  | .maybe s, _, ⟨a, y, h, g, r⟩ => by subst h; exact .tup g (.cons (.str _) (.cons (dp_srt (s := s) r) .nil))
  | .node k, _, ⟨a, h, g⟩ => by subst h; exact .tup g (.cons (.str _) (.cons (.str _) .nil))
  | .pick k, _, ⟨a, h, g⟩ => by subst h; exact .tup g (.cons (.str _) (.cons (.str _) .nil))
end
theorem sh_o {n : Nat} {o : Option Int} : Sh n (oD o) := by
  cases o with
  | none => exact sh_non
  | some i => exact sh_int
theorem sh_name {n : Nat} {z : Str} (h : NameOk z) : Sh n (.str z) := sh_str fun c m => by
  have := h.2.2 c m
  omega
theorem sh_ascii {n : Nat} {z : Str} (h : (z.cps.toList.all fun c => decide (c < 128)) = true) : Sh n (.str z) := sh_str fun c m => by
  have := List.all_eq_true.mp h c m
  have := of_decide_eq_true this
  omega
theorem sh_all1 {n : Nat} {d : PyData} (h : Sh n d) : ∀ e ∈ [d], Sh n e := fun e m => by rw [List.mem_singleton.mp m]; exact h
theorem sh_allc {n : Nat} {d : PyData} {ds : List PyData} (h : Sh n d) (g : ∀ e ∈ ds, Sh n e) : ∀ e ∈ d :: ds, Sh n e := fun e m => by
  rcases List.mem_cons.mp m with rfl | m
  · exact h
  · exact g e m
/-- a sort's nesting, and its names -/
def Plain : Srt → Nat → Prop
  | .row _ s, d + 1 => Plain s d
  | .maybe s, d + 1 => Plain s d
  | .node k, _ => NameOk k
  | .pick k, _ => NameOk k
  | .num _ _, _ => True
  | .truth, _ => True
  | .text _, _ => True
  | _, 0 => False
theorem plain_of {nk ck : Str → Prop} (h1 : ∀ k, nk k → NameOk k) (h2 : ∀ k, ck k → NameOk k) : ∀ {s : Srt} {d : Nat}, s.ok nk ck d → Plain s d
  | .num _ _, _, _ => trivial
  | .truth, _, _ => trivial
  | .text _, _, _ => trivial
  | .row _ s, 0, h => h.elim
  | .row _ s, _ + 1, h => plain_of h1 h2 (s := s) h.2.2
  | .maybe s, 0, h => h.elim
  | .maybe s, _ + 1, h => plain_of h1 h2 (s := s) h.1
  | .node k, _, h => h1 k h
  | .pick k, _, h => h2 k h
theorem SIn.plain {m : SM} {s : Srt} (h : SIn m s) : Plain s 3 := plain_of (fun k h => h.2) (fun k h => h.2) h
theorem sh_srt : ∀ {s : Srt} {d : Nat}, Plain s d → Sh (d + 1) (srtD s)
  | .num lo hi, _, _ => sh_tup (sh_allc (sh_ascii (by decide +kernel)) (sh_allc sh_o (sh_all1 sh_o)))
  | .truth, _, _ => sh_tup (sh_all1 (sh_ascii (by decide +kernel)))
  | .text n, _, _ => sh_tup (sh_allc (sh_ascii (by decide +kernel)) (sh_all1 sh_int))
  | .row n s, 0, h => h.elim
  | .row n s, d + 1, h => sh_tup (sh_allc (sh_ascii (by decide +kernel)) (sh_allc sh_int (sh_all1 (sh_srt (s := s) h))))
  | .maybe s, 0, h => h.elim
  | .maybe s, d + 1, h => sh_tup (sh_allc (sh_ascii (by decide +kernel)) (sh_all1 (sh_srt (s := s) h)))
  | .node k, _, h => sh_tup (sh_allc (sh_ascii (by decide +kernel)) (sh_all1 (sh_name h)))
  | .pick k, _, h => sh_tup (sh_allc (sh_ascii (by decide +kernel)) (sh_all1 (sh_name h)))
theorem noL_o (o : Option Int) : noL (oD o) = true := by cases o <;> rfl
theorem noL_srt : ∀ s : Srt, noL (srtD s) = true
  | .num lo hi => by show (true && (noL (oD lo) && (noL (oD hi) && true))) = true; rw [noL_o, noL_o]; rfl
  | .truth => rfl
  | .text _ => rfl
  | .row _ s => by show (true && (true && (noL (srtD s) && true))) = true; rw [noL_srt s]; rfl
  | .maybe s => by show (true && (noL (srtD s) && true)) = true; rw [noL_srt s]; rfl
  | .node _ => rfl
  | .pick _ => rfl
theorem eqv_str (x y : Str) : PyData.eqv (.str x) (.str y) = decide (x = y) := by
  show (x == y) = decide (x = y)
  by_cases h : x = y <;> simp [h]
theorem eqv_int (x y : Int) : PyData.eqv (.int x) (.int y) = decide (x = y) := by
  show (x == y) = decide (x = y)
  by_cases h : x = y <;> simp [h]
theorem eqv_o (a b : Option Int) : PyData.eqv (oD a) (oD b) = decide (a = b) := by
  cases a with
  | none => cases b <;> simp [oD, PyData.eqv]
  | some a =>
    cases b with
    | none => simp [oD, PyData.eqv]
    | some b => exact (eqv_int a b).trans (by simp)
theorem eqv_tup (xs ys : List PyData) : PyData.eqv (.tuple xs) (.tuple ys) = PyData.eqvAll xs ys := by simp [PyData.eqv]
theorem eqvAll_cons (x y : PyData) (xs ys : List PyData) : PyData.eqvAll (x :: xs) (y :: ys) = (PyData.eqv x y && PyData.eqvAll xs ys) := by simp [PyData.eqvAll]
theorem eqvAll_nil : PyData.eqvAll [] [] = true := by simp [PyData.eqvAll]
theorem eqvAll_head {x y : PyData} {xs ys : List PyData} (h : PyData.eqv x y = false) : PyData.eqvAll (x :: xs) (y :: ys) = false := by rw [eqvAll_cons, h]; rfl
def tl : Srt → List PyData
  | .num lo hi => [oD lo, oD hi]
  | .truth => []
  | .text n => [.int n]
  | .row n s => [.int n, srtD s]
  | .maybe s => [srtD s]
  | .node k => [.str k]
  | .pick k => [.str k]
theorem srtD_eq (s : Srt) : srtD s = .tuple (.str (wrd s) :: tl s) := by cases s <;> rfl
def wnum : Srt → Nat
  | .num _ _ => 0
  | .truth => 1
  | .text _ => 2
  | .row _ _ => 3
  | .maybe _ => 4
  | .node _ => 5
  | .pick _ => 6
def wstr : Nat → Str
  | 0 => "number"
  | 1 => "truth"
  | 2 => "text"
  | 3 => "row"
  | 4 => "maybe"
  | 5 => "node"
  | _ => "choice"
theorem wstr_inj : ∀ i, i < 7 → ∀ j, j < 7 → wstr i = wstr j → i = j := by decide +kernel
theorem wrd_eq (s : Srt) : wrd s = wstr (wnum s) := by cases s <;> rfl
theorem wnum_lt (s : Srt) : wnum s < 7 := by cases s <;> (simp only [wnum]; decide)
theorem wrd_num (s t : Srt) : decide (wrd s = wrd t) = decide (wnum s = wnum t) := by
  rw [wrd_eq, wrd_eq]
  by_cases h : wnum s = wnum t
  · rw [h]
    simp
  · rw [decide_eq_false h]
    exact decide_eq_false fun e => h (wstr_inj _ (wnum_lt s) _ (wnum_lt t) e)
theorem eqv_unlike {s t : Srt} (h : wnum s ≠ wnum t) : PyData.eqv (srtD s) (srtD t) = false := by
  rw [srtD_eq, srtD_eq, eqv_tup]
  refine eqvAll_head ?_
  rw [eqv_str, wrd_num]
  exact decide_eq_false h
theorem eqv_like (s t : Srt) (h : wnum s = wnum t) : PyData.eqv (srtD s) (srtD t) = PyData.eqvAll (tl s) (tl t) := by
  rw [srtD_eq s, srtD_eq t, eqv_tup, eqvAll_cons, eqv_str, wrd_num, decide_eq_true h, Bool.true_and]
theorem eqv_srt : ∀ s t : Srt, PyData.eqv (srtD s) (srtD t) = decide (s = t) := by
  intro s
  induction s with
  | num a b =>
    intro t
    cases t with
    | num c d =>
      refine (eqv_like (.num a b) (.num c d) rfl).trans ?_
      show PyData.eqvAll [oD a, oD b] [oD c, oD d] = _
      rw [eqvAll_cons, eqvAll_cons, eqvAll_nil, eqv_o, eqv_o]
      simp
    | _ => rw [eqv_unlike (by simp [wnum])]; simp
  | truth => intro t; cases t <;> first | (rw [eqv_unlike (by simp [wnum])]; simp; done) | exact (eqv_like .truth .truth rfl).trans (by simp [tl, eqvAll_nil])
  | text n =>
    intro t
    cases t with
    | text k =>
      refine (eqv_like (.text n) (.text k) rfl).trans ?_
      show PyData.eqvAll [.int n] [.int k] = _
      rw [eqvAll_cons, eqvAll_nil, eqv_int]
      simp
    | _ => rw [eqv_unlike (by simp [wnum])]; simp
  | row n s ih =>
    intro t
    cases t with
    | row k t =>
      refine (eqv_like (.row n s) (.row k t) rfl).trans ?_
      show PyData.eqvAll [.int n, srtD s] [.int k, srtD t] = _
      rw [eqvAll_cons, eqvAll_cons, eqvAll_nil, eqv_int, ih]
      simp
    | _ => rw [eqv_unlike (by simp [wnum])]; simp
  | maybe s ih =>
    intro t
    cases t with
    | maybe t =>
      refine (eqv_like (.maybe s) (.maybe t) rfl).trans ?_
      show PyData.eqvAll [srtD s] [srtD t] = _
      rw [eqvAll_cons, eqvAll_nil, ih]
      simp
    | _ => rw [eqv_unlike (by simp [wnum])]; simp
  | node a =>
    intro t
    cases t with
    | node b =>
      refine (eqv_like (.node a) (.node b) rfl).trans ?_
      show PyData.eqvAll [.str a] [.str b] = _
      rw [eqvAll_cons, eqvAll_nil, eqv_str]
      simp
    | _ => rw [eqv_unlike (by simp [wnum])]; simp
  | pick a =>
    intro t
    cases t with
    | pick b =>
      refine (eqv_like (.pick a) (.pick b) rfl).trans ?_
      show PyData.eqvAll [.str a] [.str b] = _
      rw [eqvAll_cons, eqvAll_nil, eqv_str]
      simp
    | _ => rw [eqv_unlike (by simp [wnum])]; simp
theorem eqv_pr (p q : Pr) : PyData.eqv (prD p) (prD q) = decide (p = q) := by
  obtain ⟨a, b⟩ := p
  obtain ⟨c, d⟩ := q
  show PyData.eqv (.tuple [srtD a, srtD b]) (.tuple [srtD c, srtD d]) = _
  rw [eqv_tup, eqvAll_cons, eqvAll_cons, eqvAll_nil, eqv_srt, eqv_srt]
  simp
theorem any_pr (ps : List Pr) (p : Pr) : ((ps.map prD).any fun e => PyData.eqv e (prD p)) = decide (p ∈ ps) := by
  induction ps with
  | nil => simp
  | cons q ps ih =>
    rw [List.map_cons, List.any_cons, ih, eqv_pr]
    by_cases h : q = p
    · simp [h]
    · have : ¬ p = q := fun e => h e.symm
      simp [h, this]
theorem first_pr {ps : List Pr} {p : Pr} (h : p ∈ ps) : FirstEq (ps.map prD) (prD p) (ps.idxOf p) := by
  induction ps with
  | nil => cases h
  | cons q ps ih =>
    by_cases e : q = p
    · subst e
      rw [List.idxOf_cons_self]
      exact ⟨⟨_, rfl, by rw [eqv_pr]; simp⟩, fun m e h => absurd h (Nat.not_lt_zero _)⟩
    · have h' : p ∈ ps := by
        rcases List.mem_cons.mp h with h | h
        · exact absurd h.symm e
        · exact h
      have eb : (q == p) = false := by simpa using e
      obtain ⟨⟨d, h1, h2⟩, h3⟩ := ih h'
      rw [List.idxOf_cons, eb]
      refine ⟨⟨d, h1, h2⟩, fun m d' hm hd => ?_⟩
      cases m with
      | zero =>
        cases hd
        rw [eqv_pr]
        exact decide_eq_false e
      | succ m => exact h3 m d' (Nat.lt_of_succ_lt_succ hm) hd
theorem sh_pr {p : Pr} {d : Nat} (h1 : Plain p.1 d) (h2 : Plain p.2 d) : Sh (d + 2) (prD p) := sh_tup (sh_allc (sh_srt h1) (sh_all1 (sh_srt h2)))
theorem noL_pr (p : Pr) : noL (prD p) = true := by
  show (noL (srtD p.1) && (noL (srtD p.2) && true)) = true
  rw [noL_srt, noL_srt]
  rfl
theorem noLs_map {α : Type} {f : α → PyData} (h : ∀ a, noL (f a) = true) : ∀ l : List α, noLs (l.map f) = true
  | [] => rfl
  | a :: l => by show (noL (f a) && noLs (l.map f)) = true; rw [h a, noLs_map h l]; rfl
theorem lay_prs {m m' : SM} {ps : List Pr} (h : ∀ p ∈ ps, SIn m p.1 ∧ SIn m' p.2) : PyData.canLayAll0 (ps.map prD) = true := sh_lay (n := 5) fun d hd => by
  obtain ⟨p, hp, rfl⟩ := List.mem_map.mp hd
  exact sh_pr (h p hp).1.plain (h p hp).2.plain
theorem shaped_pr {m m' : SM} {p : Pr} (h1 : SIn m p.1) (h2 : SIn m' p.2) : SeqAt.shaped (prD p) = true := (sh_pr h1.plain h2.plain).ok (by decide)
end K02

-- imports: QS1 QS2 QM1
/-! ## meeting: tables, rows by number -/
namespace K02
open PySem PySem.Spec PyProof.Rows L2 Kb
section
variable {K : PySem.W.Frag} {H H' : Hp} {Q : VK} {E : XK}
theorem TabD.kp0 (k : Kp [] H H') : ∀ {rows : List (Str × List Raw)} {kvs : List (L2.Key × V)}, TabD K H rows kvs → TabD K H' rows kvs
  | _, _, .nil => .nil
  | _, _, .cons h t => .cons ⟨h.1, dp_kp0 k h.2⟩ (TabD.kp0 k t)
theorem noLs_app : ∀ {a b : List PyData}, noLs (a ++ b) = (noLs a && noLs b)
  | [], _ => rfl
  | d :: a, b => by
    show (noL d && noLs (a ++ b)) = (noL d && noLs a && noLs b)
    rw [noLs_app, Bool.and_assoc]
/-- rows that hold no lists -/
def RowsN (rows : List (Str × List Raw)) : Prop := ∀ r ∈ rows, ∀ x ∈ r.2, noLs x.2 = true
theorem noLs_dat : ∀ {l : List Raw}, (∀ x ∈ l, noLs x.2 = true) → noLs (l.map Raw.dat) = true
  | [], _ => rfl
  | x :: l, h => by
    show ((true && noLs x.2) && noLs (l.map Raw.dat)) = true
    rw [h x List.mem_cons_self, noLs_dat fun y m => h y (List.mem_cons_of_mem _ m)]
    rfl
theorem TabD.kpT {M : List Addr} (k : Kp M H H') (l : ∀ b ∈ M, NoT H b) : ∀ {rows : List (Str × List Raw)} {kvs : List (L2.Key × V)}, RowsN rows → TabD K H rows kvs → TabD K H' rows kvs
  | _, _, _, .nil => .nil
  | _, _, n, .cons h t => .cons ⟨h.1, dp_kpT k l (noLs_dat (n _ List.mem_cons_self)) h.2⟩ (TabD.kpT k l (fun r m => n r (List.mem_cons_of_mem _ m)) t)
theorem SV.kp0 {a : Addr} {m : SM} (h : SV K H a m) (k : Kp [] H H') : SV K H' a m := by
  obtain ⟨dx, D1, D2, root, k1, k2, h1, h2, h3, h4, h5, h6⟩ := h.ex
  exact ⟨dx, D1, D2, root, k1, k2, k _ _ List.not_mem_nil h1, k _ _ List.not_mem_nil h2, k _ _ List.not_mem_nil h3, h4.kp0 k, h5.kp0 k, dp_kp0 k h6⟩
theorem noLs_pf {m : SM} (w : m.wf) : RowsN (m.kinds.map fun r => (r.1, r.2.map PF.raw)) := fun r hr x hx => by
  obtain ⟨r0, h0, rfl⟩ := List.mem_map.mp hr
  obtain ⟨f, hf, rfl⟩ := List.mem_map.mp hx
  show (true && (noL (srtD f.s) && noLs f.d.toList)) = true
  rw [noL_srt]
  cases e : f.d with
  | none => rfl
  | some d =>
    show (noL d && true) = true
    rw [(((w.ks r0 h0).2 f hf).2.2.2.2 d e).2]
    rfl
theorem noL_os (s : Option Srt) : noL (osD s) = true := by
  cases s with
  | none => rfl
  | some s => exact noL_srt s
theorem noLs_pc {m : SM} : RowsN (m.picks.map fun r => (r.1, r.2.map PC.raw)) := fun r hr x hx => by
  obtain ⟨r0, h0, rfl⟩ := List.mem_map.mp hr
  obtain ⟨f, hf, rfl⟩ := List.mem_map.mp hx
  show (true && (noL (osD f.s) && true)) = true
  rw [noL_os]
  rfl
/-- a schema stands where no tuple, no dict and no object of its own is changed -/
theorem SV.kpT {M : List Addr} {a : Addr} {m : SM} (h : SV K H a m) (w : m.wf) (k : Kp M H H') (l : ∀ b ∈ M, NoT H b ∧ (∀ kvs, H b ≠ some (.dK kvs)) ∧ ∀ dx D1 D2 r, H b ≠ some (.ins (cAt K "Schema") dx (schF D1 D2 r))) : SV K H' a m := by
  obtain ⟨dx, D1, D2, root, k1, k2, h1, h2, h3, h4, h5, h6⟩ := h.ex
  have nt : ∀ b ∈ M, NoT H b := fun b m => (l b m).1
  exact ⟨dx, D1, D2, root, k1, k2, k _ _ (fun m => (l _ m).2.2 _ _ _ _ h1) h1, k _ _ (fun m => (l _ m).2.1 _ h2) h2, k _ _ (fun m => (l _ m).2.1 _ h3) h3, h4.kpT k nt (noLs_pf w), h5.kpT k nt noLs_pc, dp_kpT k nt (noL_srt _) h6⟩
theorem tab_get {α : Type} {raw : α → Raw} : ∀ {rows : List (Str × List α)} {kvs : List (L2.Key × V)} {k : Str} {l : List α}, TabD K H (rows.map fun r => (r.1, r.2.map raw)) kvs → rows.lookup k = some l → ∃ v, valV kvs (.inr k) = some v ∧ Dp K H v (.tuple (l.map fun f => (raw f).dat))
  | [], _, k, l, _, e => by cases e
  | r :: rows, kv :: kvs, k, l, .cons h t, e => by
    obtain ⟨z, fs⟩ := r
    obtain ⟨kk, v⟩ := kv
    have hk : kk = .inr z := h.1
    subst hk
    by_cases hz : k = z
    · subst hz
      have e' : List.lookup k ((k, fs) :: rows) = some fs := by simp only [List.lookup, beq_self_eq_true]
      rw [e'] at e
      cases e
      refine ⟨v, valV_pos rfl, ?_⟩
      have := h.2
      rwa [show (((k, l.map raw) : Str × List Raw).2.map Raw.dat) = l.map fun f => (raw f).dat from List.map_map ..] at this
    · have hb : (k == z) = false := by simpa using hz
      have e' : List.lookup k ((z, fs) :: rows) = List.lookup k rows := by simp only [List.lookup, hb]
      rw [e'] at e
      obtain ⟨v', h1, h2⟩ := tab_get t e
      exact ⟨v', (valV_neg fun q => hz (Sum.inr.inj q).symm).trans h1, h2⟩
theorem ixSr1_go {x : V} {ds : List PyData} {s : Srt} (h : Dp K H x (.tuple ds)) (e : ds[1]? = some (srtD s)) (q : ∀ a, Dp K H (.ref a) (srtD s) → Q (.ref a) H) : rIxU K x (.int 1) H Q := ixD1_go h e fun v hv => by
  rw [srtD_eq] at hv
  obtain ⟨a, xs, rfl, h1, h2⟩ := dp_tup hv
  exact q a (by rw [srtD_eq]; exact .tup h1 h2)
theorem ixSr2_go {x : V} {ds : List PyData} {s : Srt} (h : Dp K H x (.tuple ds)) (e : ds[2]? = some (srtD s)) (q : ∀ a, Dp K H (.ref a) (srtD s) → Q (.ref a) H) : rIxU K x (.int 2) H Q := ixD2_go h e fun v hv => by
  rw [srtD_eq] at hv
  obtain ⟨a, xs, rfl, h1, h2⟩ := dp_tup hv
  exact q a (by rw [srtD_eq]; exact .tup h1 h2)
theorem kind_some {m : SM} {k : Str} (h : (m.kinds.lookup k).isSome = true) : m.kinds.lookup k = some (m.kind k) := by
  unfold SM.kind
  obtain ⟨l, e⟩ := Option.isSome_iff_exists.mp h
  rw [e]
  rfl
theorem pick_some {m : SM} {k : Str} (h : (m.picks.lookup k).isSome = true) : m.picks.lookup k = some (m.pick k) := by
  unfold SM.pick
  obtain ⟨l, e⟩ := Option.isSome_iff_exists.mp h
  rw [e]
  rfl
theorem fields_go {a : Addr} {m : SM} {k : Str} (h : SV K H a m) (hk : (m.kinds.lookup k).isSome = true) (q : ∀ y, Dp K H y (.tuple ((m.kind k).map fun f => f.raw.dat)) → Q y H) : sp_fields_of K [.ref a, .str k] H Q E := by
  unfold sp_fields_of
  exact ⟨a, m, k, rfl, h, hk, q⟩
theorem cases_go {a : Addr} {m : SM} {k : Str} (h : SV K H a m) (hk : (m.picks.lookup k).isSome = true) (q : ∀ y, Dp K H y (.tuple ((m.pick k).map fun f => f.raw.dat)) → Q y H) : sp_cases_of K [.ref a, .str k] H Q E := by
  unfold sp_cases_of
  exact ⟨a, m, k, rfl, h, hk, q⟩
theorem len_fields_of : ∀ vs H Q E, sp_fields_of K vs H Q E → vs.length = ["schema", "kind"].length := by
  intro _ _ _ _ h
  unfold sp_fields_of at h
  obtain ⟨_, _, _, rfl, _⟩ := h
  rfl
theorem len_cases_of : ∀ vs H Q E, sp_cases_of K vs H Q E → vs.length = ["schema", "name"].length := by
  intro _ _ _ _ h
  unfold sp_cases_of at h
  obtain ⟨_, _, _, rfl, _⟩ := h
  rfl
theorem len_by_number : ∀ vs H Q E, sp_by_number K vs H Q E → vs.length = ["rows", "number"].length := by
  intro _ _ _ _ h
  unfold sp_by_number at h
  obtain ⟨_, _, _, rfl, _⟩ := h
  rfl
theorem len_lacking_names : ∀ vs H Q E, sp_lacking_names K vs H Q E → vs.length = ["mine", "yours"].length := by
  intro _ _ _ _ h
  unfold sp_lacking_names at h
  obtain ⟨_, _, _, _, rfl, _⟩ := h
  rfl
theorem len_both_of : ∀ vs H Q E, sp_both_of K vs H Q E → vs.length = ["mine", "yours"].length := by
  intro _ _ _ _ h
  unfold sp_both_of at h
  obtain ⟨_, _, _, _, rfl, _⟩ := h
  rfl
end
theorem p_fields_of (K : PySem.W.Frag) (C : Addr) (O : Own K C) (vs : List V) (H : Hp) (Q : VK) (E : XK) (h : sp_fields_of K vs H Q E) : t_fields_of K C { nx := fun _ H' => Q .non H', rt := Q } (start ["schema", "kind"] vs) H := by
  unfold sp_fields_of at h
  obtain ⟨a, m, k, rfl, hv, hk, q⟩ := h
  obtain ⟨cl, n1, n2, n3, _, _⟩ := O.Schema
  obtain ⟨dx, D1, D2, root, k1, k2, h1, h2, h3, h4, h5, h6⟩ := hv.ex
  unfold t_fields_of
  obtain ⟨v, e, d⟩ := tab_get h4 (kind_some hk)
  walk_at "go"
  exact ⟨D1, v, rfl, e ▸ DGet.k (k := .inr k) h2, q v d⟩
theorem p_cases_of (K : PySem.W.Frag) (C : Addr) (O : Own K C) (vs : List V) (H : Hp) (Q : VK) (E : XK) (h : sp_cases_of K vs H Q E) : t_cases_of K C { nx := fun _ H' => Q .non H', rt := Q } (start ["schema", "name"] vs) H := by
  unfold sp_cases_of at h
  obtain ⟨a, m, k, rfl, hv, hk, q⟩ := h
  obtain ⟨cl, n1, n2, n3, _, _⟩ := O.Schema
  obtain ⟨dx, D1, D2, root, k1, k2, h1, h2, h3, h4, h5, h6⟩ := hv.ex
  unfold t_cases_of
  obtain ⟨v, e, d⟩ := tab_get h5 (pick_some hk)
  walk_at "go"
  exact ⟨D2, v, rfl, e ▸ DGet.k (k := .inr k) h3, q v d⟩
theorem find_at {rs : List Raw} {n : Int} : ∀ {i : Nat} {r : Raw}, (∀ j r, j < i → rs[j]? = some r → ¬ r.1 = n) → rs[i]? = some r → r.1 = n → (rs.find? fun r => r.1 == n) = some r := by
  induction rs with
  | nil => intro i r _ h; simp at h
  | cons x rs ih =>
    intro i r no h e
    cases i with
    | zero =>
      cases h
      rw [List.find?_cons, show (x.1 == n) = true by simpa using e]
    | succ i =>
      rw [List.find?_cons, show (x.1 == n) = false by simpa using no 0 x (Nat.succ_pos _) rfl]
      exact ih (fun j r hj hr => no (j + 1) r (Nat.succ_lt_succ hj) hr) h e
theorem find_none {rs : List Raw} {n : Int} (no : ∀ (j : Nat) (r : Raw), rs[j]? = some r → ¬ r.1 = n) : (rs.find? fun r => r.1 == n) = none := by
  rw [List.find?_eq_none]
  intro r hr e
  obtain ⟨j, hj⟩ := List.mem_iff_getElem?.mp hr
  exact no j r hj (by simpa using e)
theorem p_by_number (K : PySem.W.Frag) (vs : List V) (H : Hp) (Q : VK) (E : XK) (h : sp_by_number K vs H Q E) : t_by_number K { nx := fun _ H' => Q .non H', rt := Q } (start ["rows", "number", "row"] vs) H := by
  unfold sp_by_number at h
  obtain ⟨x, n, rs, rfl, hx, q⟩ := h
  obtain ⟨a, xs, rfl, ha, hd⟩ := dp_tup hx
  unfold t_by_number
  walk_at "go"
  refine ⟨⟨xs, ha⟩, ?_⟩
  have hl : xs.length = rs.length := by rw [dpAll_len hd, List.length_map]
  refine for_it (walk_tup (xs := xs)) (fun i σ H' => H' = H ∧ ∃ u, σ = [some (.ref a), some (.int n), u] ∧ ∀ j r, j < i → rs[j]? = some r → ¬ r.1 = n) ⟨rfl, _, rfl, fun j r h => absurd h (Nat.not_lt_zero _)⟩ (fun i σ H' _ h => by rw [h.1]; exact ha) ?_ (fun σ H' h => ?_)
  · rintro i x σ H' H2 hi ⟨rfl, u, rfl, no⟩ ⟨rfl, ex⟩
    obtain ⟨d, ed, dx⟩ := dpAll_ix hd ex
    rw [List.getElem?_map] at ed
    obtain ⟨r, er, rfl⟩ := Option.map_eq_some_iff.mp ed
    have dx' : Dp K H2 x (.tuple (.int r.1 :: r.2)) := dx
    walk_at "go"
    · rename_i hn
      rw [find_at no er hn] at q
      exact q x dx
    · rename_i hn
      intro j r' hj hr
      by_cases e : j = i
      · subst e
        rw [er] at hr
        cases hr
        exact hn
      · exact no j r' (by omega) hr
  · obtain ⟨rfl, u, rfl, no⟩ := h
    rw [find_none fun j r hr => no j r (by rw [hl]; exact (List.getElem?_eq_some_iff.mp hr).1) hr] at q
    walk_at "go"
    exact q
end K02

-- imports: QS1 QS2 QS3 QM1 QM2
/-! ## meeting: what lacks, what both have -/
namespace K02
open PySem PySem.Spec PyProof.Rows L2 Kb
section
variable {K : PySem.W.Frag} {H H' : Hp} {Q : VK} {E : XK} {α : Type}
theorem byN_go {raw : α → Raw} {ys : List α} {x : V} {n : Int} (h : Dp K H x (.tuple (ys.map fun f => (raw f).dat))) (q0 : (ys.find? fun f => (raw f).1 == n) = none → Q .non H) (q1 : ∀ g y, (ys.find? fun f => (raw f).1 == n) = some g → Dp K H y (raw g).dat → Q y H) : sp_by_number K [x, .int n] H Q E := by
  unfold sp_by_number
  refine ⟨x, n, ys.map raw, rfl, by rw [List.map_map]; exact h, ?_⟩
  rw [List.find?_map]
  cases e : ys.find? fun f => (raw f).1 == n with
  | none =>
    have e' : ys.find? ((fun r => r.1 == n) ∘ raw) = none := e
    rw [e']
    exact q0 e
  | some g =>
    have e' : ys.find? ((fun r => r.1 == n) ∘ raw) = some g := e
    rw [e']
    exact fun y dy => q1 g y e dy
theorem leftD_go {f : PF} {x : V} (h : Dp K H x f.raw.dat) (q : ∀ H' p, Kp [] H H' → Dp K H' (.ref p) (.tuple f.d.toList) → (∃ xs, SqT K H' p xs ∧ DpAll K H' xs f.d.toList) → Q (.ref p) H') : sp_left_of K [x] H Q E := by
  obtain ⟨a, xs, rfl, ha, hd⟩ := dp_tup h
  have l := dpAll_len hd
  have l3 : 3 ≤ xs.length := by
    rw [l]
    show 3 ≤ (.int f.num :: ([.str f.name, srtD f.s] ++ f.d.toList) : List PyData).length
    simp
  refine left_go ha l3 fun H' p k hp => ?_
  have d' : DpAll K H' (xs.drop 3) f.d.toList := dpAll_drop 3 (dpAll_kp0 k hd)
  exact q H' p k (.tup hp d') ⟨_, hp, d'⟩
end
theorem p_lacking_names (K : PySem.W.Frag) (vs : List V) (H : Hp) (Q : VK) (E : XK) (h : sp_lacking_names K vs H Q E) : t_lacking_names K { nx := fun _ H' => Q .non H', rt := Q } (start ["mine", "yours", "field"] vs) H := by
  unfold sp_lacking_names at h
  obtain ⟨x, y, ys, xs, rfl, hy, hx, hl, hsh, q⟩ := h
  obtain ⟨a, us, rfl, ha, hd⟩ := dp_tup hy
  have el : us.length = ys.length := by rw [dpAll_len hd, List.length_map]
  unfold t_lacking_names
  walk_at "go"
  refine ⟨⟨us, ha⟩, ?_⟩
  intro D nD
  refine lc_dat (K := K) (f := fun g : PF => if (xs.find? fun f => f.num == g.num).isNone then (lackF g).map PyData.str else none) (as := ys) (walk_tup (xs := us)) nD el (by omega) (fun g _ d e => ?_) (fun H' k => k.sqT List.not_mem_nil ha) (fun i g u Hc eg eu kc Py Pn py pn => ?_) (fun H' k ld => ?_)
  · by_cases hn : (xs.find? fun f => f.num == g.num).isNone
    · rw [if_pos hn] at e
      cases el : lackF g with
      | none => rw [el] at e; cases e
      | some z => rw [el] at e; cases e; rfl
    · rw [if_neg hn] at e
      cases e
  · obtain ⟨d, ed, du⟩ := dpAll_ix hd eu
    rw [List.getElem?_map, eg] at ed
    cases ed
    have du := dp_kp0 kc du
    have hx' := dp_kp0 kc hx
    have du' : Dp K Hc u (.tuple (.int g.num :: ([.str g.name, srtD g.s] ++ g.d.toList))) := du
    refine ⟨rfl, ?_⟩
    walk_at "go"
    refine byN_go (raw := PF.raw) hx' (fun e => ?_) (fun f w e dw => ?_)
    · have hnone : (xs.find? fun f => f.num == g.num) = none := e
      walk_at "go"
      show sp_left_of K [u] Hc _ _
      refine leftD_go du fun H1 p k1 dp ⟨ps, hp, dps⟩ => ?_
      walk_at "go"
      rename_i N nN
      have kN := (Kp.refl (M := []) (H := H1)).upd_new' (o := .tup []) nN
      refine eqET_go (kN.sqT List.not_mem_nil hp) (SqT.of upd_same) ?_
      have k2 := k1.trans kN
      cases gd : g.d with
      | none =>
        rw [gd] at dps
        cases dps
        walk_at "go"
        refine py (.str g.name) _ _ ?_ k2 (.str _)
        rw [if_pos (by rw [hnone]; rfl)]
        unfold lackF
        rw [gd]
        rfl
      | some d =>
        rw [gd] at dps
        cases dps with
        | cons d1 d2 =>
          walk_at "go"
          refine pn _ ?_ k2
          rw [if_pos (by rw [hnone]; rfl)]
          unfold lackF
          rw [gd]
          rfl
    · have hsome : (xs.find? fun f => f.num == g.num) = some f := e
      obtain ⟨w', ws, rfl, hw, hdw⟩ := dp_tup dw
      walk_at "go"
      refine pn _ ?_ Kp.refl
      rw [if_neg (by rw [hsome]; simp)]
  · refine q H' D k ?_
    have e : (lacksF xs ys).map PyData.str = ys.filterMap fun g : PF => if (xs.find? fun f => f.num == g.num).isNone then (lackF g).map PyData.str else none := by
      unfold lacksF aloneF
      rw [List.map_filterMap, List.filterMap_filter]
    rw [e]
    exact ld
theorem p_both_of (K : PySem.W.Frag) (vs : List V) (H : Hp) (Q : VK) (E : XK) (h : sp_both_of K vs H Q E) : t_both_of K { nx := fun _ H' => Q .non H', rt := Q } (start ["mine", "yours", "one"] vs) H := by
  unfold sp_both_of at h
  obtain ⟨x, y, xs, ys, rfl, hx, hy, hl, hn, q⟩ := h
  obtain ⟨a, us, rfl, ha, hd⟩ := dp_tup hx
  have el : us.length = xs.length := by rw [dpAll_len hd, List.length_map]
  unfold t_both_of
  walk_at "go"
  refine ⟨⟨us, ha⟩, ?_⟩
  intro D nD
  refine lc_dat (K := K) (f := fun r : Raw => ((ys.find? fun b => b.1 == r.1).map fun b => (r, b)).map fun q : Raw × Raw => PyData.tuple [q.1.dat, q.2.dat]) (as := xs) (walk_tup (xs := us)) nD el (by omega) (fun r hr d e => ?_) (fun H' k => k.sqT List.not_mem_nil ha) (fun i r u Hc er eu kc Py Pn py pn => ?_) (fun H' k ld => ?_)
  · obtain ⟨b, hb, rfl⟩ := Option.map_eq_some_iff.mp e
    obtain ⟨c, hc, rfl⟩ := Option.map_eq_some_iff.mp hb
    show (noL r.dat && (noL c.dat && true)) = true
    rw [show noL r.dat = (true && noLs r.2) from rfl, show noL c.dat = (true && noLs c.2) from rfl, hn.1 r hr, hn.2 c (List.mem_of_find?_eq_some hc)]
    rfl
  · obtain ⟨d, ed, du⟩ := dpAll_ix hd eu
    rw [List.getElem?_map, er] at ed
    cases ed
    have du := dp_kp0 kc du
    have hy' := dp_kp0 kc hy
    have du' : Dp K Hc u (.tuple (.int r.1 :: r.2)) := du
    refine ⟨rfl, ?_⟩
    walk_at "go"
    refine byN_go (raw := id) (by simpa using hy') (fun e => ?_) (fun c w e dw => ?_)
    · have hnone : (ys.find? fun b => b.1 == r.1) = none := e
      walk_at "go"
      refine pn _ ?_ Kp.refl
      rw [hnone]
      rfl
    · have hsome : (ys.find? fun b => b.1 == r.1) = some c := e
      obtain ⟨w', ws, rfl, hw, hdw⟩ := dp_tup dw
      walk_at "go"
      refine byN_go (raw := id) (by simpa using hy') (fun e => ?_) (fun c w2 e dw2 => ?_)
      · rw [show (ys.find? fun b => b.1 == r.1) = none from e] at hsome
        cases hsome
      · rw [show (ys.find? fun b => b.1 == r.1) = some c from e] at hsome
        cases hsome
        walk_at "go"
        rename_i p np
        have kp := (Kp.refl (M := []) (H := Hc)).upd_new' (o := .tup [u, w2]) np
        refine py _ _ _ (by rw [show (ys.find? fun b => b.1 == r.1) = some c from e]; rfl) kp (.tup (SqT.of upd_same) (.cons (dp_kp0 kp du) (.cons (dp_kp0 kp dw2) .nil)))
  · refine q H' D k ?_
    have e : (bothF (·.1) (·.1) xs ys).map (fun q : Raw × Raw => PyData.tuple [q.1.dat, q.2.dat]) = xs.filterMap fun r : Raw => ((ys.find? fun b => b.1 == r.1).map fun b => (r, b)).map fun q : Raw × Raw => PyData.tuple [q.1.dat, q.2.dat] := by
      unfold bothF
      rw [List.map_filterMap]
    rw [e]
    exact ld
end K02

/-! steps over sorts -/
local macro_rules | `(tactic| walk_at "sr") => `(tactic| first
  | (refine' K02.ixSr1_go ?k1 ?k2 fun a ha => ?kq; (case k1 => walk_at "dp"); (case k2 => rfl))
  | (refine' K02.ixSr2_go ?k1 ?k2 fun a ha => ?kq; (case k1 => walk_at "dp"); (case k2 => rfl))
  | fail)
local macro_rules | `(tactic| walk_at "go") => `(tactic| repeat' first | walk_at "sr" | walk_at "td" | walk_at "s")

-- imports: QS1 QS2 QS3 QM1 QM2 QM3
/-! ## meeting: what a pair leads to -/
namespace K02
open PySem PySem.Spec PyProof.Rows L2 Kb
theorem bothF_map {α β γ δ : Type} {na : γ → Int} {nb : δ → Int} (f : α → γ) (g : β → δ) (xs : List α) (ys : List β) : bothF na nb (xs.map f) (ys.map g) = (bothF (fun a => na (f a)) (fun b => nb (g b)) xs ys).map fun q => (f q.1, g q.2) := by
  unfold bothF
  rw [List.filterMap_map, List.map_filterMap]
  congr 1
  funext a
  show ((ys.map g).find? fun b => nb b == na (f a)).map (fun b => (f a, b)) = ((ys.find? fun b => nb (g b) == na (f a)).map fun b => (a, b)).map fun q => (f q.1, g q.2)
  rw [List.find?_map, Option.map_map, Option.map_map]
  rfl
theorem bothF_mem {α β : Type} {na : α → Int} {nb : β → Int} {xs : List α} {ys : List β} {q : α × β} (h : q ∈ bothF na nb xs ys) : q.1 ∈ xs ∧ q.2 ∈ ys ∧ nb q.2 = na q.1 := by
  obtain ⟨a, ha, e⟩ := List.mem_filterMap.mp h
  obtain ⟨b, hb, rfl⟩ := Option.map_eq_some_iff.mp e
  have := List.find?_some hb
  exact ⟨ha, List.mem_of_find?_eq_some hb, by simpa using this⟩
theorem lookup_mem {α : Type} {k : Str} {v : α} : ∀ {l : List (Str × α)}, l.lookup k = some v → (k, v) ∈ l
  | [], h => by cases h
  | (z, w) :: l, h => by
    by_cases e : k = z
    · subst e
      simp only [List.lookup, beq_self_eq_true] at h
      cases h
      exact List.mem_cons_self
    · have eb : (k == z) = false := by simpa using e
      simp only [List.lookup, eb] at h
      exact List.mem_cons_of_mem _ (lookup_mem h)
theorem kind_mem {m : SM} {k : Str} (h : (m.kinds.lookup k).isSome = true) : (k, m.kind k) ∈ m.kinds := lookup_mem (kind_some h)
theorem pick_mem {m : SM} {k : Str} (h : (m.picks.lookup k).isSome = true) : (k, m.pick k) ∈ m.picks := lookup_mem (pick_some h)
theorem noLs_raw {m : SM} (w : m.wf) {k : Str} (h : (m.kinds.lookup k).isSome = true) : ∀ f ∈ m.kind k, noLs f.raw.2 = true := fun f hf => noLs_pf w (k, (m.kind k).map PF.raw) (List.mem_map.mpr ⟨_, kind_mem h, rfl⟩) f.raw (List.mem_map.mpr ⟨f, hf, rfl⟩)
theorem noLs_rawC {m : SM} {k : Str} (h : (m.picks.lookup k).isSome = true) : ∀ c ∈ m.pick k, noLs c.raw.2 = true := fun c hc => noLs_pc (k, (m.pick k).map PC.raw) (List.mem_map.mpr ⟨_, pick_mem h, rfl⟩) c.raw (List.mem_map.mpr ⟨c, hc, rfl⟩)
section
variable {K : PySem.W.Frag} {H H' : Hp} {Q : VK} {E : XK}
theorem both_go {α β : Type} {ra : α → Raw} {rb : β → Raw} {xs : List α} {ys : List β} {x y : V} (hx : Dp K H x (.tuple (xs.map fun f => (ra f).dat))) (hy : Dp K H y (.tuple (ys.map fun f => (rb f).dat))) (l : xs.length ≤ 100) (n1 : ∀ a ∈ xs, noLs (ra a).2 = true) (n2 : ∀ b ∈ ys, noLs (rb b).2 = true)
    (q : ∀ H' L, Kp [] H H' → LsD K H' L ((bothF (fun a => (ra a).1) (fun b => (rb b).1) xs ys).map fun q => .tuple [(ra q.1).dat, (rb q.2).dat]) → Q (.ref L) H') : sp_both_of K [x, y] H Q E := by
  unfold sp_both_of
  refine ⟨x, y, xs.map ra, ys.map rb, rfl, by rw [List.map_map]; exact hx, by rw [List.map_map]; exact hy, by rw [List.length_map]; exact l, ⟨fun r hr => ?_, fun r hr => ?_⟩, fun H' L k h => q H' L k ?_⟩
  · obtain ⟨a, ha, rfl⟩ := List.mem_map.mp hr
    exact n1 a ha
  · obtain ⟨a, ha, rfl⟩ := List.mem_map.mp hr
    exact n2 a ha
  · rw [bothF_map, List.map_map] at h
    exact h
theorem len_gone_into : ∀ vs H Q E, sp_gone_into K vs H Q E → vs.length = ["old", "new", "pair"].length := by
  intro _ _ _ _ h
  unfold sp_gone_into at h
  obtain ⟨_, _, _, _, _, _, rfl, _⟩ := h
  rfl
theorem word_dp {x : V} {s : Srt} (h : Dp K H x (srtD s)) : Dp K H x (.tuple (.str (wrd s) :: tl s)) := srtD_eq s ▸ h
end
theorem wrd_ne {s t : Srt} (h : wnum s ≠ wnum t) : wrd s ≠ wrd t := fun e => by
  have := wrd_num s t
  rw [decide_eq_true e, decide_eq_false h] at this
  cases this
theorem into_unlike {m m' : SM} {s t : Srt} (h : wnum s ≠ wnum t) (h1 : wnum s ≠ 4) (h2 : wnum t ≠ 4) : intoF m m' s t = [] := by
  cases s <;> cases t <;> first | rfl | exact absurd rfl h | exact absurd rfl h1 | exact absurd rfl h2
def isM : Srt → Bool
  | .maybe _ => true
  | _ => false
theorem not_maybe {s : Srt} (h : wnum s ≠ 4) : ¬ wrd s = "maybe" := fun e => h (wstr_inj _ (wnum_lt s) 4 (by decide) (by rw [← wrd_eq]; exact e))
theorem into_sm {m m' : SM} {s t : Srt} (h : wnum t ≠ 4) : intoF m m' (.maybe s) t = [([insD], (s, t))] := by
  cases t <;> first | rfl | exact absurd rfl h
theorem into_mt {m m' : SM} {s t : Srt} (h : wnum s ≠ 4) : intoF m m' s (.maybe t) = [([], (s, t))] := by
  cases s <;> first | rfl | exact absurd rfl h
theorem both_len {α β : Type} {na : α → Int} {nb : β → Int} {xs : List α} {ys : List β} : (bothF na nb xs ys).length ≤ xs.length := List.length_filterMap_le _ _
def cTwo (q : PC × PC) : Bool := q.1.s.isSome && q.2.s.isSome
def cDat (q : PC × PC) : PyData := .tuple [q.1.raw.dat, q.2.raw.dat]
def fDat (q : PF × PF) : PyData := .tuple [q.1.raw.dat, q.2.raw.dat]
theorem cInto_of {q : PC × PC} {s t : Srt} (h1 : q.1.s = some s) (h2 : q.2.s = some t) : cInto q = some ([.tuple [.str "case", .str q.2.name]], (s, t)) := by
  obtain ⟨⟨n, z, a⟩, n', z', b⟩ := q
  cases h1
  cases h2
  rfl
theorem cInto_no {q : PC × PC} (h : cTwo q = false) : cInto q = none := by
  obtain ⟨⟨n, z, a⟩, n', z', b⟩ := q
  cases a <;> cases b <;> first | rfl | cases h
theorem m_of : ∀ {s : Srt}, wnum s = 4 → ∃ s', s = .maybe s'
  | .maybe s, _ => ⟨s, rfl⟩
/-- what two kinds lead to -/
def intoN (m m' : SM) : Srt → Srt → List (List PyData × Pr)
  | .node k, .node k' => (both m m' k k').map fun q => ([.str q.2.name], (q.1.s, q.2.s))
  | _, _ => []
def intoC (m m' : SM) : Srt → Srt → List (List PyData × Pr)
  | .pick k, .pick k' => (bothC m m' k k').filterMap cInto
  | .node k, .node k' => (both m m' k k').map fun q => ([.str q.2.name], (q.1.s, q.2.s))
  | _, _ => []
def oDat (q : List PyData × Pr) : PyData := .tuple [.tuple q.1, prD q.2]
theorem into_b1 (K : PySem.W.Frag) (C : Addr) (O : Own K C) {H : Hp} {Q : VK} {E : XK} {a b : Addr} {x u v : V} {m m' : SM} {s t : Srt} (sa : SV K H a m) (sb : SV K H b m') (wa : m.wf) (wb : m'.wf) (hu : Dp K H u (srtD s)) (hv : Dp K H v (srtD t)) (is : SIn m s) (it : SIn m' t) (w : wnum s = wnum t)
    (q : ∀ H' L, Kp [] H H' → H L = none → LsD K H' L ((intoN m m' s t).map oDat) → Q (.ref L) H') : b_gone_into_1 K C { nx := fun _ H' => Q .non H', rt := Q } [some (.ref a), some (.ref b), some x, some u, some v, none, none, none] H := by
  unfold b_gone_into_1
  by_cases n5 : wnum s = 5
  · cases s <;> try cases n5
    rename_i k
    cases t <;> try cases w
    rename_i k'
    have hu2 : Dp K H u (.tuple [.str "node", .str k]) := hu
    have hv2 : Dp K H v (.tuple [.str "node", .str k']) := hv
    have mk : (m.kinds.lookup k).isSome = true := is.1
    have mk' : (m'.kinds.lookup k').isSome = true := it.1
    clear hu hv
    walk_at "go"
    refine fields_go sa mk fun y1 d1 => ?_
    walk_at "go"
    refine fields_go sb mk' fun y2 d2 => ?_
    walk_at "go"
    refine both_go (ra := PF.raw) (rb := PF.raw) d1 d2 (wa.kl _ (kind_mem mk)) (noLs_raw wa mk) (noLs_raw wb mk') fun H1 L k1 ⟨us, hL, hd⟩ => ?_
    have el : us.length = (both m m' k k').length := by rw [dpAll_len hd, List.length_map]; rfl
    have le : (both m m' k k').length ≤ 100 := Nat.le_trans both_len (wa.kl _ (kind_mem mk))
    walk_at "go"
    refine ⟨⟨us, SqL.of hL⟩, ?_⟩
    intro D nD
    refine lc_dat (K := K) (f := fun q : PF × PF => some (.tuple [.tuple [.str q.2.name], prD (q.1.s, q.2.s)])) (as := both m m' k k') (walk_list (xs := us)) nD el (by omega) (fun q hq d e => ?_) (fun H' k => SqL.of (k _ _ List.not_mem_nil hL)) (fun i q z Hc eq ez kc Py Pn py pn => ?_) (fun H2 k2 ld => ?_)
    · cases e
      show (true && (noL (prD _) && true)) = true
      rw [noL_pr]
      rfl
    · obtain ⟨d, ed, dz⟩ := dpAll_ix hd ez
      rw [List.getElem?_map, show (bothF (fun a => (PF.raw a).1) (fun b => (PF.raw b).1) (m.kind k) (m'.kind k'))[i]? = some q from eq] at ed
      cases ed
      have dz := dp_kp0 kc dz
      refine gTupD_go dz rfl fun vs dvs => ?_
      cases dvs with
      | cons da dvs =>
      cases dvs with
      | cons db dvs =>
      cases dvs
      rename_i va vb
      have da' : Dp K Hc va (.tuple (.int q.1.num :: ([.str q.1.name, srtD q.1.s] ++ q.1.d.toList))) := da
      have db' : Dp K Hc vb (.tuple (.int q.2.num :: ([.str q.2.name, srtD q.2.s] ++ q.2.d.toList))) := db
      clear da db dz hd ez
      walk_at "go"
      rename_i p1 n1 y1 e1 y2 e2 p2 n2 p3 n3
      refine py _ _ _ rfl (by walk_at "kp") ?_
      show Dp K _ _ (.tuple [.tuple [.str q.2.name], .tuple [srtD q.1.s, srtD q.2.s]])
      walk_at "dp"
    · refine q _ _ (k1.trans k2) (k1.none_of List.not_mem_nil nD) ?_
      have e : (intoN m m' (.node k) (.node k')).map oDat = (both m m' k k').filterMap fun q : PF × PF => some (PyData.tuple [.tuple [.str q.2.name], prD (q.1.s, q.2.s)]) := by
        show ((both m m' k k').map fun q => ([PyData.str q.2.name], (q.1.s, q.2.s))).map oDat = _
        rw [List.map_map, List.filterMap_eq_map']
        rfl
      rw [e]
      exact ld
  · have hu' := word_dp hu
    have e : intoN m m' s t = [] := by cases s <;> first | rfl | exact absurd rfl n5
    have nn : ¬ wrd s = "node" := fun e => n5 (wstr_inj _ (wnum_lt s) 5 (by decide) (by rw [← wrd_eq]; exact e))
    clear hu
    walk_at "go"
    rename_i L nL
    exact q _ _ (by walk_at "kp") nL ⟨_, upd_same, by rw [e]; exact .nil⟩
theorem into_b0 (K : PySem.W.Frag) (C : Addr) (O : Own K C) {H : Hp} {Q : VK} {E : XK} {a b : Addr} {x u v : V} {m m' : SM} {s t : Srt} (sa : SV K H a m) (sb : SV K H b m') (wa : m.wf) (wb : m'.wf) (hu : Dp K H u (srtD s)) (hv : Dp K H v (srtD t)) (is : SIn m s) (it : SIn m' t) (w : wnum s = wnum t)
    (q : ∀ H' L, Kp [] H H' → H L = none → LsD K H' L ((intoC m m' s t).map oDat) → Q (.ref L) H') : b_gone_into_0 K C { nx := fun _ H' => Q .non H', rt := Q } [some (.ref a), some (.ref b), some x, some u, some v, none, none, none] H := by
  unfold b_gone_into_0
  by_cases n6 : wnum s = 6
  · cases s <;> try cases n6
    rename_i k
    cases t <;> try cases w
    rename_i k'
    have hu2 : Dp K H u (.tuple [.str "choice", .str k]) := hu
    have hv2 : Dp K H v (.tuple [.str "choice", .str k']) := hv
    have mk : (m.picks.lookup k).isSome = true := is.1
    have mk' : (m'.picks.lookup k').isSome = true := it.1
    clear hu hv
    walk_at "go"
    refine cases_go sa mk fun y1 d1 => ?_
    walk_at "go"
    refine cases_go sb mk' fun y2 d2 => ?_
    walk_at "go"
    refine both_go (ra := PC.raw) (rb := PC.raw) d1 d2 (wa.cl _ (pick_mem mk)) (noLs_rawC mk) (noLs_rawC mk') fun H1 L k1 ⟨us, hL, hd⟩ => ?_
    have el : us.length = (bothC m m' k k').length := by rw [dpAll_len hd, List.length_map]; rfl
    have le : (bothC m m' k k').length ≤ 100 := Nat.le_trans both_len (wa.cl _ (pick_mem mk))
    walk_at "go"
    refine ⟨⟨us, SqL.of hL⟩, ?_⟩
    intro D nD
    refine lc_dat (K := K) (f := fun q => if cTwo q then some (cDat q) else none) (as := bothC m m' k k') (walk_list (xs := us)) nD el (by omega) (fun q hq d e => ?_) (fun H' k => SqL.of (k _ _ List.not_mem_nil hL)) (fun i q z Hc eq ez kc Py Pn py pn => ?_) (fun H2 k2 ⟨ws, hD, hw⟩ => ?_)
    · by_cases c : cTwo q
      · rw [if_pos c] at e
        cases e
        obtain ⟨m1, m2, _⟩ := bothF_mem hq
        show (noL q.1.raw.dat && (noL q.2.raw.dat && true)) = true
        rw [show noL q.1.raw.dat = (true && noLs q.1.raw.2) from rfl, show noL q.2.raw.dat = (true && noLs q.2.raw.2) from rfl, noLs_rawC mk _ m1, noLs_rawC mk' _ m2]
        rfl
      · rw [if_neg c] at e
        cases e
    · obtain ⟨d, ed, dz⟩ := dpAll_ix hd ez
      rw [List.getElem?_map, show (bothF (fun a => (PC.raw a).1) (fun b => (PC.raw b).1) (m.pick k) (m'.pick k'))[i]? = some q from eq] at ed
      cases ed
      have dz := dp_kp0 kc dz
      refine gTupD_go dz rfl fun vs dvs => ?_
      cases dvs with
      | cons da dvs =>
      cases dvs with
      | cons db dvs =>
      cases dvs
      rename_i va vb
      obtain ⟨⟨n1, z1, o1⟩, n2, z2, o2⟩ := q
      have da' : Dp K Hc va (.tuple [.int n1, .str z1, osD o1]) := da
      have db' : Dp K Hc vb (.tuple [.int n2, .str z2, osD o2]) := db
      clear da db dz hd ez
      cases o1 with
      | none =>
        have da2 : Dp K Hc va (.tuple [.int n1, .str z1, .none]) := da'
        clear da'
        walk_at "go"
        exact pn _ rfl Kp.refl
      | some s =>
        have da2 : Dp K Hc va (.tuple [.int n1, .str z1, srtD s]) := da'
        clear da'
        cases o2 with
        | none =>
          have db2 : Dp K Hc vb (.tuple [.int n2, .str z2, .none]) := db'
          clear db'
          walk_at "go"
          exact pn _ rfl Kp.refl
        | some t =>
          have db2 : Dp K Hc vb (.tuple [.int n2, .str z2, srtD t]) := db'
          clear db'
          walk_at "go"
          rename_i p np
          refine py _ _ _ rfl (by walk_at "kp") ?_
          show Dp K _ _ (.tuple [.tuple [.int n1, .str z1, srtD s], .tuple [.int n2, .str z2, srtD t]])
          walk_at "dp"
    · have k02 := k1.trans k2
      have e2 : (bothC m m' k k').filterMap (fun q => if cTwo q then some (cDat q) else none) = ((bothC m m' k k').filter cTwo).map cDat := by
        rw [← List.filterMap_eq_map', List.filterMap_filter]
      rw [e2] at hw
      have hm : ∀ q ∈ (bothC m m' k k').filter cTwo, cTwo q = true := fun q h => (List.mem_filter.mp h).2
      have el2 : ws.length = ((bothC m m' k k').filter cTwo).length := by rw [dpAll_len hw, List.length_map]
      have le2 : ((bothC m m' k k').filter cTwo).length ≤ 100 := Nat.le_trans (List.length_filter_le _ _) le
      have e3 : (intoC m m' (.pick k) (.pick k')).map oDat = ((bothC m m' k k').filter cTwo).filterMap fun q => (cInto q).map oDat := by
        show ((bothC m m' k k').filterMap cInto).map oDat = _
        rw [List.map_filterMap, List.filterMap_filter]
        congr 1
        funext q
        by_cases c : cTwo q
        · rw [if_pos c]
        · rw [if_neg c, cInto_no (by simpa using c)]
          rfl
      generalize (bothC m m' k k').filter cTwo = as at hw hm el2 le2 e3
      walk_at "go"
      refine ⟨⟨ws, SqL.of hD⟩, ?_⟩
      intro D2 nD2
      refine lc_dat (K := K) (f := fun q => (cInto q).map oDat) (as := as) (walk_list (xs := ws)) nD2 el2 (by omega) (fun q hq d e => ?_) (fun H' k => SqL.of (k _ _ List.not_mem_nil hD)) (fun i q z Hc eq ez kc Py Pn py pn => ?_) (fun H3 k3 ld => ?_)
      · obtain ⟨r, hr, rfl⟩ := Option.map_eq_some_iff.mp e
        obtain ⟨⟨n1, z1, o1⟩, n2, z2, o2⟩ := q
        cases o1 <;> cases o2 <;> try cases hr
        show ((true && (true && true)) && true && (noL (prD _) && true)) = true
        rw [noL_pr]
        rfl
      · obtain ⟨d, ed, dz⟩ := dpAll_ix hw ez
        rw [List.getElem?_map, eq] at ed
        cases ed
        have c := hm q (List.mem_of_getElem? eq)
        have dz := dp_kp0 kc dz
        refine gTupD_go dz rfl fun vs dvs => ?_
        cases dvs with
        | cons da dvs =>
        cases dvs with
        | cons db dvs =>
        cases dvs
        rename_i va vb
        obtain ⟨⟨n1, z1, o1⟩, n2, z2, o2⟩ := q
        cases o1 with
        | none => cases c
        | some s =>
          cases o2 with
          | none => cases c
          | some t =>
            have da2 : Dp K Hc va (.tuple [.int n1, .str z1, srtD s]) := da
            have db2 : Dp K Hc vb (.tuple [.int n2, .str z2, srtD t]) := db
            clear da db dz
            walk_at "go"
            rename_i p0 n0 p1 n1 y1 e1 y2 e2 p2 n2 p3 n3
            refine py _ _ _ rfl (by walk_at "kp") ?_
            show Dp K _ _ (.tuple [.tuple [.tuple [.str "case", .str z2]], .tuple [srtD s, srtD t]])
            walk_at "dp"
      · refine q _ _ (k02.trans k3) (k02.none_of List.not_mem_nil nD2) ?_
        rw [e3]
        exact ld
  · have hu' := word_dp hu
    have e : intoC m m' s t = intoN m m' s t := by
      cases s <;> cases t <;> first | rfl | (cases n6 rfl)
    have nn : ¬ wrd s = "choice" := fun e => n6 (wstr_inj _ (wnum_lt s) 6 (by decide) (by rw [← wrd_eq]; exact e))
    walk_at "go"
    exact into_b1 K C O (E := E) sa sb wa wb hu hv is it w (by rw [← e]; exact q)
end K02

-- imports: QS1 QS2 QS3 QM1 QM2 QM3 QM4
/-! ## meeting: what a pair leads to, whole -/
namespace K02
open PySem PySem.Spec PyProof.Rows L2 Kb
theorem r_of : ∀ {s : Srt}, wnum s = 3 → ∃ n s', s = .row n s'
  | .row n s, _ => ⟨n, s, rfl⟩
theorem p_gone_into (K : PySem.W.Frag) (C : Addr) (O : Own K C) (vs : List V) (H : Hp) (Q : VK) (E : XK) (h : sp_gone_into K vs H Q E) : t_gone_into K C { nx := fun _ H' => Q .non H', rt := Q } (start ["old", "new", "pair", "mine", "yours", "both", "one", "two"] vs) H := by
  unfold sp_gone_into at h
  obtain ⟨a, b, x, m, m', ⟨s, t⟩, rfl, sa, sb, wa, wb, hx, is, it, q⟩ := h
  have gi : SqT K H (cAt K "INSIDE") [.str "inside"] := O.gt_INSIDE.sqT
  obtain ⟨xa, xs, rfl, hxa, hxd⟩ := dp_tup hx
  cases hxd with
  | cons hu h2 =>
  cases h2 with
  | cons hv h3 =>
  cases h3
  rename_i u v
  unfold t_gone_into
  have fin : ∀ {H' : Hp} {L : Addr} {ds : List PyData}, (intoF m m' s t).map (fun q => .tuple [.tuple q.1, prD q.2]) = ds → Kp [] H H' → H L = none → LsD K H' L ds → Q (.ref L) H' := fun e k n l => q _ _ k n (e ▸ l)
  have di : Dp K H (.ref (cAt K "INSIDE")) insD := .tup gi (.cons (.str _) .nil)
  by_cases ms : wnum s = 4
  · obtain ⟨s, rfl⟩ := m_of ms
    have hu' : Dp K H u (.tuple [.str "maybe", srtD s]) := hu
    by_cases mt : wnum t = 4
    · obtain ⟨t, rfl⟩ := m_of mt
      have hv' : Dp K H v (.tuple [.str "maybe", srtD t]) := hv
      walk_at "go"
      rename_i p1 n1 y1 d1 y2 d2 p2 n2 p3 n3 p4 n4
      refine fin (ds := [.tuple [.tuple [insD], .tuple [srtD s, srtD t]]]) rfl (by walk_at "kp") (by walk_at "no") ⟨_, upd_same, ?_⟩
      walk_at "da"
    · have hv' := word_dp hv
      have nt := not_maybe mt
      walk_at "go"
      rename_i p1 n1 y1 d1 p2 n2 p3 n3 p4 n4
      refine fin (ds := [.tuple [.tuple [insD], .tuple [srtD s, srtD t]]]) (by rw [into_sm mt]; rfl) (by walk_at "kp") (by walk_at "no") ⟨_, upd_same, ?_⟩
      walk_at "da"
  · have hu' := word_dp hu
    have ns := not_maybe ms
    by_cases mt : wnum t = 4
    · obtain ⟨t, rfl⟩ := m_of mt
      have hv' : Dp K H v (.tuple [.str "maybe", srtD t]) := hv
      walk_at "go"
      rename_i p0 n0 y1 d1 p2 n2 p3 n3 p4 n4
      refine fin (ds := [.tuple [.tuple [], .tuple [srtD s, srtD t]]]) (by rw [into_mt ms]; rfl) (by walk_at "kp") (by walk_at "no") ⟨_, upd_same, ?_⟩
      walk_at "da"
    · have hv' := word_dp hv
      have nt := not_maybe mt
      have tail : ∀ {H' : Hp} (_ : Kp [] H H'), wnum s = wnum t → (intoF m m' s t) = intoC m m' s t → b_gone_into_0 K C { nx := fun _ H' => Q .non H', rt := Q } [some (.ref a), some (.ref b), some (.ref xa), some u, some v, none, none, none] H' := fun k w e => into_b0 K C O (E := E) (sa.kp0 k) (sb.kp0 k) wa wb (dp_kp0 k hu) (dp_kp0 k hv) is it w fun H1 L k1 nL ld => q _ _ (k.trans k1) (k.none_of List.not_mem_nil nL) (by rw [e]; exact ld)
      by_cases w : wnum s = wnum t
      · have ew : wrd s = wrd t := by rw [wrd_eq, wrd_eq, w]
        by_cases n3 : wnum s = 3
        · obtain ⟨n1, s, rfl⟩ := r_of n3
          obtain ⟨n2, t, rfl⟩ := r_of (w.symm.trans n3)
          have hu2 : Dp K H u (.tuple [.str "row", .int n1, srtD s]) := hu
          have hv2 : Dp K H v (.tuple [.str "row", .int n2, srtD t]) := hv
          have er : intoF m m' (.row n1 s) (.row n2 t) = if 0 < n1 ∧ 0 < n2 then [([.int 0], (s, t))] else [] := rfl
          walk_at "go"
          · rename_i g1 g2 p0 n0 y1 e1 y2 e2 p2 n2 p3 n3 p4 n4
            refine fin (ds := [.tuple [.tuple [.int 0], .tuple [srtD s, srtD t]]]) (by rw [er, if_pos ⟨g1, g2⟩]; rfl) (by walk_at "kp") (by walk_at "no") ⟨_, upd_same, ?_⟩
            walk_at "da"
          · rename_i g1 g2
            exact tail Kp.refl w (by rw [er, if_neg fun h => g2 h.2]; rfl)
          · rename_i g1
            exact tail Kp.refl w (by rw [er, if_neg fun h => g1 h.1]; rfl)
        · have nr : ¬ wrd s = "row" := fun e => n3 (wstr_inj _ (wnum_lt s) 3 (by decide) (by rw [← wrd_eq]; exact e))
          have ei : intoF m m' s t = intoC m m' s t := by
            cases s <;> cases t <;> first | rfl | exact absurd rfl ms | exact absurd rfl mt | exact absurd rfl n3 | (exact absurd w (by simp [wnum]))
          rw [← ew] at hv'
          walk_at "go"
          exact tail Kp.refl w ei
      · have nw := wrd_ne w
        walk_at "go"
        rename_i L nL
        exact fin (ds := []) (by rw [into_unlike w ms mt]; rfl) (by walk_at "kp") (by walk_at "no") ⟨_, upd_same, .nil⟩
end K02

-- imports: QS1 QS2 QS3 QM1 QM2 QM3 QM4
/-! ## meeting: all that is met, plain -/
namespace K02
open PySem PySem.Spec PyProof.Rows L2 Kb
structure Inv0 (U acc acc' : List Pr) : Prop where
  nd : acc'.Nodup
  sub : ∀ q ∈ acc', q ∈ U
  ext : ∃ more, acc' = acc ++ more
theorem walk_inv {m m' : SM} {U : List Pr} (clo : Clo m m' U) : ∀ (n : Nat) {acc : List Pr} {p : Pr}, acc.Nodup → (∀ q ∈ acc, q ∈ U) → p ∈ U → Inv0 U acc (walkF m m' n acc p)
  | 0, acc, p, nd, sub, hp => ⟨nd, sub, [], (List.append_nil _).symm⟩
  | n + 1, acc, p, nd, sub, hp => by
    unfold walkF
    by_cases h : p ∈ acc
    · rw [if_pos h]
      exact ⟨nd, sub, [], (List.append_nil _).symm⟩
    · rw [if_neg h]
      have go : ∀ (qs : List Pr) (a : List Pr), (∀ q ∈ qs, q ∈ U) → Inv0 U acc a → Inv0 U acc (qs.foldl (walkF m m' n) a) := fun qs => by
        induction qs with
        | nil => exact fun a _ h => h
        | cons q qs ih =>
          intro a hq i
          have j := walk_inv clo n i.nd i.sub (hq q List.mem_cons_self)
          obtain ⟨x, ex⟩ := i.ext
          obtain ⟨y, ey⟩ := j.ext
          exact ih _ (fun r hr => hq r (List.mem_cons_of_mem _ hr)) ⟨j.nd, j.sub, x ++ y, by rw [ey, ex, List.append_assoc]⟩
      refine go _ _ (fun q hq => clo.to p hp q hq) ⟨?_, fun q hq => ?_, [p], rfl⟩
      · rw [List.nodup_append]
        refine ⟨nd, by simp, fun a ha b hb => ?_⟩
        rw [List.mem_singleton.mp hb]
        exact fun e => h (e ▸ ha)
      · rcases List.mem_append.mp hq with hq | hq
        · exact sub q hq
        · rw [List.mem_singleton.mp hq]
          exact hp
theorem fold_inv {m m' : SM} {U : List Pr} (clo : Clo m m' U) (n : Nat) {acc : List Pr} : ∀ (qs : List Pr) {a : List Pr}, (∀ q ∈ qs, q ∈ U) → Inv0 U acc a → Inv0 U acc (qs.foldl (walkF m m' n) a)
  | [], a, _, h => h
  | q :: qs, a, hq, i => by
    have j := walk_inv clo n i.nd i.sub (hq q List.mem_cons_self)
    obtain ⟨x, ex⟩ := i.ext
    obtain ⟨y, ey⟩ := j.ext
    exact fold_inv clo n qs (fun r hr => hq r (List.mem_cons_of_mem _ hr)) ⟨j.nd, j.sub, x ++ y, by rw [ey, ex, List.append_assoc]⟩
theorem sub_length {U acc : List Pr} (nd : acc.Nodup) (sub : ∀ q ∈ acc, q ∈ U) : acc.length ≤ U.length := by
  induction acc generalizing U with
  | nil => exact Nat.zero_le _
  | cons p acc ih =>
    rw [List.nodup_cons] at nd
    have hp := sub p List.mem_cons_self
    have := ih nd.2 (U := U.erase p) fun q hq => (List.mem_erase_of_ne fun e => nd.1 (by rw [← e]; exact hq)).mpr (sub q (List.mem_cons_of_mem _ hq))
    rw [List.length_erase_of_mem hp] at this
    have : 0 < U.length := List.length_pos_of_mem hp
    show acc.length + 1 ≤ U.length
    omega
theorem more_than {U acc : List Pr} {p : Pr} (nd : acc.Nodup) (sub : ∀ q ∈ acc, q ∈ U) (hp : p ∈ U) (h : p ∉ acc) : acc.length < U.length := by
  have := sub_length (U := U) (acc := p :: acc) (List.nodup_cons.mpr ⟨h, nd⟩) fun q hq => by
    rcases List.mem_cons.mp hq with rfl | hq
    · exact hp
    · exact sub q hq
  exact this
/-- each pair that was met newly leads to what was met -/
theorem walk_clo {m m' : SM} {U : List Pr} (clo : Clo m m' U) : ∀ (n : Nat) {acc : List Pr} {p : Pr}, acc.Nodup → (∀ q ∈ acc, q ∈ U) → p ∈ U → U.length ≤ acc.length + n → 0 < n →
    p ∈ walkF m m' n acc p ∧ ∀ q ∈ walkF m m' n acc p, q ∈ acc ∨ ∀ r ∈ intoP m m' q, r ∈ walkF m m' n acc p
  | 0, _, _, _, _, _, _, h => absurd h (Nat.lt_irrefl _)
  | n + 1, acc, p, nd, sub, hp, few, _ => by
    unfold walkF
    by_cases h : p ∈ acc
    · rw [if_pos h]
      exact ⟨h, fun q hq => .inl hq⟩
    · rw [if_neg h]
      have lt := more_than nd sub hp h
      have n0 : 0 < n ∨ U.length = acc.length + 1 := by omega
      have i0 : Inv0 U acc (acc ++ [p]) := by
        refine ⟨?_, fun q hq => ?_, [p], rfl⟩
        · rw [List.nodup_append]
          refine ⟨nd, by simp, fun a ha b hb => ?_⟩
          rw [List.mem_singleton.mp hb]
          exact fun e => h (e ▸ ha)
        · rcases List.mem_append.mp hq with hq | hq
          · exact sub q hq
          · rw [List.mem_singleton.mp hq]
            exact hp
      -- all of qs is met, and what is met newly leads to what is met
      have go : ∀ (qs : List Pr) (a : List Pr), (∀ q ∈ qs, q ∈ U) → Inv0 U acc a → acc.length + 1 ≤ a.length → (∀ q ∈ qs, q ∈ qs.foldl (walkF m m' n) a) ∧ (∀ q ∈ a, q ∈ qs.foldl (walkF m m' n) a) ∧ ∀ q ∈ qs.foldl (walkF m m' n) a, q ∈ a ∨ ∀ r ∈ intoP m m' q, r ∈ qs.foldl (walkF m m' n) a := fun qs => by
        induction qs with
        | nil => exact fun a _ _ _ => ⟨(fun q hq => nomatch hq), fun q hq => hq, fun q hq => .inl hq⟩
        | cons q qs ih =>
          intro a hq i la
          have hqU := hq q List.mem_cons_self
          have j := walk_inv clo n i.nd i.sub hqU
          obtain ⟨x, ex⟩ := i.ext
          obtain ⟨y, ey⟩ := j.ext
          have ja : Inv0 U acc (walkF m m' n a q) := ⟨j.nd, j.sub, x ++ y, by rw [ey, ex, List.append_assoc]⟩
          have key : q ∈ walkF m m' n a q ∧ ∀ r ∈ walkF m m' n a q, r ∈ a ∨ ∀ s ∈ intoP m m' r, s ∈ walkF m m' n a q := by
            rcases n0 with n0 | full
            · exact walk_clo clo n i.nd i.sub hqU (by omega) n0
            · have ha : q ∈ a := by
                by_cases g : q ∈ a
                · exact g
                · have := more_than i.nd i.sub hqU g
                  omega
              have e : walkF m m' n a q = a := by
                cases n with
                | zero => rfl
                | succ n => unfold walkF; rw [if_pos ha]
              rw [e]
              exact ⟨ha, fun r hr => .inl hr⟩
          have la' : acc.length + 1 ≤ (walkF m m' n a q).length := by rw [ey, List.length_append]; omega
          obtain ⟨h1, h2, h3⟩ := ih _ (fun r hr => hq r (List.mem_cons_of_mem _ hr)) ja la'
          have up : ∀ r ∈ a, r ∈ walkF m m' n a q := fun r hr => by rw [ey]; exact List.mem_append_left _ hr
          refine ⟨fun r hr => ?_, fun r hr => h2 r (up r hr), fun r hr => ?_⟩
          · rcases List.mem_cons.mp hr with rfl | hr
            · exact h2 _ key.1
            · exact h1 r hr
          · rcases h3 r hr with g | g
            · rcases key.2 r g with g | g
              · exact .inl g
              · exact .inr fun s hs => h2 s (g s hs)
            · exact .inr g
      obtain ⟨h1, h2, h3⟩ := go (intoP m m' p) (acc ++ [p]) (fun q hq => clo.to p hp q hq) i0 (by simp)
      refine ⟨h2 p (by simp), fun q hq => ?_⟩
      rcases h3 q hq with g | g
      · rcases List.mem_append.mp g with g | g
        · exact .inl g
        · rw [List.mem_singleton.mp g]
          exact .inr h1
      · exact .inr g
structure PsOk (m m' : SM) (U ps : List Pr) : Prop where
  nd : ps.Nodup
  sub : ∀ q ∈ ps, q ∈ U
  to : ∀ q ∈ ps, ∀ r ∈ intoP m m' q, r ∈ ps
  top : (m.root, m'.root) ∈ ps
theorem pairs_ok {m m' : SM} {U : List Pr} (M : Met m m' U) : PsOk m m' U (pairsF m m') := by
  have i := walk_inv M.clo NN (acc := []) List.nodup_nil (fun q h => nomatch h) M.top
  have c := walk_clo M.clo NN (acc := []) List.nodup_nil (fun q h => nomatch h) M.top (by have := M.few; show _ ≤ 0 + NN; omega) (by decide)
  exact ⟨i.nd, i.sub, fun q hq => (c.2 q hq).elim (fun h => nomatch h) id, c.1⟩
theorem pairs_l {m m' : SM} {U : List Pr} (M : Met m m' U) : ∀ q ∈ pairsF m m', SIn m q.1 ∧ SIn m' q.2 := fun q hq => ⟨M.clo.l q ((pairs_ok M).sub q hq), M.clo.r q ((pairs_ok M).sub q hq)⟩
theorem pairs_few {m m' : SM} {U : List Pr} (M : Met m m' U) : (pairsF m m').length < NN := Nat.lt_of_le_of_lt (sub_length (pairs_ok M).nd (pairs_ok M).sub) M.few
theorem into_noL {m m' : SM} {s t : Srt} : ∀ q ∈ intoF m m' s t, noLs q.1 = true := by
  have h1 : ∀ q ∈ intoC m m' s t, noLs q.1 = true := by
    cases s <;> cases t <;> first
      | (intro q h; cases h; done)
      | skip
    · intro q h
      obtain ⟨r, _, rfl⟩ := List.mem_map.mp h
      rfl
    · intro q h
      obtain ⟨⟨⟨n1, z1, o1⟩, n2, z2, o2⟩, _, e⟩ := List.mem_filterMap.mp h
      cases o1 <;> cases o2 <;> cases e
      rfl
  have one : ∀ {q : List PyData × Pr} {st : List PyData} {p : Pr}, noLs st = true → q ∈ [(st, p)] → noLs q.1 = true := fun h m => by rw [List.mem_singleton.mp m]; exact h
  intro q h
  by_cases c : ∃ n s' n' t', s = .row n s' ∧ t = .row n' t'
  · obtain ⟨n, s', n', t', rfl, rfl⟩ := c
    have h' : q ∈ (if 0 < n ∧ 0 < n' then [(([.int 0], (s', t')) : List PyData × Pr)] else []) := h
    by_cases g : 0 < n ∧ 0 < n'
    · rw [if_pos g] at h'
      exact one rfl h'
    · rw [if_neg g] at h'
      cases h'
  · cases s <;> cases t <;> first
      | exact one rfl h
      | exact h1 q h
      | exact absurd ⟨_, _, _, _, rfl, rfl⟩ c
end K02

-- imports: QS1 QS2 QS3 QM1 QM2 QM3 QM4 QM5 QM6
/-! ## meeting: the walk -/
namespace K02
open PySem PySem.Spec PyProof.Rows L2 Kb
section
variable {K : PySem.W.Frag} {H H' : Hp} {Q : VK} {E : XK}
theorem into_go {a b : Addr} {x : V} {m m' : SM} {p : Pr} (sa : SV K H a m) (sb : SV K H b m') (wa : m.wf) (wb : m'.wf) (hx : Dp K H x (prD p)) (i1 : SIn m p.1) (i2 : SIn m' p.2) (q : ∀ H' L, Kp [] H H' → H L = none → LsD K H' L ((intoF m m' p.1 p.2).map fun q => .tuple [.tuple q.1, prD q.2]) → Q (.ref L) H') : sp_gone_into K [.ref a, .ref b, x] H Q E := by
  unfold sp_gone_into
  exact ⟨a, b, x, m, m', p, rfl, sa, sb, wa, wb, hx, i1, i2, q⟩
theorem no_Walk_meet {vs : List V} (h : sp_Walk_meet K 0 vs H Q E) : False := by
  unfold sp_Walk_meet at h
  exact h
theorem len_Walk_meet (n : Nat) : ∀ vs H Q E, sp_Walk_meet K (n + 1) vs H Q E → vs.length = ["self", "pair", "chain"].length := by
  intro _ _ _ _ h
  unfold sp_Walk_meet at h
  obtain ⟨_, _, _, _, _, _, _, _, _, _, _, _, _, rfl, _⟩ := h
  rfl
theorem len_Walk___init__ : ∀ vs H Q E, sp_Walk___init__ K vs H Q E → vs.length = ["self", "old", "new"].length := by
  intro _ _ _ _ h
  unfold sp_Walk___init__ at h
  obtain ⟨_, _, _, _, _, _, _, rfl, _⟩ := h
  rfl
theorem len_all_pairs : ∀ vs H Q E, sp_all_pairs K vs H Q E → vs.length = ["old", "new"].length := by
  intro _ _ _ _ h
  unfold sp_all_pairs at h
  obtain ⟨_, _, _, _, _, rfl, _⟩ := h
  rfl
theorem LsD.noT {a : Addr} {ds : List PyData} (h : LsD K H a ds) : NoT H a ∧ (∀ kvs, H a ≠ some (.dK kvs)) ∧ ∀ dx D1 D2 r, H a ≠ some (.ins (cAt K "Schema") dx (schF D1 D2 r)) := by
  obtain ⟨xs, h, _⟩ := h
  exact ⟨noT_lst h, (fun kvs e => by rw [h] at e; cases e), fun dx D1 D2 r e => by rw [h] at e; cases e⟩
theorem lst_noT {a : Addr} {xs : List V} (h : H a = some (.lst xs)) : NoT H a ∧ (∀ kvs, H a ≠ some (.dK kvs)) ∧ ∀ dx D1 D2 r, H a ≠ some (.ins (cAt K "Schema") dx (schF D1 D2 r)) :=
  ⟨noT_lst h, (fun kvs e => by rw [h] at e; cases e), fun dx D1 D2 r e => by rw [h] at e; cases e⟩
theorem WkV.kp0 {w a b L1 L2 : Addr} {m m' : SM} {acc : List Pr} (h : WkV K H w a b L1 L2 m m' acc) (k : Kp [] H H') : WkV K H' w a b L1 L2 m m' acc := by
  obtain ⟨dx, hW⟩ := h.ex
  obtain ⟨ys, h2, l⟩ := h.cs
  exact ⟨⟨dx, k _ _ List.not_mem_nil hW⟩, h.sa.kp0 k, h.sb.kp0 k, h.ps.kp0 k, ⟨ys, k _ _ List.not_mem_nil h2, l⟩, h.ne⟩
theorem meet_go {n : Nat} {w : Addr} {x c : V} {a b L1 L2 : Addr} {m m' : SM} {p : Pr} {acc U : List Pr} {cd : List PyData} (hw : WkV K H w a b L1 L2 m m' acc) (M : Met m m' U) (nd : acc.Nodup) (sub : ∀ q ∈ acc, q ∈ U) (hp : p ∈ U) (few : U.length ≤ acc.length + n) (hx : Dp K H x (prD p)) (hc : Dp K H c (.tuple cd)) (nc : noLs cd = true) (lc : cd.length + n ≤ 1000)
    (q : ∀ H', Kp [L1, L2] H H' → WkV K H' w a b L1 L2 m m' (walkF m m' (n + 1) acc p) → Q .non H') : sp_Walk_meet K (n + 1) [.ref w, x, c] H Q E := by
  unfold sp_Walk_meet
  exact ⟨w, x, c, a, b, L1, L2, m, m', p, acc, U, cd, rfl, hw, M, nd, sub, hp, few, hx, hc, nc, lc, q⟩
end
theorem walkF_in {m m' : SM} {n : Nat} {acc : List Pr} {p : Pr} (h : p ∈ acc) : walkF m m' (n + 1) acc p = acc := by unfold walkF; rw [if_pos h]
theorem walkF_new {m m' : SM} {n : Nat} {acc : List Pr} {p : Pr} (h : p ∉ acc) : walkF m m' (n + 1) acc p = (intoP m m' p).foldl (walkF m m' n) (acc ++ [p]) := by
  show (if p ∈ acc then acc else _) = _
  rw [if_neg h]
theorem noLs_prs (ps : List Pr) : noLs (ps.map prD) = true := noLs_map (fun p => noL_pr p) ps
theorem p_Walk_meet (K : PySem.W.Frag) (C : Addr) (O : Own K C) (n : Nat) (vs : List V) (H : Hp) (Q : VK) (E : XK) (h : sp_Walk_meet K (n + 1) vs H Q E) : t_Walk_meet K C n { nx := fun _ H' => Q .non H', rt := Q } (start ["self", "pair", "chain", "at", "steps", "other"] vs) H := by
  unfold sp_Walk_meet at h
  obtain ⟨w, x, c, a, b, L1, L2, m, m', p, acc, U, cd, rfl, hw, M, nd, sub, hp, few, hx, hc, nc, lc, q⟩ := h
  obtain ⟨cl, n1, n2, n3, n4, _, _⟩ := O.Walk
  obtain ⟨dx, hW⟩ := hw.ex
  obtain ⟨ps, hL1, dps⟩ := hw.ps
  obtain ⟨ys, hL2, ly⟩ := hw.cs
  have ne := hw.ne
  have lU := M.few
  have la := sub_length nd sub
  have lps : ps.length ≤ 200 := by
    have e := dpAll_len dps
    rw [List.length_map] at e
    have : NN = 160 := rfl
    omega
  have lys : ys.length ≤ 200 := by
    have : NN = 160 := rfl
    omega
  have eps : ps.length = acc.length := by rw [dpAll_len dps, List.length_map]
  have w1 : w ≠ L1 := fun e => by rw [e, hL1] at hW; cases hW
  have w2 : w ≠ L2 := fun e => by rw [e, hL2] at hW; cases hW
  unfold t_Walk_meet
  walk_at "go"
  refine inD_go ⟨ps, .inl (SqL.of hL1), dps⟩ hx (lay_prs fun q hq => ⟨M.clo.l q (sub q hq), M.clo.r q (sub q hq)⟩) (shaped_pr (M.clo.l p hp) (M.clo.r p hp)) ?_
  rw [any_pr]
  walk_at "go"
  · rename_i hin
    refine q H Kp.refl ?_
    rw [walkF_in hin]
    exact hw
  · rename_i hin
    have k2 : Kp [L1, L2] H (upd (upd H L1 (.lst (ps ++ [x]))) L2 (.lst (ys ++ [c]))) := by walk_at "kp"
    have hW2 : (upd (upd H L1 (.lst (ps ++ [x]))) L2 (.lst (ys ++ [c]))) w = some (.ins (cAt K "Walk") dx [("old", .ref a), ("new", .ref b), ("pairs", .ref L1), ("chains", .ref L2)]) := k2 _ _ (nm_cons w1 (nm_cons w2 List.not_mem_nil)) hW
    have g1 : (upd (upd H L1 (.lst (ps ++ [x]))) L2 (.lst (ys ++ [c]))) L1 = some (.lst (ps ++ [x])) := (upd_ne ne).trans upd_same
    have g2 : (upd (upd H L1 (.lst (ps ++ [x]))) L2 (.lst (ys ++ [c]))) L2 = some (.lst (ys ++ [c])) := upd_same
    have nT : ∀ z ∈ [L1, L2], NoT H z ∧ (∀ kvs, H z ≠ some (.dK kvs)) ∧ ∀ dx D1 D2 r, H z ≠ some (.ins (cAt K "Schema") dx (schF D1 D2 r)) := mem2 (P := fun z => NoT H z ∧ (∀ kvs, H z ≠ some (.dK kvs)) ∧ ∀ dx D1 D2 r, H z ≠ some (.ins (cAt K "Schema") dx (schF D1 D2 r))) (lst_noT hL1) (lst_noT hL2)
    have sa2 := hw.sa.kpT M.a k2 nT
    have sb2 := hw.sb.kpT M.b k2 nT
    have hx2 := dp_kpT k2 (fun z m => (nT z m).1) (noL_pr p) hx
    have hc2 := dp_kpT k2 (fun z m => (nT z m).1) (d := .tuple cd) nc hc
    have dps2 := dpAll_kpT k2 (fun z m => (nT z m).1) (noLs_prs acc) dps
    generalize upd (upd H L1 (.lst (ps ++ [x]))) L2 (.lst (ys ++ [c])) = H2 at k2 hW2 g1 g2 sa2 sb2 hx2 hc2 dps2 ⊢
    walk_at "go"
    show sp_gone_into K [.ref a, .ref b, x] H2 _ _
    refine into_go sa2 sb2 M.a M.b hx2 (M.clo.l p hp) (M.clo.r p hp) fun H3 Lg k3 nLg ⟨zs, hLg, dzs⟩ => ?_
    have i0 : Inv0 U acc (acc ++ [p]) := by
      refine ⟨?_, fun q hq => ?_, [p], rfl⟩
      · rw [List.nodup_append]
        refine ⟨nd, by simp, fun a ha b hb => ?_⟩
        rw [List.mem_singleton.mp hb]
        exact fun e => hin (e ▸ ha)
      · rcases List.mem_append.mp hq with hq | hq
        · exact sub q hq
        · rw [List.mem_singleton.mp hq]
          exact hp
    have lt := more_than nd sub hp hin
    have noi := into_noL (m := m) (m' := m') (s := p.1) (t := p.2)
    have ntt : ∀ q ∈ intoF m m' p.1 p.2, noL (.tuple [.tuple q.1, prD q.2]) = true := fun q hq => by
      show (noLs q.1 && (noL (prD q.2) && true)) = true
      rw [noi q hq, noL_pr]
      rfl
    have toU : ∀ q ∈ intoF m m' p.1 p.2, q.2 ∈ U := fun q hq => M.clo.to p hp q.2 (List.mem_map.mpr ⟨q, hq, rfl⟩)
    have eres : walkF m m' (n + 1) acc p = ((intoF m m' p.1 p.2).map (·.2)).foldl (walkF m m' n) (acc ++ [p]) := walkF_new hin
    generalize intoF m m' p.1 p.2 = its at dzs noi ntt toU eres
    have elz : zs.length = its.length := by rw [dpAll_len dzs, List.length_map]
    have nLg1 : Lg ≠ L1 := fun e => by rw [e, g1] at nLg; cases nLg
    have nLg2 : Lg ≠ L2 := fun e => by rw [e, g2] at nLg; cases nLg
    have wk3 : WkV K H3 w a b L1 L2 m m' (acc ++ [p]) := by
      refine ⟨⟨dx, k3 _ _ List.not_mem_nil hW2⟩, sa2.kp0 k3, sb2.kp0 k3, ⟨_, k3 _ _ List.not_mem_nil g1, ?_⟩, ⟨_, k3 _ _ List.not_mem_nil g2, by simp [ly]⟩, ne⟩
      rw [List.map_append]
      exact dpAll_app (dpAll_kp0 k3 dps2) (dpAll_one (dp_kp0 k3 hx2))
    have hc3 := dp_kp0 k3 hc2
    have k13 : Kp [L1, L2] H H3 := k2.trans (k3.mono fun z m => absurd m List.not_mem_nil)
    walk_at "go"
    refine ⟨⟨zs, SqL.of hLg⟩, ?_⟩
    refine for_it (walk_list (xs := zs)) (fun i σ H' => ∃ u4 u5, σ = [some (.ref w), some x, some c, some (.int ps.length), u4, u5] ∧ Kp [L1, L2] H3 H' ∧ WkV K H' w a b L1 L2 m m' (((its.take i).map (·.2)).foldl (walkF m m' n) (acc ++ [p]))) ⟨_, _, rfl, Kp.refl, wk3⟩ (fun i σ H' _ ⟨_, _, _, k, _⟩ => SqL.of (k _ _ (nm_cons nLg1 (nm_cons nLg2 List.not_mem_nil)) hLg)) ?_ (fun σ H' h => ?_)
    · rintro i z σ Ha Hb hi ⟨u4, u5, rfl, kb, wkb⟩ ⟨eH, ez⟩
      subst eH
      obtain ⟨d, ed, dz⟩ := dpAll_ix dzs ez
      rw [List.getElem?_map] at ed
      obtain ⟨it, eit, rfl⟩ := Option.map_eq_some_iff.mp ed
      have mit := List.mem_of_getElem? eit
      have ii := fold_inv M.clo n ((its.take i).map (·.2)) (fun q hq => by
        obtain ⟨r, hr, rfl⟩ := List.mem_map.mp hq
        exact toU r (List.mem_of_mem_take hr)) i0
      obtain ⟨ys', hys', _⟩ := wkb.cs
      have nT3 : ∀ z ∈ [L1, L2], NoT H3 z := mem2 (P := NoT H3) (noT_lst (k3 _ _ List.not_mem_nil g1)) (noT_lst (k3 _ _ List.not_mem_nil g2))
      have dz' := dp_kpT kb nT3 (ntt it mit) dz
      have hcb := dp_kpT kb nT3 (d := .tuple cd) nc hc3
      refine gTupD_go dz' rfl fun vs dvs => ?_
      cases dvs with
      | cons dst dvs =>
      cases dvs with
      | cons dpr dvs =>
      cases dvs
      rename_i vst vpr
      obtain ⟨ca, cs, rfl, hca, hcs⟩ := dp_tup hcb
      have lcs := dpAll_len hcs
      obtain ⟨more, em⟩ := ii.ext
      have la' : acc.length + 1 ≤ (((its.take i).map (·.2)).foldl (walkF m m' n) (acc ++ [p])).length := by
        have j := fold_inv M.clo n (acc := acc ++ [p]) ((its.take i).map (·.2)) (fun q hq => by
          obtain ⟨r, hr, rfl⟩ := List.mem_map.mp hq
          exact toU r (List.mem_of_mem_take hr)) ⟨i0.nd, i0.sub, [], (List.append_nil _).symm⟩
        obtain ⟨mo, e⟩ := j.ext
        rw [e, List.length_append, List.length_append]
        simp only [List.length_cons, List.length_nil]
        omega
      have n0 : n ≠ 0 := by omega
      obtain ⟨n', rfl⟩ : ∃ n', n = n' + 1 := ⟨n - 1, by omega⟩
      have lcd : cs.length ≤ 1000 := by omega
      obtain ⟨dxb, hWb⟩ := wkb.ex
      have est : ((its.take (i + 1)).map (·.2)).foldl (walkF m m' (n' + 1)) (acc ++ [p]) = walkF m m' (n' + 1) (((its.take i).map (·.2)).foldl (walkF m m' (n' + 1)) (acc ++ [p])) it.2 := by
        rw [List.take_add_one, eit, List.map_append, List.foldl_append]
        rfl
      walk_at "go"
      rename_i p1 np1 p2 np2
      refine addA_go (xs := cs) (ys := [.ref p1]) (Kp.sqT (by walk_at "kp") List.not_mem_nil hca) (SqT.of upd_same) (by show cs.length + 1 ≤ _; omega) fun H5 p5 k5 hp5 => ?_
      have kb5 : Kp [] Hb H5 := Kp.trans (by walk_at "kp") k5
      have dc5 : Dp K H5 (.ref p5) (.tuple (cd ++ [.tuple [.int ps.length, .tuple it.1]])) := by
        refine .tup hp5 (dpAll_app (dpAll_kp0 kb5 hcs) (dpAll_one ?_))
        refine dp_kp0 k5 ?_
        walk_at "dp"
      have wk5 : WkV K H5 w a b L1 L2 m m' (((its.take i).map (·.2)).foldl (walkF m m' (n' + 1)) (acc ++ [p])) := wkb.kp0 kb5
      have dv5 := dp_kp0 kb5 dpr
      clear hp5
      walk_at "go"
      show sp_Walk_meet K (n' + 1) [.ref w, vpr, .ref p5] H5 _ _
      refine meet_go wk5 M ii.nd ii.sub (toU it mit) (by omega) dv5 dc5 ?_ ?_ fun H6 k6 w6 => ?_
      · rw [noLs_app, nc]
        show (true && (noLs it.1 && true) && true) = true
        rw [noi it mit]
        rfl
      · rw [List.length_append]
        simp only [List.length_cons, List.length_nil]
        omega
      · walk_at "go"
        refine ⟨kb.trans ((kb5.mono fun z m => absurd m List.not_mem_nil).trans k6), ?_⟩
        rw [est]
        exact w6
    · obtain ⟨u4, u5, rfl, kb, wkb⟩ := h
      rw [elz, List.take_length, ← eres] at wkb
      exact q _ (k13.trans kb) wkb
end K02

-- imports: QS1 QS2 QS3 QM1 QM2 QM3 QM4 QM5 QM6 QM7
/-! ## meeting: the walk begun, all pairs, numbers -/
namespace K02
open PySem PySem.Spec PyProof.Rows L2 Kb
theorem p_Walk___init__ (K : PySem.W.Frag) (C : Addr) (O : Own K C) (vs : List V) (H : Hp) (Q : VK) (E : XK) (h : sp_Walk___init__ K vs H Q E) : t_Walk___init__ K C { nx := fun _ H' => Q .non H', rt := Q } (start ["self", "old", "new"] vs) H := by
  unfold sp_Walk___init__ at h
  obtain ⟨w, a, b, m, m', U, dx, rfl, hW, sa, sb, M, q⟩ := h
  obtain ⟨cl, n1, n2, n3, n4, _, _⟩ := O.Walk
  obtain ⟨cl2, m1, m2, m3, _, _⟩ := O.Schema
  unfold t_Walk___init__
  have nw : NoT H w ∧ (∀ kvs, H w ≠ some (.dK kvs)) ∧ ∀ dx D1 D2 r, H w ≠ some (.ins (cAt K "Schema") dx (schF D1 D2 r)) :=
    ⟨noT_ins hW, (fun kvs e => by rw [hW] at e; cases e), fun dx' D1 D2 r e => by rw [hW] at e; injection e with e; injection e with _ _ e; cases e⟩
  have one : ∀ {H' : Hp}, Kp [w] H H' → SV K H' a m ∧ SV K H' b m' := fun k => ⟨sa.kpT M.a k (mem1 (P := fun z => NoT H z ∧ (∀ kvs, H z ≠ some (.dK kvs)) ∧ ∀ dx D1 D2 r, H z ≠ some (.ins (cAt K "Schema") dx (schF D1 D2 r))) nw), sb.kpT M.b k (mem1 (P := fun z => NoT H z ∧ (∀ kvs, H z ≠ some (.dK kvs)) ∧ ∀ dx D1 D2 r, H z ≠ some (.ins (cAt K "Schema") dx (schF D1 D2 r))) nw)⟩
  walk_at "go"
  rename_i L1 nL1 L2 nL2
  have w1 : w ≠ L1 := fun e => by rw [← e, upd_same] at nL1; cases nL1
  have w2 : w ≠ L2 := fun e => by rw [← e, upd_same] at nL2; cases nL2
  have ne : L1 ≠ L2 := fun e => by rw [← e, upd_ne w1.symm, upd_same] at nL2; cases nL2
  have h1 : H L1 = none := by rw [upd_ne w1.symm, upd_ne w1.symm] at nL1; exact nL1
  have h2 : H L2 = none := by rw [upd_ne w2.symm, upd_ne ne.symm, upd_ne w2.symm, upd_ne w2.symm] at nL2; exact nL2
  generalize eG : upd (upd (upd (upd (upd (upd H w _) w _) L1 _) w _) L2 _) w _ = G
  have kG : Kp [w] H G := by
    rw [← eG]
    exact ((((((Kp.refl.upd_in List.mem_cons_self).upd_in List.mem_cons_self).upd_new h1).upd_in List.mem_cons_self).upd_new h2).upd_in List.mem_cons_self)
  have gW : G w = some (.ins (cAt K "Walk") dx [("old", .ref a), ("new", .ref b), ("pairs", .ref L1), ("chains", .ref L2)]) := by
    rw [← eG]
    exact upd_same
  have g1 : G L1 = some (.lst []) := by
    rw [← eG, upd_ne w1.symm, upd_ne ne, upd_ne w1.symm]
    exact upd_same
  have g2 : G L2 = some (.lst []) := by
    rw [← eG, upd_ne w2.symm]
    exact upd_same
  clear eG nL1 nL2
  obtain ⟨sa1, sb1⟩ := one kG
  obtain ⟨dxa, A1, A2, ra, ka1, ka2, ea, _, _, _, _, dra⟩ := sa1.ex
  obtain ⟨dxb, B1, B2, rb, kb1, kb2, eb, _, _, _, _, drb⟩ := sb1.ex
  walk_at "go"
  rename_i p1 np1 p2 np2
  have k2 : Kp [] G (upd (upd G p1 (.tup [ra, rb])) p2 (.tup [])) := by walk_at "kp"
  have dpr : Dp K (upd (upd G p1 (.tup [ra, rb])) p2 (.tup [])) (.ref p1) (.tuple [srtD m.root, srtD m'.root]) := by walk_at "dp"
  have dch : Dp K (upd (upd G p1 (.tup [ra, rb])) p2 (.tup [])) (.ref p2) (.tuple []) := by walk_at "dp"
  generalize upd (upd G p1 (.tup [ra, rb])) p2 (.tup []) = G2 at k2 dpr dch ⊢
  show sp_Walk_meet K (159 + 1) [.ref w, .ref p1, .ref p2] G2 _ _
  have wk : WkV K G2 w a b L1 L2 m m' [] := ⟨⟨dx, k2 _ _ List.not_mem_nil gW⟩, sa1.kp0 k2, sb1.kp0 k2, ⟨[], k2 _ _ List.not_mem_nil g1, .nil⟩, ⟨[], k2 _ _ List.not_mem_nil g2, rfl⟩, ne⟩
  refine meet_go (p := (m.root, m'.root)) wk M List.nodup_nil (fun q h => nomatch h) M.top (by have := M.few; have : NN = 160 := rfl; show _ ≤ 0 + 159; omega) dpr dch rfl (by decide) fun H' k' wk' => ?_
  walk_at "go"
  refine q H' L1 L2 (kG.drop ((k2.mono fun z m => absurd m List.not_mem_nil : Kp [L1, L2] G G2).trans k') fun z m => ?_) wk'
  rcases List.mem_cons.mp m with rfl | m
  · exact .inr h1
  · rw [List.mem_singleton.mp m]
    exact .inr h2
section
variable {K : PySem.W.Frag} {H H' : Hp} {Q : VK} {E : XK}
theorem walk0_go {w a b dx : Addr} {m m' : SM} {U : List Pr} (hW : H w = some (.ins (cAt K "Walk") dx [])) (sa : SV K H a m) (sb : SV K H b m') (M : Met m m' U) (q : ∀ H' L1 L2, Kp [w] H H' → WkV K H' w a b L1 L2 m m' (pairsF m m') → Q .non H') : sp_Walk___init__ K [.ref w, .ref a, .ref b] H Q E := by
  unfold sp_Walk___init__
  exact ⟨w, a, b, m, m', U, dx, rfl, hW, sa, sb, M, q⟩
theorem pairs_go {a b : Addr} {m m' : SM} {U : List Pr} (sa : SV K H a m) (sb : SV K H b m') (M : Met m m' U) (q : ∀ H' p xs, Kp [] H H' → KTup H' p xs → DpAll K H' xs ((pairsF m m').map prD) → Q (.ref p) H') : sp_all_pairs K [.ref a, .ref b] H Q E := by
  unfold sp_all_pairs
  exact ⟨a, b, m, m', U, rfl, sa, sb, M, q⟩
theorem num_go {z : Addr} {x y : V} {a b : Addr} {m m' : SM} {U : List Pr} {s t : Srt} (hz : MkV K H z a b m m') (M : Met m m' U) (hx : Dp K H x (srtD s)) (hy : Dp K H y (srtD t)) (i1 : SIn m s) (i2 : SIn m' t) (q : ∀ H', Kp [] H H' → Q (.int (numF (pairsF m m') (s, t))) H') : sp_Making_number_of K [.ref z, x, y] H Q E := by
  unfold sp_Making_number_of
  exact ⟨z, x, y, a, b, m, m', U, s, t, rfl, hz, M, hx, hy, i1, i2, q⟩
theorem MkV.kp0 {z a b : Addr} {m m' : SM} (h : MkV K H z a b m m') (k : Kp [] H H') : MkV K H' z a b m m' := by
  obtain ⟨dx, P, xs, h1, h2, h3⟩ := h.ex
  exact ⟨⟨dx, P, xs, k _ _ List.not_mem_nil h1, h2.kp k List.not_mem_nil, dpAll_kp0 k h3⟩, h.sa.kp0 k, h.sb.kp0 k⟩
theorem len_Making___init__ : ∀ vs H Q E, sp_Making___init__ K vs H Q E → vs.length = ["self", "old", "new"].length := by
  intro _ _ _ _ h
  unfold sp_Making___init__ at h
  obtain ⟨_, _, _, _, _, _, _, rfl, _⟩ := h
  rfl
theorem len_Making_number_of : ∀ vs H Q E, sp_Making_number_of K vs H Q E → vs.length = ["self", "mine", "yours"].length := by
  intro _ _ _ _ h
  unfold sp_Making_number_of at h
  obtain ⟨_, _, _, _, _, _, _, _, _, _, rfl, _⟩ := h
  rfl
end
theorem p_all_pairs (K : PySem.W.Frag) (C : Addr) (O : Own K C) (vs : List V) (H : Hp) (Q : VK) (E : XK) (h : sp_all_pairs K vs H Q E) : t_all_pairs K C { nx := fun _ H' => Q .non H', rt := Q } (start ["old", "new"] vs) H := by
  unfold sp_all_pairs at h
  obtain ⟨a, b, m, m', U, rfl, sa, sb, M, q⟩ := h
  obtain ⟨cl, n1, n2, n3, n4, _, _⟩ := O.Walk
  unfold t_all_pairs
  walk_at "go"
  rename_i w dx nw nd ne
  show sp_Walk___init__ K [.ref w, .ref a, .ref b] _ _ _
  have k1 : Kp [] H (upd (upd H dx (.own w)) w (.ins (cAt K "Walk") dx [])) := (Kp.refl.upd_new nd).upd_new nw
  refine walk0_go (upd_same) (sa.kp0 k1) (sb.kp0 k1) M fun H2 L1 L2 k2 wk => ?_
  obtain ⟨dx', hW⟩ := wk.ex
  obtain ⟨xs, hL, dxs⟩ := wk.ps
  have k02 : Kp [] H H2 := k1.drop k2 fun z m => .inr (by rw [List.mem_singleton.mp m]; exact nw)
  walk_at "go"
  refine tupK_go (SqL.of hL) fun l o nl c d => ?_
  have k3 : Kp [] H2 (upd H2 l (.frz o (.tup xs))) := Kp.refl.upd_new' nl
  walk_at "go"
  exact q _ l xs (k02.trans k3) ⟨o, upd_same, c, d⟩ (dpAll_kp0 k3 dxs)
theorem p_Making___init__ (K : PySem.W.Frag) (C : Addr) (O : Own K C) (vs : List V) (H : Hp) (Q : VK) (E : XK) (h : sp_Making___init__ K vs H Q E) : t_Making___init__ K C { nx := fun _ H' => Q .non H', rt := Q } (start ["self", "old", "new"] vs) H := by
  unfold sp_Making___init__ at h
  obtain ⟨w, a, b, m, m', U, dx, rfl, hW, sa, sb, M, q⟩ := h
  obtain ⟨cl, n1, n2, n3, _, _⟩ := O.Making
  unfold t_Making___init__
  have nw : NoT H w ∧ (∀ kvs, H w ≠ some (.dK kvs)) ∧ ∀ dx D1 D2 r, H w ≠ some (.ins (cAt K "Schema") dx (schF D1 D2 r)) :=
    ⟨noT_ins hW, (fun kvs e => by rw [hW] at e; cases e), fun dx' D1 D2 r e => by rw [hW] at e; injection e with e; injection e with _ _ e; cases e⟩
  have one : ∀ {H' : Hp}, Kp [w] H H' → SV K H' a m ∧ SV K H' b m' := fun k => ⟨sa.kpT M.a k (mem1 (P := fun z => NoT H z ∧ (∀ kvs, H z ≠ some (.dK kvs)) ∧ ∀ dx D1 D2 r, H z ≠ some (.ins (cAt K "Schema") dx (schF D1 D2 r))) nw), sb.kpT M.b k (mem1 (P := fun z => NoT H z ∧ (∀ kvs, H z ≠ some (.dK kvs)) ∧ ∀ dx D1 D2 r, H z ≠ some (.ins (cAt K "Schema") dx (schF D1 D2 r))) nw)⟩
  walk_at "go"
  generalize eG : upd (upd H w _) w _ = G
  have kG : Kp [w] H G := by
    rw [← eG]
    exact (Kp.refl.upd_in List.mem_cons_self).upd_in List.mem_cons_self
  have gW : G w = some (.ins (cAt K "Making") dx [("old", .ref a), ("new", .ref b)]) := by
    rw [← eG]
    exact upd_same
  clear eG
  obtain ⟨sa1, sb1⟩ := one kG
  refine pairs_go sa1 sb1 M fun H2 p xs k2 kt dxs => ?_
  have gW2 := k2 _ _ List.not_mem_nil gW
  walk_at "go"
  have k3 : Kp [w] H2 (upd H2 w (.ins (cAt K "Making") dx [("old", .ref a), ("new", .ref b), ("pairs", .ref p)])) := Kp.refl.upd_in List.mem_cons_self
  have k03 : Kp [w] H (upd H2 w (.ins (cAt K "Making") dx [("old", .ref a), ("new", .ref b), ("pairs", .ref p)])) := (kG.trans (k2.mono fun z m => absurd m List.not_mem_nil)).trans k3
  obtain ⟨sa3, sb3⟩ := one k03
  have pw : p ∉ [w] := fun m => by
    obtain ⟨o, e, _⟩ := kt
    rw [List.mem_singleton.mp m, gW2] at e
    cases e
  exact q _ k03 ⟨⟨dx, p, xs, upd_same, kt.kp k3 pw, dpAll_kpT k3 (mem1 (noT_ins gW2)) (noLs_prs _) dxs⟩, sa3, sb3⟩
theorem p_Making_number_of (K : PySem.W.Frag) (C : Addr) (O : Own K C) (vs : List V) (H : Hp) (Q : VK) (E : XK) (h : sp_Making_number_of K vs H Q E) : t_Making_number_of K C { nx := fun _ H' => Q .non H', rt := Q } (start ["self", "mine", "yours"] vs) H := by
  unfold sp_Making_number_of at h
  obtain ⟨z, x, y, a, b, m, m', U, s, t, rfl, hz, M, hx, hy, i1, i2, q⟩ := h
  obtain ⟨cl, n1, n2, n3, _, _⟩ := O.Making
  obtain ⟨dx, P, xs, hZ, kt, dxs⟩ := hz.ex
  have lay : PyData.canLayAll0 ((pairsF m m').map prD) = true := lay_prs (pairs_l M)
  have shp : SeqAt.shaped (prD (s, t)) = true := shaped_pr i1 i2
  unfold t_Making_number_of
  walk_at "go"
  rename_i p np
  have kp : Kp [] H (upd H p (.tup [x, y])) := Kp.refl.upd_new' np
  refine inD_go ⟨xs, .inr (kt.kp kp List.not_mem_nil).sqT, dpAll_kp0 kp dxs⟩ (d := prD (s, t)) (by show Dp K _ _ (.tuple [srtD s, srtD t]); walk_at "dp") lay shp ?_
  rw [any_pr]
  walk_at "go"
  · rename_i hin
    refine ⟨⟨P, xs, rfl, kt.kp kp List.not_mem_nil⟩, ?_⟩
    walk_at "go"
    rename_i p2 np2
    have kp2 : Kp [] (upd H p (.tup [x, y])) (upd (upd H p (.tup [x, y])) p2 (.tup [x, y])) := Kp.refl.upd_new' np2
    have kk := kp.trans kp2
    refine idxT_go (kt.kp kk List.not_mem_nil).sqT (dpAll_kp0 kk dxs) (d := prD (s, t)) (by show Dp K _ _ (.tuple [srtD s, srtD t]); walk_at "dp") lay shp (first_pr hin) ?_
    have e : numF (pairsF m m') (s, t) = ((pairsF m m').idxOf (s, t) : Nat) := if_pos hin
    rw [← e]
    exact q _ kk
  · rename_i hin
    have e : numF (pairsF m m') (s, t) = -1 := if_neg hin
    rw [e] at q
    walk_at "go"
    exact q _ kp
end K02

-- imports: QS1 QS2 QS3 QM1 QM2 QM3 QM4 QM5 QM6 QM7 QM8
/-! ## readers: the step for two choices -/
set_option maxHeartbeats 4000000
namespace K02
open PySem PySem.Spec PyProof.Rows L2 Kb
/-- a list of data made since H0 -/
structure Gr (K : PySem.W.Frag) (H0 H : Hp) (L : Addr) (ds : List PyData) : Prop where
  k : Kp [] H0 H
  n : H0 L = none
  d : LsD K H L ds
  nl : noLs ds = true
section
variable {K : PySem.W.Frag} {H0 H H' : Hp} {L : Addr} {ds : List PyData} {y : V} {d : PyData}
theorem Gr.new (n : H L = none) : Gr K H (upd H L (.lst [])) L [] := ⟨Kp.refl.upd_new' n, n, ⟨[], upd_same, .nil⟩, rfl⟩
theorem Gr.kp (g : Gr K H0 H L ds) (k : Kp [] H H') : Gr K H0 H' L ds := ⟨g.k.trans k, g.n, g.d.kp0 k, g.nl⟩
theorem Gr.app {xs : List V} (g : Gr K H0 H L ds) (h : H L = some (.lst xs)) (hy : Dp K H y d) (n : noL d = true) : Gr K H0 (upd H L (.lst (xs ++ [y]))) L (ds ++ [d]) := by
  obtain ⟨zs, hz, dz⟩ := g.d
  rw [h] at hz
  cases hz
  refine ⟨g.k.upd_new g.n, g.n, ⟨_, upd_same, dpAll_app (dpAll_updL h g.nl dz) (dpAll_one (dp_updL h n hy))⟩, ?_⟩
  rw [noLs_app, g.nl]
  show (true && (noL d && true)) = true
  rw [n]
  rfl
theorem Gr.at_ (g : Gr K H0 H L ds) : ∃ xs, H L = some (.lst xs) ∧ DpAll K H xs ds ∧ xs.length = ds.length := let ⟨xs, h, d⟩ := g.d; ⟨xs, h, d, dpAll_len d⟩
end
theorem noL_case (ps : List Pr) (q : PC × PC) : noL (caseF ps q) = true := by
  obtain ⟨⟨n1, z1, o1⟩, n2, z2, o2⟩ := q
  cases o2 <;> cases o1 <;> rfl
theorem choice_b1 (K : PySem.W.Frag) (C : Addr) (O : Own K C) {H : Hp} {Q : VK} {L : Addr} {y : V} {u0 u1 u2 u5 u6 u7 u8 u9 : Option V} {ds : List PyData} {cs : List PC} (hy : Dp K H y (.tuple (cs.map fun c => c.raw.dat))) (hL : LsD K H L ds) (nl : noLs ds = true)
    (q : ∀ H' v, Kp [] H H' → Dp K H' v (.tuple [.str "choice", .tuple ds, otherF cs]) → Q v H') : b_Making_choice_1 K C { nx := fun _ H' => Q .non H', rt := Q } [u0, u1, u2, some y, some (.ref L), u5, u6, u7, u8, u9] H := by
  unfold b_Making_choice_1
  obtain ⟨xs, hx, dx⟩ := hL
  walk_at "go"
  refine byN_go (raw := PC.raw) hy (fun e => ?_) (fun c w e dw => ?_)
  · have eo : otherF cs = .none := by unfold otherF; rw [show (cs.find? fun c => c.num == 0) = none from e]
    walk_at "go"
    rename_i p np p2 np2
    refine q _ _ (by walk_at "kp") ?_
    rw [eo]
    walk_at "dp"
  · have eo : otherF cs = .str c.name := by unfold otherF; rw [show (cs.find? fun c => c.num == 0) = some c from e]
    obtain ⟨a, ws, rfl, _, _⟩ := dp_tup dw
    have dw' : Dp K H (.ref a) (.tuple (.int c.num :: [.str c.name, osD c.s])) := dw
    walk_at "go"
    rename_i p np p2 np2
    refine q _ _ (by walk_at "kp") ?_
    rw [eo]
    walk_at "dp"
theorem p_Making_choice (K : PySem.W.Frag) (C : Addr) (O : Own K C) (vs : List V) (H : Hp) (Q : VK) (E : XK) (h : sp_Making_choice K vs H Q E) : t_Making_choice K C { nx := fun _ H' => Q .non H', rt := Q } (start ["self", "mine", "yours", "theirs", "cases", "number", "word", "content", "case", "other"] vs) H := by
  unfold sp_Making_choice at h
  obtain ⟨z, a, b, m, m', U, k, k', rfl, hz, M, mk, mk', q⟩ := h
  obtain ⟨cl, n1, n2, n3, _, _⟩ := O.Making
  obtain ⟨dx, P, xs, hZ, kt, dxs⟩ := hz.ex
  unfold t_Making_choice
  walk_at "go"
  refine cases_go hz.sb mk' fun y dy => ?_
  walk_at "go"
  rename_i L nL
  have g0 : Gr K H (upd H L (.lst [])) L [] := .new nL
  unfold b_Making_choice_0
  have hZ0 := g0.k _ _ List.not_mem_nil hZ
  walk_at "go"
  show sp_cases_of K [.ref a, .str k] _ _ _
  refine cases_go (hz.sa.kp0 g0.k) mk fun w dw => ?_
  obtain ⟨wa, ws, rfl, hwa, dws⟩ := dp_tup dw
  have lw : ws.length = (m.pick k).length := by rw [dpAll_len dws, List.length_map]
  have lm := M.a.cl _ (pick_mem mk)
  have lm2 : (m.pick k).length ≤ 100 := lm
  have dw0 : DpAll K (upd H L (.lst [])) ws ((m.pick k).map fun c => c.raw.dat) := dws
  have pin : ∀ c ∈ m.pick k, ∀ s, c.s = some s → SIn m s := fun c hc s e => ((M.a.cs _ (pick_mem mk)).2 c hc).1 s e
  have pin' : ∀ c ∈ m'.pick k', ∀ s, c.s = some s → SIn m' s := fun c hc s e => ((M.b.cs _ (pick_mem mk')).2 c hc).1 s e
  walk_at "go"
  refine ⟨⟨ws, hwa⟩, ?_⟩
  generalize eG : upd H L (.lst []) = G at g0 hwa dw0 hZ0 ⊢
  have fC : PC → Option PyData := fun c => none
  refine for_it (walk_tup (xs := ws)) (fun i σ H' => ∃ u5 u6 u7 u8, σ = [some (.ref z), some (.str k), some (.str k'), some y, some (.ref L), u5, u6, u7, u8, none] ∧ Gr K H H' L (((m.pick k).take i).filterMap fun c => ((m'.pick k').find? fun d => d.num == c.num).map fun d => caseF (pairsF m m') (c, d)) ∧ ∃ M0 : List Addr, M0 = [L] ∧ Kp M0 G H') ⟨_, _, _, _, rfl, g0, _, rfl, Kp.refl⟩ (fun i σ H' _ ⟨_, _, _, _, _, g, M0, e, k⟩ => by
      obtain ⟨xs, hL, _⟩ := g0.d
      rw [e] at k
      exact sqT_kpT k (mem1 (noT_lst hL)) hwa) ?_ (fun σ H' h => ?_)
  · rintro i x σ Ha Hb hi ⟨u5, u6, u7, u8, rfl, g, M0, rfl, kG⟩ ⟨eH, ex⟩
    subst eH
    obtain ⟨d, ed, dxx⟩ := dpAll_ix dw0 ex
    rw [List.getElem?_map] at ed
    obtain ⟨c, ec, rfl⟩ := Option.map_eq_some_iff.mp ed
    have mc := List.mem_of_getElem? ec
    obtain ⟨xs0, hL0, _⟩ := g0.d
    have dxb : Dp K Hb x (.tuple (.int c.num :: [.str c.name, osD c.s])) := dp_kpT kG (mem1 (noT_lst hL0)) (d := .tuple (.int c.num :: [.str c.name, osD c.s])) (by show (true && (true && (noL (osD c.s) && true))) = true; rw [noL_os]; rfl) dxx
    have dyb := dp_kp0 g.k dy
    have hzb := hz.kp0 g.k
    have eT : ((m.pick k).take (i + 1)).filterMap (fun c => ((m'.pick k').find? fun d => d.num == c.num).map fun d => caseF (pairsF m m') (c, d)) = ((m.pick k).take i).filterMap (fun c => ((m'.pick k').find? fun d => d.num == c.num).map fun d => caseF (pairsF m m') (c, d)) ++ (((m'.pick k').find? fun d => d.num == c.num).map fun d => caseF (pairsF m m') (c, d)).toList := by
      rw [List.take_add_one, ec, List.filterMap_append]
      congr 1
    refine gTupD_go dxb rfl fun vs dvs => ?_
    cases dvs with
    | cons d5 dvs =>
    cases dvs with
    | cons d6 dvs =>
    cases dvs with
    | cons d7 dvs =>
    cases dvs
    cases d5
    cases d6
    rename_i v7
    obtain ⟨as, hLb, das, las⟩ := g.at_
    have las2 : as.length ≤ 100 := by
      rw [las]
      refine Nat.le_trans (List.length_filterMap_le _ _) ?_
      rw [List.length_take]
      omega
    walk_at "go"
    refine byN_go (raw := PC.raw) dyb (fun e => ?_) (fun c' w e dw => ?_)
    · have e' : ((m'.pick k').find? fun d => d.num == c.num) = none := e
      rw [e'] at eT
      walk_at "go"
      refine ⟨?_, _, rfl, kG⟩
      rw [eT]
      show Gr K H Hb L (_ ++ [])
      rw [List.append_nil]
      exact g
    · have e' : ((m'.pick k').find? fun d => d.num == c.num) = some c' := e
      have mc' := List.mem_of_find?_eq_some e'
      rw [e'] at eT
      obtain ⟨wa', ws', rfl, _, _⟩ := dp_tup dw
      have fin : ∀ {H5 : Hp} {p : Addr}, Kp [] Hb H5 → Dp K H5 (.ref p) (caseF (pairsF m m') (c, c')) → Gr K H (upd H5 L (.lst (as ++ [.ref p]))) L (((m.pick k).take (i + 1)).filterMap fun c => ((m'.pick k').find? fun d => d.num == c.num).map fun d => caseF (pairsF m m') (c, d)) ∧ ∃ M0 : List Addr, M0 = [L] ∧ Kp M0 G (upd H5 L (.lst (as ++ [.ref p]))) := fun k5 d5 => by
        refine ⟨?_, _, rfl, (kG.trans (k5.mono fun z m => absurd m List.not_mem_nil)).upd_in List.mem_cons_self⟩
        rw [eT]
        exact (g.kp k5).app (k5 _ _ List.not_mem_nil hLb) d5 (noL_case _ _)
      obtain ⟨m1, z1, o1⟩ := c
      obtain ⟨m2, z2, o2⟩ := c'
      have dw2 : Dp K Hb (.ref wa') (.tuple (.int m2 :: [.str z2, osD o2])) := dw
      cases o2 with
      | none =>
        have dw3 : Dp K Hb (.ref wa') (.tuple [.int m2, .str z2, .none]) := dw2
        clear dw2 dw
        walk_at "go"
        rename_i p np
        refine fin (by walk_at "kp") ?_
        show Dp K _ _ (.tuple [.int m1, .str z2, .none])
        walk_at "dp"
      | some t =>
        have dw3 : Dp K Hb (.ref wa') (.tuple [.int m2, .str z2, srtD t]) := dw2
        clear dw2 dw
        cases o1 with
        | none =>
          cases d7
          walk_at "go"
          rename_i _ _ p np
          refine fin (by walk_at "kp") ?_
          show Dp K _ _ (.tuple [.int m1, .str z2, .int (-1)])
          walk_at "dp"
        | some s =>
          have d7' : Dp K Hb v7 (srtD s) := d7
          rw [srtD_eq] at d7'
          obtain ⟨va, vs, rfl, _, _⟩ := dp_tup d7'
          have hb7 : Dp K Hb (.ref va) (srtD s) := d7
          obtain ⟨dx', P', xs', hZ', _, _⟩ := hzb.ex
          walk_at "go"
          rename_i ta hta tb htb
          show sp_Making_number_of K [.ref z, .ref va, .ref tb] Hb _ _
          refine num_go hzb M hb7 htb (pin _ mc s rfl) (pin' _ mc' t rfl) fun H6 k6 => ?_
          have hL6 := k6 _ _ List.not_mem_nil hLb
          walk_at "go"
          rename_i p np
          refine fin (by walk_at "kp") ?_
          show Dp K _ _ (.tuple [.int m1, .str z2, .int (numF (pairsF m m') (s, t))])
          walk_at "dp"
  · obtain ⟨u5, u6, u7, u8, rfl, g, M0, rfl, kG⟩ := h
    rw [lw, List.take_length] at g
    refine choice_b1 K C O (dp_kp0 g.k dy) g.d g.nl fun H2 v k2 dv => q _ _ (g.k.trans k2) ?_
    have e : (bothC m m' k k').map (caseF (pairsF m m')) = (m.pick k).filterMap fun c => ((m'.pick k').find? fun d => d.num == c.num).map fun d => caseF (pairsF m m') (c, d) := by
      unfold bothC bothF
      rw [List.map_filterMap]
      congr 1
      funext c
      rw [Option.map_map]
      rfl
    unfold choiceF
    rw [e]
    exact dv
end K02

-- imports: QS1 QS2 QS3 QM1 QM2 QM3 QM4 QM5 QM6 QM7 QM8 QM9
/-! ## readers: the step for two kinds -/
set_option maxHeartbeats 4000000
namespace K02
open PySem PySem.Spec PyProof.Rows L2 Kb
theorem up_find {α : Type} {num : α → Int} : ∀ {xs : List α} {lo : Int} {n : Nat}, Up num xs → (∀ a ∈ xs, lo ≤ num a ∧ num a < lo + n) → ((List.range n).filterMap fun i => xs.find? fun a => num a == lo + (i : Nat)) = xs
  | [], lo, n, _, _ => by
    rw [List.filterMap_eq_nil_iff]
    intro i _
    rfl
  | x :: xs, lo, 0, _, h => by
    have := h x List.mem_cons_self
    omega
  | x :: xs, lo, n + 1, u, h => by
    have u' := List.pairwise_cons.mp u
    have hx := h x List.mem_cons_self
    have sh : ∀ (f : Nat → Option α), (List.range (n + 1)).filterMap f = (f 0).toList ++ (List.range n).filterMap fun i => f (i + 1) := fun f => by
      rw [List.range_succ_eq_map, List.filterMap_cons, List.filterMap_map]
      cases f 0 <;> rfl
    rw [sh]
    have ei : ∀ i : Nat, lo + ((i + 1 : Nat) : Int) = (lo + 1) + (i : Nat) := fun i => by omega
    by_cases e : num x = lo
    · have h0 : ((x :: xs).find? fun a => num a == lo + ((0 : Nat) : Int)) = some x := by
        rw [List.find?_cons, show (num x == lo + ((0 : Nat) : Int)) = true by simpa using e]
      rw [h0]
      show x :: _ = x :: xs
      congr 1
      refine Eq.trans ?_ (up_find (num := num) (lo := lo + 1) (n := n) u'.2 fun a ha => ?_)
      · show (List.range n).filterMap _ = (List.range n).filterMap _
        congr 1
        funext i
        rw [ei, List.find?_cons, show (num x == lo + 1 + (i : Nat)) = false by simp; omega]
      · have := u'.1 a ha
        have := (h a (List.mem_cons_of_mem _ ha)).2
        omega
    · have all : ∀ a ∈ x :: xs, lo + 1 ≤ num a ∧ num a < lo + 1 + n := fun a ha => by
        have h2 := h a ha
        rcases List.mem_cons.mp ha with rfl | ha
        · omega
        · have := u'.1 a ha
          omega
      have h0 : ((x :: xs).find? fun a => num a == lo + ((0 : Nat) : Int)) = none := by
        rw [List.find?_eq_none]
        intro a ha e
        have := (all a ha).1
        have e : num a = lo + ((0 : Nat) : Int) := by simpa using e
        omega
      rw [h0]
      show (List.range n).filterMap _ = x :: xs
      refine Eq.trans ?_ (up_find (num := num) (lo := lo + 1) (n := n) u all)
      congr 1
      funext i
      rw [ei]
theorem both_num {α β : Type} {na : α → Int} {nb : β → Int} {xs : List α} {ys : List β} {n : Nat} (u : Up na xs) (h : ∀ a ∈ xs, 0 ≤ na a ∧ na a < 0 + n) : bothF na nb xs ys = (List.range n).filterMap fun i => (xs.find? fun a => na a == 0 + ((i : Nat) : Int)).bind fun a => (ys.find? fun b => nb b == 0 + ((i : Nat) : Int)).map fun b => (a, b) := by
  unfold bothF
  conv => lhs; rw [← up_find (lo := 0) (n := n) u h]
  rw [List.filterMap_filterMap]
  congr 1
  funext i
  cases e : xs.find? fun a => na a == 0 + ((i : Nat) : Int) with
  | none => rfl
  | some a =>
    have := List.find?_some e
    have en : na a = 0 + ((i : Nat) : Int) := by simpa using this
    show (ys.find? fun b => nb b == na a).map _ = _
    rw [en]
    rfl
theorem both_swap {α β : Type} {na : α → Int} {nb : β → Int} {xs : List α} {ys : List β} {n : Nat} (u : Up na xs) (v : Up nb ys) (h : ∀ a ∈ xs, 0 ≤ na a ∧ na a < 0 + n) (g : ∀ b ∈ ys, 0 ≤ nb b ∧ nb b < 0 + n) : bothF na nb xs ys = (bothF nb na ys xs).map fun q => (q.2, q.1) := by
  rw [both_num u h, both_num v g, List.map_filterMap]
  congr 1
  funext i
  cases xs.find? fun a => na a == 0 + ((i : Nat) : Int) <;> cases ys.find? fun b => nb b == 0 + ((i : Nat) : Int) <;> rfl
theorem both_kinds {m m' : SM} (wa : m.wf) (wb : m'.wf) {k k' : Str} (mk : (m.kinds.lookup k).isSome = true) (mk' : (m'.kinds.lookup k').isSome = true) : both m m' k k' = (m'.kind k').filterMap fun g => ((m.kind k).find? fun f => f.num == g.num).map fun f => (f, g) := by
  have ha := wa.ks _ (kind_mem mk)
  have hb := wb.ks _ (kind_mem mk')
  unfold both
  rw [both_swap (n := 100) ha.1 hb.1 (fun f hf => by have := (ha.2 f hf).2.2; omega) (fun f hf => by have := (hb.2 f hf).2.2; omega)]
  unfold bothF
  rw [List.map_filterMap]
  congr 1
  funext g
  rw [Option.map_map]
  rfl
end K02

-- imports: QS1 QS2 QS3 QM1 QM2 QM3 QM4 QM5 QM6 QM7 QM8 QM9 QM10
/-! ## readers: the step for two kinds, walked -/
set_option maxHeartbeats 4000000
namespace K02
open PySem PySem.Spec PyProof.Rows L2 Kb
section
variable {K : PySem.W.Frag} {H0 H H' : Hp} {L L' : Addr} {ds : List PyData} {Q : VK} {E : XK}
theorem Gr.other {xs zs : List V} (g : Gr K H0 H L ds) (h : H L' = some (.lst xs)) (n0 : H0 L' = none) (ne : L ≠ L') : Gr K H0 (upd H L' (.lst zs)) L ds := by
  obtain ⟨ys, hy, dy⟩ := g.d
  exact ⟨g.k.upd_new n0, g.n, ⟨ys, (upd_ne ne).trans hy, dpAll_updL h g.nl dy⟩, g.nl⟩
theorem lack_go {x y : V} {ys xs : List PF} (hy : Dp K H y (.tuple (ys.map fun f => f.raw.dat))) (hx : Dp K H x (.tuple (xs.map fun f => f.raw.dat))) (l : ys.length ≤ 100) (sh : ∀ f ∈ ys, ∀ d, f.d = some d → Sh 2 d) (q : ∀ H' L, Kp [] H H' → LsD K H' L ((lacksF xs ys).map .str) → Q (.ref L) H') : sp_lacking_names K [y, x] H Q E := by
  unfold sp_lacking_names
  exact ⟨x, y, ys, xs, rfl, hy, hx, l, sh, q⟩
theorem len_Making_choice : ∀ vs H Q E, sp_Making_choice K vs H Q E → vs.length = ["self", "mine", "yours"].length := by
  intro _ _ _ _ h
  unfold sp_Making_choice at h
  obtain ⟨_, _, _, _, _, _, _, _, rfl, _⟩ := h
  rfl
theorem len_Making_node : ∀ vs H Q E, sp_Making_node K vs H Q E → vs.length = ["self", "mine", "yours"].length := by
  intro _ _ _ _ h
  unfold sp_Making_node at h
  obtain ⟨_, _, _, _, _, _, _, _, rfl, _⟩ := h
  rfl
end
def nF (ps : List Pr) (xs : List PF) (g : PF) : Option PyData := (xs.find? fun f => f.num == g.num).map fun f => fieldF ps (f, g)
def nD (xs : List PF) (g : PF) : Option PyData := if (xs.find? fun f => f.num == g.num).isNone then dfltF g else none
theorem eqv_nil {l : List PyData} : PyData.eqv (.tuple l) (.tuple []) = l.isEmpty := by
  cases l with
  | nil => simp [PyData.eqv, PyData.eqvAll]
  | cons d l => simp [PyData.eqv, PyData.eqvAll]
theorem node_b0 (K : PySem.W.Frag) (C : Addr) (O : Own K C) {H0 : Hp} {H : Hp} {Q : VK} {z a b L5 L6 : Addr} {k k' : Str} {y3 y4 : V} {m m' : SM} {U : List Pr} (hz : MkV K H0 z a b m m') (M : Met m m' U) (mk : (m.kinds.lookup k).isSome = true) (mk' : (m'.kinds.lookup k').isSome = true)
    (h3 : Dp K H0 y3 (.tuple ((m.kind k).map fun f => f.raw.dat))) (h4 : Dp K H0 y4 (.tuple ((m'.kind k').map fun f => f.raw.dat))) (g5 : Gr K H0 H L5 []) (g6 : Gr K H0 H L6 []) (ne : L5 ≠ L6)
    (q : ∀ H' v, Kp [] H0 H' → Dp K H' v (nodeF m m' (pairsF m m') k k') → Q v H') : b_Making_node_0 K C { nx := fun _ H' => Q .non H', rt := Q } [some (.ref z), some (.str k), some (.str k'), some y3, some y4, some (.ref L5), some (.ref L6), none, none] H := by
  obtain ⟨cl, n1, n2, n3, _, _⟩ := O.Making
  unfold b_Making_node_0
  obtain ⟨wa, ws, rfl, hwa, dws⟩ := dp_tup (dp_kp0 g5.k h4)
  have lw : ws.length = (m'.kind k').length := by rw [dpAll_len dws, List.length_map]
  have lm2 : (m'.kind k').length ≤ 100 := M.b.kl _ (kind_mem mk')
  have pa : ∀ f ∈ m.kind k, _ := (M.a.ks _ (kind_mem mk)).2
  have pb : ∀ f ∈ m'.kind k', _ := (M.b.ks _ (kind_mem mk')).2
  walk_at "go"
  refine ⟨⟨ws, hwa⟩, ?_⟩
  obtain ⟨xs5, h5, _⟩ := g5.d
  obtain ⟨xs6, h6, _⟩ := g6.d
  have nT : ∀ x ∈ [L5, L6], NoT H x := mem2 (P := NoT H) (noT_lst h5) (noT_lst h6)
  refine for_it (walk_tup (xs := ws)) (fun i σ H' => ∃ u7 u8, σ = [some (.ref z), some (.str k), some (.str k'), some y3, some (.ref wa), some (.ref L5), some (.ref L6), u7, u8] ∧ Gr K H0 H' L5 (((m'.kind k').take i).filterMap (nF (pairsF m m') (m.kind k))) ∧ Gr K H0 H' L6 (((m'.kind k').take i).filterMap (nD (m.kind k))) ∧ ∃ M0 : List Addr, M0 = [L5, L6] ∧ Kp M0 H H') ⟨_, _, rfl, g5, g6, _, rfl, Kp.refl⟩ (fun i σ H' _ ⟨_, _, _, _, _, M0, e, k⟩ => by
      rw [e] at k
      exact sqT_kpT k nT hwa) ?_ (fun σ H' h => ?_)
  · rintro i x σ Ha Hb hi ⟨u7, u8, rfl, g5b, g6b, M0, rfl, kG⟩ ⟨eH, ex⟩
    subst eH
    obtain ⟨d, ed, dxx⟩ := dpAll_ix dws ex
    rw [List.getElem?_map] at ed
    obtain ⟨g, eg, rfl⟩ := Option.map_eq_some_iff.mp ed
    have mg := List.mem_of_getElem? eg
    have ng : noL g.raw.dat = true := by
      show (true && noLs g.raw.2) = true
      rw [noLs_raw M.b mk' g mg]
      rfl
    have dxr := dp_kpT kG nT ng dxx
    have dxb : Dp K Hb x (.tuple (.int g.num :: ([.str g.name, srtD g.s] ++ g.d.toList))) := dxr
    have d3b := dp_kp0 g5b.k h3
    have hzb := hz.kp0 g5b.k
    have eT : ∀ F : PF → Option PyData, ((m'.kind k').take (i + 1)).filterMap F = ((m'.kind k').take i).filterMap F ++ (F g).toList := fun F => by
      rw [List.take_add_one, eg, List.filterMap_append]
      congr 1
    obtain ⟨as5, hL5, das5, las5⟩ := g5b.at_
    obtain ⟨as6, hL6, das6, las6⟩ := g6b.at_
    have l5 : as5.length ≤ 100 := by
      rw [las5]
      refine Nat.le_trans (List.length_filterMap_le _ _) ?_
      rw [List.length_take]
      omega
    have l6 : as6.length ≤ 100 := by
      rw [las6]
      refine Nat.le_trans (List.length_filterMap_le _ _) ?_
      rw [List.length_take]
      omega
    walk_at "go"
    refine byN_go (raw := PF.raw) d3b (fun e => ?_) (fun f w e dw => ?_)
    · have e' : ((m.kind k).find? fun f => f.num == g.num) = none := e
      have e5 : nF (pairsF m m') (m.kind k) g = none := by unfold nF; rw [e']; rfl
      have e6 : nD (m.kind k) g = dfltF g := by unfold nD; rw [e']; rfl
      walk_at "go"
      show sp_left_of K [x] Hb _ _
      refine leftD_go dxr fun H1 p k1 dp _ => ?_
      walk_at "go"
      rename_i N nN
      have kN := (Kp.refl (M := []) (H := H1)).upd_new' (o := .tup []) nN
      have shd : ∀ d, g.d = some d → Sh 2 d := fun d e => ((pb g mg).2.2.2.2 d e).1
      refine .inl (neD_go (d := .tuple g.d.toList) (e := .tuple []) (dp_kp0 kN dp) (.tup (SqT.of upd_same) .nil) ?_ ((sh_tup (n := 0) (ds := []) fun d h => nomatch h).ok (by decide)) ?_)
      · refine (sh_tup (n := 2) fun d h => ?_).ok (by decide)
        cases ed : g.d with
        | none => rw [ed] at h; cases h
        | some d' =>
          rw [ed] at h
          rw [List.mem_singleton.mp h]
          exact shd d' ed
      · rw [eqv_nil]
        have k2 := k1.trans kN
        cases ed : g.d with
        | none =>
          have e6' : dfltF g = none := by unfold dfltF; rw [ed]; rfl
          walk_at "go"
          refine ⟨?_, ?_, _, rfl, kG.trans (k2.mono fun z m => absurd m List.not_mem_nil)⟩
          · rw [eT, e5]
            show Gr K H0 _ L5 (_ ++ [])
            rw [List.append_nil]
            exact g5b.kp k2
          · rw [eT, e6, e6']
            show Gr K H0 _ L6 (_ ++ [])
            rw [List.append_nil]
            exact g6b.kp k2
        | some d' =>
          have e6' : dfltF g = some (.tuple [.str g.name, d']) := by unfold dfltF; rw [ed]; rfl
          have dx2 := dp_kp0 k2 dxr
          have dxc : Dp K (upd H1 N (.tup [])) x (.tuple (.int g.num :: ([.str g.name, srtD g.s] ++ g.d.toList))) := dx2
          have hL6c := k2 _ _ List.not_mem_nil hL6
          generalize upd H1 N (.tup []) = H2 at k2 dx2 dxc hL6c ⊢
          walk_at "go"
          show sp_left_of K [x] H2 _ _
          refine leftD_go dx2 fun H3 p3 k3 dp3 _ => ?_
          rw [ed] at dp3
          have dp3' : Dp K H3 (.ref p3) (.tuple [d']) := dp3
          have hL6d := k3 _ _ List.not_mem_nil hL6c
          have k23 := k2.trans k3
          walk_at "go"
          rename_i v hv t nt
          have kt := (Kp.refl (M := []) (H := H3)).upd_new' (o := .tup [.str g.name, v]) nt
          have k4 := k23.trans kt
          have hL6e := kt _ _ List.not_mem_nil hL6d
          refine ⟨?_, ?_, _, rfl, (kG.trans (k4.mono fun z m => absurd m List.not_mem_nil)).upd_in (List.mem_cons_of_mem _ List.mem_cons_self)⟩
          · rw [eT, e5]
            show Gr K H0 _ L5 (_ ++ [])
            rw [List.append_nil]
            exact (g5b.kp k4).other hL6e g6.n ne
          · rw [eT, e6, e6']
            refine (g6b.kp k4).app hL6e ?_ ?_
            · show Dp K _ _ (.tuple [.str g.name, d'])
              walk_at "dp"
            · show (true && (noL d' && true)) = true
              rw [((pb g mg).2.2.2.2 d' ed).2]
              rfl
    · have e' : ((m.kind k).find? fun f => f.num == g.num) = some f := e
      have mf := List.mem_of_find?_eq_some e'
      have e5 : nF (pairsF m m') (m.kind k) g = some (fieldF (pairsF m m') (f, g)) := by unfold nF; rw [e']; rfl
      have e6 : nD (m.kind k) g = none := by unfold nD; rw [e']; rfl
      have fn : f.num = g.num := by simpa using List.find?_some e'
      obtain ⟨fa, fs, rfl, _, _⟩ := dp_tup dw
      have dwf : Dp K Hb (.ref fa) (.tuple (.int f.num :: ([.str f.name, srtD f.s] ++ f.d.toList))) := dw
      obtain ⟨dx', P', xs', hZ', _, _⟩ := hzb.ex
      walk_at "go"
      rename_i ta hta tb htb
      show sp_Making_number_of K [.ref z, .ref ta, .ref tb] Hb _ _
      refine num_go hzb M hta htb (pa f mf).1 (pb g mg).1 fun H6 k6 => ?_
      have dw6 := dp_kp0 k6 dw
      have hL56 := k6 _ _ List.not_mem_nil hL5
      walk_at "go"
      show sp_left_of K [.ref fa] H6 _ _
      refine leftD_go dw6 fun H7 p7 k7 dp7 ⟨xs7, hp7, _⟩ => ?_
      have hL57 := k7 _ _ List.not_mem_nil hL56
      have k67 := k6.trans k7
      walk_at "go"
      rename_i t nt
      have kt := (Kp.refl (M := []) (H := H7)).upd_new' (o := .tup [.int g.num, .str g.name, .int (numF (pairsF m m') (f.s, g.s)), .ref p7]) nt
      have k8 := k67.trans kt
      have hL58 := kt _ _ List.not_mem_nil hL57
      refine ⟨?_, ?_, _, rfl, (kG.trans (k8.mono fun z m => absurd m List.not_mem_nil)).upd_in List.mem_cons_self⟩
      · rw [eT, e5]
        refine (g5b.kp k8).app hL58 ?_ ?_
        · show Dp K _ _ (.tuple [.int f.num, .str g.name, .int (numF (pairsF m m') (f.s, g.s)), .tuple f.d.toList])
          rw [fn]
          walk_at "dp"
        · show (true && (true && (true && (noLs f.d.toList && true)))) = true
          cases ed : f.d with
          | none => rfl
          | some d =>
            show (true && (true && (true && ((noL d && true) && true)))) = true
            rw [((pa f mf).2.2.2.2 d ed).2]
            rfl
      · rw [eT, e6]
        show Gr K H0 _ L6 (_ ++ [])
        rw [List.append_nil]
        exact (g6b.kp k8).other hL58 g5.n ne.symm
  · obtain ⟨u7, u8, rfl, g5b, g6b, M0, rfl, kG⟩ := h
    rw [lw, List.take_length] at g5b g6b
    have ndat : noLs ((m'.kind k').map fun f => f.raw.dat) = true := noLs_all fun d hd => by
      obtain ⟨f, hf, rfl⟩ := List.mem_map.mp hd
      show (true && noLs f.raw.2) = true
      rw [noLs_raw M.b mk' f hf]
      rfl
    have d4e : Dp K H' (.ref wa) (.tuple ((m'.kind k').map fun f => f.raw.dat)) := dp_kp0 g5b.k h4
    have d3e := dp_kp0 g5b.k h3
    obtain ⟨as5, hL5, das5, las5⟩ := g5b.at_
    obtain ⟨as6, hL6, das6, las6⟩ := g6b.at_
    walk_at "go"
    rename_i t5 nt5 t6 nt6
    have k56 : Kp [] H' (upd (upd H' t5 (.tup as5)) t6 (.tup as6)) := by walk_at "kp"
    have h5' : SqT K (upd (upd H' t5 (.tup as5)) t6 (.tup as6)) t5 as5 := by walk_at "t"
    have h6' : SqT K (upd (upd H' t5 (.tup as5)) t6 (.tup as6)) t6 as6 := by walk_at "t"
    generalize upd (upd H' t5 (.tup as5)) t6 (.tup as6) = H2 at k56 h5' h6' ⊢
    show sp_lacking_names K [.ref wa, y3] H2 _ _
    refine lack_go (dp_kp0 k56 d4e) (dp_kp0 k56 d3e) lm2 (fun f hf d e => ((pb f hf).2.2.2.2 d e).1) fun H3 L k3 ⟨ls, hls, dls⟩ => ?_
    walk_at "go"
    rename_i t7 nt7 t8 nt8
    have k0 : Kp [] H2 (upd (upd H3 t7 (.tup ls)) t8 (.tup [.str "node", .str k', .ref t5, .ref t6, .ref t7])) := k3.trans (by walk_at "kp")
    refine q _ _ (g5b.k.trans (k56.trans k0)) ?_
    have eF : (both m m' k k').map (fieldF (pairsF m m')) = (m'.kind k').filterMap (nF (pairsF m m') (m.kind k)) := by
      rw [both_kinds M.a M.b mk mk', List.map_filterMap]
      congr 1
      funext g
      unfold nF
      rw [Option.map_map]
      rfl
    have eD : (aloneF (m.kind k) (m'.kind k')).filterMap dfltF = (m'.kind k').filterMap (nD (m.kind k)) := by
      unfold aloneF
      rw [List.filterMap_filter]
      rfl
    show Dp K _ _ (.tuple [.str "node", .str k', .tuple ((both m m' k k').map (fieldF (pairsF m m'))), .tuple ((aloneF (m.kind k) (m'.kind k')).filterMap dfltF), .tuple ((lacksF (m.kind k) (m'.kind k')).map .str)])
    rw [eF, eD]
    have kls : Kp [] H3 (upd (upd H3 t7 (.tup ls)) t8 (.tup [.str "node", .str k', .ref t5, .ref t6, .ref t7])) := by walk_at "kp"
    refine .tup (SqT.of upd_same) (.cons (.str _) (.cons (.str _) (.cons ?_ (.cons ?_ (.cons ?_ .nil)))))
    · exact .tup (k0.sqT List.not_mem_nil h5') (dpAll_kp0 (k56.trans k0) das5)
    · exact .tup (k0.sqT List.not_mem_nil h6') (dpAll_kp0 (k56.trans k0) das6)
    · exact .tup (by walk_at "t") (dpAll_kp0 kls dls)
theorem p_Making_node (K : PySem.W.Frag) (C : Addr) (O : Own K C) (vs : List V) (H : Hp) (Q : VK) (E : XK) (h : sp_Making_node K vs H Q E) : t_Making_node K C { nx := fun _ H' => Q .non H', rt := Q } (start ["self", "mine", "yours", "ours", "theirs", "fields", "defaults", "field", "one"] vs) H := by
  unfold sp_Making_node at h
  obtain ⟨z, a, b, m, m', U, k, k', rfl, hz, M, mk, mk', q⟩ := h
  obtain ⟨cl, n1, n2, n3, _, _⟩ := O.Making
  obtain ⟨dx, P, xs, hZ, kt, dxs⟩ := hz.ex
  unfold t_Making_node
  walk_at "go"
  show sp_fields_of K [.ref a, .str k] H _ _
  refine fields_go hz.sa mk fun y3 d3 => ?_
  walk_at "go"
  show sp_fields_of K [.ref b, .str k'] H _ _
  refine fields_go hz.sb mk' fun y4 d4 => ?_
  walk_at "go"
  rename_i L5 nL5 L6 nL6
  have g5 : Gr K H (upd H L5 (.lst [])) L5 [] := .new nL5
  have ne : L5 ≠ L6 := fun e => by rw [e, upd_same] at nL6; cases nL6
  have n6 : H L6 = none := by rw [upd_ne ne.symm] at nL6; exact nL6
  have g5' : Gr K H (upd (upd H L5 (.lst [])) L6 (.lst [])) L5 [] := ⟨g5.k.upd_new n6, nL5, ⟨[], (upd_ne ne).trans upd_same, .nil⟩, rfl⟩
  have g6' : Gr K H (upd (upd H L5 (.lst [])) L6 (.lst [])) L6 [] := ⟨g5.k.upd_new n6, n6, ⟨[], upd_same, .nil⟩, rfl⟩
  exact node_b0 K C O hz M mk mk' d3 d4 g5' g6' ne q
end K02

-- imports: QS1 QS2 QS3 QM1 QM2 QM3 QM4 QM5 QM6 QM7 QM8 QM9 QM10 QM11
/-! ## readers: a step, a reader -/
set_option maxHeartbeats 4000000
namespace K02
open PySem PySem.Spec PyProof.Rows L2 Kb
section
variable {K : PySem.W.Frag} {H H' : Hp} {Q : VK} {E : XK}
theorem choice_go {z a b : Addr} {m m' : SM} {U : List Pr} {k k' : Str} (hz : MkV K H z a b m m') (M : Met m m' U) (mk : (m.picks.lookup k).isSome = true) (mk' : (m'.picks.lookup k').isSome = true) (q : ∀ H' y, Kp [] H H' → Dp K H' y (choiceF m m' (pairsF m m') k k') → Q y H') : sp_Making_choice K [.ref z, .str k, .str k'] H Q E := by
  unfold sp_Making_choice
  exact ⟨z, a, b, m, m', U, k, k', rfl, hz, M, mk, mk', q⟩
theorem node_go {z a b : Addr} {m m' : SM} {U : List Pr} {k k' : Str} (hz : MkV K H z a b m m') (M : Met m m' U) (mk : (m.kinds.lookup k).isSome = true) (mk' : (m'.kinds.lookup k').isSome = true) (q : ∀ H' y, Kp [] H H' → Dp K H' y (nodeF m m' (pairsF m m') k k') → Q y H') : sp_Making_node K [.ref z, .str k, .str k'] H Q E := by
  unfold sp_Making_node
  exact ⟨z, a, b, m, m', U, k, k', rfl, hz, M, mk, mk', q⟩
theorem step_go {z a b : Addr} {x y : V} {m m' : SM} {U : List Pr} {s t : Srt} (hz : MkV K H z a b m m') (M : Met m m' U) (hx : Dp K H x (srtD s)) (hy : Dp K H y (srtD t)) (i1 : SIn m s) (i2 : SIn m' t) (q : ∀ H' v, Kp [] H H' → Dp K H' v (stepF m m' (pairsF m m') s t) → Q v H') : sp_Making_step K [.ref z, x, y] H Q E := by
  unfold sp_Making_step
  exact ⟨z, x, y, a, b, m, m', U, s, t, rfl, hz, M, hx, hy, i1, i2, q⟩
theorem making_go {z a b dx : Addr} {m m' : SM} {U : List Pr} (hz : H z = some (.ins (cAt K "Making") dx [])) (sa : SV K H a m) (sb : SV K H b m') (M : Met m m' U) (q : ∀ H', Kp [z] H H' → MkV K H' z a b m m' → Q .non H') : sp_Making___init__ K [.ref z, .ref a, .ref b] H Q E := by
  unfold sp_Making___init__
  exact ⟨z, a, b, m, m', U, dx, rfl, hz, sa, sb, M, q⟩
theorem made_go {a b : Addr} {m m' : SM} {U : List Pr} (sa : SV K H a m) (sb : SV K H b m') (M : Met m m' U) (q : ∀ H' y, Kp [] H H' → Dp K H' y (.tuple (madeF m m')) → Q y H') : sp_made K [.ref a, .ref b] H Q E := by
  unfold sp_made
  exact ⟨a, b, m, m', U, rfl, sa, sb, M, q⟩
theorem len_Making_step : ∀ vs H Q E, sp_Making_step K vs H Q E → vs.length = ["self", "mine", "yours"].length := by
  intro _ _ _ _ h
  unfold sp_Making_step at h
  obtain ⟨_, _, _, _, _, _, _, _, _, _, rfl, _⟩ := h
  rfl
theorem len_made : ∀ vs H Q E, sp_made K vs H Q E → vs.length = ["old", "new"].length := by
  intro _ _ _ _ h
  unfold sp_made at h
  obtain ⟨_, _, _, _, _, rfl, _⟩ := h
  rfl
end
theorem ok_mono {nk ck : Str → Prop} : ∀ {s : Srt} {d d' : Nat}, s.ok nk ck d → d ≤ d' → s.ok nk ck d'
  | .num _ _, _, _, h, _ => h
  | .truth, _, _, _, _ => trivial
  | .text _, _, _, h, _ => h
  | .row _ s, 0, _, h, _ => h.elim
  | .row _ s, _ + 1, 0, _, l => absurd l (Nat.not_succ_le_zero _)
  | .row _ s, _ + 1, _ + 1, h, l => ⟨h.1, h.2.1, ok_mono (s := s) h.2.2 (Nat.le_of_succ_le_succ l)⟩
  | .maybe s, 0, _, h, _ => h.elim
  | .maybe s, _ + 1, 0, _, l => absurd l (Nat.not_succ_le_zero _)
  | .maybe s, _ + 1, _ + 1, h, l => ⟨ok_mono (s := s) h.1 (Nat.le_of_succ_le_succ l), h.2⟩
  | .node _, _, _, h, _ => h
  | .pick _, _, _, h, _ => h
theorem in_maybe {m : SM} {s : Srt} (h : SIn m (.maybe s)) : SIn m s := by
  exact ok_mono (d := 2) h.1 (by omega)
theorem in_row {m : SM} {n : Int} {s : Srt} (h : SIn m (.row n s)) : SIn m s := by
  exact ok_mono (d := 2) h.2.2 (by omega)
theorem step_sm {m m' : SM} {ps : List Pr} {s t : Srt} (h : wnum t ≠ 4) : stepF m m' ps (.maybe s) t = .tuple [.str "force", .int (numF ps (s, t))] := by
  cases t <;> first | rfl | exact absurd rfl h
theorem step_mt {m m' : SM} {ps : List Pr} {s t : Srt} (h : wnum s ≠ 4) : stepF m m' ps s (.maybe t) = .tuple [.str "wrap", .int (numF ps (s, t))] := by
  cases s <;> first | rfl | exact absurd rfl h
theorem step_bad {m m' : SM} {ps : List Pr} {s t : Srt} (h : wnum s ≠ wnum t) (h1 : wnum s ≠ 4) (h2 : wnum t ≠ 4) : stepF m m' ps s t = .tuple [.str "bad"] := by
  cases s <;> cases t <;> first | rfl | exact absurd rfl h | exact absurd rfl h1 | exact absurd rfl h2
theorem p_Making_step (K : PySem.W.Frag) (C : Addr) (O : Own K C) (vs : List V) (H : Hp) (Q : VK) (E : XK) (h : sp_Making_step K vs H Q E) : t_Making_step K C { nx := fun _ H' => Q .non H', rt := Q } (start ["self", "mine", "yours", "inner"] vs) H := by
  unfold sp_Making_step at h
  obtain ⟨z, u, v, a, b, m, m', U, s, t, rfl, hz, M, hu, hv, is, it, q⟩ := h
  obtain ⟨dx, P, xs, hZ, kt, dxs⟩ := hz.ex
  unfold t_Making_step
  by_cases ms : wnum s = 4
  · obtain ⟨s, rfl⟩ := m_of ms
    have hu' : Dp K H u (.tuple [.str "maybe", srtD s]) := hu
    by_cases mt : wnum t = 4
    · obtain ⟨t, rfl⟩ := m_of mt
      have hv' : Dp K H v (.tuple [.str "maybe", srtD t]) := hv
      walk_at "go"
      rename_i sa hsa ta hta
      show sp_Making_number_of K [.ref z, .ref sa, .ref ta] H _ _
      refine num_go hz M hsa hta (in_maybe is) (in_maybe it) fun H1 k1 => ?_
      walk_at "go"
      rename_i p np
      refine q _ _ (k1.trans (by walk_at "kp")) ?_
      show Dp K _ _ (.tuple [.str "maybe", .int (numF (pairsF m m') (s, t))])
      walk_at "dp"
    · have hv' := word_dp hv
      have nt := not_maybe mt
      walk_at "go"
      rename_i sa hsa
      show sp_Making_number_of K [.ref z, .ref sa, v] H _ _
      refine num_go hz M hsa hv (in_maybe is) it fun H1 k1 => ?_
      walk_at "go"
      rename_i p np
      refine q _ _ (k1.trans (by walk_at "kp")) ?_
      rw [step_sm mt]
      walk_at "dp"
  · have hu' := word_dp hu
    have ns := not_maybe ms
    by_cases mt : wnum t = 4
    · obtain ⟨t, rfl⟩ := m_of mt
      have hv' : Dp K H v (.tuple [.str "maybe", srtD t]) := hv
      walk_at "go"
      rename_i ta hta
      show sp_Making_number_of K [.ref z, u, .ref ta] H _ _
      refine num_go hz M hu hta is (in_maybe it) fun H1 k1 => ?_
      walk_at "go"
      rename_i p np
      refine q _ _ (k1.trans (by walk_at "kp")) ?_
      rw [step_mt ms]
      walk_at "dp"
    · have hv' := word_dp hv
      have nt := not_maybe mt
      by_cases w : wnum s = wnum t
      · have ew : wrd s = wrd t := by rw [wrd_eq, wrd_eq, w]
        have hv2 := hv'
        rw [← ew] at hv2
        unfold b_Making_step_0 b_Making_step_1
        cases s with
        | maybe s => exact absurd rfl ms
        | num a1 b1 =>
          obtain ⟨a2, b2, rfl⟩ : ∃ a b, t = .num a b := by cases t <;> first | exact ⟨_, _, rfl⟩ | cases w
          have hu3 : Dp K H u (.tuple (.str "number" :: [oD a1, oD b1])) := hu
          have hv3 : Dp K H v (.tuple (.str "number" :: [oD a2, oD b2])) := hv
          clear hu' hv' hv2
          walk_at "go"
          exact q _ _ Kp.refl hv
        | truth =>
          obtain rfl : t = .truth := by cases t <;> first | rfl | cases w
          have hu3 : Dp K H u (.tuple (.str "truth" :: [])) := hu
          have hv3 : Dp K H v (.tuple (.str "truth" :: [])) := hv
          clear hu' hv' hv2
          walk_at "go"
          exact q _ _ Kp.refl hv
        | text n1 =>
          obtain ⟨n2, rfl⟩ : ∃ a, t = .text a := by cases t <;> first | exact ⟨_, rfl⟩ | cases w
          have hu3 : Dp K H u (.tuple (.str "text" :: [.int n1])) := hu
          have hv3 : Dp K H v (.tuple (.str "text" :: [.int n2])) := hv
          clear hu' hv' hv2
          walk_at "go"
          exact q _ _ Kp.refl hv
        | row n1 s =>
          obtain ⟨n2, t, rfl⟩ : ∃ a b, t = .row a b := by cases t <;> first | exact ⟨_, _, rfl⟩ | cases w
          have hu3 : Dp K H u (.tuple [.str "row", .int n1, srtD s]) := hu
          have hv3 : Dp K H v (.tuple [.str "row", .int n2, srtD t]) := hv
          have er : stepF m m' (pairsF m m') (.row n1 s) (.row n2 t) = .tuple [.str "row", .int n2, .int (if 0 < n1 ∧ 0 < n2 then numF (pairsF m m') (s, t) else -1)] := rfl
          clear hu' hv' hv2
          walk_at "go"
          · rename_i g1 g2 sa hsa ta hta
            show sp_Making_number_of K [.ref z, .ref sa, .ref ta] H _ _
            refine num_go hz M hsa hta (in_row is) (in_row it) fun H1 k1 => ?_
            have hv4 := dp_kp0 k1 hv3
            walk_at "go"
            rename_i p np
            refine q _ _ (k1.trans (by walk_at "kp")) ?_
            rw [er, if_pos ⟨g1, g2⟩]
            walk_at "dp"
          · rename_i g1 g2 p np
            refine q _ _ (by walk_at "kp") ?_
            rw [er, if_neg fun h => g2 h.2]
            walk_at "dp"
          · rename_i g1 p np
            refine q _ _ (by walk_at "kp") ?_
            rw [er, if_neg fun h => g1 h.1]
            walk_at "dp"
        | pick k =>
          obtain ⟨k', rfl⟩ : ∃ a, t = .pick a := by cases t <;> first | exact ⟨_, rfl⟩ | cases w
          have hu3 : Dp K H u (.tuple [.str "choice", .str k]) := hu
          have hv3 : Dp K H v (.tuple [.str "choice", .str k']) := hv
          clear hu' hv' hv2
          walk_at "go"
          show sp_Making_choice K [.ref z, .str k, .str k'] H _ _
          exact choice_go hz M is.1 it.1 q
        | node k =>
          obtain ⟨k', rfl⟩ : ∃ a, t = .node a := by cases t <;> first | exact ⟨_, rfl⟩ | cases w
          have hu3 : Dp K H u (.tuple [.str "node", .str k]) := hu
          have hv3 : Dp K H v (.tuple [.str "node", .str k']) := hv
          clear hu' hv' hv2
          walk_at "go"
          show sp_Making_node K [.ref z, .str k, .str k'] H _ _
          exact node_go hz M is.1 it.1 q
      · have nw := wrd_ne w
        walk_at "go"
        rename_i p np
        refine q _ _ (by walk_at "kp") ?_
        rw [step_bad w ms mt]
        walk_at "dp"
theorem noL_tup {ds : List PyData} (h : ∀ d ∈ ds, noL d = true) : noL (.tuple ds) = true := noLs_all h
theorem noL_dl {f : PF} (h : ∀ d, f.d = some d → Sh 2 d ∧ noL d = true) : noLs f.d.toList = true := by
  cases e : f.d with
  | none => rfl
  | some d =>
    show (noL d && true) = true
    rw [(h d e).2]
    rfl
theorem noL_step {m m' : SM} (wa : m.wf) (wb : m'.wf) {ps : List Pr} {s t : Srt} (is : SIn m s) (it : SIn m' t) : noL (stepF m m' ps s t) = true := by
  by_cases w : wnum s = wnum t
  · cases s with
    | maybe s => cases t <;> first | rfl | cases w
    | num _ _ =>
      cases t <;> first | cases w | skip
      exact noL_srt _
    | truth => cases t <;> first | rfl | cases w
    | text _ => cases t <;> first | rfl | cases w
    | row _ _ => cases t <;> first | rfl | cases w
    | pick k =>
      cases t <;> first | cases w | skip
      rename_i k'
      show (true && (noLs ((bothC m m' k k').map (caseF ps)) && (noL (otherF (m'.pick k')) && true))) = true
      rw [noLs_map (noL_case ps)]
      unfold otherF
      cases (m'.pick k').find? fun c => c.num == 0 <;> rfl
    | node k =>
      cases t <;> first | cases w | skip
      rename_i k'
      have pa := (wa.ks _ (kind_mem is.1)).2
      have pb := (wb.ks _ (kind_mem it.1)).2
      show (true && (true && (noLs ((both m m' k k').map (fieldF ps)) && (noLs ((aloneF (m.kind k) (m'.kind k')).filterMap dfltF) && (noLs ((lacksF (m.kind k) (m'.kind k')).map .str) && true))))) = true
      rw [noLs_map (f := PyData.str) (fun _ => rfl), noLs_all (ds := (both m m' k k').map (fieldF ps)) fun d hd => ?_, noLs_all (ds := (aloneF (m.kind k) (m'.kind k')).filterMap dfltF) fun d hd => ?_]
      · rfl
      · obtain ⟨g, hg, e⟩ := List.mem_filterMap.mp hd
        have hg' := (List.mem_filter.mp hg).1
        obtain ⟨d', ed, rfl⟩ := Option.map_eq_some_iff.mp e
        show (true && (noL d' && true)) = true
        rw [((pb g hg').2.2.2.2 d' ed).2]
        rfl
      · obtain ⟨r, hr, rfl⟩ := List.mem_map.mp hd
        have hf := (bothF_mem hr).1
        show (true && (true && (true && (noLs r.1.d.toList && true)))) = true
        rw [noL_dl (pa r.1 hf).2.2.2.2]
        rfl
  · by_cases ms : wnum s = 4
    · obtain ⟨s, rfl⟩ := m_of ms
      rw [step_sm fun e => w (ms.trans e.symm)]
      rfl
    · by_cases mt : wnum t = 4
      · obtain ⟨t, rfl⟩ := m_of mt
        rw [step_mt ms]
        rfl
      · rw [step_bad w ms mt]
        rfl
theorem p_made (K : PySem.W.Frag) (C : Addr) (O : Own K C) (vs : List V) (H : Hp) (Q : VK) (E : XK) (h : sp_made K vs H Q E) : t_made K C { nx := fun _ H' => Q .non H', rt := Q } (start ["old", "new", "making", "mine", "yours"] vs) H := by
  unfold sp_made at h
  obtain ⟨a, b, m, m', U, rfl, sa, sb, M, q⟩ := h
  obtain ⟨cl, n1, n2, n3, _, _⟩ := O.Making
  unfold t_made
  walk_at "go"
  rename_i w dx nw nd ne
  show sp_Making___init__ K [.ref w, .ref a, .ref b] _ _ _
  have k1 : Kp [] H (upd (upd H dx (.own w)) w (.ins (cAt K "Making") dx [])) := (Kp.refl.upd_new nd).upd_new nw
  refine making_go (upd_same) (sa.kp0 k1) (sb.kp0 k1) M fun H2 k2 mk => ?_
  obtain ⟨dx', P, xs, hW, kt, dxs⟩ := mk.ex
  have k02 : Kp [] H H2 := k1.drop k2 fun z m => .inr (by rw [List.mem_singleton.mp m]; exact nw)
  have lx : xs.length = (pairsF m m').length := by rw [dpAll_len dxs, List.length_map]
  have lf := pairs_few M
  walk_at "go"
  refine ⟨⟨xs, kt.sqT⟩, ?_⟩
  intro D nD
  refine lc_dat (K := K) (f := fun p : Pr => some (stepF m m' (pairsF m m') p.1 p.2)) (as := pairsF m m') (walk_tup (xs := xs)) nD lx (by have : NN = 160 := rfl; omega) (fun p hp d e => ?_) (fun H' k => k.sqT List.not_mem_nil kt.sqT) (fun i p u Hc ep eu kc Py Pn py pn => ?_) (fun H3 k3 ⟨ys, hD, dys⟩ => ?_)
  · cases e
    exact noL_step M.a M.b (pairs_l M p hp).1 (pairs_l M p hp).2
  · obtain ⟨d, ed, du⟩ := dpAll_ix dxs eu
    rw [List.getElem?_map, ep] at ed
    cases ed
    have du' : Dp K Hc u (.tuple [srtD p.1, srtD p.2]) := dp_kp0 kc du
    refine gTupD_go du' rfl fun vs dvs => ?_
    cases dvs with
    | cons d1 dvs =>
    cases dvs with
    | cons d2 dvs =>
    cases dvs
    rename_i v1 v2
    have hp := pairs_l M p (List.mem_of_getElem? ep)
    have mkc := mk.kp0 kc
    obtain ⟨dxc, Pc, xsc, hWc, _, _⟩ := mkc.ex
    walk_at "go"
    show sp_Making_step K [.ref w, v1, v2] Hc _ _
    exact step_go mkc M d1 d2 hp.1 hp.2 fun H4 v k4 dv => py _ _ _ rfl k4 dv
  · walk_at "go"
    rename_i l nl
    have kl := (Kp.refl (M := []) (H := H3)).upd_new' (o := .tup ys) nl
    refine q _ _ ((k02.trans k3).trans kl) (.tup (SqT.of upd_same) ?_)
    have e : madeF m m' = (pairsF m m').filterMap fun p : Pr => some (stepF m m' (pairsF m m') p.1 p.2) := by
      unfold madeF
      rw [List.filterMap_eq_map']
    rw [e]
    exact dpAll_kp0 kl dys
end K02

-- imports: QS1 QS2 QS3 QS4 QS5 QS6 QM1 QM2 QM3 QM4 QM5 QM6 QM7 QM8 QM9 QM10 QM11 QM12
/-! ## a schema that was made, as a plain one -/
set_option maxHeartbeats 4000000
namespace K02
open PySem PySem.Spec PyProof.Rows L2 Kb
open LamX (TabS)
theorem perm_map {α β : Type} {f : α → β} : ∀ {ps qs : List β}, ps.Perm qs → ∀ {l : List α}, qs = l.map f → ∃ l' : List α, l'.Perm l ∧ ps = l'.map f := by
  intro ps qs h
  induction h with
  | nil => exact fun {l} e => ⟨l, .refl _, by rw [← e]⟩
  | cons x _ ih =>
    intro l e
    cases l with
    | nil => cases e
    | cons a l =>
      obtain ⟨e1, e2⟩ := List.cons.inj e
      obtain ⟨l', p, e'⟩ := ih e2
      exact ⟨a :: l', p.cons a, by rw [List.map_cons, e1, e']⟩
  | swap x y t =>
    intro l e
    cases l with
    | nil => cases e
    | cons a l =>
      cases l with
      | nil => cases (List.cons.inj e).2
      | cons b l =>
        obtain ⟨e1, e2⟩ := List.cons.inj e
        obtain ⟨e3, e4⟩ := List.cons.inj e2
        exact ⟨b :: a :: l, .swap a b l, by rw [List.map_cons, List.map_cons, e1, e3, e4]⟩
  | trans _ _ ih1 ih2 =>
    intro l e
    obtain ⟨l2, p2, e2⟩ := ih2 e
    obtain ⟨l1, p1, e1⟩ := ih1 e2
    exact ⟨l1, p1.trans p2, e1⟩
theorem zip_pairs {α β : Type} {R : α → β → Prop} : ∀ {xs : List α} {ys : List β}, Paired R xs ys → ∀ p ∈ xs.zip ys, R p.1 p.2
  | _, _, .nil, p, h => nomatch h
  | _, _, .cons h t, p, m => by
    rcases List.mem_cons.mp m with rfl | m
    · exact h
    · exact zip_pairs t p m
theorem pairs_zip {α β : Type} {R : α → β → Prop} : ∀ {zs : List (α × β)}, (∀ p ∈ zs, R p.1 p.2) → Paired R (zs.map (·.1)) (zs.map (·.2))
  | [], _ => .nil
  | z :: zs, h => .cons (h z List.mem_cons_self) (pairs_zip fun p m => h p (List.mem_cons_of_mem _ m))
theorem zip_fst {α β : Type} : ∀ {xs : List α} {ys : List β}, xs.length = ys.length → (xs.zip ys).map (·.1) = xs
  | [], [], _ => rfl
  | [], _ :: _, h => by cases h
  | _ :: _, [], h => by cases h
  | x :: xs, y :: ys, h => by
    show x :: ((xs.zip ys).map (·.1)) = x :: xs
    rw [zip_fst (Nat.succ.inj h)]
theorem zip_mapl {α β γ : Type} (f : α → γ) : ∀ {xs : List α} {ys : List β}, (xs.map f).zip ys = (xs.zip ys).map fun p => (f p.1, p.2)
  | [], _ => by simp
  | _ :: _, [] => by simp
  | x :: xs, y :: ys => by
    rw [List.map_cons, List.zip_cons_cons, List.zip_cons_cons, List.map_cons, zip_mapl]
/-- the rows that stand in a tuple by rising numbers -/
theorem key_rows {α : Type} {R : α → V → Prop} {num : α → Int} {fls : List α} {xs ys : List V} (h : ByKey (fls.map num) xs ys) (p : Paired R fls xs) (nd : (fls.map num).Nodup) : ∃ gls : List α, gls.Perm fls ∧ Paired R gls ys ∧ Up num gls := by
  obtain ⟨ps, hp, rfl, so⟩ := h
  rw [zip_mapl] at hp
  obtain ⟨qs, hq, rfl⟩ := perm_map hp rfl
  have hz := zip_fst (paired_len p)
  have pg : (qs.map (·.1)).Perm fls := by
    have := hq.map (·.1)
    rwa [hz] at this
  refine ⟨qs.map (·.1), pg, ?_, ?_⟩
  · rw [List.map_map]
    exact pairs_zip fun z hz => zip_pairs p z (hq.mem_iff.mp hz)
  · have nd' : ((qs.map (·.1)).map num).Nodup := (pg.map num).nodup_iff.mpr nd
    unfold Up
    rw [List.pairwise_map] at so ⊢
    rw [List.Nodup, List.pairwise_map, List.pairwise_map] at nd'
    refine List.Pairwise.imp₂ (fun a b h1 h2 => ?_) so nd'
    have h1 : num a.1 ≤ num b.1 := h1
    have h2 : num a.1 ≠ num b.1 := h2
    omega
def dD : V → PyData
  | .int i => .int i
  | .bl b => .bool b
  | .str z => .str z
  | .ref _ => .tuple []
  | _ => .none
def pf (f : Fld) : PF := ⟨f.num, f.name, f.s, f.dfl.map dD⟩
def pc (c : Cse) : PC := ⟨c.num, c.name, c.s⟩
theorem dfl_dp {K : PySem.W.Frag} {H : Hp} {s : Srt} {v : V} (h : DfOk K H s v) : Dp K H v (dD v) := by
  cases s with
  | num _ _ => obtain ⟨i, rfl, _⟩ := h; exact .int i
  | truth => obtain ⟨b, rfl⟩ := h; exact .bl b
  | text _ => obtain ⟨z, rfl, _⟩ := h; exact .str z
  | row _ _ => obtain ⟨a, rfl, g⟩ := h; exact .tup g .nil
  | maybe _ => cases (show v = .non from h); exact .non
  | node _ => exact h.elim
  | pick _ => exact h.elim
theorem fld_dp {K : PySem.W.Frag} {H : Hp} {f : Fld} {x : V} (h : FldV K H f x) : Dp K H x (pf f).raw.dat := by
  obtain ⟨a, rfl, hx⟩ := h.at_
  have e : (pf f).raw.dat = .tuple ([.int f.num, .str f.name, srtD f.s] ++ (f.dfl.map dD).toList) := rfl
  rw [e]
  refine .tup hx (dpAll_app (.cons (.int _) (.cons (.str _) (.cons (dp_srt h.srt) .nil))) ?_)
  cases ed : f.dfl with
  | none => exact .nil
  | some v => exact .cons (dfl_dp (h.dfl v ed)) .nil
theorem cse_dp {K : PySem.W.Frag} {H : Hp} {c : Cse} {x : V} (h : CseV K H c x) : Dp K H x (pc c).raw.dat := by
  obtain ⟨a, rfl, hx⟩ := h.at_
  have e : (pc c).raw.dat = .tuple [.int c.num, .str c.name, osD c.s] := rfl
  rw [e]
  refine .tup hx (.cons (.int _) (.cons (.str _) (.cons ?_ .nil)))
  cases es : c.s with
  | none => rw [h.non es]; exact .non
  | some s => exact dp_srt (h.srt s es)
theorem up_map {α β : Type} {f : α → β} {n : α → Int} {m : β → Int} (e : ∀ a, m (f a) = n a) {xs : List α} (h : Up n xs) : Up m (xs.map f) := by
  unfold Up at h ⊢
  rw [List.pairwise_map]
  exact h.imp fun h => by rw [e, e]; exact h
theorem paired_dp {α : Type} {K : PySem.W.Frag} {H : Hp} {R : α → V → Prop} {f : α → PyData} (h : ∀ a x, R a x → Dp K H x (f a)) : ∀ {as : List α} {xs : List V}, Paired R as xs → DpAll K H xs (as.map f)
  | _, _, .nil => .nil
  | _, _, .cons p t => .cons (h _ _ p) (paired_dp h t)
/-- what was handed in for a kind, and what stands there -/
def KOf (r : KRow) (k : Str × List PF) : Prop := k.1 = r.name ∧ (∃ gls : List Fld, gls.Perm r.fls ∧ k.2 = gls.map pf) ∧ Up PF.num k.2
def COf (r : CRow) (k : Str × List PC) : Prop := k.1 = r.name ∧ (∃ gls : List Cse, gls.Perm r.cs ∧ k.2 = gls.map pc) ∧ Up PC.num k.2
section
variable {K : PySem.W.Frag} {H H' : Hp} {M : List Addr}
theorem noLs_one {f : Fld} {a : V} (h : FldV K H f a) : noL (pf f).raw.dat = true := by
  show (true && (true && (noL (srtD f.s) && noLs (f.dfl.map dD).toList))) = true
  rw [noL_srt]
  cases ed : f.dfl with
  | none => rfl
  | some v =>
    show (true && (true && (true && (noL (dD v) && true)))) = true
    cases v <;> rfl
theorem noLs_onec {c : Cse} : noL (pc c).raw.dat = true := by
  show (true && (true && (noL (osD c.s) && true))) = true
  rw [noL_os]
  rfl
theorem tab_ofK (k : Kp M H H') (nt : ∀ b ∈ M, NoT H b) : ∀ {FK : List KRow} {kvs : List (L2.Key × V)}, Done H H' (FK.map KRow.row) kvs → (∀ r ∈ FK, Paired (FldV K H) r.fls r.xs ∧ (r.fls.map (·.num)).Nodup) → ∃ ks : List (Str × List PF), TabD K H' (ks.map fun r => (r.1, r.2.map PF.raw)) kvs ∧ Paired KOf FK ks
  | [], _, .nil, _ => ⟨[], .nil, .nil⟩
  | r :: FK, kv :: kvs, .cons h t, p => by
    obtain ⟨ks, h1, h2⟩ := tab_ofK k nt t fun r m => p r (List.mem_cons_of_mem _ m)
    obtain ⟨e, T, ys, eT, nT, hT, bk⟩ := h
    obtain ⟨pr, nd⟩ := p r List.mem_cons_self
    obtain ⟨gls, pg, pp, up⟩ := key_rows bk pr nd
    refine ⟨(r.name, gls.map pf) :: ks, .cons ⟨e, ?_⟩ h1, .cons ⟨rfl, ⟨gls, pg, rfl⟩, up_map (fun _ => rfl) up⟩ h2⟩
    rw [eT]
    show Dp K H' (.ref T) (.tuple (((gls.map pf).map PF.raw).map Raw.dat))
    rw [List.map_map, List.map_map]
    exact .tup (SqT.of hT) (paired_dp (fun f x h => dp_kpT k nt (noLs_one h) (fld_dp h)) pp)
theorem tab_ofC (k : Kp M H H') (nt : ∀ b ∈ M, NoT H b) : ∀ {CK : List CRow} {kvs : List (L2.Key × V)}, Done H H' (CK.map CRow.row) kvs → (∀ r ∈ CK, Paired (CseV K H) r.cs r.xs ∧ (r.cs.map (·.num)).Nodup) → ∃ ks : List (Str × List PC), TabD K H' (ks.map fun r => (r.1, r.2.map PC.raw)) kvs ∧ Paired COf CK ks
  | [], _, .nil, _ => ⟨[], .nil, .nil⟩
  | r :: CK, kv :: kvs, .cons h t, p => by
    obtain ⟨ks, h1, h2⟩ := tab_ofC k nt t fun r m => p r (List.mem_cons_of_mem _ m)
    obtain ⟨e, T, ys, eT, nT, hT, bk⟩ := h
    obtain ⟨pr, nd⟩ := p r List.mem_cons_self
    obtain ⟨gls, pg, pp, up⟩ := key_rows bk pr nd
    refine ⟨(r.name, gls.map pc) :: ks, .cons ⟨e, ?_⟩ h1, .cons ⟨rfl, ⟨gls, pg, rfl⟩, up_map (fun _ => rfl) up⟩ h2⟩
    rw [eT]
    show Dp K H' (.ref T) (.tuple (((gls.map pc).map PC.raw).map Raw.dat))
    rw [List.map_map, List.map_map]
    exact .tup (SqT.of hT) (paired_dp (fun f x h => dp_kpT k nt noLs_onec (cse_dp h)) pp)
end
theorem keyIn_name {FK : List KRow} {ks : List (Str × List PF)} (p : Paired KOf FK ks) : ∀ {k : Str}, keyIn (FK.map KRow.kv) k → (ks.lookup k).isSome = true := by
  induction p with
  | nil => intro k h; obtain ⟨v, e⟩ := h; cases e
  | @cons r s FK ks h t ih =>
    intro k hk
    obtain ⟨v, e⟩ := hk
    obtain ⟨z, l⟩ := s
    have hz : z = r.name := h.1
    by_cases c : k = z
    · subst c
      simp only [List.lookup, beq_self_eq_true]
      rfl
    · have cb : (k == z) = false := by simpa using c
      simp only [List.lookup, cb]
      refine ih ⟨v, ?_⟩
      rw [← e]
      exact (valV_neg fun q => c ((Sum.inr.inj q).symm.trans hz.symm)).symm
theorem keyIn_nameC {CK : List CRow} {ks : List (Str × List PC)} (p : Paired COf CK ks) : ∀ {k : Str}, keyIn (CK.map CRow.kv) k → (ks.lookup k).isSome = true := by
  induction p with
  | nil => intro k h; obtain ⟨v, e⟩ := h; cases e
  | @cons r s FK ks h t ih =>
    intro k hk
    obtain ⟨v, e⟩ := hk
    obtain ⟨z, l⟩ := s
    have hz : z = r.name := h.1
    by_cases c : k = z
    · subst c
      simp only [List.lookup, beq_self_eq_true]
      rfl
    · have cb : (k == z) = false := by simpa using c
      simp only [List.lookup, cb]
      refine ih ⟨v, ?_⟩
      rw [← e]
      exact (valV_neg fun q => c ((Sum.inr.inj q).symm.trans hz.symm)).symm
theorem keyIn_ok {FK : List KRow} (ok : ∀ r ∈ FK, NameOk r.name) : ∀ {k : Str}, keyIn (FK.map KRow.kv) k → NameOk k := by
  induction FK with
  | nil => intro k h; obtain ⟨v, e⟩ := h; cases e
  | cons r FK ih =>
    intro k ⟨v, e⟩
    by_cases c : r.name = k
    · exact c ▸ ok r List.mem_cons_self
    · refine ih (fun r m => ok r (List.mem_cons_of_mem _ m)) ⟨v, ?_⟩
      rw [← e]
      exact (valV_neg fun q => c (Sum.inr.inj q)).symm
theorem keyIn_okC {FK : List CRow} (ok : ∀ r ∈ FK, NameOk r.name) : ∀ {k : Str}, keyIn (FK.map CRow.kv) k → NameOk k := by
  induction FK with
  | nil => intro k h; obtain ⟨v, e⟩ := h; cases e
  | cons r FK ih =>
    intro k ⟨v, e⟩
    by_cases c : r.name = k
    · exact c ▸ ok r List.mem_cons_self
    · refine ih (fun r m => ok r (List.mem_cons_of_mem _ m)) ⟨v, ?_⟩
      rw [← e]
      exact (valV_neg fun q => c (Sum.inr.inj q)).symm
theorem ok_imp {nk ck nk' ck' : Str → Prop} (h1 : ∀ k, nk k → nk' k) (h2 : ∀ k, ck k → ck' k) : ∀ {s : Srt} {d : Nat}, s.ok nk ck d → s.ok nk' ck' d
  | .num _ _, _, h => h
  | .truth, _, _ => trivial
  | .text _, _, h => h
  | .row _ s, 0, h => h.elim
  | .row _ s, _ + 1, h => ⟨h.1, h.2.1, ok_imp h1 h2 (s := s) h.2.2⟩
  | .maybe s, 0, h => h.elim
  | .maybe s, _ + 1, h => ⟨ok_imp h1 h2 (s := s) h.1, h.2⟩
  | .node k, _, h => h1 k h
  | .pick k, _, h => h2 k h
end K02

-- imports: QS1 QS2 QS3 QS4 QS5 QS6 QM1 QM2 QM3 QM4 QM5 QM6 QM7 QM8 QM9 QM10 QM11 QM12 QM13
/-! ## a schema is made; all pairs that may be met -/
set_option maxHeartbeats 4000000
namespace K02
open PySem PySem.Spec PyProof.Rows L2 Kb
open LamX (TabS)
theorem paired_mem {α β : Type} {R : α → β → Prop} : ∀ {xs : List α} {ys : List β} {y : β}, Paired R xs ys → y ∈ ys → ∃ x ∈ xs, R x y
  | _, _, _, .nil, h => nomatch h
  | _, _, _, .cons h t, m => by
    rcases List.mem_cons.mp m with rfl | m
    · exact ⟨_, List.mem_cons_self, h⟩
    · obtain ⟨x, hx, r⟩ := paired_mem t m
      exact ⟨x, List.mem_cons_of_mem _ hx, r⟩
structure Goods (K : PySem.W.Frag) (H : Hp) (FK : List KRow) (CK : List CRow) (rank : Str → Nat) (N : Nat) (s : Srt) : Prop where
  fl : FK.length ≤ 100
  cl : CK.length ≤ 100
  fn : (FK.map (·.name)).Nodup
  cn : (CK.map (·.name)).Nodup
  fk : ∀ r ∈ FK, r.ok K H (keyIn (FK.map KRow.kv)) (keyIn (CK.map CRow.kv)) ∧ r.fls.length ≤ 100 ∧ ∀ f ∈ r.fls, ∀ v, f.dfl = some v → Sh 2 (dD v)
  ck : ∀ r ∈ CK, r.ok K H (keyIn (FK.map KRow.kv)) (keyIn (CK.map CRow.kv)) rank N ∧ r.cs.length ≤ 100
  n : N ≤ 1000
  s : s.ok (keyIn (FK.map KRow.kv)) (keyIn (CK.map CRow.kv)) 3
theorem noT_tab {H : Hp} {P : Addr} {qn : Str} (t : TabS H P qn) : NoT H P := fun u e => by
  obtain ⟨ps, h1, _⟩ := t
  rw [h1] at e
  cases e
  exact ⟨(fun _ e => by cases e), fun _ _ e => by cases e⟩
theorem goods_wf {K : PySem.W.Frag} {H : Hp} {FK : List KRow} {CK : List CRow} {rank : Str → Nat} {N : Nat} {s : Srt} (g : Goods K H FK CK rank N s) {m : SM} (hk : Paired KOf FK m.kinds) (hc : Paired COf CK m.picks) (hs : m.root = s) : m.wf := by
  have k1 : ∀ k, keyIn (FK.map KRow.kv) k → (m.kinds.lookup k).isSome = true ∧ NameOk k := fun k h => ⟨keyIn_name hk h, keyIn_ok (fun r m => (g.fk r m).1.name) h⟩
  have k2 : ∀ k, keyIn (CK.map CRow.kv) k → (m.picks.lookup k).isSome = true ∧ NameOk k := fun k h => ⟨keyIn_nameC hc h, keyIn_okC (fun r m => (g.ck r m).1.name) h⟩
  refine ⟨fun r hr => ?_, fun r hr => ?_, ?_, fun r hr => ?_, fun r hr => ?_⟩
  · obtain ⟨R, hR, e1, ⟨gls, pg, e2⟩, up⟩ := paired_mem hk hr
    refine ⟨up, fun f hf => ?_⟩
    rw [e2] at hf
    obtain ⟨fl, hfl, rfl⟩ := List.mem_map.mp hf
    have hfl' := pg.mem_iff.mp hfl
    have ok := (g.fk R hR).1.row.ok fl hfl'
    refine ⟨ok_imp k1 k2 ok.srt, ok.name, ok.lo, ok.hi, fun d ed => ?_⟩
    obtain ⟨v, ev, rfl⟩ := Option.map_eq_some_iff.mp ed
    refine ⟨(g.fk R hR).2.2 fl hfl' v ev, ?_⟩
    cases v <;> rfl
  · obtain ⟨R, hR, e1, ⟨gls, pg, e2⟩, up⟩ := paired_mem hc hr
    refine ⟨up, fun f hf => ?_⟩
    rw [e2] at hf
    obtain ⟨c, hcl, rfl⟩ := List.mem_map.mp hf
    have ok := (g.ck R hR).1.row.ok c (pg.mem_iff.mp hcl)
    exact ⟨fun s es => ok_imp k1 k2 (ok.srt s es), ok.name, ok.lo, ok.hi⟩
  · rw [hs]
    exact ok_imp k1 k2 g.s
  · obtain ⟨R, hR, e1, ⟨gls, pg, e2⟩, up⟩ := paired_mem hk hr
    rw [e2, List.length_map, pg.length_eq]
    exact (g.fk R hR).2.1
  · obtain ⟨R, hR, e1, ⟨gls, pg, e2⟩, up⟩ := paired_mem hc hr
    rw [e2, List.length_map, pg.length_eq]
    exact (g.ck R hR).2
theorem schema_go {K : PySem.W.Frag} {H : Hp} {Q : VK} {E : XK} {Pt : Tb} {a ka ca dx : Addr} {root : V} {FK : List KRow} {CK : List CRow} {rank : Str → Nat} {N : Nat} {s : Srt} (hz : H a = some (.ins (cAt K "Schema") dx [])) (h1 : H ka = some (.dK (FK.map KRow.kv))) (h2 : H ca = some (.dK (CK.map CRow.kv))) (ne : ca ≠ ka) (g : Goods K H FK CK rank N s) (hs : SrtV K H s root) (tb : Tbl Pt H)
    (q : ∀ H' m, Kp [a, Pt.a, Pt.b] H H' → Tbl Pt H' → SV K H' a m → m.wf → m.root = s → Paired KOf FK m.kinds → Paired COf CK m.picks → Q .non H') : sp_Schema___init__ K Pt [.ref a, .ref ka, .ref ca, root] H Q E := by
  unfold sp_Schema___init__
  refine ⟨a, ka, .ref ca, root, dx, s, FK, CK, rank, N, rfl, hz, h1, .inr ⟨ca, rfl, h2, ne⟩, g.fl, g.cl, g.fn, g.cn, fun r hr => (g.fk r hr).1, fun r hr => (g.ck r hr).1, g.n, hs, g.s, tb, fun H' D1 D2 kvs1 kvs2 k tb' ha n1 n2 ne12 e1 e2 d1 d2 => ?_⟩
  have nt : ∀ b ∈ [a, Pt.a, Pt.b], NoT H b := fun b m => by
    rcases List.mem_cons.mp m with rfl | m
    · exact noT_ins hz
    · exact mem2 (P := NoT H) (noT_tab tb.a) (noT_tab tb.b) b m
  obtain ⟨ks, t1, p1⟩ := tab_ofK k nt d1 fun r hr => ⟨(g.fk r hr).1.row.at_, (g.fk r hr).1.row.nums⟩
  obtain ⟨cs, t2, p2⟩ := tab_ofC k nt d2 fun r hr => ⟨(g.ck r hr).1.row.at_, (g.ck r hr).1.row.nums⟩
  exact q H' ⟨ks, cs, s⟩ k tb' ⟨⟨dx, D1, D2, root, kvs1, kvs2, ha, e1, e2, t1, t2, dp_kpT k nt (noL_srt s) (dp_srt hs)⟩⟩ (goods_wf g p1 p2 rfl) rfl p1 p2
/-! what may be met -/
def Srt.dp : Srt → Nat
  | .row _ s => s.dp + 1
  | .maybe s => s.dp + 1
  | _ => 0
def inner : Srt → Srt → Option Pr
  | .maybe s, .maybe t => some (s, t)
  | .maybe s, t => some (s, t)
  | s, .maybe t => some (s, t)
  | .row _ s, .row _ t => some (s, t)
  | _, _ => none
theorem inner_dp {s t : Srt} {q : Pr} (h : inner s t = some q) : q.1.dp + q.2.dp < s.dp + t.dp := by
  cases s <;> cases t <;> first
    | (cases h; done)
    | (cases h; simp only [Srt.dp]; omega)
theorem inner_in {m m' : SM} {s t : Srt} {q : Pr} (h : inner s t = some q) (i1 : SIn m s) (i2 : SIn m' t) : SIn m q.1 ∧ SIn m' q.2 := by
  cases s <;> cases t <;> first
    | (cases h; done)
    | (cases h; first
        | exact ⟨in_maybe i1, in_maybe i2⟩
        | exact ⟨in_maybe i1, i2⟩
        | exact ⟨i1, in_maybe i2⟩
        | exact ⟨in_row i1, in_row i2⟩)
def unw : Nat → Pr → List Pr
  | 0, p => [p]
  | n + 1, p => p :: match inner p.1 p.2 with
    | some q => unw n q
    | none => []
theorem unw_self : ∀ {n : Nat} {p : Pr}, p ∈ unw n p
  | 0, _ => List.mem_cons_self
  | _ + 1, _ => List.mem_cons_self
theorem unw_in : ∀ {n : Nat} {p q r : Pr}, p.1.dp + p.2.dp ≤ n → q ∈ unw n p → inner q.1 q.2 = some r → r ∈ unw n p
  | 0, p, q, r, l, hq, h => by
    have e : q = p := List.mem_singleton.mp hq
    subst e
    have := inner_dp h
    omega
  | n + 1, p, q, r, l, hq, h => by
    unfold unw at hq ⊢
    cases e : inner p.1 p.2 with
    | none =>
      rw [e] at hq
      have e' : q = p := List.mem_singleton.mp hq
      subst e'
      rw [e] at h
      cases h
    | some p' =>
      rw [e] at hq
      have := inner_dp e
      rcases List.mem_cons.mp hq with rfl | hq
      · rw [e] at h
        cases h
        exact List.mem_cons_of_mem _ unw_self
      · exact List.mem_cons_of_mem _ (unw_in (by omega) hq h)
theorem unw_len : ∀ {n : Nat} {p : Pr}, (unw n p).length ≤ n + 1
  | 0, _ => Nat.le_refl _
  | n + 1, p => by
    unfold unw
    cases inner p.1 p.2 with
    | none => show 1 ≤ _; omega
    | some q =>
      have := unw_len (n := n) (p := q)
      show (unw n q).length + 1 ≤ _
      omega
theorem unw_sin {m m' : SM} : ∀ {n : Nat} {p q : Pr}, q ∈ unw n p → SIn m p.1 → SIn m' p.2 → SIn m q.1 ∧ SIn m' q.2
  | 0, p, q, hq, i1, i2 => by
    have e : q = p := List.mem_singleton.mp hq
    subst e
    exact ⟨i1, i2⟩
  | n + 1, p, q, hq, i1, i2 => by
    unfold unw at hq
    cases e : inner p.1 p.2 with
    | none =>
      rw [e] at hq
      have e' : q = p := List.mem_singleton.mp hq
      subst e'
      exact ⟨i1, i2⟩
    | some p' =>
      rw [e] at hq
      rcases List.mem_cons.mp hq with rfl | hq
      · exact ⟨i1, i2⟩
      · have := inner_in e i1 i2
        exact unw_sin hq this.1 this.2
/-- what stands right in fields and cases of two -/
def baseP (m m' : SM) : List Pr := (m.root, m'.root) :: ((m.kinds.flatMap fun r => m'.kinds.flatMap fun r' => (bothF PF.num PF.num r.2 r'.2).map fun q => (q.1.s, q.2.s)) ++ (m.picks.flatMap fun r => m'.picks.flatMap fun r' => (bothF PC.num PC.num r.2 r'.2).filterMap fun q => (cInto q).map (·.2)))
def allU (m m' : SM) : List Pr := (baseP m m').flatMap (unw 2)
theorem base_dir {m m' : SM} {p q : Pr} (i1 : SIn m p.1) (i2 : SIn m' p.2) (h : q ∈ intoP m m' p) (hn : inner p.1 p.2 = none) : q ∈ baseP m m' := by
  obtain ⟨s, t⟩ := p
  obtain ⟨⟨st, r⟩, hr, rfl⟩ := List.mem_map.mp h
  refine List.mem_cons_of_mem _ ?_
  cases s <;> cases t <;> first
    | (cases hn; done)
    | (cases hr; done)
    | skip
  · rename_i k k'
    obtain ⟨q, hq, e⟩ := List.mem_map.mp (show (st, r) ∈ (both m m' k k').map _ from hr)
    cases e
    refine List.mem_append_left _ (List.mem_flatMap.mpr ⟨_, kind_mem i1.1, List.mem_flatMap.mpr ⟨_, kind_mem i2.1, List.mem_map.mpr ⟨q, hq, rfl⟩⟩⟩)
  · rename_i k k'
    obtain ⟨q, hq, e⟩ := List.mem_filterMap.mp (show (st, r) ∈ (bothC m m' k k').filterMap cInto from hr)
    refine List.mem_append_right _ (List.mem_flatMap.mpr ⟨_, pick_mem i1.1, List.mem_flatMap.mpr ⟨_, pick_mem i2.1, List.mem_filterMap.mpr ⟨q, hq, by rw [e]; rfl⟩⟩⟩)
theorem into_inner {m m' : SM} {s t : Srt} {q r : Pr} (h : q ∈ intoP m m' (s, t)) (hi : inner s t = some r) : q = r := by
  obtain ⟨⟨st, q'⟩, hr, rfl⟩ := List.mem_map.mp h
  have one : ∀ {st' : List PyData} {p : Pr}, (st, q') ∈ [(st', p)] → q' = p := fun m => by cases List.mem_singleton.mp m; rfl
  by_cases c : ∃ n s' n' t', s = .row n s' ∧ t = .row n' t'
  · obtain ⟨n, s', n', t', rfl, rfl⟩ := c
    cases hi
    have h' : (st, q') ∈ (if 0 < n ∧ 0 < n' then [(([.int 0], (s', t')) : List PyData × Pr)] else []) := hr
    by_cases g : 0 < n ∧ 0 < n'
    · rw [if_pos g] at h'
      exact one h'
    · rw [if_neg g] at h'
      cases h'
  · cases s <;> cases t <;> first
      | (cases hi; done)
      | (cases hi; exact one hr)
      | exact absurd ⟨_, _, _, _, rfl, rfl⟩ c
theorem base_sin {m m' : SM} (wa : m.wf) (wb : m'.wf) : ∀ p ∈ baseP m m', SIn m p.1 ∧ SIn m' p.2 := fun p hp => by
  rcases List.mem_cons.mp hp with rfl | hp
  · exact ⟨wa.rt, wb.rt⟩
  · rcases List.mem_append.mp hp with hp | hp
    · obtain ⟨r, hr, hp⟩ := List.mem_flatMap.mp hp
      obtain ⟨r', hr', hp⟩ := List.mem_flatMap.mp hp
      obtain ⟨q, hq, rfl⟩ := List.mem_map.mp hp
      have := bothF_mem hq
      exact ⟨((wa.ks r hr).2 _ this.1).1, ((wb.ks r' hr').2 _ this.2.1).1⟩
    · obtain ⟨r, hr, hp⟩ := List.mem_flatMap.mp hp
      obtain ⟨r', hr', hp⟩ := List.mem_flatMap.mp hp
      obtain ⟨q, hq, e⟩ := List.mem_filterMap.mp hp
      have hb := bothF_mem hq
      obtain ⟨⟨n1, z1, o1⟩, n2, z2, o2⟩ := q
      cases o1 <;> cases o2 <;> cases e
      exact ⟨((wa.cs r hr).2 _ hb.1).1 _ rfl, ((wb.cs r' hr').2 _ hb.2.1).1 _ rfl⟩
theorem all_clo {m m' : SM} (wa : m.wf) (wb : m'.wf) (dp : ∀ p ∈ baseP m m', p.1.dp + p.2.dp ≤ 2) : Clo m m' (allU m m') := by
  have si : ∀ p ∈ allU m m', SIn m p.1 ∧ SIn m' p.2 := fun p hp => by
    obtain ⟨b, hb, hp⟩ := List.mem_flatMap.mp hp
    have := base_sin wa wb b hb
    exact unw_sin hp this.1 this.2
  refine ⟨fun p hp q hq => ?_, fun p hp => (si p hp).1, fun p hp => (si p hp).2⟩
  obtain ⟨b, hb, hpb⟩ := List.mem_flatMap.mp hp
  cases e : inner p.1 p.2 with
  | none => exact List.mem_flatMap.mpr ⟨q, base_dir (si p hp).1 (si p hp).2 hq e, unw_self⟩
  | some r =>
    obtain ⟨s, t⟩ := p
    rw [into_inner hq e]
    exact List.mem_flatMap.mpr ⟨b, hb, unw_in (dp b hb) hpb e⟩
theorem flat_len {α β : Type} {f : α → List β} {n : Nat} : ∀ {xs : List α}, (∀ x ∈ xs, (f x).length ≤ n) → (xs.flatMap f).length ≤ xs.length * n
  | [], _ => by simp
  | x :: xs, h => by
    rw [List.flatMap_cons, List.length_append, List.length_cons, Nat.add_mul, Nat.one_mul]
    have := h x List.mem_cons_self
    have := flat_len (f := f) (n := n) fun y m => h y (List.mem_cons_of_mem x m)
    omega
/-- a small schema -/
structure Small (m : SM) : Prop where
  w : m.wf
  k : m.kinds.length ≤ 3
  f : ∀ r ∈ m.kinds, r.2.length ≤ 5 ∧ ∀ f ∈ r.2, f.s.dp ≤ 1
  p : m.picks.length ≤ 1
  c : ∀ r ∈ m.picks, r.2.length ≤ 4 ∧ ∀ c ∈ r.2, ∀ s, c.s = some s → s.dp ≤ 1
  rt : m.root.dp ≤ 1
theorem met_of {m m' : SM} (a : Small m) (b : Small m') : Met m m' (allU m m') := by
  refine ⟨a.w, b.w, all_clo a.w b.w fun p hp => ?_, List.mem_flatMap.mpr ⟨_, List.mem_cons_self, unw_self⟩, ?_⟩
  · rcases List.mem_cons.mp hp with rfl | hp
    · have := a.rt
      have := b.rt
      show m.root.dp + m'.root.dp ≤ 2
      omega
    · rcases List.mem_append.mp hp with hp | hp
      · obtain ⟨r, hr, hp⟩ := List.mem_flatMap.mp hp
        obtain ⟨r', hr', hp⟩ := List.mem_flatMap.mp hp
        obtain ⟨q, hq, rfl⟩ := List.mem_map.mp hp
        have h := bothF_mem hq
        have h1 := (a.f r hr).2 _ h.1
        have h2 := (b.f r' hr').2 _ h.2.1
        show q.1.s.dp + q.2.s.dp ≤ 2
        omega
      · obtain ⟨r, hr, hp⟩ := List.mem_flatMap.mp hp
        obtain ⟨r', hr', hp⟩ := List.mem_flatMap.mp hp
        obtain ⟨q, hq, e⟩ := List.mem_filterMap.mp hp
        have hb := bothF_mem hq
        obtain ⟨⟨n1, z1, o1⟩, n2, z2, o2⟩ := q
        cases o1 <;> cases o2 <;> cases e
        have h1 := (a.c r hr).2 _ hb.1 _ rfl
        have h2 := (b.c r' hr').2 _ hb.2.1 _ rfl
        exact Nat.add_le_add h1 h2
  · have l1 : (allU m m').length ≤ (baseP m m').length * 3 := flat_len fun p _ => unw_len
    have l2 : (m.kinds.flatMap fun r => m'.kinds.flatMap fun r' => (bothF PF.num PF.num r.2 r'.2).map fun q => (q.1.s, q.2.s)).length ≤ 45 := by
      refine Nat.le_trans (flat_len (n := 15) fun r hr => Nat.le_trans (flat_len (n := 5) fun r' _ => ?_) ?_) ?_
      · rw [List.length_map]
        exact Nat.le_trans both_len (a.f r hr).1
      · have := b.k
        omega
      · have := a.k
        omega
    have l3 : (m.picks.flatMap fun r => m'.picks.flatMap fun r' => (bothF PC.num PC.num r.2 r'.2).filterMap fun q => (cInto q).map (·.2)).length ≤ 4 := by
      refine Nat.le_trans (flat_len (n := 4) fun r hr => Nat.le_trans (flat_len (n := 4) fun r' _ => ?_) ?_) ?_
      · exact Nat.le_trans (List.length_filterMap_le _ _) (Nat.le_trans both_len (a.c r hr).1)
      · have := b.p
        omega
      · have := a.p
        omega
    have l4 : (baseP m m').length ≤ 50 := by
      unfold baseP
      rw [List.length_cons, List.length_append]
      omega
    have : NN = 160 := rfl
    omega
end K02

/-! ## judging: plain functions, promises -/
namespace K02
open PySem PySem.Spec PyProof.Rows L2 Kb
mutual
/-- whether truths stand alike -/
def TA : PyData → PyData → Bool
  | .tuple xs, .tuple ys => if xs.length = ys.length then TAs xs ys else true
  | .bool _, .bool _ => true
  | .bool _, _ => false
  | _, .bool _ => false
  | _, _ => true
def TAs : List PyData → List PyData → Bool
  | x :: xs, y :: ys => TA x y && TAs xs ys
  | _, _ => true
end
mutual
/-- numbers, texts and tuples that are not great, no lists -/
def sm : PyData → Bool
  | .int i => decide (-GREAT - 1 ≤ i ∧ i ≤ GREAT + 1)
  | .str z => z.cps.toList.all (fun c => decide (c < 128)) && decide (z.length ≤ 100)
  | .tuple ds => decide (ds.length ≤ 1000) && sms ds
  | .list _ => false
  | .dict _ => false
  | _ => true
def sms : List PyData → Bool
  | [] => true
  | d :: ds => sm d && sms ds
end
/-- a default that is drawn -/
def V5 (d : PyData) : Prop := d = .bool true ∨ d = .str "a" ∨ d = .tuple [] ∨ d = .none ∨ d = .int 5
/-- the defaults of a schema are drawn ones -/
def D5 (m : SM) : Prop := ∀ r ∈ m.kinds, ∀ f ∈ r.2, ∀ d, f.d = some d → V5 d
/-- the first place at which two rows are otherwise, by a look at two of their things -/
def badAt (f : PyData → PyData → Bool) (ds es : List PyData) (i : Nat) : Bool := match ds[i]?, es[i]? with
  | some d, some e => f d e
  | _, _ => true
def firstBad (f : PyData → PyData → Bool) (ds es : List PyData) : Option Nat := (List.range (max ds.length es.length)).find? (badAt f ds es)
def badJ (d e : PyData) : Bool := !TA d e || !PyData.eqv e d
def badL (d e : PyData) : Bool := !PyData.eqv d e
def rsV : Option Nat → V
  | none => .str "right"
  | some i => .int (i : Nat)
@[irreducible] def sp_truths_alike (K : PySem.W.Frag) : Nat → Sp
  | 0 => fun _ _ _ _ => False
  | n + 1 => fun vs H Q _ => ∃ x y d e, vs = [x, y] ∧ Dp K H x d ∧ Dp K H y e ∧ d.depth ≤ n ∧ sm d = true ∧ ∀ H', Kp [] H H' → Q (.bl (TA d e)) H'
@[irreducible] def sp_judge_reader (K : PySem.W.Frag) : Sp := fun vs H Q _ => ∃ a b c m m' U es, vs = [.ref a, .ref b, .ref c] ∧ SV K H a m ∧ SV K H b m' ∧ Met m m' U ∧ SqD K H c es ∧ es.length ≤ 10000 ∧ (∀ e ∈ es, Sh 20 e) ∧ D5 m ∧ D5 m' ∧
  ∀ H', Kp [] H H' → Q (rsV (firstBad badJ (madeF m m') es)) H'
end K02

namespace K02
open PySem PySem.Spec PyProof.Rows L2 Kb
def t_truths_alike (K : PySem.W.Frag) (n : Nat) : TS :=
 (tSeq (tIfS (tAnd (tTru K (tCB (rIsiU K) (tCons (tVar 0) (tCons (tC (.ty "tuple")) tNil)))) (tAnd (tTru K (tCB (rIsiU K) (tCons (tVar 1) (tCons (tC (.ty "tuple")) tNil)))) (tTest (tOp (rEqU K) (tCB (rLenU K) (tCons (tVar 0) tNil)) (tCB (rLenU K) (tCons (tVar 1) tNil))))))
 (tRet (tCB (rAllU K) (tCons (tLc (RZ.iZipA K (tCons (tVar 0) (tCons (tVar 1) tNil))) (gTup K 2 (gCons (gName 2) (gCons (gName 3) gNil))) tYes (tCall (sp_truths_alike K n) [] E0 (tCons (tVar 2) (tCons (tVar 3) tNil))) [2, 3]) tNil)))
 tNext)
 (tRet (tOp (rEqU K) (tCB (rIsiU K) (tCons (tVar 0) (tCons (tC (.ty "bool")) tNil))) (tCB (rIsiU K) (tCons (tVar 1) (tCons (tC (.ty "bool")) tNil))))))
def t_judge_reader (K : PySem.W.Frag) : TS :=
 (tSeq (tAsg (tCall (sp_made K) [] E0 (tCons (tVar 0) (tCons (tVar 1) tNil))) (gName 3))
 (tSeq (tFor (iRng1 (tCons (tCB rMax2U (tCons (tCB (rLenU K) (tCons (tVar 3) tNil)) (tCons (tCB (rLenU K) (tCons (tVar 2) tNil)) tNil))) tNil)) (gName 4)
 (tSeq (tIfS (tAnd (tTest (tOp rLtU (tVar 4) (tCB rMin2U (tCons (tCB (rLenU K) (tCons (tVar 3) tNil)) (tCons (tCB (rLenU K) (tCons (tVar 2) tNil)) tNil))))) (tNot (tTru K (tCall (sp_truths_alike K 10) [] E0 (tCons (tOp (rIxU K) (tVar 3) (tVar 4)) (tCons (tOp (rIxU K) (tVar 2) (tVar 4)) tNil))))))
 (tRet (tVar 4))
 tNext)
 (tIfS (tOr (tTest (tOp rGeU (tVar 4) (tCB (rLenU K) (tCons (tVar 3) tNil)))) (tOr (tTest (tOp rGeU (tVar 4) (tCB (rLenU K) (tCons (tVar 2) tNil)))) (tTest (tOp (rNeU K) (tOp (rIxU K) (tVar 2) (tVar 4)) (tOp (rIxU K) (tVar 3) (tVar 4))))))
 (tRet (tVar 4))
 tNext)))
 (tRet (tC (.str (PySem.Str.ofString "right"))))))
end K02

-- imports: QS1 QS2
/-! ## truths_alike -/
set_option maxHeartbeats 4000000
namespace K02
open PySem PySem.Spec PyProof.Rows L2 Kb
theorem no_truths_alike (K : PySem.W.Frag) {vs : List V} {H : Hp} {Q : VK} {E : XK} (h : sp_truths_alike K 0 vs H Q E) : False := by
  unfold sp_truths_alike at h
  exact h
theorem len_truths_alike (K : PySem.W.Frag) (n : Nat) : ∀ vs H Q E, sp_truths_alike K (n + 1) vs H Q E → vs.length = ["due", "given"].length := by
  intro vs H Q E h
  unfold sp_truths_alike at h
  obtain ⟨_, _, _, _, rfl, _⟩ := h
  rfl
theorem len_judge_reader (K : PySem.W.Frag) : ∀ vs H Q E, sp_judge_reader K vs H Q E → vs.length = ["old", "new", "steps"].length := by
  intro vs H Q E h
  unfold sp_judge_reader at h
  obtain ⟨_, _, _, _, _, _, _, rfl, _⟩ := h
  rfl
theorem sms_mem : ∀ {ds : List PyData} {d : PyData}, sms ds = true → d ∈ ds → sm d = true
  | _ :: _, _, h, .head _ => (Bool.and_eq_true_iff.mp h).1
  | _ :: _, _, h, .tail _ m => sms_mem (Bool.and_eq_true_iff.mp h).2 m
theorem depth_mem : ∀ {ds : List PyData} {d : PyData}, d ∈ ds → d.depth ≤ PyData.depthAll ds
  | e :: ds, _, .head _ => by unfold PyData.depthAll; omega
  | e :: ds, d, .tail _ m => by have := depth_mem m; unfold PyData.depthAll; omega
theorem TAs_take : ∀ {xs ys : List PyData} {j : Nat} {x y : PyData}, xs[j]? = some x → ys[j]? = some y → TAs (xs.take (j + 1)) (ys.take (j + 1)) = (TAs (xs.take j) (ys.take j) && TA x y)
  | a :: xs, b :: ys, 0, x, y, e1, e2 => by
    cases e1
    cases e2
    show (TA a b && TAs [] []) = (TAs [] [] && TA a b)
    simp [TAs]
  | a :: xs, b :: ys, j + 1, x, y, e1, e2 => by
    show (TA a b && TAs (xs.take (j + 1)) (ys.take (j + 1))) = ((TA a b && TAs (xs.take j) (ys.take j)) && TA x y)
    rw [TAs_take (xs := xs) (ys := ys) (j := j) e1 e2, Bool.and_assoc]
theorem ta_go {K : PySem.W.Frag} {n : Nat} {H : Hp} {Q : VK} {E : XK} {x y : V} {d e : PyData} (hx : Dp K H x d) (hy : Dp K H y e) (dp : d.depth ≤ n) (fw : sm d = true) (q : ∀ H', Kp [] H H' → Q (.bl (TA d e)) H') : sp_truths_alike K (n + 1) [x, y] H Q E := by
  unfold sp_truths_alike
  exact ⟨x, y, d, e, rfl, hx, hy, dp, fw, q⟩
def isT : PyData → Bool
  | .tuple _ => true
  | _ => false
def isB : PyData → Bool
  | .bool _ => true
  | _ => false
section
variable {K : PySem.W.Frag} {H : Hp} {Q : VK} {x : V} {d : PyData}
theorem isiT_go (h : Dp K H x d) (q : Q (.bl (isT d)) H) : rIsiU K [x, .ty "tuple"] H Q := by
  refine isi_go (dp_ty h) ?_ q
  cases d with
  | dict _ => cases h
  | none => exact ki_NoneType_tuple
  | bool _ => exact ki_bool_tuple
  | int _ => exact ki_int_tuple
  | str _ => exact ki_str_tuple
  | list _ => exact ki_list_tuple
  | tuple _ => exact ki_tuple_tuple
theorem isiB_go (h : Dp K H x d) (q : Q (.bl (isB d)) H) : rIsiU K [x, .ty "bool"] H Q := by
  refine isi_go (dp_ty h) ?_ q
  cases d with
  | dict _ => cases h
  | none => exact ki_NoneType_bool
  | bool _ => exact ki_bool_bool
  | int _ => exact ki_int_bool
  | str _ => exact ki_str_bool
  | list _ => exact ki_list_bool
  | tuple _ => exact ki_tuple_bool
end
theorem ta_no {d e : PyData} (h : (isT d && isT e) = false) : TA d e = decide (isB d = isB e) := by
  cases d <;> cases e <;> first
    | rfl
    | cases h
theorem p_truths_alike (K : PySem.W.Frag) (n : Nat) (vs : List V) (H : Hp) (Q : VK) (E : XK) (h : sp_truths_alike K (n + 1) vs H Q E) : t_truths_alike K n { nx := fun _ H' => Q .non H', rt := Q } (start ["due", "given", "mine", "its"] vs) H := by
  unfold sp_truths_alike at h
  obtain ⟨x, y, d, e, rfl, hx, hy, dp, fw, q⟩ := h
  unfold t_truths_alike
  cases hd : isT d with
  | false =>
    walk_at "go"
    refine isiT_go hx ?_
    rw [hd]
    walk_at "go"
    refine isiB_go hx ?_
    walk_at "go"
    refine isiB_go hy ?_
    walk_at "go"
    rw [← ta_no (by rw [hd]; rfl)]
    exact q H Kp.refl
  | true =>
  cases he : isT e with
  | false =>
    walk_at "go"
    refine isiT_go hx ?_
    rw [hd]
    walk_at "go"
    refine isiT_go hy ?_
    rw [he]
    walk_at "go"
    refine isiB_go hx ?_
    walk_at "go"
    refine isiB_go hy ?_
    walk_at "go"
    rw [← ta_no (by rw [he, Bool.and_false])]
    exact q H Kp.refl
  | true =>
    obtain ⟨ds, rfl⟩ : ∃ ds, d = .tuple ds := by cases d <;> first | exact ⟨_, rfl⟩ | cases hd
    obtain ⟨es, rfl⟩ : ∃ ds, e = .tuple ds := by cases e <;> first | exact ⟨_, rfl⟩ | cases he
    cases hx with
    | @tup xa xs _ hxs hds =>
    cases hy with
    | @tup ya ys _ hys hes =>
      have hX : Dp K H (.ref xa) (.tuple ds) := .tup hxs hds
      have hY : Dp K H (.ref ya) (.tuple es) := .tup hys hes
      have lx := dpAll_len hds
      have ly := dpAll_len hes
      have fw := Bool.and_eq_true_iff.mp fw
      have l3 : ds.length ≤ 1000 := of_decide_eq_true fw.1
      have dd : PyData.depthAll ds + 1 ≤ n := by
        have := dp
        unfold PyData.depth at this
        omega
      walk_at "go"
      refine isiT_go hX ?_
      rw [hd]
      walk_at "go"
      refine isiT_go hY ?_
      rw [he]
      walk_at "go"
      · rename_i hl
        have hl : xs.length = ys.length := by omega
        refine ⟨xa, ya, xs, ys, rfl, .inr ⟨hxs, hys, fun D nD => ?_⟩⟩
        refine lc_acc (walk_zipT (xs := xs) (ys := ys) (n := ds.length) (by omega)) (fun j acc H' => Kp [] H H' ∧ ∃ bs : List Bool, acc = bs.map V.bl ∧ bs.all id = TAs (ds.take j) (es.take j)) ⟨Kp.refl.upd_new' nD, [], rfl, rfl⟩ (fun j acc H' _ h => ⟨h.1.sqT List.not_mem_nil hxs, h.1.sqT List.not_mem_nil hys⟩) (fun j x acc Hc Hd hj hl' hD hP hY => ?_) (fun acc Hc hl' hD hP => ?_)
        · obtain ⟨kb, bs, rfl, eb⟩ := hP
          obtain ⟨T, v, z, rfl, nT, rfl, ev, ez⟩ := hY
          obtain ⟨e1, ee, he⟩ := dpAll_ix hds ev
          obtain ⟨e2, ee', he'⟩ := dpAll_ix hes ez
          have m := List.mem_of_getElem? ee
          have kT := (Kp.refl (M := []) (H := Hc)).upd_new' (o := .tup [v, z]) nT
          have kb2 := kb.trans kT
          walk_at "go"
          show sp_truths_alike K n [v, z] _ _ _
          have dm := depth_mem m
          obtain ⟨n, rfl⟩ : ∃ n', n = n' + 1 := ⟨n - 1, by omega⟩
          refine ta_go (dp_kp0 kb2 he) (dp_kp0 kb2 he') (by omega) (sms_mem fw.2 m) fun H' k => ?_
          refine acc_go hl' (by omega) (k.at_ List.not_mem_nil (kT.at_ List.not_mem_nil hD)) ⟨(kb2.trans k).upd_new nD, bs ++ [TA e1 e2], by rw [List.map_append]; rfl, ?_⟩
          rw [TAs_take ee ee', List.all_append, eb]
          simp
        · obtain ⟨kb, bs, rfl, eb⟩ := hP
          walk_at "go"
          refine all_go (bs := bs) (SqL.of hD) ?_
          have e1 : TA (.tuple ds) (.tuple es) = bs.all id := by
            rw [eb]
            show (if ds.length = es.length then TAs ds es else true) = _
            rw [if_pos (by omega), List.take_length, show ds.length = es.length by omega, List.take_length]
          rw [← e1]
          exact q _ kb
      · rename_i hl
        have e1 : TA (.tuple ds) (.tuple es) = true := by
          show (if ds.length = es.length then TAs ds es else true) = true
          rw [if_neg (by omega)]
        walk_at "go"
        refine isiB_go hX ?_
        walk_at "go"
        refine isiB_go hY ?_
        walk_at "go"
        have q0 := q H Kp.refl
        rw [e1] at q0
        exact q0
end K02

-- imports: QS1 QS2 QS3 QM1 QM2 QM3 QM4 QM5 QM6 QM7 QM8 QM9 QM10 QM11 QM12 QJ1
/-! ## steps as data: small; judge_reader -/
set_option maxHeartbeats 4000000
set_option maxRecDepth 4000
namespace K02
open PySem PySem.Spec PyProof.Rows L2 Kb
theorem sh_caseF {ps : List Pr} {q : PC × PC} (h : NameOk q.2.name) : Sh 1 (caseF ps q) := by
  refine sh_tup (sh_allc sh_int (sh_allc (sh_name h) (sh_all1 ?_)))
  obtain ⟨⟨n1, z1, o1⟩, n2, z2, o2⟩ := q
  cases o2
  · exact sh_non
  · cases o1 <;> exact sh_int
theorem sh_otherF {cs : List PC} (h : ∀ c ∈ cs, NameOk c.name) : Sh 1 (otherF cs) := by
  unfold otherF
  cases e : cs.find? fun c => c.num == 0 with
  | none => exact sh_non
  | some c => exact sh_name (h c (List.mem_of_find?_eq_some e))
theorem sh_map {α : Type} {n : Nat} {f : α → PyData} {l : List α} (h : ∀ a ∈ l, Sh n (f a)) : ∀ d ∈ l.map f, Sh n d := fun d m => by
  obtain ⟨a, ha, rfl⟩ := List.mem_map.mp m
  exact h a ha
theorem sh_dl {f : PF} (h : ∀ d, f.d = some d → Sh 2 d) : ∀ d ∈ f.d.toList, Sh 2 d := fun d m => by
  cases e : f.d with
  | none => rw [e] at m; cases m
  | some d' =>
    rw [e] at m
    rw [List.mem_singleton.mp m]
    exact h d' e
theorem sh_step {m m' : SM} (wa : m.wf) (wb : m'.wf) {ps : List Pr} {s t : Srt} (is : SIn m s) (it : SIn m' t) : Sh 6 (stepF m m' ps s t) := by
  have w : ∀ {z : Str}, (z.cps.toList.all fun c => decide (c < 128)) = true → Sh 5 (.str z) := fun h => sh_ascii h
  by_cases c5 : (∃ k k', s = .node k ∧ t = .node k')
  · obtain ⟨k, k', rfl, rfl⟩ := c5
    have mk : (m.kinds.lookup k).isSome = true := is.1
    have mk' : (m'.kinds.lookup k').isSome = true := it.1
    have pa := (wa.ks _ (kind_mem mk)).2
    have pb := (wb.ks _ (kind_mem mk')).2
    show Sh 6 (.tuple [.str "node", .str k', .tuple ((both m m' k k').map (fieldF ps)), .tuple ((aloneF (m.kind k) (m'.kind k')).filterMap dfltF), .tuple ((lacksF (m.kind k) (m'.kind k')).map .str)])
    refine sh_tup (sh_allc (w (by decide +kernel)) (sh_allc (sh_name it.2) (sh_allc ?_ (sh_allc ?_ (sh_all1 ?_)))))
    · refine sh_tup (sh_map fun q hq => ?_)
      obtain ⟨m1, m2, _⟩ := bothF_mem hq
      exact sh_tup (sh_allc sh_int (sh_allc (sh_name (pb _ m2).2.1) (sh_allc sh_int (sh_all1 (sh_tup (n := 2) (sh_dl fun d e => ((pa _ m1).2.2.2.2 d e).1))))))
    · refine sh_tup (n := 4) fun d hd => ?_
      obtain ⟨g, hg, e⟩ := List.mem_filterMap.mp hd
      obtain ⟨d', ed, rfl⟩ := Option.map_eq_some_iff.mp e
      have mg := (List.mem_filter.mp hg).1
      exact sh_tup (n := 3) (sh_allc (sh_name (pb _ mg).2.1) (sh_all1 (sh_mono ((pb _ mg).2.2.2.2 d' ed).1 (by omega))))
    · refine sh_tup (n := 4) (sh_map fun z hz => ?_)
      obtain ⟨g, hg, e⟩ := List.mem_filterMap.mp hz
      have mg := (List.mem_filter.mp hg).1
      have ez : z = g.name := by
        unfold lackF at e
        cases h : g.d with
        | none => rw [h] at e; exact (Option.some.inj e).symm
        | some d => rw [h] at e; cases e
      rw [ez]
      exact sh_name (pb _ mg).2.1
  · by_cases c6 : (∃ k k', s = .pick k ∧ t = .pick k')
    · obtain ⟨k, k', rfl, rfl⟩ := c6
      have mk' : (m'.picks.lookup k').isSome = true := it.1
      have pb := (wb.cs _ (pick_mem mk')).2
      show Sh 6 (.tuple [.str "choice", .tuple ((bothC m m' k k').map (caseF ps)), otherF (m'.pick k')])
      refine sh_tup (sh_allc (w (by decide +kernel)) (sh_allc ?_ (sh_all1 (sh_mono (sh_otherF fun c hc => (pb c hc).2.1) (by omega)))))
      exact sh_tup (sh_map fun q hq => sh_mono (sh_caseF (pb _ (bothF_mem hq).2.1).2.1) (by omega))
    · have i5 : ∀ {i : Int}, Sh 5 (.int i) := sh_int
      have two : ∀ {z : Str} {i : Int}, (z.cps.toList.all fun c => decide (c < 128)) = true → Sh 6 (.tuple [.str z, .int i]) := fun h => sh_tup (sh_allc (w h) (sh_all1 i5))
      cases s <;> cases t <;> first
        | exact absurd ⟨_, _, rfl, rfl⟩ c5
        | exact absurd ⟨_, _, rfl, rfl⟩ c6
        | exact two (by decide +kernel)
        | exact sh_tup (sh_all1 (w (by decide +kernel)))
        | exact sh_tup (sh_allc (w (by decide +kernel)) (sh_allc i5 (sh_all1 i5)))
        | exact sh_mono (sh_srt (d := 3) it.plain) (by omega)
theorem sh_made {m m' : SM} {U : List Pr} (M : Met m m' U) : Sh 7 (.tuple (madeF m m')) := sh_tup (sh_map fun p hp => sh_step M.a M.b (pairs_l M p hp).1 (pairs_l M p hp).2)
theorem sms_all : ∀ {ds : List PyData}, (∀ d ∈ ds, sm d = true) → sms ds = true
  | [], _ => rfl
  | d :: ds, h => by
    show (sm d && sms ds) = true
    rw [h d List.mem_cons_self, sms_all fun x m => h x (List.mem_cons_of_mem _ m)]
    rfl
theorem sm_tup {ds : List PyData} (l : ds.length ≤ 1000) (h : ∀ d ∈ ds, sm d = true) : sm (.tuple ds) = true := by
  show (decide (ds.length ≤ 1000) && sms ds) = true
  rw [decide_eq_true l, sms_all h]
  rfl
theorem sm_all1 {d : PyData} (h : sm d = true) : ∀ e ∈ [d], sm e = true := fun e m => by rw [List.mem_singleton.mp m]; exact h
theorem sm_allc {d : PyData} {ds : List PyData} (h : sm d = true) (g : ∀ e ∈ ds, sm e = true) : ∀ e ∈ d :: ds, sm e = true := fun e m => by
  rcases List.mem_cons.mp m with rfl | m
  · exact h
  · exact g e m
theorem sm_int {i : Int} (h : -GREAT - 1 ≤ i) (g : i ≤ GREAT + 1) : sm (.int i) = true := decide_eq_true ⟨h, g⟩
theorem sm_few {i : Int} (h : -1000 ≤ i) (g : i ≤ 1000) : sm (.int i) = true := sm_int (by unfold GREAT; omega) (by unfold GREAT; omega)
theorem sm_str {z : Str} (h : (z.cps.toList.all fun c => decide (c < 128)) = true) (l : z.length ≤ 100) : sm (.str z) = true := by
  show ((z.cps.toList.all fun c => decide (c < 128)) && decide (z.length ≤ 100)) = true
  rw [h, decide_eq_true l]
  rfl
theorem sm_name {z : Str} (h : NameOk z) : sm (.str z) = true := sm_str (List.all_eq_true.mpr fun c m => decide_eq_true (by have := h.2.2 c m; omega)) (by have := h.2.1; omega)
theorem sm_v5 {d : PyData} (h : V5 d) : sm d = true := by
  rcases h with rfl | rfl | rfl | rfl | rfl
  · rfl
  · exact sm_str (by decide +kernel) (by decide +kernel)
  · rfl
  · rfl
  · exact sm_few (by omega) (by omega)
theorem sm_map {α : Type} {f : α → PyData} {l : List α} (h : ∀ a ∈ l, sm (f a) = true) : ∀ d ∈ l.map f, sm d = true := fun d m => by
  obtain ⟨a, ha, rfl⟩ := List.mem_map.mp m
  exact h a ha
theorem sm_o {o : Option Int} (h : ∀ l, o = some l → -GREAT ≤ l ∧ l ≤ GREAT) : sm (oD o) = true := by
  cases o with
  | none => rfl
  | some i => exact sm_int (by have := (h i rfl).1; omega) (by have := (h i rfl).2; omega)
theorem sm_num {ps : List Pr} (l : ps.length ≤ 900) {p : Pr} : sm (.int (numF ps p)) = true := by
  unfold numF
  split
  · have := List.idxOf_le_length (l := ps) (a := p)
    exact sm_few (by omega) (by omega)
  · exact sm_few (by omega) (by omega)
theorem sm_caseF {ps : List Pr} (l : ps.length ≤ 900) {q : PC × PC} (h : NameOk q.2.name) (n0 : 0 ≤ q.1.num) (n1 : q.1.num ≤ 99) : sm (caseF ps q) = true := by
  refine sm_tup (by show 3 ≤ 1000; omega) (sm_allc (sm_few (by omega) (by omega)) (sm_allc (sm_name h) (sm_all1 ?_)))
  obtain ⟨⟨n1, z1, o1⟩, n2, z2, o2⟩ := q
  cases o2
  · rfl
  · cases o1
    · exact sm_few (by omega) (by omega)
    · exact sm_num l
theorem sm_otherF {cs : List PC} (h : ∀ c ∈ cs, NameOk c.name) : sm (otherF cs) = true := by
  unfold otherF
  cases e : cs.find? fun c => c.num == 0 with
  | none => rfl
  | some c => exact sm_name (h c (List.mem_of_find?_eq_some e))
theorem v5_dl {f : PF} (h : ∀ d, f.d = some d → V5 d) : f.d.toList = [] ∨ ∃ v, f.d.toList = [v] ∧ V5 v := by
  cases e : f.d with
  | none => exact .inl rfl
  | some d => exact .inr ⟨d, rfl, h d e⟩
theorem sm_step {m m' : SM} (wa : m.wf) (wb : m'.wf) (da : D5 m) (db : D5 m') {ps : List Pr} (l : ps.length ≤ 900) {s t : Srt} (is : SIn m s) (it : SIn m' t) : sm (stepF m m' ps s t) = true := by
  have w : ∀ {z : Str}, ((z.cps.toList.all fun c => decide (c < 128)) && decide (z.length ≤ 100)) = true → sm (.str z) = true := fun h => h
  by_cases c5 : (∃ k k', s = .node k ∧ t = .node k')
  · obtain ⟨k, k', rfl, rfl⟩ := c5
    have mk : (m.kinds.lookup k).isSome = true := is.1
    have mk' : (m'.kinds.lookup k').isSome = true := it.1
    have pa := (wa.ks _ (kind_mem mk)).2
    have pb := (wb.ks _ (kind_mem mk')).2
    have la : (m.kind k).length ≤ 100 := wa.kl _ (kind_mem mk)
    have lb : (m'.kind k').length ≤ 100 := wb.kl _ (kind_mem mk')
    show sm (.tuple [.str "node", .str k', .tuple ((both m m' k k').map (fieldF ps)), .tuple ((aloneF (m.kind k) (m'.kind k')).filterMap dfltF), .tuple ((lacksF (m.kind k) (m'.kind k')).map .str)]) = true
    refine sm_tup (by show 5 ≤ 1000; omega) (sm_allc (w (by decide +kernel)) (sm_allc (sm_name it.2) (sm_allc ?_ (sm_allc ?_ (sm_all1 ?_)))))
    · refine sm_tup (by rw [List.length_map]; have := both_len (na := PF.num) (nb := PF.num) (xs := m.kind k) (ys := m'.kind k'); show (bothF _ _ _ _).length ≤ _; omega) (sm_map fun q hq => ?_)
      obtain ⟨m1, m2, _⟩ := bothF_mem hq
      have n1 := (pa _ m1).2.2.1
      have n2 := (pa _ m1).2.2.2.1
      refine sm_tup (by show 4 ≤ 1000; omega) (sm_allc (sm_few (by omega) (by omega)) (sm_allc (sm_name (pb _ m2).2.1) (sm_allc (sm_num l) (sm_all1 ?_))))
      rcases v5_dl (da _ (kind_mem mk) _ m1) with e | ⟨v, e, hv⟩
      · rw [e]; rfl
      · rw [e]; exact sm_tup (by show 1 ≤ 1000; omega) (sm_all1 (sm_v5 hv))
    · refine sm_tup (Nat.le_trans (List.length_filterMap_le _ _) (Nat.le_trans (List.length_filter_le _ _) (by omega))) fun d hd => ?_
      obtain ⟨g, hg, e⟩ := List.mem_filterMap.mp hd
      obtain ⟨d', ed, rfl⟩ := Option.map_eq_some_iff.mp e
      have mg := (List.mem_filter.mp hg).1
      exact sm_tup (by show 2 ≤ 1000; omega) (sm_allc (sm_name (pb _ mg).2.1) (sm_all1 (sm_v5 (db _ (kind_mem mk') _ mg d' ed))))
    · refine sm_tup (by rw [List.length_map]; exact Nat.le_trans (List.length_filterMap_le _ _) (Nat.le_trans (List.length_filter_le _ _) (by omega))) (sm_map fun z hz => ?_)
      obtain ⟨g, hg, e⟩ := List.mem_filterMap.mp hz
      have mg := (List.mem_filter.mp hg).1
      have ez : z = g.name := by
        unfold lackF at e
        cases h : g.d with
        | none => rw [h] at e; exact (Option.some.inj e).symm
        | some d => rw [h] at e; cases e
      rw [ez]
      exact sm_name (pb _ mg).2.1
  · by_cases c6 : (∃ k k', s = .pick k ∧ t = .pick k')
    · obtain ⟨k, k', rfl, rfl⟩ := c6
      have mk : (m.picks.lookup k).isSome = true := is.1
      have mk' : (m'.picks.lookup k').isSome = true := it.1
      have pa := (wa.cs _ (pick_mem mk)).2
      have pb := (wb.cs _ (pick_mem mk')).2
      have la : (m.pick k).length ≤ 100 := wa.cl _ (pick_mem mk)
      show sm (.tuple [.str "choice", .tuple ((bothC m m' k k').map (caseF ps)), otherF (m'.pick k')]) = true
      refine sm_tup (by show 3 ≤ 1000; omega) (sm_allc (w (by decide +kernel)) (sm_allc ?_ (sm_all1 (sm_otherF fun c hc => (pb c hc).2.1))))
      refine sm_tup (by rw [List.length_map]; have := both_len (na := PC.num) (nb := PC.num) (xs := m.pick k) (ys := m'.pick k'); show (bothF _ _ _ _).length ≤ _; omega) (sm_map fun q hq => ?_)
      obtain ⟨m1, m2, _⟩ := bothF_mem hq
      exact sm_caseF l (pb _ m2).2.1 (pa _ m1).2.2.1 (pa _ m1).2.2.2
    · have two : ∀ {z : Str} {p : Pr}, ((z.cps.toList.all fun c => decide (c < 128)) && decide (z.length ≤ 100)) = true → sm (.tuple [.str z, .int (numF ps p)]) = true := fun h => sm_tup (by show 2 ≤ 1000; omega) (sm_allc (w h) (sm_all1 (sm_num l)))
      cases s <;> cases t <;> first
        | exact absurd ⟨_, _, rfl, rfl⟩ c5
        | exact absurd ⟨_, _, rfl, rfl⟩ c6
        | exact two (by decide +kernel)
        | exact sm_tup (by show 1 ≤ 1000; omega) (sm_all1 (w (by decide +kernel)))
        | (refine sm_tup (by show 3 ≤ 1000; omega) (sm_allc (w (by decide +kernel)) (sm_allc (sm_few (by have := it.1; omega) (by have := it.2.1; omega)) (sm_all1 ?_)))
           split
           · exact sm_num l
           · exact sm_few (by omega) (by omega))
        | exact sm_tup (by show 3 ≤ 1000; omega) (sm_allc (w (by decide +kernel)) (sm_allc (sm_o it.2.1) (sm_all1 (sm_o it.2.2))))
        | exact sm_tup (by show 2 ≤ 1000; omega) (sm_allc (w (by decide +kernel)) (sm_all1 (sm_few (by have := it.1; omega) (by have := it.2; omega))))
theorem sm_made {m m' : SM} {U : List Pr} (M : Met m m' U) (da : D5 m) (db : D5 m') : ∀ d ∈ madeF m m', sm d = true := sm_map fun p hp => sm_step M.a M.b da db (by have := pairs_few M; have : NN = 160 := rfl; omega) (pairs_l M p hp).1 (pairs_l M p hp).2
theorem sh_madeD {m m' : SM} {U : List Pr} (M : Met m m' U) : ∀ d ∈ madeF m m', Sh 6 d := sh_map fun p hp => sh_step M.a M.b (pairs_l M p hp).1 (pairs_l M p hp).2
theorem fb_some {f : PyData → PyData → Bool} {ds es : List PyData} {i : Nat} (h : ∀ j, j < i → badAt f ds es j = false) (b : badAt f ds es i = true) (l : i < max ds.length es.length) : firstBad f ds es = some i := by
  unfold firstBad
  rw [List.find?_range_eq_some]
  exact ⟨b, List.mem_range.mpr l, fun j hj => by rw [h j hj]; rfl⟩
theorem fb_none {f : PyData → PyData → Bool} {ds es : List PyData} (h : ∀ j, j < max ds.length es.length → badAt f ds es j = false) : firstBad f ds es = none := by
  unfold firstBad
  rw [List.find?_eq_none]
  intro j hj
  rw [h j (List.mem_range.mp hj)]
  exact Bool.false_ne_true
theorem badAt_in {f : PyData → PyData → Bool} {ds es : List PyData} {i : Nat} {d e : PyData} (h : ds[i]? = some d) (g : es[i]? = some e) : badAt f ds es i = f d e := by
  unfold badAt
  rw [h, g]
theorem badAt_l {f : PyData → PyData → Bool} {ds es : List PyData} {i : Nat} (h : ds.length ≤ i) : badAt f ds es i = true := by
  unfold badAt
  rw [List.getElem?_eq_none h]
theorem badAt_r {f : PyData → PyData → Bool} {ds es : List PyData} {i : Nat} (h : es.length ≤ i) : badAt f ds es i = true := by
  unfold badAt
  rw [List.getElem?_eq_none h]
  cases ds[i]? <;> rfl
theorem max_int (i j : Nat) : (if (j : Int) > (i : Int) then (j : Int) else (i : Int)) = ((max i j : Nat) : Int) := by split <;> omega
theorem min_int (i j : Nat) : (if (j : Int) < (i : Int) then (j : Int) else (i : Int)) = ((min i j : Nat) : Int) := by split <;> omega
theorem p_judge_reader (K : PySem.W.Frag) (vs : List V) (H : Hp) (Q : VK) (E : XK) (h : sp_judge_reader K vs H Q E) : t_judge_reader K { nx := fun _ H' => Q .non H', rt := Q } (start ["old", "new", "steps", "due", "at"] vs) H := by
  unfold sp_judge_reader at h
  obtain ⟨a, b, c, m, m', U, es, rfl, sa, sb, M, hc, le, she, da, db, q⟩ := h
  have smd := sm_made M da db
  have shd := sh_madeD M
  have ld : (madeF m m').length ≤ 900 := by
    unfold madeF
    rw [List.length_map]
    have := pairs_few M
    have : NN = 160 := rfl
    omega
  unfold t_judge_reader
  walk_at "go"
  refine made_go sa sb M fun H1 y k1 dy => ?_
  generalize madeF m m' = ds at smd shd ld dy q
  walk_at "go"
  refine lenD_go dy ?_
  walk_at "go"
  have hc1 := hc.kp0 k1
  refine Kb.lenQ_go hc1 ?_
  walk_at "go"
  refine max2_go ?_
  rw [max_int]
  walk_at "go"
  refine for_it walk_range (fun i σ H' => ∃ u4, σ = [some (.ref a), some (.ref b), some (.ref c), some y, u4] ∧ Kp [] H1 H' ∧ ∀ j, j < i → badAt badJ ds es j = false) ⟨_, rfl, Kp.refl, fun j hj => absurd hj (Nat.not_lt_zero _)⟩ (fun i σ H' _ _ => trivial) ?_ (fun σ H' h => ?_)
  · rintro i x σ Ha Hb hi ⟨u4, rfl, kb, ok⟩ ⟨rfl, rfl⟩
    have ei : (fun i : Nat => V.int (0 + (i : Int))) i = V.int (i : Int) := by show V.int (0 + (i : Int)) = _; rw [Int.zero_add]
    rw [ei]
    have hcb := hc1.kp0 kb
    have dyb := dp_kp0 kb dy
    walk_at "go"
    refine lenD_go dyb ?_
    walk_at "go"
    refine Kb.lenQ_go hcb ?_
    walk_at "go"
    refine min2_go ?_
    rw [min_int]
    walk_at "go"
    · rename_i hl
      have h1 : i < ds.length := by omega
      have h2 : i < es.length := by omega
      have e1 := List.getElem?_eq_getElem h1
      have e2 := List.getElem?_eq_getElem h2
      have md := List.getElem_mem h1
      have me := List.getElem_mem h2
      generalize ds[i] = d at e1 md
      generalize es[i] = e at e2 me
      have eb : badAt badJ ds es i = badJ d e := badAt_in e1 e2
      have bad : badAt badJ ds es i = true → Q (.int (i : Int)) Hb := fun hb => by
        have := q Hb (k1.trans kb)
        rw [fb_some ok hb (by omega)] at this
        exact this
      show rIxU K y (.int (i : Nat)) Hb _
      refine ixDp_go dyb e1 fun v hv => ?_
      walk_at "go"
      refine ixQ_go hcb e2 fun u hu => ?_
      walk_at "go"
      show sp_truths_alike K 10 [v, u] Hb _ _
      refine ta_go hv hu (Nat.le_trans (shd d md).2 (by omega)) (smd d md) fun H2 k2 => ?_
      have hcc := hcb.kp0 k2
      have dyc := dp_kp0 k2 dyb
      cases et : TA d e with
      | false =>
        walk_at "go"
        have := q H2 ((k1.trans kb).trans k2)
        rw [fb_some ok (by rw [eb]; unfold badJ; rw [et]; rfl) (by omega)] at this
        exact this
      | true =>
        walk_at "go"
        refine lenD_go dyc ?_
        walk_at "go"
        · omega
        refine Kb.lenQ_go hcc ?_
        walk_at "go"
        · omega
        show rIxU K (.ref c) (.int (i : Nat)) H2 _
        refine ixQ_go hcc e2 fun u2 hu2 => ?_
        walk_at "go"
        show rIxU K y (.int (i : Nat)) H2 _
        refine ixDp_go dyc e1 fun v2 hv2 => ?_
        refine neD_go hu2 hv2 ((she e me).ok (by omega)) ((shd d md).ok (by omega)) ?_
        cases ev : PyData.eqv e d with
        | false =>
          walk_at "go"
          have := q H2 ((k1.trans kb).trans k2)
          rw [fb_some ok (by rw [eb]; unfold badJ; rw [ev, et]; rfl) (by omega)] at this
          exact this
        | true =>
          walk_at "go"
          refine ⟨kb.trans k2, fun j hj => ?_⟩
          rcases Nat.lt_or_ge j i with g | g
          · exact ok j g
          · have ej : j = i := by omega
            rw [ej, eb]
            unfold badJ
            rw [ev, et]
            rfl
    · rename_i hl
      have bad : badAt badJ ds es i = true → Q (.int (i : Int)) Hb := fun hb => by
        have := q Hb (k1.trans kb)
        rw [fb_some ok hb (by omega)] at this
        exact this
      refine lenD_go dyb ?_
      walk_at "go"
      · exact bad (badAt_l (by omega))
      refine Kb.lenQ_go hcb ?_
      walk_at "go"
      · exact bad (badAt_r (by omega))
      · omega
  · obtain ⟨u4, rfl, kb, ok⟩ := h
    walk_at "go"
    have := q _ (k1.trans kb)
    rw [fb_none fun j hj => ok j (by omega)] at this
    exact this
end K02

/-! ## draws from a well of two numbers -/
namespace K02
open PySem PySem.Spec PyProof.Rows L2 Kb
/-- the well of the draws -/
def Wl (H : Hp) (S : Addr) : Prop := ∃ c k : Int, H S = some (.lst [.int c, .int k])
@[irreducible] def sp_law_draw (_ : PySem.W.Frag) : Sp := fun vs H Q _ => ∃ S m, vs = [.ref S, .int m] ∧ Wl H S ∧ 0 < m ∧ m.natAbs.log2 < 9000 ∧ ∀ H' r, Kp [S] H H' → Wl H' S → 0 ≤ r → r < m → Q (.int r) H'
end K02

/-! ## k34: promises of the law's defs -/
namespace K02
open PySem PySem.Spec PyProof.Rows L2 Kb
open LamX (TabS)
/-- a drawn sort: of kinds zs and the choice c -/
def Five : Srt → Prop
  | .num lo hi => (∀ l, lo = some l → l ≤ 5) ∧ ∀ h, hi = some h → 5 ≤ h
  | .text n => 1 ≤ n
  | .maybe s => Five s
  | _ => True
def So (zs : List Str) (s : Srt) : Prop := s.ok (· ∈ zs) (· = "c") 1 ∧ Five s
/-- the kinds' names -/
def Kn (zs : List Str) : Prop := zs ≠ [] ∧ zs.length ≤ 3 ∧ zs.Nodup ∧ ∀ z ∈ zs, NameOk z
@[irreducible] def sp_law_sort (K : PySem.W.Frag) : Sp := fun vs H Q _ => ∃ S k zs, vs = [.ref S, .ref k] ∧ Wl H S ∧ H k = some (.lst (zs.map V.str)) ∧ Kn zs ∧ ∀ H' x s, Kp [S] H H' → Wl H' S → SrtV K H' s x → So zs s → Q x H'
/-- none or one default -/
def Df (K : PySem.W.Frag) (H : Hp) (s : Srt) (ds : List V) : Prop := ds = [] ∨ ∃ v, ds = [v] ∧ DfOk K H s v ∧ Sh 2 (dD v) ∧ V5 (dD v)
@[irreducible] def sp_law_left (K : PySem.W.Frag) : Sp := fun vs H Q _ => ∃ x s zs, vs = [x] ∧ SrtV K H s x ∧ So zs s ∧ ∀ H' p ds, Kp [] H H' → SqT K H' p ds → Df K H' s ds → Q (.ref p) H'
/-- a kind's row: fields of numbers from 1 to 5, names by numbers -/
structure RowG (K : PySem.W.Frag) (H : Hp) (zs : List Str) (nm : Int → Str) (fls : List Fld) (xs : List V) : Prop where
  at_ : Paired (FldV K H) fls xs
  ok : ∀ f ∈ fls, 1 ≤ f.num ∧ f.num ≤ 5 ∧ f.name = nm f.num ∧ So zs f.s ∧ ∀ v, f.dfl = some v → Sh 2 (dD v) ∧ V5 (dD v)
  nd : (fls.map (·.num)).Nodup
/-- the rows of kinds, each a list of its own -/
def Rows (K : PySem.W.Frag) (H : Hp) (zs : List Str) (nm : Int → Str) (ws : List Str) (rs : List KRow) : Prop := Paired (fun (z : Str) (r : KRow) => r.name = z ∧ H r.adr = some (.lst r.xs) ∧ RowG K H zs nm r.fls r.xs) ws rs
structure CasG (K : PySem.W.Frag) (H : Hp) (zs : List Str) (cn : Int → Str) (cs : List Cse) (xs : List V) : Prop where
  at_ : Paired (CseV K H) cs xs
  ok : ∀ c ∈ cs, 0 ≤ c.num ∧ c.num ≤ 4 ∧ c.name = cn c.num ∧ ∀ s, c.s = some s → 2 ≤ c.num ∧ So zs s ∧ ∀ z, s ≠ .pick z
  nd : (cs.map (·.num)).Nodup
  low : ∃ c ∈ cs, c.num ≤ 1
  one : ∀ c ∈ cs, ∀ d ∈ cs, c.num ≤ 1 → d.num ≤ 1 → c.num = d.num
  le : cs.length ≤ 4
/-- a letter by its number -/
def lt5 (i : Int) : Str := if i = 1 then "a" else if i = 2 then "b" else if i = 3 then "c" else if i = 4 then "d" else "e"
def wd (i : Int) : Str := if i = 2 then "two" else if i = 3 then "more" else "last"
def fnm (st : Str) (i : Int) : Str := st ++ lt5 i
def cnm (st : Str) (i : Int) : Str := if i ≤ 1 then "one" else st ++ wd i
/-- o or n -/
def Stem (st : Str) : Prop := st = "o" ∨ st = "n"
@[irreducible] def sp_law_schema (K : PySem.W.Frag) (Pt : Tb) : Sp := fun vs H Q _ => ∃ S k st zs, vs = [.ref S, .ref k, .str st] ∧ Wl H S ∧ H k = some (.lst (zs.map V.str)) ∧ Kn zs ∧ Stem st ∧ Tbl Pt H ∧ ∀ H' z m, Kp [S, Pt.a, Pt.b] H H' → Wl H' S → Tbl Pt H' → SV K H' z m → Small m → D5 m → Q (.ref z) H'
/-- where they are equal, truths stand alike in them -/
def Gd (d e : PyData) : Prop := PyData.eqv d e = true → TA d e = true
@[irreducible] def sp_law_other (K : PySem.W.Frag) : Nat → Sp
  | 0 => fun _ _ _ _ => False
  | n + 1 => fun vs H Q _ => ∃ S x d, vs = [.ref S, x] ∧ Wl H S ∧ Dp K H x d ∧ sm d = true ∧ d.depth ≤ n ∧ ∀ H' y e, Kp [S] H H' → Wl H' S → (∀ H'', Kp [S] H' H'' → Dp K H'' y e) → Gd d e → Sh (n + 1) e → Q y H'
mutual
/-- no truth in it -/
def nbl : PyData → Bool
  | .bool _ => false
  | .tuple ds => nbls ds
  | .list _ => false
  | .dict _ => false
  | _ => true
def nbls : List PyData → Bool
  | [] => true
  | d :: ds => nbl d && nbls ds
end
def F5 (f : PyData) : Prop := ∃ n w j l, f = .tuple [.int n, .str w, .int j, .tuple l] ∧ (l = [] ∨ ∃ v, l = [v] ∧ V5 v)
def E5 (e : PyData) : Prop := ∃ w v, e = .tuple [.str w, v] ∧ V5 v
/-- a step of a reader -/
structure WS (d : PyData) : Prop where
  sm : sm d = true
  dp : d.depth ≤ 6
  ne : ∃ c cs, d = .tuple (c :: cs)
  sh : (nbl d = true ∧ ∀ cs, d ≠ .tuple (.str "node" :: cs)) ∨ ∃ k fs ds ls, d = .tuple [.str "node", .str k, .tuple fs, .tuple ds, .tuple ls] ∧ (∀ f ∈ fs, F5 f) ∧ (∀ e ∈ ds, E5 e) ∧ nbls ls = true
@[irreducible] def sp_law_spoilt (K : PySem.W.Frag) : Sp := fun vs H Q _ => ∃ S L, ∃ ds : List PyData, vs = [.ref S, .ref L] ∧ Wl H S ∧ LsD K H L ds ∧ ds ≠ [] ∧ ds.length ≤ 1000 ∧ (∀ d ∈ ds, WS d) ∧ L ≠ S ∧ ∀ (H' : Hp) (L' : Addr) (es : List PyData), Kp [S] H H' → Wl H' S → LsD K H' L' es → (∀ (i : Nat) (d e : PyData), ds[i]? = some d → es[i]? = some e → Gd d e) → (∀ e ∈ es, Sh 20 e) → es.length ≤ 4000 → Q (.ref L') H'
@[irreducible] def sp_law_due (K : PySem.W.Frag) : Sp := fun vs H Q _ => ∃ a b ds es, vs = [.ref a, .ref b] ∧ SqD K H a ds ∧ SqD K H b es ∧ ds.length ≤ 10000 ∧ es.length ≤ 10000 ∧ (∀ d ∈ ds, Sh 20 d) ∧ (∀ e ∈ es, Sh 20 e) ∧ ∀ H', Kp [] H H' → Q (rsV (firstBad badL ds es)) H'
def sp_law (K : PySem.W.Frag) (Pt : Tb) : Sp := fun vs H Q _ => ∃ (a : Addr) (ns : List Int), vs = [.ref a] ∧ SqL K H a (ns.map V.int) ∧ ns.length ≤ 63 ∧ Tbl Pt H ∧ ∀ H', Q (.bl true) H'
end K02

namespace K02
open PySem PySem.Spec PyProof.Rows L2 Kb
def t_law_draw (K : PySem.W.Frag) : TS :=
 (tSeq (tIfS (tTest (tOp rGeU (tOp (rIxU K) (tVar 0) (tC (.int 0))) (tOp rPowU (tC (.int 10)) (tC (.int 18)))))
 (tSeq (tAsg (tOp rModU (tOp (rIxU K) (tVar 0) (tC (.int 0))) (tVar 1)) (gName 2))
 (tSeq (tAsg (tOp rDivW (tOp (rIxU K) (tVar 0) (tC (.int 0))) (tVar 1)) (gSub (tVar 0) (tC (.int 0)) rSetU))
 (tRet (tVar 2))))
 tNext)
 (tSeq (tAsg (tOp (rAddU K) (tOp (rIxU K) (tVar 0) (tC (.int 1))) (tC (.int 1))) (gSub (tVar 0) (tC (.int 1)) rSetU))
 (tSeq (tAsg (tOp (rAddU K) (tOp rModU (tOp (rIxU K) (tVar 0) (tC (.int 0))) (tC (.int 2147483647))) (tOp (rMulU K) (tOp rDivW (tOp (rIxU K) (tVar 0) (tC (.int 0))) (tC (.int 2147483647))) (tC (.int 30011)))) (gName 3))
 (tSeq (tAsg (tOp rModU (tOp (rAddU K) (tOp (rAddU K) (tVar 3) (tOp (rMulU K) (tC (.int 69997)) (tOp (rIxU K) (tVar 0) (tC (.int 1))))) (tC (.int 1))) (tC (.int 2147483647))) (gName 3))
 (tSeq (tAsg (tOp rModU (tOp rPowU (tVar 3) (tC (.int 5))) (tC (.int 2147483647))) (gName 3))
 (tSeq (tAsg (tOp rModU (tOp (rMulU K) (tVar 3) (tOp (rAddU K) (tOp (rAddU K) (tOp rDivW (tVar 3) (tC (.int 1013))) (tC (.int 70001))) (tOp (rIxU K) (tVar 0) (tC (.int 1))))) (tC (.int 2147483629))) (gName 3))
 (tRet (tOp rModU (tOp rDivW (tOp rModU (tOp (rMulU K) (tVar 3) (tOp (rAddU K) (tOp rDivW (tVar 3) (tC (.int 2017))) (tC (.int 40009)))) (tC (.int 2147483587))) (tC (.int 3))) (tVar 1)))))))))

@[irreducible] def c_law_sort_0 (K : PySem.W.Frag) : TE :=
 (tLst (tCons (tVar 2) (tCons (tTup (tCons (tC (.str (PySem.Str.ofString "maybe"))) (tCons (tVar 2) tNil))) (tCons (tTup (tCons (tC (.str (PySem.Str.ofString "row"))) (tCons (tC (.int 2)) (tCons (tVar 2) tNil)))) (tCons (tTup (tCons (tC (.str (PySem.Str.ofString "choice"))) (tCons (tC (.str (PySem.Str.ofString "c"))) tNil))) (tCons (tTup (tCons (tC (.str (PySem.Str.ofString "number"))) (tCons (tVar 3) (tCons (tC (.int 5)) tNil)))) (tCons (tTup (tCons (tC (.str (PySem.Str.ofString "truth"))) tNil)) (tCons (tTup (tCons (tC (.str (PySem.Str.ofString "text"))) (tCons (tC (.int 3)) tNil))) tNil))))))))

@[irreducible] def c_law_sort_1 (K : PySem.W.Frag) : TE :=
 (tLst (tCons (tTup (tCons (tC (.str (PySem.Str.ofString "row"))) (tCons (tC (.int 0)) (tCons (tTup (tCons (tC (.str (PySem.Str.ofString "text"))) (tCons (tC (.int 1)) tNil))) tNil)))) (tCons (tTup (tCons (tC (.str (PySem.Str.ofString "maybe"))) (tCons (tTup (tCons (tC (.str (PySem.Str.ofString "choice"))) (tCons (tC (.str (PySem.Str.ofString "c"))) tNil))) tNil))) (tCons (tTup (tCons (tC (.str (PySem.Str.ofString "number"))) (tCons (tC .non) (tCons (tC .non) tNil)))) tNil))))
def t_law_sort (K : PySem.W.Frag) : TS :=
 (tSeq (tAsg (tTup (tCons (tC (.str (PySem.Str.ofString "node"))) (tCons (tOp (rIxU K) (tVar 1) (tCall (sp_law_draw K) [] E0 (tCons (tVar 0) (tCons (tCB (rLenU K) (tCons (tVar 1) tNil)) tNil)))) tNil))) (gName 2))
 (tSeq (tAsg (tOp rSubU (tCall (sp_law_draw K) [] E0 (tCons (tVar 0) (tCons (tC (.int 9)) tNil))) (tC (.int 4))) (gName 3))
 (tSeq (tAsg (c_law_sort_0 K) (gName 4))
 (tRet (tOp (rIxU K) (tOp (rAddU K) (tVar 4) (c_law_sort_1 K)) (tCall (sp_law_draw K) [] E0 (tCons (tVar 0) (tCons (tC (.int 10)) tNil))))))))
def t_law_left (K : PySem.W.Frag) : TS :=
 (tSeq (tAsg (tDisp (((tC (.str (PySem.Str.ofString "truth"))), (tC (.bl true))) :: (((tC (.str (PySem.Str.ofString "text"))), (tC (.str (PySem.Str.ofString "a")))) :: (((tC (.str (PySem.Str.ofString "row"))), (tTup tNil)) :: (((tC (.str (PySem.Str.ofString "maybe"))), (tC .non)) :: (((tC (.str (PySem.Str.ofString "number"))), (tC (.int 5))) :: [])))))) (gName 1))
 (tRet (tIf (tB (tDIn (tOp (rIxU K) (tVar 0) (tC (.int 0))) (tVar 1))) (tTup (tCons (tDGet (tVar 1) (tOp (rIxU K) (tVar 0) (tC (.int 0)))) tNil)) (tTup tNil))))
@[irreducible] def b_law_schema_1 (K : PySem.W.Frag) (C : Addr) (Pt : Tb) : TS :=
 (tDrop (tBM K "list" rAppU (tDGet (tVar 3) (tVar 4)) (tCons (tOp (rAddU K) (tTup (tCons (tOp (rAddU K) (tVar 5) (tC (.int 1))) (tCons (tOp (rAddU K) (tVar 2) (tOp (rIxU K) (tC (.str (PySem.Str.ofString "abcde"))) (tVar 5))) (tCons (tVar 6) tNil)))) (tVar 7)) tNil)))
@[irreducible] def b_law_schema_0 (K : PySem.W.Frag) (C : Addr) (Pt : Tb) : TS :=
 (tSeq (tAsg (tIf (tTest (tOp (rEqU K) (tCall (sp_law_draw K) [] E0 (tCons (tVar 0) (tCons (tC (.int 2)) tNil))) (tC (.int 0)))) (tCall (sp_law_left K) [] E0 (tCons (tVar 6) tNil)) (tTup tNil)) (gName 7))
 (b_law_schema_1 K C Pt))
@[irreducible] def b_law_schema_3 (K : PySem.W.Frag) (C : Addr) (Pt : Tb) : TS :=
 (tSeq (tAsg (tOrV (tOp (rEqU K) (tOp (rIxU K) (tVar 6) (tC (.int 0))) (tC (.str (PySem.Str.ofString "choice")))) (tOp (rEqU K) (tCall (sp_law_draw K) [] E0 (tCons (tVar 0) (tCons (tC (.int 3)) tNil))) (tC (.int 0)))) (gName 9))
 (tDrop (tBM K "list" rAppU (tVar 8) (tCons (tTup (tCons (tOp (rAddU K) (tC (.int 2)) (tVar 5)) (tCons (tOp (rAddU K) (tVar 2) (tOp (rIxU K) (tLst (tCons (tC (.str (PySem.Str.ofString "two"))) (tCons (tC (.str (PySem.Str.ofString "more"))) (tCons (tC (.str (PySem.Str.ofString "last"))) tNil)))) (tVar 5))) (tCons (tIf (tTru K (tVar 9)) (tC .non) (tVar 6)) tNil)))) tNil))))
@[irreducible] def b_law_schema_4 (K : PySem.W.Frag) (C : Addr) (Pt : Tb) : TS :=
 (tRet (tMakeK (cAt K "Schema") 1 2 (sp_Schema___init__ K Pt) (fun (vs zs : List V) => vs ++ zs) E0 (tCons (tVar 3) tNil) (tCons (tDisp (((tC (.str (PySem.Str.ofString "c"))), (tVar 8)) :: [])) (tCons (tTup (tCons (tC (.str (PySem.Str.ofString "node"))) (tCons (tOp (rIxU K) (tVar 1) (tC (.int 0))) tNil))) tNil))))
@[irreducible] def b_law_schema_2 (K : PySem.W.Frag) (C : Addr) (Pt : Tb) : TS :=
 (tSeq (tAsg (tLst (tCons (tTup (tCons (tCall (sp_law_draw K) [] E0 (tCons (tVar 0) (tCons (tC (.int 2)) tNil))) (tCons (tC (.str (PySem.Str.ofString "one"))) (tCons (tC .non) tNil)))) tNil)) (gName 8))
 (tSeq (tFor (iRng1 (tCons (tCall (sp_law_draw K) [] E0 (tCons (tVar 0) (tCons (tC (.int 4)) tNil))) tNil)) (gName 5)
 (tSeq (tAsg (tCall (sp_law_sort K) [] E0 (tCons (tVar 0) (tCons (tVar 1) tNil))) (gName 6))
 (tIfS (tTest (tOp rGtU (tCall (sp_law_draw K) [] E0 (tCons (tVar 0) (tCons (tC (.int 4)) tNil))) (tC (.int 0))))
 (b_law_schema_3 K C Pt)
 tNext)))
 (b_law_schema_4 K C Pt)))
def t_law_schema (K : PySem.W.Frag) (C : Addr) (Pt : Tb) : TS :=
 (tSeq (tAsg tDNewK (gName 3))
 (tSeq (tFor (iList K (tVar 1)) (gName 4)
 (tSeq (sDPut (tVar 3) (tVar 4) (tLst tNil))
 (tFor (iRng1 (tCons (tOp (rAddU K) (tC (.int 1)) (tCall (sp_law_draw K) [] E0 (tCons (tVar 0) (tCons (tC (.int 5)) tNil)))) tNil)) (gName 5)
 (tIfS (tTest (tOp rGtU (tCall (sp_law_draw K) [] E0 (tCons (tVar 0) (tCons (tC (.int 5)) tNil))) (tC (.int 0))))
 (tSeq (tAsg (tCall (sp_law_sort K) [] E0 (tCons (tVar 0) (tCons (tVar 1) tNil))) (gName 6))
 (b_law_schema_0 K C Pt))
 tNext))))
 (b_law_schema_2 K C Pt)))

@[irreducible] def c_law_other_0 (K : PySem.W.Frag) (n : Nat) : TE :=
 (tLst (tCons (tTup (tCons (tC (.int 1)) tNil)) (tCons (tC .non) (tCons (tLst (tCons (tTup (tCons (tC (.int 0)) (tCons (tC (.str (PySem.Str.ofString "a"))) (tCons (tC (.int 1)) tNil)))) tNil)) (tCons (tTup (tCons (tTup tNil) tNil)) tNil)))))
@[irreducible] def b_law_other_1 (K : PySem.W.Frag) (n : Nat) : TS :=
 (tSeq (tAsg (tCall (sp_law_draw K) [] E0 (tCons (tVar 0) (tCons (tCB (rLenU K) (tCons (tVar 1) tNil)) tNil))) (gName 3))
 (tSeq (tIfS (tTest (tOp rLtU (tVar 2) (tC (.int 2))))
 (tRet (tOp (rIxU K) (tLst (tCons (tOp (rAddA K) (tSl (rSlW K) (tVar 1) tNoPart (tPart (tVar 3))) (tSl (rSlW K) (tVar 1) (tPart (tOp (rAddU K) (tVar 3) (tC (.int 1)))) tNoPart)) (tCons (tOp (rAddA K) (tVar 1) (tSl (rSlW K) (tVar 1) tNoPart (tPart (tC (.int 1))))) tNil))) (tVar 2)))
 tNext)
 (tRet (tOp (rAddA K) (tOp (rAddA K) (tSl (rSlW K) (tVar 1) tNoPart (tPart (tVar 3))) (tTup (tCons (tCall (sp_law_other K n) [] E0 (tCons (tVar 0) (tCons (tOp (rIxU K) (tVar 1) (tVar 3)) tNil))) tNil))) (tSl (rSlW K) (tVar 1) (tPart (tOp (rAddU K) (tVar 3) (tC (.int 1)))) tNoPart)))))
@[irreducible] def b_law_other_0 (K : PySem.W.Frag) (n : Nat) : TS :=
 (tSeq (tIfS (tTest (tOp (rEqX K) (tVar 1) (tTup tNil)))
 (tRet (tOp (rIxU K) (c_law_other_0 K n) (tVar 2)))
 tNext)
 (b_law_other_1 K n))
def t_law_other (K : PySem.W.Frag) (n : Nat) : TS :=
 (tSeq (tAsg (tCall (sp_law_draw K) [] E0 (tCons (tVar 0) (tCons (tC (.int 4)) tNil))) (gName 2))
 (tSeq (tIfS (tTest (tOp rIsNU (tVar 1) (tC .non)))
 (tRet (tOp (rIxU K) (tLst (tCons (tC (.int 0)) (tCons (tC (.int 1)) (tCons (tC (.str (PySem.Str.ofString ""))) (tCons (tUn rNegU (tC (.int 1))) tNil))))) (tVar 2)))
 tNext)
 (tSeq (tIfS (tTru K (tCB (rIsiU K) (tCons (tVar 1) (tCons (tC (.ty "bool")) tNil))))
 (tRet (tOp (rIxU K) (tLst (tCons (tNotV (tVar 1)) (tCons (tC .non) (tCons (tC (.str (PySem.Str.ofString ""))) (tCons (tUn rNegU (tC (.int 1))) tNil))))) (tVar 2)))
 tNext)
 (tSeq (tIfS (tTru K (tCB (rIsiU K) (tCons (tVar 1) (tCons (tC (.ty "int")) tNil))))
 (tRet (tOp (rIxU K) (tLst (tCons (tOp (rAddU K) (tVar 1) (tC (.int 1))) (tCons (tOp rSubU (tVar 1) (tC (.int 1))) (tCons (tC .non) (tCons (tCB rStrU (tCons (tVar 1) tNil)) tNil))))) (tVar 2)))
 tNext)
 (tSeq (tIfS (tTru K (tCB (rIsiU K) (tCons (tVar 1) (tCons (tC (.ty "str")) tNil))))
 (tRet (tOp (rIxU K) (tLst (tCons (tOp (rAddU K) (tVar 1) (tC (.str (PySem.Str.ofString "a")))) (tCons (tSl (rSlW K) (tVar 1) tNoPart (tPart (tUn rNegU (tC (.int 1))))) (tCons (tC .non) (tCons (tM0 rUpper (tVar 1)) tNil))))) (tVar 2)))
 tNext)
 (b_law_other_0 K n))))))
@[irreducible] def b_law_spoilt_5 (K : PySem.W.Frag) : TS :=
 (tRet (tOp (rAddU K) (tOp (rAddU K) (tSl (rSlLU K) (tVar 1) tNoPart (tPart (tVar 3))) (tLst (tCons (tOp (rIxU K) (tLst (tCons (tVar 6) (tCons (tSl (rSlA K) (tVar 4) tNoPart (tPart (tVar 5))) (tCons (tOp (rAddA K) (tVar 4) (tTup (tCons (tC (.int 0)) tNil))) tNil)))) (tOp (rIxU K) (tLst (tCons (tC (.int 0)) (tCons (tC (.int 0)) (tCons (tC (.int 0)) (tCons (tC (.int 1)) (tCons (tC (.int 2)) tNil)))))) (tCall (sp_law_draw K) [] E0 (tCons (tVar 0) (tCons (tC (.int 5)) tNil))))) tNil))) (tSl (rSlLU K) (tVar 1) (tPart (tOp (rAddU K) (tVar 3) (tC (.int 1)))) tNoPart)))
@[irreducible] def b_law_spoilt_4 (K : PySem.W.Frag) : TS :=
 (tSeq (tAsg (tCall (sp_law_draw K) [] E0 (tCons (tVar 0) (tCons (tCB (rLenU K) (tCons (tVar 4) tNil)) tNil))) (gName 5))
 (tSeq (tAsg (tOp (rAddA K) (tOp (rAddA K) (tSl (rSlA K) (tVar 4) tNoPart (tPart (tVar 5))) (tTup (tCons (tCall (sp_law_other K 8) [] E0 (tCons (tVar 0) (tCons (tOp (rIxU K) (tVar 4) (tVar 5)) tNil))) tNil))) (tSl (rSlA K) (tVar 4) (tPart (tOp (rAddU K) (tVar 5) (tC (.int 1)))) tNoPart)) (gName 6))
 (b_law_spoilt_5 K)))
@[irreducible] def b_law_spoilt_3 (K : PySem.W.Frag) : TS :=
 (tSeq (tIfS (tTest (tOp (rEqU K) (tVar 2) (tC (.int 3))))
 (tRet (tOp (rIxU K) (tLst (tCons (tOp (rAddU K) (tVar 1) (tLst (tCons (tTup (tCons (tC (.str (PySem.Str.ofString "truth"))) tNil)) tNil))) (tCons (tSl (rSlLU K) (tVar 1) tNoPart (tPart (tUn rNegU (tC (.int 1))))) (tCons (tLst tNil) (tCons (tVar 1) tNil))))) (tCall (sp_law_draw K) [] E0 (tCons (tVar 0) (tCons (tC (.int 4)) tNil)))))
 tNext)
 (b_law_spoilt_4 K))
@[irreducible] def b_law_spoilt_2 (K : PySem.W.Frag) : TS :=
 (tSeq (tIfS (tTest (tOp (rEqU K) (tVar 2) (tC (.int 2))))
 (tRet (tOp (rAddU K) (tOp (rAddU K) (tSl (rSlLU K) (tVar 1) tNoPart (tPart (tVar 3))) (tRevL K (tSl (rSlLU K) (tVar 1) (tPart (tVar 3)) (tPart (tOp (rAddU K) (tVar 3) (tC (.int 2))))))) (tSl (rSlLU K) (tVar 1) (tPart (tOp (rAddU K) (tVar 3) (tC (.int 2)))) tNoPart)))
 tNext)
 (b_law_spoilt_3 K))
@[irreducible] def b_law_spoilt_1 (K : PySem.W.Frag) : TS :=
 (tSeq (tIfS (tTest (tOp (rEqU K) (tVar 2) (tC (.int 1))))
 (tRet (tOp (rAddU K) (tSl (rSlLU K) (tVar 1) tNoPart (tPart (tOp (rAddU K) (tVar 3) (tC (.int 1))))) (tSl (rSlLU K) (tVar 1) (tPart (tVar 3)) tNoPart)))
 tNext)
 (b_law_spoilt_2 K))
@[irreducible] def b_law_spoilt_0 (K : PySem.W.Frag) : TS :=
 (tSeq (tIfS (tTest (tOp (rEqU K) (tVar 2) (tC (.int 0))))
 (tRet (tOp (rAddU K) (tSl (rSlLU K) (tVar 1) tNoPart (tPart (tVar 3))) (tSl (rSlLU K) (tVar 1) (tPart (tOp (rAddU K) (tVar 3) (tC (.int 1)))) tNoPart)))
 tNext)
 (b_law_spoilt_1 K))
def t_law_spoilt (K : PySem.W.Frag) : TS :=
 (tSeq (tAsg (tCall (sp_law_draw K) [] E0 (tCons (tVar 0) (tCons (tC (.int 9)) tNil))) (gName 2))
 (tSeq (tAsg (tCall (sp_law_draw K) [] E0 (tCons (tVar 0) (tCons (tCB (rLenU K) (tCons (tVar 1) tNil)) tNil))) (gName 3))
 (tSeq (tAsg (tOp (rIxU K) (tVar 1) (tVar 3)) (gName 4))
 (b_law_spoilt_0 K))))
def t_law_due (K : PySem.W.Frag) : TS :=
 (tSeq (tFor (iRng1 (tCons (tCB rMax2U (tCons (tCB (rLenU K) (tCons (tVar 0) tNil)) (tCons (tCB (rLenU K) (tCons (tVar 1) tNil)) tNil))) tNil)) (gName 2)
 (tIfS (tOr (tTest (tOp rGeU (tVar 2) (tCB (rLenU K) (tCons (tVar 0) tNil)))) (tOr (tTest (tOp rGeU (tVar 2) (tCB (rLenU K) (tCons (tVar 1) tNil)))) (tTest (tOp (rNeU K) (tOp (rIxU K) (tVar 0) (tVar 2)) (tOp (rIxU K) (tVar 1) (tVar 2))))))
 (tRet (tVar 2))
 tNext))
 (tRet (tC (.str (PySem.Str.ofString "right")))))
@[irreducible] def b_law_3 (K : PySem.W.Frag) (Pt : Tb) : TS :=
 (tSeq (tAsg (tCB (rListU K) (tCons (tCall (sp_made K) [] E0 (tCons (tVar 5) (tCons (tVar 4) tNil))) tNil)) (gName 8))
 (tIfS (tTest (tOp (rNeU K) (tCall (sp_judge_reader K) [] E0 (tCons (tVar 4) (tCons (tVar 5) (tCons (tCB (rTupleU K) (tCons (tVar 8) tNil)) tNil)))) (tCall (sp_law_due K) [] E0 (tCons (tVar 6) (tCons (tVar 8) tNil)))))
 (tRet (tC (.bl false)))
 tNext))
@[irreducible] def b_law_2 (K : PySem.W.Frag) (Pt : Tb) : TS :=
 (tSeq (tFor (iRng1 (tCons (tC (.int 10)) tNil)) (gName 7)
 (tSeq (tAsg (tCall (sp_law_spoilt K) [] E0 (tCons (tVar 2) (tCons (tCB (rListU K) (tCons (tVar 6) tNil)) tNil))) (gName 8))
 (tSeq (tAsg (tCall (sp_judge_reader K) [] E0 (tCons (tVar 4) (tCons (tVar 5) (tCons (tOp (rIxU K) (tLst (tCons (tCB (rTupleU K) (tCons (tVar 8) tNil)) (tCons (tVar 8) tNil))) (tOp rModU (tVar 7) (tC (.int 2)))) tNil)))) (gName 9))
 (tIfS (tOr (tTest (tOp (rNeU K) (tVar 9) (tCall (sp_law_due K) [] E0 (tCons (tVar 6) (tCons (tVar 8) tNil))))) (tTru K (tCB (rIsiU K) (tCons (tVar 9) (tCons (tC (.ty "bool")) tNil)))))
 (tRet (tC (.bl false)))
 tNext))))
 (b_law_3 K Pt))
@[irreducible] def b_law_1 (K : PySem.W.Frag) (Pt : Tb) : TS :=
 (tSeq (tAsg (tCB (rListU K) (tCons (tCall (sp_made K) [] E0 (tCons (tVar 4) (tCons (tVar 5) tNil))) tNil)) (gName 6))
 (tSeq (tIfS (tOr (tTest (tOp (rNeU K) (tCall (sp_judge_reader K) [] E0 (tCons (tVar 4) (tCons (tVar 5) (tCons (tCall (sp_made K) [] E0 (tCons (tVar 4) (tCons (tVar 5) tNil))) tNil)))) (tC (.str (PySem.Str.ofString "right"))))) (tTest (tOp (rNeU K) (tCall (sp_judge_reader K) [] E0 (tCons (tVar 4) (tCons (tVar 5) (tCons (tCB (rListU K) (tCons (tVar 6) tNil)) tNil)))) (tC (.str (PySem.Str.ofString "right"))))))
 (tRet (tC (.bl false)))
 tNext)
 (b_law_2 K Pt)))
@[irreducible] def b_law_0 (K : PySem.W.Frag) (Pt : Tb) : TS :=
 (tSeq (tAsg (tCall (sp_law_schema K Pt) [] E0 (tCons (tVar 2) (tCons (tVar 3) (tCons (tC (.str (PySem.Str.ofString "o"))) tNil)))) (gName 4))
 (tSeq (tAsg (tCall (sp_law_schema K Pt) [] E0 (tCons (tVar 2) (tCons (tVar 3) (tCons (tOp (rIxU K) (tLst (tCons (tC (.str (PySem.Str.ofString "o"))) (tCons (tC (.str (PySem.Str.ofString "n"))) tNil))) (tCall (sp_law_draw K) [] E0 (tCons (tVar 2) (tCons (tC (.int 2)) tNil)))) tNil)))) (gName 5))
 (b_law_1 K Pt)))
def t_law (K : PySem.W.Frag) (Pt : Tb) : TS :=
 (tSeq (tFor (iList K (tSl (rSlLU K) (tOp (rAddU K) (tVar 0) (tLst (tCons (tC (.int 0)) tNil))) tNoPart (tPart (tC (.int 6))))) (gName 1)
 (tSeq (tAsg (tLst (tCons (tVar 1) (tCons (tC (.int 0)) tNil))) (gName 2))
 (tSeq (tAsg (tSl (rSlLU K) (tLst (tCons (tC (.str (PySem.Str.ofString "k"))) (tCons (tC (.str (PySem.Str.ofString "kk"))) (tCons (tC (.str (PySem.Str.ofString "kkk"))) tNil)))) tNoPart (tPart (tOp (rAddU K) (tC (.int 1)) (tCall (sp_law_draw K) [] E0 (tCons (tVar 2) (tCons (tC (.int 3)) tNil)))))) (gName 3))
 (b_law_0 K Pt))))
 (tRet (tC (.bl true))))
end K02

-- imports: QS1 QS2
/-! ## draws -/
namespace K02
open PySem PySem.Spec PyProof.Rows L2 Kb
section
variable {K : PySem.W.Frag} {Q : VK} {E : XK} {H0 H H' : Hp} {S p : Addr} {o : HO} {M : List Addr}
theorem Wl.new (w : Wl H S) (np : H p = none) : Wl (upd H p o) S := by
  obtain ⟨d, x, h⟩ := w
  exact ⟨d, x, (upd_ne (ne_of_none h np)).trans h⟩
theorem Wl.ne (w : Wl H S) (np : H p = none) : p ≠ S := by
  obtain ⟨d, x, h⟩ := w
  exact (ne_of_none h np).symm
theorem Wl.off (w : Wl H S) (np : p ≠ S) : Wl (upd H p o) S := by
  obtain ⟨d, x, h⟩ := w
  exact ⟨d, x, (upd_ne np.symm).trans h⟩
theorem Wl.kp (w : Wl H S) (k : Kp M H H') (nm : S ∉ M) : Wl H' S := by
  obtain ⟨d, x, h⟩ := w
  exact ⟨d, x, k.at_ nm h⟩
theorem Wl.noT (w : Wl H S) : ∀ b ∈ [S], NoT H b := by
  obtain ⟨d, x, h⟩ := w
  exact mem1 (P := NoT H) (noT_lst h)
/-- drawing since H0: all that stood there stands, but for the well -/
def SW (H0 : Hp) (S : Addr) (H : Hp) : Prop := Kp [S] H0 H ∧ Wl H S
theorem SW.new (sc : SW H0 S H) (np : H p = none) : SW H0 S (upd H p o) := ⟨sc.1.upd_new' np, sc.2.new np⟩
theorem SW.nm (sc : SW H0 S H) (np : H p = none) : p ∉ [S] := nm_cons (sc.2.ne np) List.not_mem_nil
theorem SW.was (sc : SW H0 S H) (np : H p = none) : H0 p = none := sc.1.none_of (sc.nm np) np
theorem SW.upd (sc : SW H0 S H) (np : H0 p = none) (ne : p ∉ [S]) : SW H0 S (upd H p o) := ⟨sc.1.upd_new np, sc.2.off fun e => ne (by rw [e]; exact List.mem_cons_self)⟩
theorem SW.kp (sc : SW H0 S H) (k : Kp [] H H') : SW H0 S H' := ⟨sc.1.trans (k.mono fun a z => absurd z List.not_mem_nil), sc.2.kp k List.not_mem_nil⟩
theorem SW.more (sc : SW H0 S H) (k : Kp [S] H H') (w : Wl H' S) : SW H0 S H' := ⟨sc.1.trans k, w⟩
theorem draw_go {i : Int} (sc : SW H0 S H) (h0 : 0 < i) (h1 : i.natAbs.log2 < 9000) (q : ∀ H' r, SW H0 S H' → Kp [S] H H' → 0 ≤ r → r < i → Q (.int r) H') : sp_law_draw K [.ref S, .int i] H Q E := by
  unfold sp_law_draw
  exact ⟨S, i, rfl, sc.2, h0, h1, fun H' r k w a b => q H' r ⟨sc.1.trans k, w⟩ k a b⟩
theorem divWw_go {i j : Int} (h0 : 0 < j) (h1 : j.natAbs.log2 < 9000) (q : Q (.int (i / j)) H) : rDivW (.int i) (.int j) H Q := by
  unfold rDivW
  exact ⟨_, _, rfl, rfl, ⟨h0, h1⟩, q⟩
end
theorem log_small {i : Int} (h0 : 0 < i) (h : i < 18446744073709551616) : i.natAbs.log2 < 9000 := by
  have e : i.natAbs ≠ 0 := by omega
  rw [Nat.log2_lt e]
  have : i.natAbs < 2 ^ 64 := by
    have : (2 : Nat) ^ 64 = 18446744073709551616 := by decide
    omega
  exact Nat.lt_trans this (by exact Nat.pow_lt_pow_right (by decide) (by decide))
theorem len_law_draw (K : PySem.W.Frag) : ∀ vs H Q E, sp_law_draw K vs H Q E → vs.length = ["_law_well", "_law_many"].length := by
  intro vs H Q E h
  unfold sp_law_draw at h
  obtain ⟨_, _, rfl, _⟩ := h
  rfl
theorem SrtV.kpT {K : PySem.W.Frag} {H H' : Hp} {M : List Addr} (k : Kp M H H') (l : ∀ b ∈ M, NoT H b) : ∀ {s : Srt} {x : V}, SrtV K H s x → SrtV K H' s x
  | .num _ _, _, ⟨a, h, g⟩ => ⟨a, h, sqT_kpT k l g⟩
  | .truth, _, ⟨a, h, g⟩ => ⟨a, h, sqT_kpT k l g⟩
  | .text _, _, ⟨a, h, g⟩ => ⟨a, h, sqT_kpT k l g⟩
  | .row _ s, _, ⟨a, y, h, g, r⟩ => ⟨a, y, h, sqT_kpT k l g, SrtV.kpT k l (s := s) r⟩
  | .maybe s, _, ⟨a, y, h, g, r⟩ => ⟨a, y, h, sqT_kpT k l g, SrtV.kpT k l (s := s) r⟩
  | .node _, _, ⟨a, h, g⟩ => ⟨a, h, sqT_kpT k l g⟩
  | .pick _, _, ⟨a, h, g⟩ => ⟨a, h, sqT_kpT k l g⟩
theorem ix_mem {α : Type} {xs : List α} {i : Int} (h0 : 0 ≤ i) (h1 : i < xs.length) : ∃ x, x ∈ xs ∧ atI xs i = some x := by
  have h : i.toNat < xs.length := by omega
  refine ⟨xs[i.toNat], List.getElem_mem h, ?_⟩
  have e : (i.toNat : Int) = i := by omega
  have := atI_nat (List.getElem?_eq_getElem h)
  rw [e] at this
  exact this
/-- what stands in a list, whichever is drawn -/
theorem ixP_go {K : PySem.W.Frag} {H : Hp} {Q : VK} {a : Addr} {xs : List V} {r : Int} (P : V → Prop) (h : H a = some (.lst xs)) (h0 : 0 ≤ r) (h1 : r < xs.length) (hp : ∀ x ∈ xs, P x) (q : ∀ x, P x → Q x H) : rIxU K (.ref a) (.int r) H Q := by
  obtain ⟨x, m, e⟩ := ix_mem h0 h1
  exact ixL_go (SqL.of h) e (q x (hp x m))
theorem SW.sqT {K : PySem.W.Frag} {H0 H : Hp} {S a : Addr} {xs : List V} (sc : SW H0 S H) (w : Wl H0 S) (h : SqT K H0 a xs) : SqT K H a xs := sqT_kpT sc.1 w.noT h
theorem SrtV.wl {K : PySem.W.Frag} {H H' : Hp} {S : Addr} {s : Srt} {x : V} (h : SrtV K H s x) (w : Wl H S) (k : Kp [S] H H') : SrtV K H' s x := h.kpT k w.noT
theorem SW.sqT' {K : PySem.W.Frag} {H0 H H' : Hp} {S a : Addr} {xs : List V} (sc : SW H0 S H) (k : Kp [S] H H') (h : SqT K H a xs) : SqT K H' a xs := sqT_kpT k sc.2.noT h
end K02

/-! steps of draws: "sd" drawing since, "tk" -/
local macro_rules | `(tactic| walk_at "sd") => `(tactic| first
  | assumption
  | (refine' K02.SW.new ?k1 ?k2; (case k2 => assumption); (case k1 => walk_at "sd"))
  | fail)
local macro_rules | `(tactic| walk_at "t") => `(tactic| first
  | assumption
  | exact SqT.of (by walk_at "h")
  | (refine' K02.SW.sqT ?k1 ?k2 ?k3; (case k2 => assumption); (case k1 => walk_at "sd"); (case k3 => assumption))
  | (refine Kp.sqT (by assumption) ?_ ?_ <;> first | assumption | walk_at "nm" | walk_at "t")
  | fail)
local macro_rules | `(tactic| walk_at "tk") => `(tactic| first
  | (refine' K02.draw_go ?k1 ?k2 ?k3 (fun H1 r1 sc1 k1 h0 h1 => ?kq); (case k1 => walk_at "sd"); (case k2 => walk_at "c"); (case k3 => exact K02.log_small (by first | omega | walk_at "c") (by omega)))
  | (refine' K02.divWw_go ?k1 ?k2 ?kq; (case k1 => walk_at "c"); (case k2 => first | decide | walk_at "c"))
  | fail)
local macro_rules | `(tactic| walk_at "nm") => `(tactic| first
  | assumption
  | exact List.not_mem_nil
  | (refine' K02.SW.nm ?k1 ?k2; (case k2 => assumption); (case k1 => walk_at "sd"))
  | (refine' nm_cons ?kn ?km; (case kn => walk_at "ne"); (case km => walk_at "nm"))
  | fail)
local macro_rules | `(tactic| walk_at "go") => `(tactic| repeat' first | walk_at "tk" | walk_at "sr" | walk_at "td" | walk_at "s")

-- imports: QS1 QS2 QS3 QM1 QM2 QM3
/-! ## k34: draws, drawn sorts, defaults -/
set_option maxHeartbeats 4000000
set_option maxRecDepth 4000
namespace K02
open PySem PySem.Spec PyProof.Rows L2 Kb
theorem p_law_draw (K : PySem.W.Frag) (vs : List V) (H : Hp) (Q : VK) (E : XK) (h : sp_law_draw K vs H Q E) : t_law_draw K { nx := fun _ H' => Q .non H', rt := Q } (start ["_law_well", "_law_many", "_law_found", "_law_low"] vs) H := by
  unfold sp_law_draw at h
  obtain ⟨S, m, rfl, ⟨c, k, hS⟩, m0, ml, q⟩ := h
  unfold t_law_draw
  walk_at "go"
  all_goals exact q _ _ (Kp.refl.upd_in List.mem_cons_self) ⟨_, _, upd_same⟩ (Int.emod_nonneg _ (by omega)) (Int.emod_lt_of_pos _ m0)
section
variable {K : PySem.W.Frag} {H H' : Hp} {Q : VK} {E : XK}
theorem len_law_sort (K : PySem.W.Frag) : ∀ vs H Q E, sp_law_sort K vs H Q E → vs.length = ["_law_well", "_law_kinds"].length := by
  intro _ _ _ _ h
  unfold sp_law_sort at h
  obtain ⟨_, _, _, rfl, _⟩ := h
  rfl
theorem len_law_left (K : PySem.W.Frag) : ∀ vs H Q E, sp_law_left K vs H Q E → vs.length = ["_law_sort_here"].length := by
  intro _ _ _ _ h
  unfold sp_law_left at h
  obtain ⟨_, _, _, rfl, _⟩ := h
  rfl
theorem kinds_ne {S k : Addr} {zs : List Str} (w : Wl H S) (hk : H k = some (.lst (zs.map V.str))) (ne : zs ≠ []) : k ≠ S := fun e => by
  obtain ⟨c, d, h⟩ := w
  rw [← e, hk] at h
  cases zs with
  | nil => exact ne rfl
  | cons z zs => cases h
theorem lsort_go {H0 : Hp} {S k : Addr} {zs : List Str} (sc : SW H0 S H) (hk : H k = some (.lst (zs.map V.str))) (kn : Kn zs) (q : ∀ H' x s, SW H0 S H' → Kp [S] H H' → SrtV K H' s x → So zs s → Q x H') : sp_law_sort K [.ref S, .ref k] H Q E := by
  unfold sp_law_sort
  exact ⟨S, k, zs, rfl, sc.2, hk, kn, fun H' x s k w h g => q H' x s (sc.more k w) k h g⟩
theorem lleft_go {zs : List Str} {s : Srt} {x : V} (h : SrtV K H s x) (g : So zs s) (q : ∀ H' p ds, Kp [] H H' → SqT K H' p ds → Df K H' s ds → Q (.ref p) H') : sp_law_left K [x] H Q E := by
  unfold sp_law_left
  exact ⟨x, s, zs, rfl, h, g, q⟩
end
/-- a drawn sort stands there -/
def Sor (K : PySem.W.Frag) (H : Hp) (zs : List Str) (x : V) : Prop := ∃ s, SrtV K H s x ∧ So zs s
section
variable {K : PySem.W.Frag} {H H' : Hp} {Q : VK} {E : XK} {zs : List Str} {x : V}
theorem Sor.kp (h : Sor K H zs x) (k : Kp [] H H') : Sor K H' zs x := let ⟨s, a, b⟩ := h; ⟨s, a.kpT k fun b m => absurd m List.not_mem_nil, b⟩
theorem Sor.new {p : Addr} {o : HO} (h : Sor K H zs x) (np : H p = none) : Sor K (upd H p o) zs x := h.kp (Kp.refl.upd_new' np)
theorem Sor.wl {S : Addr} (h : Sor K H zs x) (w : Wl H S) (k : Kp [S] H H') : Sor K H' zs x := let ⟨s, a, b⟩ := h; ⟨s, a.wl w k, b⟩
theorem sor_node {A : Addr} {z : Str} (hA : SqT K H A [.str "node", .str z]) (hz : z ∈ zs) : Sor K H zs (.ref A) := ⟨.node z, ⟨A, rfl, hA⟩, hz, trivial⟩
theorem sort_c0 {A : Addr} {z : Str} {low : Int} {u0 u1 u4 : Option V} (hA : SqT K H A [.str "node", .str z]) (hz : z ∈ zs) (l0 : -4 ≤ low) (l1 : low ≤ 5) (q : ∀ H' L xs, Kp [] H H' → H' L = some (.lst xs) → xs.length = 7 → (∀ x ∈ xs, Sor K H' zs x) → Q (.ref L) H') : c_law_sort_0 K [u0, u1, some (.ref A), some (.int low), u4] H Q := by
  unfold c_law_sort_0
  have a0 : Sor K H zs (.ref A) := sor_node hA hz
  walk_at "go"
  rename_i p1 n1 p2 n2 p3 n3 p4 n4 p5 n5 p6 n6 L nL
  have k1 := (Kp.refl (M := []) (H := H)).upd_new' (o := .tup [.str "maybe", .ref A]) n1
  have a1 : Sor K (upd H p1 (.tup [.str "maybe", .ref A])) zs (.ref p1) := ⟨.maybe (.node z), ⟨p1, _, rfl, SqT.of upd_same, A, rfl, k1.sqT List.not_mem_nil hA⟩, ⟨hz, fun s e => by cases e⟩, trivial⟩
  have k2 := k1.upd_new' (o := .tup [.str "row", .int 2, .ref A]) n2
  have a2 := a1.new (o := .tup [.str "row", .int 2, .ref A]) n2
  have b2 : Sor K (upd (upd H p1 (.tup [.str "maybe", .ref A])) p2 (.tup [.str "row", .int 2, .ref A])) zs (.ref p2) := ⟨.row 2 (.node z), ⟨p2, _, rfl, SqT.of upd_same, A, rfl, k2.sqT List.not_mem_nil hA⟩, ⟨by decide, by decide, hz⟩, trivial⟩
  have k6 : Kp [] H (upd (upd (upd (upd (upd (upd (upd H p1 (.tup [.str "maybe", .ref A])) p2 (.tup [.str "row", .int 2, .ref A])) p3 (.tup [.str "choice", .str "c"])) p4 (.tup [.str "number", .int low, .int 5])) p5 (.tup [.str "truth"])) p6 (.tup [.str "text", .int 3])) L (.lst [.ref A, .ref p1, .ref p2, .ref p3, .ref p4, .ref p5, .ref p6])) := (((((k2.upd_new' n3).upd_new' n4).upd_new' n5).upd_new' n6).upd_new' nL)
  refine q _ L _ k6 upd_same rfl fun x m => ?_
  simp only [List.mem_cons, List.not_mem_nil, or_false] at m
  rcases m with rfl | rfl | rfl | rfl | rfl | rfl | rfl
  · exact a0.kp k6
  · exact ((((a2.new n3).new n4).new n5).new n6).new nL
  · exact ((((b2.new n3).new n4).new n5).new n6).new nL
  · have c : Sor K (upd (upd (upd H p1 (.tup [.str "maybe", .ref A])) p2 (.tup [.str "row", .int 2, .ref A])) p3 (.tup [.str "choice", .str "c"])) zs (.ref p3) := ⟨.pick "c", ⟨p3, rfl, SqT.of upd_same⟩, rfl, trivial⟩
    exact (((c.new n4).new n5).new n6).new nL
  · have c : Sor K (upd (upd (upd (upd H p1 (.tup [.str "maybe", .ref A])) p2 (.tup [.str "row", .int 2, .ref A])) p3 (.tup [.str "choice", .str "c"])) p4 (.tup [.str "number", .int low, .int 5])) zs (.ref p4) := ⟨.num (some low) (some 5), ⟨p4, rfl, SqT.of upd_same⟩, ⟨fun l h e1 e2 => by cases e1; cases e2; exact l1, fun l e => by cases e; unfold GREAT; omega, fun h e => by cases e; unfold GREAT; omega⟩, fun l e => by cases e; exact l1, fun h e => by cases e; omega⟩
    exact ((c.new n5).new n6).new nL
  · have c : Sor K (upd (upd (upd (upd (upd H p1 (.tup [.str "maybe", .ref A])) p2 (.tup [.str "row", .int 2, .ref A])) p3 (.tup [.str "choice", .str "c"])) p4 (.tup [.str "number", .int low, .int 5])) p5 (.tup [.str "truth"])) zs (.ref p5) := ⟨.truth, ⟨p5, rfl, SqT.of upd_same⟩, trivial, trivial⟩
    exact (c.new n6).new nL
  · have c : Sor K (upd (upd (upd (upd (upd (upd H p1 (.tup [.str "maybe", .ref A])) p2 (.tup [.str "row", .int 2, .ref A])) p3 (.tup [.str "choice", .str "c"])) p4 (.tup [.str "number", .int low, .int 5])) p5 (.tup [.str "truth"])) p6 (.tup [.str "text", .int 3])) zs (.ref p6) := ⟨.text 3, ⟨p6, rfl, SqT.of upd_same⟩, ⟨by decide, by decide⟩, show (1 : Int) ≤ 3 by decide⟩
    exact c.new nL
theorem sort_c1 {u0 u1 u2 u3 u4 : Option V} (q : ∀ H' L xs, Kp [] H H' → H' L = some (.lst xs) → xs.length = 3 → (∀ x ∈ xs, Sor K H' zs x) → Q (.ref L) H') : c_law_sort_1 K [u0, u1, u2, u3, u4] H Q := by
  unfold c_law_sort_1
  walk_at "go"
  rename_i p1 n1 p2 n2 p3 n3 p4 n4 p5 n5 L nL
  have k1 := (Kp.refl (M := []) (H := H)).upd_new' (o := .tup [.str "text", .int 1]) n1
  have s1 : SrtV K (upd H p1 (.tup [.str "text", .int 1])) (.text 1) (.ref p1) := ⟨p1, rfl, SqT.of upd_same⟩
  have k2 := (Kp.refl (M := []) (H := upd H p1 (.tup [.str "text", .int 1]))).upd_new' (o := .tup [.str "row", .int 0, .ref p1]) n2
  have a2 : Sor K (upd (upd H p1 (.tup [.str "text", .int 1])) p2 (.tup [.str "row", .int 0, .ref p1])) zs (.ref p2) := ⟨.row 0 (.text 1), ⟨p2, _, rfl, SqT.of upd_same, s1.kpT k2 fun b m => absurd m List.not_mem_nil⟩, ⟨by decide, by decide, by decide, by decide⟩, trivial⟩
  have k6 : Kp [] H (upd (upd (upd (upd (upd (upd H p1 (.tup [.str "text", .int 1])) p2 (.tup [.str "row", .int 0, .ref p1])) p3 (.tup [.str "choice", .str "c"])) p4 (.tup [.str "maybe", .ref p3])) p5 (.tup [.str "number", .non, .non])) L (.lst [.ref p2, .ref p4, .ref p5])) := ((((k1.trans k2).upd_new' n3).upd_new' n4).upd_new' n5).upd_new' nL
  refine q _ L _ k6 upd_same rfl fun x m => ?_
  simp only [List.mem_cons, List.not_mem_nil, or_false] at m
  rcases m with rfl | rfl | rfl
  · exact (((a2.new n3).new n4).new n5).new nL
  · have s3 : SrtV K (upd (upd (upd H p1 (.tup [.str "text", .int 1])) p2 (.tup [.str "row", .int 0, .ref p1])) p3 (.tup [.str "choice", .str "c"])) (.pick "c") (.ref p3) := ⟨p3, rfl, SqT.of upd_same⟩
    have c : Sor K (upd (upd (upd (upd H p1 (.tup [.str "text", .int 1])) p2 (.tup [.str "row", .int 0, .ref p1])) p3 (.tup [.str "choice", .str "c"])) p4 (.tup [.str "maybe", .ref p3])) zs (.ref p4) := ⟨.maybe (.pick "c"), ⟨p4, _, rfl, SqT.of upd_same, s3.kpT (Kp.refl.upd_new' n4) fun b m => absurd m List.not_mem_nil⟩, ⟨rfl, fun s e => by cases e⟩, trivial⟩
    exact (c.new n5).new nL
  · have c : Sor K (upd (upd (upd (upd (upd H p1 (.tup [.str "text", .int 1])) p2 (.tup [.str "row", .int 0, .ref p1])) p3 (.tup [.str "choice", .str "c"])) p4 (.tup [.str "maybe", .ref p3])) p5 (.tup [.str "number", .non, .non])) zs (.ref p5) := ⟨.num none none, ⟨p5, rfl, SqT.of upd_same⟩, ⟨(fun l h e1 e2 => nomatch e1), (fun l e => nomatch e), fun h e => nomatch e⟩, (fun l e => nomatch e), fun h e => nomatch e⟩
    exact c.new nL
end
theorem p_law_sort (K : PySem.W.Frag) (vs : List V) (H : Hp) (Q : VK) (E : XK) (h : sp_law_sort K vs H Q E) : t_law_sort K { nx := fun _ H' => Q .non H', rt := Q } (start ["_law_well", "_law_kinds", "_law_kind", "_law_low", "_law_some"] vs) H := by
  unfold sp_law_sort at h
  obtain ⟨S, k, zs, rfl, w, hk, kn, q⟩ := h
  have sc0 : SW H S H := ⟨Kp.refl, w⟩
  have kS := kinds_ne w hk kn.1
  unfold t_law_sort
  walk_at "go"
  have l0 : (0 : Int) < (zs.map V.str).length := by
    have := List.length_pos_iff.mpr kn.1
    rw [List.length_map]
    omega
  have l1 : ((zs.map V.str).length : Int) < 18446744073709551616 := by
    have := kn.2.1
    rw [List.length_map]
    omega
  refine draw_go sc0 l0 (log_small l0 l1) fun H1 r1 sc1 k1 h0 h1 => ?_
  have hk1 := k1 _ _ (nm_cons kS List.not_mem_nil) hk
  walk_at "go"
  refine ixP_go (fun x => ∃ z, z ∈ zs ∧ x = .str z) hk1 h0 h1 (fun x m => ?_) fun x hx => ?_
  · obtain ⟨z, hz, rfl⟩ := List.mem_map.mp m
    exact ⟨z, hz, rfl⟩
  · obtain ⟨z, hz, rfl⟩ := hx
    clear l0 l1
    walk_at "go"
    rename_i A nA H2 r2 sc2 k2 c0 c1
    have hA : SqT K H2 A [.str "node", .str z] := (sc1.new nA).sqT' k2 (SqT.of upd_same)
    refine sort_c0 hA hz (by omega) (by omega) fun H3 L xs k3 hL el hs => ?_
    have sc3 := sc2.kp k3
    have a3 : Sor K H3 zs (.ref A) := (sor_node hA hz).kp k3
    walk_at "go"
    refine sort_c1 (zs := zs) fun H4 L2 ys k4 hL2 el2 hs2 => ?_
    have hL4 := k4 _ _ List.not_mem_nil hL
    have sc4 := sc3.kp k4
    walk_at "go"
    rename_i L3 nL3 H5 r5 sc5 k5 d0 d1
    have hL5 : H5 L3 = some (.lst (xs ++ ys)) := k5 _ _ (sc4.nm nL3) upd_same
    refine ixP_go (fun x => Sor K H5 zs x) hL5 d0 (by rw [List.length_append, el, el2]; exact d1) (fun x m => ?_) fun x hx => ?_
    · have kq := (Kp.refl (M := []) (H := H4)).upd_new' (o := .lst (xs ++ ys)) nL3
      refine Sor.wl (Sor.kp ?_ kq) (sc4.2.kp kq List.not_mem_nil) k5
      rcases List.mem_append.mp m with m | m
      · exact (hs x m).kp k4
      · exact hs2 x m
    · obtain ⟨s, h1, h2⟩ := hx
      exact q _ _ _ sc5.1 sc5.2 h1 h2
theorem putK_new' {κ : Type} [DecidableEq κ] {acc : List (κ × V)} {k : κ} (v : V) (h : k ∉ acc.map (·.1)) : putK acc k v = acc ++ [(k, v)] := by
  unfold putK
  rw [if_neg]
  intro e
  obtain ⟨kv, m, e⟩ := List.any_eq_true.mp e
  exact h (List.mem_map.mpr ⟨kv, m, of_decide_eq_true e⟩)
theorem mergeK_nd : ∀ (kvs acc : List (L2.Key × V)), ((acc ++ kvs).map (·.1)).Nodup → mergeK acc kvs = acc ++ kvs
  | [], acc, _ => by simp [mergeK]
  | (k, v) :: r, acc, h => by
    have h1 : k ∉ acc.map (·.1) := by
      rw [List.map_append, List.nodup_append] at h
      intro m
      exact h.2.2 k m k (by simp) rfl
    show mergeK (putK acc k v) r = _
    rw [putK_new' v h1, mergeK_nd r _ (by simpa using h), List.append_assoc]
    rfl
def lefts (t0 : Addr) : List (L2.Key × V) := [(.inr "truth", .bl true), (.inr "text", .str "a"), (.inr "row", .ref t0), (.inr "maybe", .non), (.inr "number", .int 5)]
theorem lefts_nd (t0 : Addr) : ((lefts t0).map (·.1)).Nodup := by
  show ([.inr "truth", .inr "text", .inr "row", .inr "maybe", .inr "number"] : List L2.Key).Nodup
  decide +kernel
def leftV (t0 : Addr) : Srt → Option V
  | .num _ _ => some (.int 5)
  | .truth => some (.bl true)
  | .text _ => some (.str "a")
  | .row _ _ => some (.ref t0)
  | .maybe _ => some .non
  | _ => none
theorem lefts_at (t0 : Addr) (s : Srt) : valV (lefts t0) (.inr (wrd s)) = leftV t0 s := by
  have nn : ∀ {a b : Str} {v : V}, ¬ a = b → ¬ ((Sum.inr a, v) : L2.Key × V).1 = Sum.inr b := fun h e => h (Sum.inr.inj e)
  cases s
  · show valV (lefts t0) (.inr "number") = _
    exact (valV_neg (nn (by decide +kernel))).trans ((valV_neg (nn (by decide +kernel))).trans ((valV_neg (nn (by decide +kernel))).trans ((valV_neg (nn (by decide +kernel))).trans (valV_pos rfl))))
  · show valV (lefts t0) (.inr "truth") = _
    exact valV_pos rfl
  · show valV (lefts t0) (.inr "text") = _
    exact (valV_neg (nn (by decide +kernel))).trans (valV_pos rfl)
  · show valV (lefts t0) (.inr "row") = _
    exact (valV_neg (nn (by decide +kernel))).trans ((valV_neg (nn (by decide +kernel))).trans (valV_pos rfl))
  · show valV (lefts t0) (.inr "maybe") = _
    exact (valV_neg (nn (by decide +kernel))).trans ((valV_neg (nn (by decide +kernel))).trans ((valV_neg (nn (by decide +kernel))).trans (valV_pos rfl)))
  · show valV (lefts t0) (.inr "node") = _
    exact (valV_neg (nn (by decide +kernel))).trans ((valV_neg (nn (by decide +kernel))).trans ((valV_neg (nn (by decide +kernel))).trans ((valV_neg (nn (by decide +kernel))).trans ((valV_neg (nn (by decide +kernel))).trans (rfl)))))
  · show valV (lefts t0) (.inr "choice") = _
    exact (valV_neg (nn (by decide +kernel))).trans ((valV_neg (nn (by decide +kernel))).trans ((valV_neg (nn (by decide +kernel))).trans ((valV_neg (nn (by decide +kernel))).trans ((valV_neg (nn (by decide +kernel))).trans (rfl)))))
theorem left_df {K : PySem.W.Frag} {H : Hp} {t0 : Addr} {zs : List Str} (ht : SqT K H t0 []) : ∀ {s : Srt} {v : V}, So zs s → leftV t0 s = some v → DfOk K H s v ∧ Sh 2 (dD v) ∧ V5 (dD v)
  | .num lo hi, _, g, e => by cases e; exact ⟨⟨5, rfl, g.2.1, g.2.2, by unfold GREAT; omega, by unfold GREAT; omega⟩, sh_int, .inr (.inr (.inr (.inr rfl)))⟩
  | .truth, _, g, e => by cases e; exact ⟨⟨true, rfl⟩, sh_bl, .inl rfl⟩
  | .text n, _, g, e => by
    cases e
    have h1 : (1 : Int) ≤ n := g.2
    exact ⟨⟨"a", rfl, h1, by decide +kernel, by decide +kernel⟩, sh_ascii (by decide +kernel), .inr (.inl rfl)⟩
  | .row _ _, _, g, e => by cases e; exact ⟨⟨t0, rfl, ht⟩, (sh_tup (n := 1) (ds := []) fun d h => nomatch h), .inr (.inr (.inl rfl))⟩
  | .maybe _, _, g, e => by cases e; exact ⟨rfl, sh_non, .inr (.inr (.inr (.inl rfl)))⟩
  | .node _, _, g, e => nomatch e
  | .pick _, _, g, e => nomatch e
theorem p_law_left (K : PySem.W.Frag) (vs : List V) (H : Hp) (Q : VK) (E : XK) (h : sp_law_left K vs H Q E) : t_law_left K { nx := fun _ H' => Q .non H', rt := Q } (start ["_law_sort_here", "_law_some"] vs) H := by
  unfold sp_law_left at h
  obtain ⟨x, s, zs, rfl, hx, so, q⟩ := h
  have hd := word_dp (dp_srt hx)
  unfold t_law_left
  walk_at "go"
  rename_i D nD t0 nt0
  have hD : (upd (upd H D (.dK [])) t0 (.tup [])) D = some (.dK []) := (upd_ne (ne_of_none upd_same nt0)).trans upd_same
  have nDt : t0 ≠ D := (ne_of_none (show (upd H D (.dK [])) D = some (.dK []) from upd_same) nt0).symm
  refine And.intro hD ⟨lefts t0, rfl, by show 5 ≤ 15; decide, ?_⟩
  rw [mergeK_nd (lefts t0) [] (lefts_nd t0), List.nil_append]
  have k5 : Kp [] H (upd (upd (upd H D (.dK [])) t0 (.tup [])) D (.dK (lefts t0))) := ((Kp.refl.upd_new' nD).upd_new' nt0).upd_new nD
  have ht : SqT K (upd (upd (upd H D (.dK [])) t0 (.tup [])) D (.dK (lefts t0))) t0 [] := SqT.of ((upd_ne nDt).trans upd_same)
  have hD5 : (upd (upd (upd H D (.dK [])) t0 (.tup [])) D (.dK (lefts t0))) D = some (.dK (lefts t0)) := upd_same
  generalize upd (upd (upd H D (.dK [])) t0 (.tup [])) D (.dK (lefts t0)) = H5 at k5 ht hD5 ⊢
  have hd5 := dp_kp0 k5 hd
  walk_at "go"
  refine ⟨D, _, rfl, DGet.k (k := .inr (wrd s)) hD5, ?_⟩
  rw [lefts_at]
  cases e : leftV t0 s with
  | none =>
    walk_at "go"
    rename_i p np
    exact q _ p [] (k5.upd_new' np) (SqT.of upd_same) (.inl rfl)
  | some v =>
    obtain ⟨df, sh⟩ := left_df ht so e
    walk_at "go"
    refine ⟨D, v, rfl, ?_, ?_⟩
    · have := DGet.k (k := .inr (wrd s)) hD5
      rw [lefts_at, e] at this
      exact this
    · walk_at "go"
      rename_i p np
      have kp := (Kp.refl (M := []) (H := H5)).upd_new' (o := .tup [v]) np
      exact q _ p [v] (k5.trans kp) (SqT.of upd_same) (.inr ⟨v, rfl, df.kp0 kp, sh⟩)
end K02

-- imports: QS1 QS2 QS3 QM1 QM2 QM3 QL1
/-! ## k34: a field put into its kind's row -/
set_option maxHeartbeats 4000000
set_option maxRecDepth 4000
namespace K02
open PySem PySem.Spec PyProof.Rows L2 Kb
section
variable {K : PySem.W.Frag} {H H' : Hp} {Q : VK} {E : XK} {M : List Addr}
theorem DfOk.kpT (k : Kp M H H') (l : ∀ b ∈ M, NoT H b) : ∀ {s : Srt} {v : V}, DfOk K H s v → DfOk K H' s v
  | .num _ _, _, h => h
  | .truth, _, h => h
  | .text _, _, h => h
  | .row _ _, _, ⟨a, e, h⟩ => ⟨a, e, sqT_kpT k l h⟩
  | .maybe _, _, h => h
  | .node _, _, h => h
  | .pick _, _, h => h
theorem FldV.kpT {f : Fld} {x : V} (k : Kp M H H') (l : ∀ b ∈ M, NoT H b) (h : FldV K H f x) : FldV K H' f x := by
  obtain ⟨a, e, g⟩ := h.at_
  exact ⟨⟨a, e, sqT_kpT k l g⟩, h.srt.kpT k l, fun v e => (h.dfl v e).kpT k l⟩
theorem CseV.kpT {f : Cse} {x : V} (k : Kp M H H') (l : ∀ b ∈ M, NoT H b) (h : CseV K H f x) : CseV K H' f x := by
  obtain ⟨a, e, g⟩ := h.at_
  exact ⟨⟨a, e, sqT_kpT k l g⟩, fun s e => (h.srt s e).kpT k l, h.non⟩
theorem pairedM {α β : Type} {R R' : α → β → Prop} (h : ∀ a b, R a b → R' a b) : ∀ {as : List α} {bs : List β}, Paired R as bs → Paired R' as bs
  | _, _, .nil => .nil
  | _, _, .cons a t => .cons (h _ _ a) (pairedM h t)
theorem pairedL {α β : Type} {R : α → β → Prop} : ∀ {as : List α} {bs : List β}, Paired R as bs → as.length = bs.length
  | _, _, .nil => rfl
  | _, _, .cons _ t => by rw [List.length_cons, List.length_cons, pairedL t]
theorem pairedA {α β : Type} {R : α → β → Prop} {cs : List α} {ds : List β} (g : Paired R cs ds) : ∀ {as : List α} {bs : List β}, Paired R as bs → Paired R (as ++ cs) (bs ++ ds)
  | _, _, .nil => g
  | _, _, .cons a t => .cons a (pairedA g t)
theorem RowG.kpT {zs : List Str} {nm : Int → Str} {fls : List Fld} {xs : List V} (k : Kp M H H') (l : ∀ b ∈ M, NoT H b) (h : RowG K H zs nm fls xs) : RowG K H' zs nm fls xs := ⟨pairedM (fun _ _ g => g.kpT k l) h.at_, h.ok, h.nd⟩
theorem RowG.app {zs : List Str} {nm : Int → Str} {fls : List Fld} {xs : List V} {f : Fld} {x : V} (h : RowG K H zs nm fls xs) (g : FldV K H f x) (o : 1 ≤ f.num ∧ f.num ≤ 5 ∧ f.name = nm f.num ∧ So zs f.s ∧ ∀ v, f.dfl = some v → Sh 2 (dD v) ∧ V5 (dD v)) (n : ∀ e ∈ fls, e.num ≠ f.num) : RowG K H zs nm (fls ++ [f]) (xs ++ [x]) := by
  refine ⟨pairedA (.cons g .nil) h.at_, fun e he => ?_, ?_⟩
  · rcases List.mem_append.mp he with he | he
    · exact h.ok e he
    · rw [List.mem_singleton.mp he]
      exact o
  · rw [List.map_append, List.nodup_append]
    refine ⟨h.nd, by simp, fun a ha b hb e => ?_⟩
    obtain ⟨d, hd, rfl⟩ := List.mem_map.mp ha
    exact n d hd (by simpa [e] using hb)
end
theorem letter5 {k : Int} (h0 : 0 ≤ k) (h1 : k ≤ 4) : ∃ c, atI ("abcde" : Str).cps.toList k = some c ∧ (⟨#[c]⟩ : Str) = lt5 (k + 1) := by
  have : k = 0 ∨ k = 1 ∨ k = 2 ∨ k = 3 ∨ k = 4 := by omega
  rcases this with rfl | rfl | rfl | rfl | rfl
  · exact ⟨97, by decide +kernel, by decide +kernel⟩
  · exact ⟨98, by decide +kernel, by decide +kernel⟩
  · exact ⟨99, by decide +kernel, by decide +kernel⟩
  · exact ⟨100, by decide +kernel, by decide +kernel⟩
  · exact ⟨101, by decide +kernel, by decide +kernel⟩
section
variable {K : PySem.W.Frag} {H H' : Hp}
theorem rows_b2 {C : Addr} {Pt : Tb} {κ : Ends} {S k D A p : Addr} {st z : Str} {zs : List Str} {kvs : List (L2.Key × V)} {fls : List Fld} {xs : List V} {i : Int} {y : V} {s : Srt} {ds : List V} {u8 u9 : Option V} (w : Wl H S) (hD : H D = some (.dK kvs)) (hz : valV kvs (.inr z) = some (.ref A)) (hA : H A = some (.lst xs)) (nSA : A ≠ S) (g : RowG K H zs (fnm st) fls xs) (h0 : 0 ≤ i) (h1 : i ≤ 4) (less : ∀ f ∈ fls, f.num ≤ i) (lf : fls.length ≤ 5) (hs : SrtV K H s y) (so : So zs s) (sm : Stem st) (hp : SqT K H p ds) (df : Df K H s ds)
    (q : ∀ H' xs' fls', Kp [S, A] H H' → Wl H' S → H' A = some (.lst xs') → RowG K H' zs (fnm st) fls' xs' → (∀ f ∈ fls', f.num ≤ i + 1) → fls'.length = fls.length + 1 → κ.nx [some (.ref S), some (.ref k), some (.str st), some (.ref D), some (.str z), some (.int i), some y, some (.ref p), u8, u9] H') :
    b_law_schema_1 K C Pt κ [some (.ref S), some (.ref k), some (.str st), some (.ref D), some (.str z), some (.int i), some y, some (.ref p), u8, u9] H := by
  have sc0 : SW H S H := ⟨Kp.refl, w⟩
  have lx : xs.length = fls.length := (pairedL g.at_).symm
  have dg : ∀ {G : Hp}, G D = some (.dK kvs) → DGet G D (.str z) (some (.ref A)) := fun h => by
    have := DGet.k (k := .inr z) h
    rw [hz] at this
    exact this
  have nDS : D ≠ S := fun e => by
    obtain ⟨c, d, h⟩ := w
    rw [← e, hD] at h
    cases h
  have nDA : D ≠ A := fun e => by rw [e, hA] at hD; cases hD
  obtain ⟨c, hc, ec⟩ := letter5 h0 h1
  have ls : st.length ≤ 1 := by rcases sm with rfl | rfl <;> decide +kernel
  unfold b_law_schema_1
  walk_at "go"
  refine ⟨D, .ref A, rfl, dg hD, ?_⟩
  walk_at "go"
  refine ixS_go (by decide +kernel) hc ?_
  rw [ec]
  have l5 : (lt5 (i + 1)).length ≤ 1 := by
    rw [← ec]
    exact Nat.le_refl 1
  refine addS_go (by omega) ?_
  walk_at "go"
  rename_i t nt
  have kt := (Kp.refl (M := []) (H := H)).upd_new' (o := .tup [.int (i + 1), .str (st ++ lt5 (i + 1)), y]) nt
  have ld : ds.length ≤ 1 := by
    rcases df with rfl | ⟨v, rfl, _⟩
    · exact Nat.zero_le _
    · exact Nat.le_refl _
  have fin : ∀ {G : Hp} {t' : Addr}, Kp [] H G → SqT K G t' ([.int (i + 1), .str (st ++ lt5 (i + 1)), y] ++ ds) → κ.nx [some (.ref S), some (.ref k), some (.str st), some (.ref D), some (.str z), some (.int i), some y, some (.ref p), u8, u9] (upd G A (.lst (xs ++ [.ref t']))) := fun {G t'} kG ht => by
    have wG := w.kp kG List.not_mem_nil
    have hAG := kG _ _ List.not_mem_nil hA
    have ku : Kp [A] G (upd G A (.lst (xs ++ [.ref t']))) := Kp.refl.upd_in List.mem_cons_self
    have gG := g.kpT kG fun b m => absurd m List.not_mem_nil
    have fv : FldV K G ⟨i + 1, fnm st (i + 1), s, y, ds.head?⟩ (.ref t') := by
      refine ⟨⟨t', rfl, ?_⟩, hs.kpT kG fun b m => absurd m List.not_mem_nil, fun v e => ?_⟩
      · rcases df with rfl | ⟨v, rfl, _⟩ <;> exact ht
      · rcases df with rfl | ⟨v', rfl, a, _⟩
        · cases e
        · cases e
          exact a.kpT kG fun b m => absurd m List.not_mem_nil
    have gi := gG.app (nm := fnm st) fv ⟨by show 1 ≤ i + 1; omega, by show i + 1 ≤ 5; omega, rfl, so, fun v e => by
      rcases df with rfl | ⟨v', rfl, _, b⟩
      · cases e
      · cases e
        exact b⟩ (fun e he => by have := less e he; show e.num ≠ i + 1; omega)
    refine q _ _ (fls ++ [⟨i + 1, fnm st (i + 1), s, y, ds.head?⟩]) ?_ (wG.off nSA) upd_same (gi.kpT ku (mem1 (noT_lst hAG))) (fun e he => ?_) ?_
    · exact (kG.mono fun b m => absurd m List.not_mem_nil).upd_in (List.mem_cons_of_mem _ List.mem_cons_self)
    · rcases List.mem_append.mp he with he | he
      · have := less e he
        omega
      · rw [List.mem_singleton.mp he]
        exact Int.le_refl _
    · rw [List.length_append]
      rfl
  refine addT_go (xs := [.int (i + 1), .str (st ++ lt5 (i + 1)), y]) (ys := ds) (SqT.of upd_same) (kt.sqT List.not_mem_nil hp) (by simp) (by show 3 + ds.length ≤ 16777216; omega) (fun e => ?_) (fun _ t2 n2 => ?_)
  · subst e
    refine app_go (kt _ _ List.not_mem_nil hA) (by omega) ?_
    exact fin kt (SqT.of upd_same)
  · have kt2 := kt.upd_new' (o := .tup ([.int (i + 1), .str (st ++ lt5 (i + 1)), y] ++ ds)) n2
    refine app_go (kt2 _ _ List.not_mem_nil hA) (by omega) ?_
    exact fin kt2 (SqT.of upd_same)
theorem rows_b1 {C : Addr} {Pt : Tb} {κ : Ends} {S k D A : Addr} {st z : Str} {zs : List Str} {kvs : List (L2.Key × V)} {fls : List Fld} {xs : List V} {i : Int} {y : V} {s : Srt} {u7 u8 u9 : Option V} (w : Wl H S) (hD : H D = some (.dK kvs)) (hz : valV kvs (.inr z) = some (.ref A)) (hA : H A = some (.lst xs)) (nSA : A ≠ S) (g : RowG K H zs (fnm st) fls xs) (h0 : 0 ≤ i) (h1 : i ≤ 4) (less : ∀ f ∈ fls, f.num ≤ i) (lf : fls.length ≤ 5) (hs : SrtV K H s y) (so : So zs s) (sm : Stem st)
    (q : ∀ H' xs' fls' u7, Kp [S, A] H H' → Wl H' S → H' A = some (.lst xs') → RowG K H' zs (fnm st) fls' xs' → (∀ f ∈ fls', f.num ≤ i + 1) → fls'.length = fls.length + 1 → κ.nx [some (.ref S), some (.ref k), some (.str st), some (.ref D), some (.str z), some (.int i), some y, u7, u8, u9] H') :
    b_law_schema_0 K C Pt κ [some (.ref S), some (.ref k), some (.str st), some (.ref D), some (.str z), some (.int i), some y, u7, u8, u9] H := by
  have sc0 : SW H S H := ⟨Kp.refl, w⟩
  have nDS : D ≠ S := fun e => by
    obtain ⟨c, d, h⟩ := w
    rw [← e, hD] at h
    cases h
  have go : ∀ {G : Hp} {p : Addr} {ds : List V}, Kp [S] H G → Wl G S → SqT K G p ds → Df K G s ds → b_law_schema_1 K C Pt κ [some (.ref S), some (.ref k), some (.str st), some (.ref D), some (.str z), some (.int i), some y, some (.ref p), u8, u9] G := fun {G p ds} kG wG hp df =>
    rows_b2 wG (kG _ _ (nm_cons nDS List.not_mem_nil) hD) hz (kG _ _ (nm_cons nSA List.not_mem_nil) hA) nSA (g.kpT kG w.noT) h0 h1 less lf (hs.wl w kG) so sm hp df fun H' xs' fls' k' => q H' xs' fls' _ ((kG.mono fun b m => by rw [List.mem_singleton.mp m]; exact List.mem_cons_self).trans k')
  unfold b_law_schema_0
  walk_at "go"
  · rename_i H1 r1 sc1 k1 c0 c1 e1
    refine lleft_go (hs.wl w k1) so fun H2 p ds k2 hp df => ?_
    walk_at "go"
    exact go (k1.trans (k2.mono fun b m => absurd m List.not_mem_nil)) (sc1.2.kp k2 List.not_mem_nil) hp df
  · rename_i H1 r1 sc1 k1 c0 c1 e1 p np
    exact go (k1.upd_new' np) (sc1.2.new np) (SqT.of upd_same) (.inl rfl)
end
end K02

-- imports: QS1 QS2 QS3 QM1 QM2 QM3 QM4 QL1 QL2
/-! ## k34: cases of the choice -/
set_option maxHeartbeats 4000000
set_option maxRecDepth 4000
namespace K02
open PySem PySem.Spec PyProof.Rows L2 Kb
section
variable {K : PySem.W.Frag} {H H' : Hp} {Q : VK} {E : XK} {M : List Addr}
theorem CasG.kpT {zs : List Str} {cn : Int → Str} {cs : List Cse} {xs : List V} (k : Kp M H H') (l : ∀ b ∈ M, NoT H b) (h : CasG K H zs cn cs xs) : CasG K H' zs cn cs xs := ⟨pairedM (fun _ _ g => g.kpT k l) h.at_, h.ok, h.nd, h.low, h.one, h.le⟩
theorem CasG.app {zs : List Str} {cn : Int → Str} {cs : List Cse} {xs : List V} {c : Cse} {x : V} (h : CasG K H zs cn cs xs) (g : CseV K H c x) (o : 2 ≤ c.num ∧ c.num ≤ 4 ∧ c.name = cn c.num ∧ ∀ s, c.s = some s → So zs s ∧ ∀ z, s ≠ .pick z) (n : ∀ d ∈ cs, d.num < c.num) (l : cs.length ≤ 3) : CasG K H zs cn (cs ++ [c]) (xs ++ [x]) := by
  refine ⟨pairedA (.cons g .nil) h.at_, fun d hd => ?_, ?_, ?_, fun d hd e he hd1 he1 => ?_, by rw [List.length_append]; exact Nat.succ_le_succ l⟩
  · rcases List.mem_append.mp hd with hd | hd
    · exact h.ok d hd
    · rw [List.mem_singleton.mp hd]
      exact ⟨by omega, o.2.1, o.2.2.1, fun s e => ⟨o.1, (o.2.2.2 s e).1, (o.2.2.2 s e).2⟩⟩
  · rw [List.map_append, List.nodup_append]
    refine ⟨h.nd, by simp, fun a ha b hb => ?_⟩
    obtain ⟨d, hd, rfl⟩ := List.mem_map.mp ha
    have e : b = c.num := by simpa using hb
    have := n d hd
    omega
  · obtain ⟨d, hd, e⟩ := h.low
    exact ⟨d, List.mem_append_left _ hd, e⟩
  · rcases List.mem_append.mp hd with hd | hd <;> rcases List.mem_append.mp he with he | he
    · exact h.one d hd e he hd1 he1
    · rw [List.mem_singleton.mp he] at he1
      omega
    · rw [List.mem_singleton.mp hd] at hd1
      omega
    · rw [List.mem_singleton.mp hd, List.mem_singleton.mp he]
end
theorem word3 {i : Int} (h0 : 0 ≤ i) (h1 : i ≤ 2) : atI [V.str "two", V.str "more", V.str "last"] i = some (.str (wd (2 + i))) := by
  have : i = 0 ∨ i = 1 ∨ i = 2 := by omega
  rcases this with rfl | rfl | rfl <;> rfl
theorem wd_len (i : Int) : (wd i).length ≤ 4 := by
  unfold wd
  split
  · decide +kernel
  · split <;> decide +kernel
section
variable {K : PySem.W.Frag} {H H' : Hp}
theorem rows_b3 {C : Addr} {Pt : Tb} {κ : Ends} {S L : Addr} {st : Str} {zs : List Str} {cs : List Cse} {xs : List V} {i : Int} {y : V} {s : Srt} {u1 u3 u4 u7 u9 : Option V} (w : Wl H S) (hL : H L = some (.lst xs)) (nLS : L ≠ S) (g : CasG K H zs (cnm st) cs xs) (h0 : 0 ≤ i) (h1 : i ≤ 2) (less : ∀ c ∈ cs, c.num < 2 + i) (lf : cs.length ≤ 3) (hs : SrtV K H s y) (so : So zs s) (sm : Stem st)
    (q : ∀ H' xs' cs' u9, Kp [S, L] H H' → Wl H' S → H' L = some (.lst xs') → CasG K H' zs (cnm st) cs' xs' → (∀ c ∈ cs', c.num < 2 + (i + 1)) → cs'.length = cs.length + 1 → κ.nx [some (.ref S), u1, some (.str st), u3, u4, some (.int i), some y, u7, some (.ref L), u9] H') :
    b_law_schema_3 K C Pt κ [some (.ref S), u1, some (.str st), u3, u4, some (.int i), some y, u7, some (.ref L), u9] H := by
  have sc0 : SW H S H := ⟨Kp.refl, w⟩
  have ls : st.length ≤ 1 := by rcases sm with rfl | rfl <;> decide +kernel
  have lw := wd_len (2 + i)
  have hd := word_dp (dp_srt hs)
  have ec : cnm st (2 + i) = st ++ wd (2 + i) := by
    unfold cnm
    rw [if_neg (by omega)]
  have lx : xs.length = cs.length := (pairedL g.at_).symm
  have fin : ∀ {G : Hp} {t : Addr} {v : V} {o : Option Srt} {u9 : Option V}, Kp [S] H G → Wl G S → G t = none → (∀ s, o = some s → SrtV K G s v ∧ So zs s ∧ ∀ z, s ≠ .pick z) → (o = none → v = .non) → κ.nx [some (.ref S), u1, some (.str st), u3, u4, some (.int i), some y, u7, some (.ref L), u9] (upd (upd G t (.tup [.int (2 + i), .str (st ++ wd (2 + i)), v])) L (.lst (xs ++ [.ref t]))) := fun {G t v o u9} kG wG nt so no => by
    have kt := (Kp.refl (M := []) (H := G)).upd_new' (o := .tup [.int (2 + i), .str (st ++ wd (2 + i)), v]) nt
    have hLt := kt _ _ List.not_mem_nil (kG _ _ (nm_cons nLS List.not_mem_nil) hL)
    have gt := (g.kpT kG w.noT).kpT kt fun b m => absurd m List.not_mem_nil
    have cv : CseV K (upd G t (.tup [.int (2 + i), .str (st ++ wd (2 + i)), v])) ⟨2 + i, cnm st (2 + i), o, v⟩ (.ref t) := by
      refine ⟨⟨t, rfl, ?_⟩, fun s e => (so s e).1.kpT kt fun b m => absurd m List.not_mem_nil, no⟩
      rw [ec]
      exact SqT.of upd_same
    have ga := gt.app cv ⟨by show 2 ≤ 2 + i; omega, by show 2 + i ≤ 4; omega, rfl, fun s e => (so s e).2⟩ less lf
    refine q _ _ (cs ++ [⟨2 + i, cnm st (2 + i), o, v⟩]) u9 ?_ ((wG.kp kt List.not_mem_nil).off nLS) upd_same (ga.kpT (M := [L]) (Kp.refl.upd_in List.mem_cons_self) (mem1 (noT_lst hLt))) (fun c hc => ?_) (by rw [List.length_append]; rfl)
    · exact ((kG.mono fun b m => by rw [List.mem_singleton.mp m]; exact List.mem_cons_self).trans (kt.mono fun b m => absurd m List.not_mem_nil)).upd_in (List.mem_cons_of_mem _ List.mem_cons_self)
    · rcases List.mem_append.mp hc with hc | hc
      · have := less c hc
        omega
      · rw [List.mem_singleton.mp hc]
        show 2 + i < 2 + (i + 1)
        omega
  unfold b_law_schema_3
  walk_at "go"
  · rename_i hc p np
    refine ixL_go (SqL.of upd_same) (word3 h0 h1) ?_
    refine addS_go (by omega) ?_
    have hL' : (upd H p (.lst [.str "two", .str "more", .str "last"])) L = some (.lst xs) := (upd_ne (ne_of_none hL np)).trans hL
    have lx3 : xs.length ≤ 3 := by omega
    walk_at "go"
    rename_i t nt
    exact fin (o := none) (Kp.refl.upd_new' np) (w.new np) nt (fun s e => nomatch e) fun _ => rfl
  · rename_i hn H1 r1 sc1 k1 c0 c1 p np
    refine ixL_go (SqL.of upd_same) (word3 h0 h1) ?_
    refine addS_go (by omega) ?_
    have hL1 := k1 _ _ (nm_cons nLS List.not_mem_nil) hL
    have hL' : (upd H1 p (.lst [.str "two", .str "more", .str "last"])) L = some (.lst xs) := (upd_ne (ne_of_none hL1 np)).trans hL1
    have lx3 : xs.length ≤ 3 := by omega
    by_cases e0 : r1 = 0
    · rw [decide_eq_true e0]
      walk_at "go"
      rename_i t nt
      exact fin (o := none) (k1.upd_new' np) (sc1.2.new np) nt (fun s e => nomatch e) fun _ => rfl
    · rw [decide_eq_false e0]
      walk_at "go"
      rename_i t nt
      refine fin (o := some s) (k1.upd_new' np) (sc1.2.new np) nt (fun s' e => ?_) fun e => nomatch e
      cases e
      refine ⟨(hs.wl w k1).kpT (Kp.refl.upd_new' np) fun b m => absurd m List.not_mem_nil, so, fun z e => ?_⟩
      subst e
      exact hn rfl
theorem Rows.kpM {M : List Addr} {zs ws : List Str} {nm : Int → Str} : ∀ {rs : List KRow}, Kp M H H' → (∀ b ∈ M, NoT H b) → (∀ r ∈ rs, r.adr ∉ M) → Rows K H zs nm ws rs → Rows K H' zs nm ws rs := by
  intro rs k l n h
  unfold Rows at h ⊢
  induction h with
  | nil => exact .nil
  | cons g t ih => exact .cons ⟨g.1, k _ _ (n _ List.mem_cons_self) g.2.1, g.2.2.kpT k l⟩ (ih fun r hr => n r (List.mem_cons_of_mem _ hr))
theorem Rows.mem {zs ws : List Str} {nm : Int → Str} {rs : List KRow} (h : Rows K H zs nm ws rs) : ∀ r ∈ rs, H r.adr = some (.lst r.xs) ∧ RowG K H zs nm r.fls r.xs ∧ r.name ∈ ws := by
  unfold Rows at h
  induction h with
  | nil => exact fun r hr => nomatch hr
  | cons g t ih =>
    intro r hr
    rcases List.mem_cons.mp hr with rfl | hr
    · exact ⟨g.2.1, g.2.2, by rw [g.1]; exact List.mem_cons_self⟩
    · obtain ⟨a, b, c⟩ := ih r hr
      exact ⟨a, b, List.mem_cons_of_mem _ c⟩
theorem row_ne {S : Addr} {zs : List Str} {nm : Int → Str} {fls : List Fld} {xs : List V} {a : Addr} (w : Wl H S) (h : H a = some (.lst xs)) (g : RowG K H zs nm fls xs) : a ≠ S := fun e => by
  obtain ⟨c, d, hS⟩ := w
  rw [← e, h] at hS
  cases hS
  have := g.at_
  cases this with
  | cons g1 _ =>
    obtain ⟨b, e, _⟩ := g1.at_
    cases e
theorem Rows.app {zs ws : List Str} {nm : Int → Str} {rs : List KRow} {z : Str} {r : KRow} (h : Rows K H zs nm ws rs) (e : r.name = z) (hr : H r.adr = some (.lst r.xs)) (g : RowG K H zs nm r.fls r.xs) : Rows K H zs nm (ws ++ [z]) (rs ++ [r]) := by
  unfold Rows at h ⊢
  exact pairedA (.cons ⟨e, hr, g⟩ .nil) h
theorem Rows.len {zs ws : List Str} {nm : Int → Str} {rs : List KRow} (h : Rows K H zs nm ws rs) : rs.length = ws.length := by
  unfold Rows at h
  exact (pairedL h).symm
theorem Rows.names {zs ws : List Str} {nm : Int → Str} {rs : List KRow} (h : Rows K H zs nm ws rs) : rs.map (·.name) = ws := by
  unfold Rows at h
  induction h with
  | nil => rfl
  | cons g t ih => rw [List.map_cons, g.1, ih]
theorem kv_none {rs : List KRow} {z : Str} (h : z ∉ rs.map (·.name)) : (Sum.inr z : L2.Key) ∉ (rs.map KRow.kv).map (·.1) := fun m => by
  obtain ⟨kv, hk, e⟩ := List.mem_map.mp m
  obtain ⟨r, hr, rfl⟩ := List.mem_map.mp hk
  exact h (List.mem_map.mpr ⟨r, hr, Sum.inr.inj e⟩)
theorem kv_last {rs : List KRow} {z : Str} {A : Addr} (h : z ∉ rs.map (·.name)) : valV (rs.map KRow.kv ++ [(.inr z, .ref A)]) (.inr z) = some (.ref A) := by
  induction rs with
  | nil => exact valV_pos rfl
  | cons r rs ih =>
    rw [List.map_cons, List.mem_cons, not_or] at h
    rw [List.map_cons, List.cons_append]
    exact (valV_neg fun e => h.1 (Sum.inr.inj e).symm).trans (ih h.2)
end
end K02

-- imports: QS1 QS2 QS3 QS4 QS5 QS6 QM1 QM2 QM3 QM4 QM5 QM6 QM7 QM8 QM9 QM10 QM11 QM12 QM13 QL1 QL2 QL3
/-! ## k34: drawn rows make a schema -/
set_option maxHeartbeats 4000000
set_option maxRecDepth 4000
namespace K02
open PySem PySem.Spec PyProof.Rows L2 Kb
open LamX (TabS)
theorem subL {α : Type} [DecidableEq α] {U acc : List α} (nd : acc.Nodup) (sub : ∀ q ∈ acc, q ∈ U) : acc.length ≤ U.length := by
  induction acc generalizing U with
  | nil => exact Nat.zero_le _
  | cons p acc ih =>
    rw [List.nodup_cons] at nd
    have hp := sub p List.mem_cons_self
    have := ih nd.2 (U := U.erase p) fun q hq => (List.mem_erase_of_ne fun e => nd.1 (by rw [← e]; exact hq)).mpr (sub q (List.mem_cons_of_mem _ hq))
    rw [List.length_erase_of_mem hp] at this
    have : 0 < U.length := List.length_pos_of_mem hp
    show acc.length + 1 ≤ U.length
    omega
theorem nums5 {fls : List Fld} (h : ∀ f ∈ fls, 1 ≤ f.num ∧ f.num ≤ 5) (nd : (fls.map (·.num)).Nodup) : fls.length ≤ 5 := by
  have s : ∀ n ∈ fls.map (·.num), n ∈ ([1, 2, 3, 4, 5] : List Int) := fun n m => by
    obtain ⟨f, hf, rfl⟩ := List.mem_map.mp m
    have := h f hf
    simp only [List.mem_cons, List.not_mem_nil, or_false]
    omega
  have := subL nd s
  rwa [List.length_map] at this
theorem kv_mem {rs : List KRow} {r : KRow} (nd : (rs.map (·.name)).Nodup) (h : r ∈ rs) : valV (rs.map KRow.kv) (.inr r.name) = some (.ref r.adr) := by
  induction rs with
  | nil => cases h
  | cons x rs ih =>
    rw [List.map_cons, List.nodup_cons] at nd
    rcases List.mem_cons.mp h with rfl | h
    · exact valV_pos rfl
    · exact (valV_neg fun e => nd.1 (List.mem_map.mpr ⟨r, h, (Sum.inr.inj e).symm⟩)).trans (ih nd.2 h)
/-- names by numbers: well, and apart -/
structure Nam (nm : Int → Str) : Prop where
  ok : ∀ i, 1 ≤ i → i ≤ 5 → NameOk (nm i)
  inj : ∀ i j, 1 ≤ i → i ≤ 5 → 1 ≤ j → j ≤ 5 → nm i = nm j → i = j
theorem five {P : Int → Prop} (h1 : P 1) (h2 : P 2) (h3 : P 3) (h4 : P 4) (h5 : P 5) : ∀ i, 1 ≤ i → i ≤ 5 → P i := fun i a b => by
  have : i = 1 ∨ i = 2 ∨ i = 3 ∨ i = 4 ∨ i = 5 := by omega
  rcases this with rfl | rfl | rfl | rfl | rfl <;> assumption
theorem nam_fin {nm : Int → Str} (h : ∀ i ∈ [(1 : Int), 2, 3, 4, 5], NameOk (nm i)) (g : ∀ i ∈ [(1 : Int), 2, 3, 4, 5], ∀ j ∈ [(1 : Int), 2, 3, 4, 5], nm i = nm j → i = j) : Nam nm := by
  have m : ∀ i : Int, 1 ≤ i → i ≤ 5 → i ∈ [(1 : Int), 2, 3, 4, 5] := fun i a b => by
    simp only [List.mem_cons, List.not_mem_nil, or_false]
    omega
  exact ⟨fun i a b => h i (m i a b), fun i j a b c d => g i (m i a b) j (m j c d)⟩
instance (z : Str) : Decidable (NameOk z) := by unfold NameOk; infer_instance
theorem nam_o : Nam (fnm "o") := nam_fin (by decide +kernel) (by decide +kernel)
theorem nam_n : Nam (fnm "n") := nam_fin (by decide +kernel) (by decide +kernel)
theorem cnm_ok : ∀ st ∈ [("o" : Str), "n"], (∀ i ∈ [(0 : Int), 1, 2, 3, 4], NameOk (cnm st i)) ∧ ∀ i ∈ [(0 : Int), 1, 2, 3, 4], ∀ j ∈ [(0 : Int), 1, 2, 3, 4], cnm st i = cnm st j → i = j ∨ (i ≤ 1 ∧ j ≤ 1) := by decide +kernel
theorem nodup_by {α : Type} {num : α → Int} {name : α → Str} {xs : List α} (nd : (xs.map num).Nodup) (h : ∀ a ∈ xs, ∀ b ∈ xs, name a = name b → num a = num b) : (xs.map name).Nodup := by
  rw [List.nodup_iff_pairwise_ne, List.pairwise_map] at nd ⊢
  exact nd.imp_of_mem fun ha hb ne e => ne (h _ ha _ hb e)
theorem ok_dp {nk ck : Str → Prop} : ∀ {s : Srt} {d : Nat}, s.ok nk ck d → s.dp ≤ d
  | .num _ _, _, _ => Nat.zero_le _
  | .truth, _, _ => Nat.zero_le _
  | .text _, _, _ => Nat.zero_le _
  | .row _ s, 0, h => h.elim
  | .row _ s, _ + 1, h => Nat.succ_le_succ (ok_dp (s := s) h.2.2)
  | .maybe s, 0, h => h.elim
  | .maybe s, _ + 1, h => Nat.succ_le_succ (ok_dp (s := s) h.1)
  | .node k, _, _ => Nat.zero_le _
  | .pick k, _, _ => Nat.zero_le _
/-- rows and cases that are ready to make a schema -/
structure Rdy (K : PySem.W.Frag) (H : Hp) (zs : List Str) (nm cn : Int → Str) (D L : Addr) (rs : List KRow) (cs : List Cse) (xs : List V) : Prop where
  hD : H D = some (.dK (rs.map KRow.kv))
  hL : H L = some (.lst xs)
  rr : Rows K H zs nm zs rs
  cg : CasG K H zs cn cs xs
section
variable {K : PySem.W.Frag} {H H' : Hp} {Q : VK} {E : XK} {M : List Addr} {zs : List Str} {nm cn : Int → Str} {D L : Addr} {rs : List KRow} {cs : List Cse} {xs : List V}
theorem Rdy.kp (h : Rdy K H zs nm cn D L rs cs xs) (k : Kp M H H') (l : ∀ b ∈ M, NoT H b) (nD : D ∉ M) (nL : L ∉ M) (nr : ∀ r ∈ rs, r.adr ∉ M) : Rdy K H' zs nm cn D L rs cs xs := ⟨k _ _ nD h.hD, k _ _ nL h.hL, h.rr.kpM k l nr, h.cg.kpT k l⟩
theorem Rdy.kp0 (h : Rdy K H zs nm cn D L rs cs xs) (k : Kp [] H H') : Rdy K H' zs nm cn D L rs cs xs := h.kp k (fun b m => absurd m List.not_mem_nil) List.not_mem_nil List.not_mem_nil fun r _ => List.not_mem_nil
theorem Rdy.wl {S : Addr} (h : Rdy K H zs nm cn D L rs cs xs) (w : Wl H S) (nL : L ≠ S) (k : Kp [S] H H') : Rdy K H' zs nm cn D L rs cs xs := by
  have nD : D ≠ S := fun e => by
    obtain ⟨c, d, hS⟩ := w
    rw [← e, h.hD] at hS
    cases hS
  exact h.kp k w.noT (nm_cons nD List.not_mem_nil) (nm_cons nL List.not_mem_nil) fun r hr => nm_cons (row_ne w (h.rr.mem r hr).1 (h.rr.mem r hr).2.1) List.not_mem_nil
/-- no list, no dict, no tuple -/
def NoD (H : Hp) (b : Addr) : Prop := NoT H b ∧ (∀ kvs, H b ≠ some (.dK kvs)) ∧ ∀ xs, H b ≠ some (.lst xs)
theorem Rdy.noD (h : Rdy K H zs nm cn D L rs cs xs) (k : Kp M H H') (l : ∀ b ∈ M, NoD H b) : Rdy K H' zs nm cn D L rs cs xs :=
  h.kp k (fun b m => (l b m).1) (fun m => (l _ m).2.1 _ h.hD) (fun m => (l _ m).2.2 _ h.hL) fun r hr m => (l _ m).2.2 _ (h.rr.mem r hr).1
theorem goods_of {D2 : Addr} {s : Srt} {st : Str} (h : Rdy K H zs nm (cnm st) D L rs cs xs) (kn : Kn zs) (na : Nam nm) (sm : Stem st) (hs : s.ok (· ∈ zs) (· = "c") 1) : Goods K H rs [⟨"c", L, cs, xs⟩] (fun _ => 0) 0 s := by
  have hn := h.rr.names
  have rm := h.rr.mem
  have kz : ∀ z, z ∈ zs → keyIn (rs.map KRow.kv) z := fun z hz => by
    rw [← hn] at hz
    obtain ⟨r, hr, rfl⟩ := List.mem_map.mp hz
    exact ⟨_, kv_mem (by rw [hn]; exact kn.2.2.1) hr⟩
  have kc : ∀ z, z = ("c" : Str) → keyIn (([⟨"c", L, cs, xs⟩] : List CRow).map CRow.kv) z := fun z e => by
    subst e
    exact ⟨_, valV_pos rfl⟩
  have ok : ∀ {s : Srt}, s.ok (· ∈ zs) (· = "c") 1 → s.ok (keyIn (rs.map KRow.kv)) (keyIn (([⟨"c", L, cs, xs⟩] : List CRow).map CRow.kv)) 3 := fun h => ok_mono (ok_imp kz kc h) (by omega)
  have c4 : ∀ i : Int, 0 ≤ i → i ≤ 4 → i ∈ [(0 : Int), 1, 2, 3, 4] := fun i a b => by
    simp only [List.mem_cons, List.not_mem_nil, or_false]
    omega
  have ms : st ∈ [("o" : Str), "n"] := by rcases sm with rfl | rfl <;> simp
  obtain ⟨co, ci⟩ := cnm_ok st ms
  refine ⟨by rw [h.rr.len]; have := kn.2.1; omega, by show 1 ≤ 100; omega, by rw [hn]; exact kn.2.2.1, by simp, fun r hr => ?_, fun r hr => ?_, by omega, ok hs⟩
  · obtain ⟨h1, g, h3⟩ := rm r hr
    have l5 := nums5 (fun f hf => ⟨(g.ok f hf).1, (g.ok f hf).2.1⟩) g.nd
    refine ⟨⟨kn.2.2.2 _ h3, .inl h1, ⟨g.at_, fun f hf => ?_, ?_, g.nd, ?_⟩⟩, by omega, fun f hf => fun v ev => ((g.ok f hf).2.2.2.2 v ev).1⟩
    · obtain ⟨a, b, c, d, _⟩ := g.ok f hf
      exact ⟨a, by omega, by rw [c]; exact na.ok _ a b, ok d.1⟩
    · refine nodup_by g.nd fun f hf e he ee => ?_
      obtain ⟨a, b, c, _⟩ := g.ok f hf
      obtain ⟨a', b', c', _⟩ := g.ok e he
      rw [c, c'] at ee
      exact na.inj _ _ a b a' b' ee
    · rw [← pairedL g.at_]
      omega
  · rw [List.mem_singleton.mp hr]
    have g := h.cg
    refine ⟨⟨by show NameOk "c"; decide +kernel, .inl h.hL, ⟨g.at_, fun c hc => ?_, ?_, g.nd, ?_, ?_⟩, fun c hc _ z' e => ?_⟩, by show cs.length ≤ 100; have := g.le; omega⟩
    · obtain ⟨a, b, e, d⟩ := g.ok c hc
      refine ⟨a, by omega, by rw [e]; exact co _ (c4 _ a b), fun s es => ok (d s es).2.1.1, fun z => ?_⟩
      cases es : c.s with
      | none => rfl
      | some s =>
        have := (d s es).1
        omega
    · refine nodup_by g.nd fun c hc d hd ee => ?_
      obtain ⟨a, b, e, _⟩ := g.ok c hc
      obtain ⟨a', b', e', _⟩ := g.ok d hd
      rw [e, e'] at ee
      rcases ci _ (c4 _ a b) _ (c4 _ a' b') ee with h | ⟨h, h'⟩
      · exact h
      · exact g.one c hc d hd h h'
    · obtain ⟨c, hc, _⟩ := g.low
      intro e
      have e' : cs = [] := e
      rw [e'] at hc
      cases hc
    · show xs.length ≤ 1000
      rw [← pairedL g.at_]
      have := g.le
      omega
    · exact absurd rfl (((g.ok c hc).2.2.2 _ e).2.2 z')
theorem small_of {s : Srt} {m : SM} (h : Rdy K H zs nm cn D L rs cs xs) (kn : Kn zs) (hs : s.ok (· ∈ zs) (· = "c") 1) (w : m.wf) (hr : m.root = s) (pk : Paired KOf rs m.kinds) (pc : Paired COf [⟨"c", L, cs, xs⟩] m.picks) : Small m := by
  refine ⟨w, ?_, fun r hr' => ?_, ?_, fun r hr' => ?_, by rw [hr]; exact ok_dp hs⟩
  · rw [← pairedL pk, h.rr.len]
    exact kn.2.1
  · obtain ⟨R, hR, _, ⟨gls, pg, e2⟩, _⟩ := paired_mem pk hr'
    have g := (h.rr.mem R hR).2.1
    rw [e2]
    refine ⟨by rw [List.length_map, pg.length_eq]; exact nums5 (fun f hf => ⟨(g.ok f hf).1, (g.ok f hf).2.1⟩) g.nd, fun f hf => ?_⟩
    obtain ⟨fl, hfl, rfl⟩ := List.mem_map.mp hf
    exact ok_dp (g.ok fl (pg.mem_iff.mp hfl)).2.2.2.1.1
  · rw [← pairedL pc]
    exact Nat.le_refl 1
  · obtain ⟨R, hR, _, ⟨gls, pg, e2⟩, _⟩ := paired_mem pc hr'
    rw [List.mem_singleton.mp hR] at pg
    rw [e2]
    refine ⟨by rw [List.length_map, pg.length_eq]; exact h.cg.le, fun c hc s es => ?_⟩
    obtain ⟨cl, hcl, rfl⟩ := List.mem_map.mp hc
    exact ok_dp ((h.cg.ok cl (pg.mem_iff.mp hcl)).2.2.2 s es).2.1.1
theorem d5_of {m : SM} (h : Rdy K H zs nm cn D L rs cs xs) (pk : Paired KOf rs m.kinds) : D5 m := fun r hr f hf d ed => by
  obtain ⟨R, hR, _, ⟨gls, pg, e2⟩, _⟩ := paired_mem pk hr
  rw [e2] at hf
  obtain ⟨fl, hfl, rfl⟩ := List.mem_map.mp hf
  obtain ⟨v, ev, rfl⟩ := Option.map_eq_some_iff.mp ed
  exact (((h.rr.mem R hR).2.1.ok fl (pg.mem_iff.mp hfl)).2.2.2.2 v ev).2
theorem Tbl.wl {Pt : Tb} {S : Addr} (tb : Tbl Pt H) (w : Wl H S) (k : Kp [S] H H') : Tbl Pt H' := by
  obtain ⟨c, i, hS⟩ := id w
  have nm : ∀ {P : Addr} {q : Str}, TabS H P q → P ∉ [S] := fun t m => tabS_ne t hS (fun ps e => by cases e) (List.mem_singleton.mp m).symm
  have nc : ∀ a ∈ [S], ∀ c z, H a ≠ some (LamX.CodeO c z) := fun a m φ z e => by
    rw [List.mem_singleton.mp m, hS] at e
    cases e
  exact ⟨tabS_kp tb.a k (nm tb.a) nc, tabS_kp tb.b k (nm tb.b) nc, tb.ab⟩
/-- a schema made of rows that are ready -/
theorem mkS_go {Pt : Tb} {z D dx C2 L : Addr} {root : V} {s : Srt} {st : Str} {zs : List Str} {nm : Int → Str} {rs : List KRow} {cs : List Cse} {xs : List V} (r : Rdy K H zs nm (cnm st) D L rs cs xs) (kn : Kn zs) (na : Nam nm) (sm : Stem st) (hz : H z = some (.ins (cAt K "Schema") dx [])) (hC : H C2 = some (.dK [(.inr "c", .ref L)])) (ne : C2 ≠ D) (hs : SrtV K H s root) (ok : s.ok (· ∈ zs) (· = "c") 1) (tb : Tbl Pt H)
    (q : ∀ H' m, Tbl Pt H' → SV K H' z m → Small m → D5 m → Kp [z, Pt.a, Pt.b] H H' → (∀ b ∈ [z, Pt.a, Pt.b], NoD H b) → (∀ b ∈ [z, Pt.a, Pt.b], ∀ dx D1 D2 r, H b ≠ some (.ins (cAt K "Schema") dx (schF D1 D2 r))) → Q .non H') : sp_Schema___init__ K Pt [.ref z, .ref D, .ref C2, root] H Q E := by
  refine schema_go (CK := [⟨"c", L, cs, xs⟩]) hz r.hD hC ne (goods_of (D2 := D) r kn na sm ok) hs tb fun H' m k tb' sv wf rt pk pc => ?_
  have tn : ∀ {P : Addr} {qn : Str}, TabS H P qn → NoD H P ∧ ∀ dx D1 D2 r, H P ≠ some (.ins (cAt K "Schema") dx (schF D1 D2 r)) := fun {P qn} t => by
    have nt := noT_tab t
    obtain ⟨ps, h1, _⟩ := t
    exact ⟨⟨nt, (fun kvs e => by rw [h1] at e; cases e), fun xs e => by rw [h1] at e; cases e⟩, fun dx D1 D2 r e => by rw [h1] at e; cases e⟩
  have zn : NoD H z ∧ ∀ dx D1 D2 r, H z ≠ some (.ins (cAt K "Schema") dx (schF D1 D2 r)) := ⟨⟨noT_ins hz, (fun kvs e => by rw [hz] at e; cases e), fun xs e => by rw [hz] at e; cases e⟩, fun dx' D1 D2 r e => by rw [hz] at e; injection e with e; injection e with _ _ e; cases e⟩
  refine q H' m tb' sv (small_of r kn ok wf rt pk pc) (d5_of r pk) k (fun b m => ?_) fun b m => ?_
  · rcases List.mem_cons.mp m with rfl | m
    · exact zn.1
    · exact mem2 (P := NoD H) (tn tb.a).1 (tn tb.b).1 b m
  · rcases List.mem_cons.mp m with rfl | m
    · exact zn.2
    · exact mem2 (P := fun b => ∀ dx D1 D2 r, H b ≠ some (.ins (cAt K "Schema") dx (schF D1 D2 r))) (tn tb.a).2 (tn tb.b).2 b m
end
end K02

-- imports: QS1 QS2 QS3 QS4 QS5 QS6 QM1 QM2 QM3 QM4 QM5 QM6 QM7 QM8 QM9 QM10 QM11 QM12 QM13 QL1 QL2 QL3 QL4
/-! ## k34: a drawn schema -/
set_option maxHeartbeats 4000000
set_option maxRecDepth 4000
namespace K02
open PySem PySem.Spec PyProof.Rows L2 Kb
open LamX (TabS)
theorem len_law_schema (K : PySem.W.Frag) (Pt : Tb) : ∀ vs H Q E, sp_law_schema K Pt vs H Q E → vs.length = ["_law_well", "_law_kinds", "_law_stem"].length := by
  intro _ _ _ _ h
  unfold sp_law_schema at h
  obtain ⟨_, _, _, _, rfl, _⟩ := h
  rfl
theorem tab_kp {M : List Addr} {K : PySem.W.Frag} {H H' : Hp} {Pt : Tb} (tb : Tbl Pt H) (k : Kp M H H') (l : ∀ b ∈ M, ∃ xs, H b = some (.lst xs)) : Tbl Pt H' := by
  have nm : ∀ {P : Addr} {q : Str}, TabS H P q → P ∉ M := fun t m => by
    obtain ⟨xs, h⟩ := l _ m
    exact tabS_ne t h (fun ps e => by cases e) rfl
  have nc : ∀ a ∈ M, ∀ c z, H a ≠ some (LamX.CodeO c z) := fun a m φ z e => by
    obtain ⟨xs, h⟩ := l _ m
    rw [h] at e
    cases e
  exact ⟨tabS_kp tb.a k (nm tb.a) nc, tabS_kp tb.b k (nm tb.b) nc, tb.ab⟩
section
variable {K : PySem.W.Frag} {H H' : Hp}
theorem schema_b4 {C : Addr} {Pt : Tb} {Q : VK} {S k D L : Addr} {st : Str} {zs : List Str} {rs : List KRow} {cs : List Cse} {xs : List V} {u4 u5 u6 u7 u9 : Option V} (w : Wl H S) (tb : Tbl Pt H) (hk : H k = some (.lst (zs.map V.str))) (r1 : Rdy K H zs (fnm st) (cnm st) D L rs cs xs) (kn : Kn zs) (sm : Stem st) (nLS : L ≠ S)
    (q : ∀ H' z m, Kp [Pt.a, Pt.b] H H' → Wl H' S → Tbl Pt H' → SV K H' z m → Small m → D5 m → Q (.ref z) H') :
    b_law_schema_4 K C Pt { nx := fun _ H' => Q .non H', rt := Q } [some (.ref S), some (.ref k), some (.str st), some (.ref D), u4, u5, u6, u7, some (.ref L), u9] H := by
  have na : Nam (fnm st) := by
    rcases sm with rfl | rfl
    · exact nam_o
    · exact nam_n
  obtain ⟨z0, zr, ez⟩ : ∃ z0 zr, zs = z0 :: zr := by
    cases zs with
    | nil => exact absurd rfl kn.1
    | cons z0 zr => exact ⟨z0, zr, rfl⟩
  have hz0 : z0 ∈ zs := by rw [ez]; exact List.mem_cons_self
  have ix0 : atI (zs.map V.str) 0 = some (.str z0) := by rw [ez]; exact atI_nat (j := 0) rfl
  unfold b_law_schema_4
  walk_at "go"
  rename_i C2 nC2
  have k1 : Kp [] H (upd (upd H C2 (.dK [])) C2 (.dK [(.inr "c", .ref L)])) := (Kp.refl.upd_new nC2).upd_new nC2
  have hC : (upd (upd H C2 (.dK [])) C2 (.dK [(.inr "c", .ref L)])) C2 = some (.dK [(.inr "c", .ref L)]) := upd_same
  have nC1 : C2 ≠ D := fun e => by have := r1.hD; rw [← e, nC2] at this; cases this
  refine And.intro upd_same ⟨[(.inr "c", .ref L)], rfl, by show 1 ≤ 15; omega, ?_⟩
  rw [mergeK_nd [(.inr "c", .ref L)] [] (by simp), List.nil_append]
  generalize upd (upd H C2 (.dK [])) C2 (.dK [(.inr "c", .ref L)]) = G1 at k1 hC ⊢
  walk_at "go"
  refine ixL_go (SqL.of (k1 _ _ List.not_mem_nil hk)) ix0 ?_
  walk_at "go"
  rename_i T nT z dx nz nd nez
  have kT := (Kp.refl (M := []) (H := G1)).upd_new' (o := .tup [.str "node", .str z0]) nT
  have hT : SrtV K (upd G1 T (.tup [.str "node", .str z0])) (.node z0) (.ref T) := ⟨T, rfl, SqT.of upd_same⟩
  generalize upd G1 T (.tup [.str "node", .str z0]) = G2 at kT hT nz nd ⊢
  have kZ : Kp [] G2 (upd (upd G2 dx (.own z)) z (.ins (cAt K "Schema") dx [])) := (Kp.refl.upd_new' nd).upd_new' (by rw [upd_ne nez.symm]; exact nz)
  have hz : (upd (upd G2 dx (.own z)) z (.ins (cAt K "Schema") dx [])) z = some (.ins (cAt K "Schema") dx []) := upd_same
  show sp_Schema___init__ K Pt [.ref z, .ref D, .ref C2, .ref T] (upd (upd G2 dx (.own z)) z (.ins (cAt K "Schema") dx [])) _ _
  generalize upd (upd G2 dx (.own z)) z (.ins (cAt K "Schema") dx []) = H4 at kZ hz ⊢
  have k4 : Kp [] H H4 := (k1.trans kT).trans kZ
  have nn : ∀ {G : Hp}, ∀ b ∈ ([] : List Addr), NoT G b := fun b m => absurd m List.not_mem_nil
  refine mkS_go (r1.kp0 k4) kn na sm hz ((kT.trans kZ) _ _ List.not_mem_nil hC) nC1 (hT.kpT kZ nn) hz0 (Tbl.kp0 tb k4) fun H5 m tb5 sv sm5 d5 k5 nd5 ns5 => ?_
  have nzH : H z = none := (k1.trans kT).none_of List.not_mem_nil nz
  have k6 : Kp [Pt.a, Pt.b] H H5 := (k4.mono fun b m => absurd m List.not_mem_nil).drop k5 fun b m => by
    rcases List.mem_cons.mp m with rfl | m
    · exact .inr nzH
    · exact .inl m
  have w5 : Wl H5 S := by
    obtain ⟨c, d, h⟩ := w
    have h4 := k4 _ _ List.not_mem_nil h
    exact ⟨c, d, k5 _ _ (fun m => (nd5 S m).2.2 _ h4) h4⟩
  walk_at "go"
  exact q H5 z m k6 w5 tb5 sv sm5 d5
end
section
variable {K : PySem.W.Frag} {H H' : Hp}
theorem schema_b2 {C : Addr} {Pt : Tb} {H G : Hp} {Q : VK} {S k D : Addr} {st : Str} {zs : List Str} {rs : List KRow} {u4 u5 u6 u7 u8 u9 : Option V} (sc : SW H S G) (tb : Tbl Pt G) (hk : G k = some (.lst (zs.map V.str))) (kn : Kn zs) (sm : Stem st) (nD : H D = none) (hD : G D = some (.dK (rs.map KRow.kv))) (nDS : D ≠ S) (rr : Rows K G zs (fnm st) zs rs)
    (q : ∀ H' z m, Kp [S, Pt.a, Pt.b] H H' → Wl H' S → Tbl Pt H' → SV K H' z m → Small m → D5 m → Q (.ref z) H') :
    b_law_schema_2 K C Pt { nx := fun _ H' => Q .non H', rt := Q } [some (.ref S), some (.ref k), some (.str st), some (.ref D), u4, u5, u6, u7, u8, u9] G := by
  have sc0 : SW G S G := ⟨Kp.refl, sc.2⟩
  have kS := kinds_ne sc.2 hk kn.1
  unfold b_law_schema_2
  walk_at "go"
  rename_i H1 r1 sc1 k1 c0 c1 t nt L nL H2 r2 sc2 k2 d0 d1
  have nS1 : NoT G S := sc.2.noT S List.mem_cons_self
  have nLt : L ≠ t := fun e => by rw [e, upd_same] at nL; cases nL
  have nL1 : H1 L = none := by rw [upd_ne nLt] at nL; exact nL
  have nLS : L ≠ S := sc1.2.ne nL1
  have nLG : G L = none := k1.none_of (nm_cons nLS List.not_mem_nil) nL1
  have nLH : H L = none := sc.1.none_of (nm_cons nLS List.not_mem_nil) nLG
  have hD2 : H2 D = some (.dK (rs.map KRow.kv)) := sc2.1 _ _ (nm_cons nDS List.not_mem_nil) hD
  have hk2 : H2 k = some (.lst (zs.map V.str)) := sc2.1 _ _ (nm_cons kS List.not_mem_nil) hk
  have hL2 : H2 L = some (.lst [.ref t]) := k2 _ _ (nm_cons nLS List.not_mem_nil) upd_same
  have nDL : D ≠ L := fun e => by rw [e, hL2] at hD2; cases hD2
  have nkL : k ≠ L := fun e => by rw [e, nLG] at hk; cases hk
  have rm := rr.mem
  have rr2 : Rows K H2 zs (fnm st) zs rs := rr.kpM sc2.1 sc.2.noT fun r hr => nm_cons (row_ne sc.2 (rm r hr).1 (rm r hr).2.1) List.not_mem_nil
  have w1 : Wl (upd (upd H1 t (.tup [.int r1, .str "one", .non])) L (.lst [.ref t])) S := (sc1.2.new nt).new nL
  have g2 : CasG K H2 zs (cnm st) [⟨r1, "one", none, .non⟩] [.ref t] := by
    have e1 : cnm st r1 = "one" := by unfold cnm; rw [if_pos (by omega)]
    have g1 : CseV K (upd (upd H1 t (.tup [.int r1, .str "one", .non])) L (.lst [.ref t])) ⟨r1, "one", none, .non⟩ (.ref t) := ⟨⟨t, rfl, SqT.of ((upd_ne nLt.symm).trans upd_same)⟩, (fun s e => nomatch e), fun _ => rfl⟩
    refine CasG.kpT k2 w1.noT ⟨.cons g1 .nil, fun c hc => ?_, by simp, ⟨_, List.mem_cons_self, by show r1 ≤ 1; omega⟩, fun c hc d hd _ _ => ?_, by show 1 ≤ 4; omega⟩
    · rw [List.mem_singleton.mp hc]
      exact ⟨c0, by show r1 ≤ 4; omega, e1.symm, fun s e => nomatch e⟩
    · rw [List.mem_singleton.mp hc, List.mem_singleton.mp hd]
  refine for_it walk_range (fun i σ H' => ∃ u5 u6 u9 xs cs, σ = [some (.ref S), some (.ref k), some (.str st), some (.ref D), u4, u5, u6, u7, some (.ref L), u9] ∧ Kp [S, L] H2 H' ∧ Wl H' S ∧ H' L = some (.lst xs) ∧ CasG K H' zs (cnm st) cs xs ∧ (∀ c ∈ cs, c.num < 2 + (i : Int)) ∧ cs.length ≤ 1 + i) ⟨_, _, _, _, _, rfl, Kp.refl, sc2.2, hL2, g2, fun c hc => by rw [List.mem_singleton.mp hc]; show r1 < 2 + 0; omega, Nat.le_refl _⟩ (fun i σ H' _ _ => trivial) ?_ (fun σ H' h => ?_)
  · rintro i x σ Ha Hb hi ⟨u5, u6, u9, xs, cs, rfl, kb, wb, hL, g, less, le⟩ ⟨rfl, rfl⟩
    have ei : (fun i : Nat => V.int (0 + (i : Int))) i = V.int (i : Int) := by show V.int (0 + (i : Int)) = _; rw [Int.zero_add]
    rw [ei]
    have i2 : i ≤ 2 := by omega
    have hkb := kb _ _ (nm_cons kS (nm_cons nkL List.not_mem_nil)) hk2
    have scb : SW Hb S Hb := ⟨Kp.refl, wb⟩
    walk_at "go"
    refine lsort_go scb hkb kn fun H3 y s sc3 k3 hs so => ?_
    walk_at "go"
    · rename_i H4 r4 sc4 k4 f0 f1 f2
      have hL4 := sc4.1 _ _ (nm_cons nLS List.not_mem_nil) hL
      refine rows_b3 sc4.2 hL4 nLS (g.kpT sc4.1 wb.noT) (by omega) (by omega) less (by omega) (hs.wl sc3.2 k4) so sm fun H5 xs' cs' u9' k5 w5 hL5 g5 less5 l5 => ?_
      refine ⟨_, _, _, xs', cs', rfl, kb.trans ((sc4.1.mono fun b m => by rw [List.mem_singleton.mp m]; exact List.mem_cons_self).trans k5), w5, hL5, g5, fun c hc => ?_, by omega⟩
      have := less5 c hc
      omega
    · rename_i H4 r4 sc4 k4 f0 f1 f2
      have hL4 := sc4.1 _ _ (nm_cons nLS List.not_mem_nil) hL
      refine ⟨_, _, _, xs, cs, rfl, kb.trans (sc4.1.mono fun b m => by rw [List.mem_singleton.mp m]; exact List.mem_cons_self), sc4.2, hL4, g.kpT sc4.1 wb.noT, fun c hc => ?_, by omega⟩
      have := less c hc
      omega
  · obtain ⟨u5, u6, u9, xs, cs, rfl, kb, wb, hL, g, less, le⟩ := h
    have nT : ∀ b ∈ [S, L], NoT H2 b := mem2 (P := NoT H2) (sc2.2.noT S List.mem_cons_self) (noT_lst hL2)
    have rr3 := rr2.kpM kb nT fun r hr => nm_cons (row_ne sc.2 (rm r hr).1 (rm r hr).2.1) (nm_cons (fun e => by have := (rm r hr).1; rw [e, nLG] at this; cases this) List.not_mem_nil)
    have hD3 := kb _ _ (nm_cons nDS (nm_cons nDL List.not_mem_nil)) hD2
    have k02 : Kp [S] H H' := (sc.1.trans sc2.1).drop kb fun z m => by
      rcases List.mem_cons.mp m with rfl | m
      · exact .inl List.mem_cons_self
      · rw [List.mem_singleton.mp m]
        exact .inr nLH
    walk_at "go"
    have lS : ∀ b ∈ [S], ∃ xs, G b = some (.lst xs) := mem1 (P := fun b => ∃ xs, G b = some (.lst xs)) (by obtain ⟨c, d, h⟩ := sc.2; exact ⟨_, h⟩)
    have tb2 := tab_kp (K := K) tb sc2.1 lS
    have lSL : ∀ b ∈ [S, L], ∃ xs, H2 b = some (.lst xs) := mem2 (P := fun b => ∃ xs, H2 b = some (.lst xs)) (by obtain ⟨c, d, h⟩ := sc2.2; exact ⟨_, h⟩) ⟨_, hL2⟩
    have tb3 := tab_kp (K := K) tb2 kb lSL
    refine schema_b4 wb tb3 (kb _ _ (nm_cons kS (nm_cons nkL List.not_mem_nil)) hk2) ⟨hD3, hL, rr3, g⟩ kn sm nLS fun H5 z m k5 w5 tb5 sv sm5 d5 => ?_
    exact q H5 z m ((k02.mono fun b m => by rw [List.mem_singleton.mp m]; exact List.mem_cons_self).trans (k5.mono fun b m => List.mem_cons_of_mem _ m)) w5 tb5 sv sm5 d5
end
theorem p_law_schema (K : PySem.W.Frag) (C : Addr) (_ : Own K C) (Pt : Tb) (vs : List V) (H : Hp) (Q : VK) (E : XK) (h : sp_law_schema K Pt vs H Q E) : t_law_schema K C Pt { nx := fun _ H' => Q .non H', rt := Q } (start ["_law_well", "_law_kinds", "_law_stem", "_law_rows", "_law_kind", "_law_k", "_law_sort_here", "_law_left_here", "_law_cases", "_law_bare"] vs) H := by
  unfold sp_law_schema at h
  obtain ⟨S, k, st, zs, rfl, w, hk, kn, sm, tb, q⟩ := h
  have kS := kinds_ne w hk kn.1
  unfold t_law_schema
  walk_at "go"
  rename_i D nD
  have nDS : D ≠ S := w.ne nD
  have w1 : Wl (upd H D (.dK [])) S := w.new nD
  have nDk : k ≠ D := fun e => by rw [← e, hk] at nD; cases nD
  have hk1 : (upd H D (.dK [])) k = some (.lst (zs.map V.str)) := (upd_ne nDk).trans hk
  refine ⟨⟨_, SqL.of hk1⟩, ?_⟩
  refine for_it (walk_list (xs := zs.map V.str)) (fun i σ H' => ∃ u4 u5 u6 u7 rs, σ = [some (.ref S), some (.ref k), some (.str st), some (.ref D), u4, u5, u6, u7, none, none] ∧ Kp [S] H H' ∧ Wl H' S ∧ H' D = some (.dK (rs.map KRow.kv)) ∧ Rows K H' zs (fnm st) (zs.take i) rs) ⟨_, _, _, _, [], rfl, Kp.refl.upd_new nD, w1, upd_same, by unfold Rows; exact .nil⟩ (fun i σ H' _ ⟨_, _, _, _, _, _, kk, _⟩ => SqL.of (kk _ _ (nm_cons kS List.not_mem_nil) hk)) ?_ (fun σ H' h => ?_)
  · rintro i x σ Ha Hb hi ⟨u4, u5, u6, u7, rs, rfl, kb, wb, hD, rr⟩ ⟨eH, ex⟩
    subst eH
    rw [List.getElem?_map] at ex
    obtain ⟨z, ez, rfl⟩ := Option.map_eq_some_iff.mp ex
    have hz : z ∉ rs.map (·.name) := by
      rw [rr.names]
      intro m
      have nd := (List.take_sublist (i + 1) zs).nodup kn.2.2.1
      rw [List.take_add_one, ez] at nd
      exact (List.nodup_append.mp nd).2.2 z m z List.mem_cons_self rfl
    have lr : rs.length ≤ 3 := by
      rw [rr.len, List.length_take]
      have := kn.2.1
      omega
    walk_at "go"
    rename_i A nA
    have nAD : A ≠ D := fun e => by rw [e, hD] at nA; cases nA
    have nAS : A ≠ S := wb.ne nA
    refine ⟨D, _, rfl, DPut.k (k := .inr z) ((upd_ne nAD.symm).trans hD) (szlt_of (by rw [List.length_map]; omega)), ?_⟩
    rw [putK_new' _ (kv_none hz)]
    have kD : Kp [D] Hb (upd (upd Hb A (.lst [])) D (.dK (rs.map KRow.kv ++ [(.inr z, .ref A)]))) := (Kp.refl.upd_new nA).upd_in List.mem_cons_self
    have hDG : (upd (upd Hb A (.lst [])) D (.dK (rs.map KRow.kv ++ [(.inr z, .ref A)]))) D = some (.dK (rs.map KRow.kv ++ [(.inr z, .ref A)])) := upd_same
    have hAG : (upd (upd Hb A (.lst [])) D (.dK (rs.map KRow.kv ++ [(.inr z, .ref A)]))) A = some (.lst []) := (upd_ne nAD).trans upd_same
    have wG : Wl (upd (upd Hb A (.lst [])) D (.dK (rs.map KRow.kv ++ [(.inr z, .ref A)]))) S := (wb.new nA).off nDS
    have rm := rr.mem
    have rrG := rr.kpM kD (mem1 (noT_dK hD)) fun r hr => nm_cons (fun e => by have := (rm r hr).1; rw [e, hD] at this; cases this) List.not_mem_nil
    have kG : Kp [S] H (upd (upd Hb A (.lst [])) D (.dK (rs.map KRow.kv ++ [(.inr z, .ref A)]))) := kb.drop kD fun z m => by
      rw [List.mem_singleton.mp m]
      exact .inr nD
    have hzv := kv_last (A := A) hz
    have rA : ∀ r ∈ rs, r.adr ≠ A := fun r hr e => by have := (rm r hr).1; rw [e, nA] at this; cases this
    have rS : ∀ r ∈ rs, r.adr ≠ S := fun r hr => row_ne wb (rm r hr).1 (rm r hr).2.1
    have nAH : H A = none := kb.none_of (nm_cons nAS List.not_mem_nil) nA
    generalize eG : upd (upd Hb A (.lst [])) D (.dK (rs.map KRow.kv ++ [(.inr z, .ref A)])) = G at hDG hAG wG rrG kG ⊢
    clear eG kD
    generalize ekv : rs.map KRow.kv ++ [(.inr z, .ref A)] = kvs at hDG hzv ⊢
    have scG : SW G S G := ⟨Kp.refl, wG⟩
    walk_at "go"
    rename_i H1 r1 sc1 k1 c0 c1
    have hD1 := k1 _ _ (nm_cons nDS List.not_mem_nil) hDG
    have hA1 := k1 _ _ (nm_cons nAS List.not_mem_nil) hAG
    have rr1 := rrG.kpM k1 wG.noT fun r hr => nm_cons (rS r hr) List.not_mem_nil
    have kH1 := kG.trans k1
    have g1 : RowG K H1 zs (fnm st) [] [] := ⟨.nil, (fun f h => nomatch h), by simp⟩
    refine for_it walk_range (fun i σ H' => ∃ u5 u6 u7 fls xs, σ = [some (.ref S), some (.ref k), some (.str st), some (.ref D), some (.str z), u5, u6, u7, none, none] ∧ Kp [S, A] H1 H' ∧ Wl H' S ∧ H' A = some (.lst xs) ∧ RowG K H' zs (fnm st) fls xs ∧ (∀ f ∈ fls, f.num ≤ (i : Int)) ∧ fls.length ≤ i) ⟨_, _, _, [], [], rfl, Kp.refl, sc1.2, hA1, g1, (fun f h => nomatch h), Nat.le_refl _⟩ (fun i σ H' _ _ => trivial) ?_ (fun σ H' h => ?_)
    · rintro j x σ Hc Hd hj ⟨v5, v6, v7, fls, xs, rfl, kc, wc, hAc, gc, less, le⟩ ⟨rfl, rfl⟩
      have ej : (fun i : Nat => V.int (0 + (i : Int))) j = V.int (j : Int) := by show V.int (0 + (j : Int)) = _; rw [Int.zero_add]
      rw [ej]
      have j4 : j ≤ 4 := by omega
      have hkc := kc _ _ (nm_cons kS (nm_cons (fun e => by rw [← e, hk] at nAH; cases nAH) List.not_mem_nil)) (kH1 _ _ (nm_cons kS List.not_mem_nil) hk)
      have hDc := kc _ _ (nm_cons nDS (nm_cons nAD.symm List.not_mem_nil)) hD1
      have scc : SW Hd S Hd := ⟨Kp.refl, wc⟩
      walk_at "go"
      · rename_i H4 r4 sc4 k4 f0 f1 f2
        have hk4 := sc4.1 _ _ (nm_cons kS List.not_mem_nil) hkc
        refine lsort_go sc4 hk4 kn fun H5 y s sc5 k5 hs so => ?_
        walk_at "go"
        refine rows_b1 sc5.2 (sc5.1 _ _ (nm_cons nDS List.not_mem_nil) hDc) hzv (sc5.1 _ _ (nm_cons nAS List.not_mem_nil) hAc) nAS (gc.kpT sc5.1 wc.noT) (by omega) (by omega) less (by omega) hs so sm fun H6 xs' fls' u7' k6 w6 hA6 g6 less6 l6 => ?_
        refine ⟨_, _, _, fls', xs', rfl, kc.trans ((sc5.1.mono fun b m => by rw [List.mem_singleton.mp m]; exact List.mem_cons_self).trans k6), w6, hA6, g6, fun f hf => ?_, by omega⟩
        have := less6 f hf
        omega
      · rename_i H4 r4 sc4 k4 f0 f1 f2
        refine ⟨_, _, _, fls, xs, rfl, kc.trans (sc4.1.mono fun b m => by rw [List.mem_singleton.mp m]; exact List.mem_cons_self), sc4.2, sc4.1 _ _ (nm_cons nAS List.not_mem_nil) hAc, gc.kpT sc4.1 wc.noT, fun f hf => ?_, by omega⟩
        have := less f hf
        omega
    · obtain ⟨v5, v6, v7, fls, xs, rfl, kc, wc, hAc, gc, less, le⟩ := h
      have nT : ∀ b ∈ [S, A], NoT H1 b := mem2 (P := NoT H1) (sc1.2.noT S List.mem_cons_self) (noT_lst hA1)
      have rrc := rr1.kpM kc nT fun r hr => nm_cons (rS r hr) (nm_cons (rA r hr) List.not_mem_nil)
      have hDc := kc _ _ (nm_cons nDS (nm_cons nAD.symm List.not_mem_nil)) hD1
      have kHc : Kp [S] H _ := kH1.drop kc fun z m => by
        rcases List.mem_cons.mp m with rfl | m
        · exact .inl List.mem_cons_self
        · rw [List.mem_singleton.mp m]
          exact .inr nAH
      refine ⟨_, _, _, _, rs ++ [⟨z, A, fls, xs⟩], rfl, kHc, wc, ?_, ?_⟩
      · rw [hDc, ← ekv, List.map_append]
        rfl
      · rw [List.take_add_one, ez]
        exact rrc.app rfl hAc gc
  · obtain ⟨u4, u5, u6, u7, rs, rfl, kb, wb, hD, rr⟩ := h
    rw [List.length_map, List.take_length] at rr
    walk_at "go"
    have lS : ∀ b ∈ [S], ∃ xs, H b = some (.lst xs) := mem1 (P := fun b => ∃ xs, H b = some (.lst xs)) (by obtain ⟨c, d, h⟩ := w; exact ⟨_, h⟩)
    exact schema_b2 ⟨kb, wb⟩ (tab_kp (K := K) tb kb lS) (kb _ _ (nm_cons kS List.not_mem_nil) hk) kn sm nD hD nDS rr q
end K02

-- imports: QS1 QS2 QS3 QM1 QM2 QM3 QM4 QJ1 QJ2 QL1
/-! ## k34: another part -/
set_option maxHeartbeats 4000000
set_option maxRecDepth 4000
namespace K02
open PySem PySem.Spec PyProof.Rows L2 Kb
theorem no_law_other (K : PySem.W.Frag) {vs : List V} {H : Hp} {Q : VK} {E : XK} (h : sp_law_other K 0 vs H Q E) : False := by
  unfold sp_law_other at h
  exact h
theorem len_law_other (K : PySem.W.Frag) (n : Nat) : ∀ vs H Q E, sp_law_other K (n + 1) vs H Q E → vs.length = ["_law_well", "_law_part"].length := by
  intro vs H Q E h
  unfold sp_law_other at h
  obtain ⟨_, _, _, rfl, _⟩ := h
  rfl
mutual
theorem TA_refl : ∀ d : PyData, TA d d = true
  | .tuple xs => by
    show (if xs.length = xs.length then TAs xs xs else true) = true
    rw [if_pos rfl]
    exact TAs_refl xs
  | .none => rfl
  | .bool _ => rfl
  | .int _ => rfl
  | .str _ => rfl
  | .list _ => rfl
  | .dict _ => rfl
theorem TAs_refl : ∀ ds : List PyData, TAs ds ds = true
  | [] => rfl
  | d :: ds => by
    show (TA d d && TAs ds ds) = true
    rw [TA_refl d, TAs_refl ds]
    rfl
end
theorem gd_no {d e : PyData} (h : PyData.eqv d e = false) : Gd d e := fun g => by rw [h] at g; cases g
theorem gd_refl {d : PyData} : Gd d d := fun _ => TA_refl d
theorem eqvAll_len : ∀ {xs ys : List PyData}, PyData.eqvAll xs ys = true → xs.length = ys.length
  | [], [], _ => rfl
  | x :: xs, y :: ys, h => by
    unfold PyData.eqvAll at h
    rw [List.length_cons, List.length_cons, eqvAll_len (Bool.and_eq_true_iff.mp h).2]
  | [], _ :: _, h => by unfold PyData.eqvAll at h; cases h
  | _ :: _, [], h => by unfold PyData.eqvAll at h; cases h
theorem gd_len {xs ys : List PyData} (h : xs.length ≠ ys.length) : Gd (.tuple xs) (.tuple ys) := fun g => by
  unfold PyData.eqv at g
  exact absurd (eqvAll_len g) h
theorem tas_app : ∀ {as bs cs ds : List PyData}, as.length = bs.length → TAs (as ++ cs) (bs ++ ds) = (TAs as bs && TAs cs ds)
  | [], [], _, _, _ => by show _ = (true && _); rw [Bool.true_and]; rfl
  | a :: as, b :: bs, cs, ds, h => by
    show (TA a b && TAs (as ++ cs) (bs ++ ds)) = ((TA a b && TAs as bs) && TAs cs ds)
    rw [tas_app (by simpa using h), Bool.and_assoc]
theorem eqvAll_app : ∀ {as bs cs ds : List PyData}, as.length = bs.length → PyData.eqvAll (as ++ cs) (bs ++ ds) = (PyData.eqvAll as bs && PyData.eqvAll cs ds)
  | [], [], cs, ds, _ => by
    rw [show PyData.eqvAll [] [] = true by simp [PyData.eqvAll], Bool.true_and]
    rfl
  | a :: as, b :: bs, cs, ds, h => by
    have e1 : ∀ (xs ys : List PyData), PyData.eqvAll (a :: xs) (b :: ys) = (PyData.eqv a b && PyData.eqvAll xs ys) := fun xs ys => by rw [PyData.eqvAll]
    rw [List.cons_append, List.cons_append, e1, e1, eqvAll_app (as := as) (bs := bs) (by simpa using h), Bool.and_assoc]
/-- one thing of a tuple in the place of which another stands -/
theorem gd_at {ds : List PyData} {i : Nat} {d e : PyData} (h : ds[i]? = some d) (g : Gd d e) : Gd (.tuple ds) (.tuple (ds.take i ++ [e] ++ ds.drop (i + 1))) := fun q => by
  have hi : i < ds.length := (List.getElem?_eq_some_iff.mp h).1
  have es : ds = ds.take i ++ [d] ++ ds.drop (i + 1) := by
    have e1 : ds.drop i = d :: ds.drop (i + 1) := by
      rw [List.drop_eq_getElem_cons hi]
      rw [List.getElem?_eq_getElem hi] at h
      rw [Option.some.inj h]
    rw [List.append_assoc]
    show _ = ds.take i ++ (d :: ds.drop (i + 1))
    rw [← e1, List.take_append_drop]
  unfold PyData.eqv at q
  show (if ds.length = (ds.take i ++ [e] ++ ds.drop (i + 1)).length then TAs ds (ds.take i ++ [e] ++ ds.drop (i + 1)) else true) = true
  split
  · generalize ds.take i = as at es q ⊢
    generalize ds.drop (i + 1) = cs at es q ⊢
    subst es
    rw [eqvAll_app (by simp), eqvAll_app (by simp), Bool.and_eq_true, Bool.and_eq_true] at q
    rw [tas_app (by simp), tas_app (by simp), TAs_refl, TAs_refl]
    have q2 := q.1.2
    unfold PyData.eqvAll at q2
    rw [Bool.and_eq_true] at q2
    show (true && (TA d e && true)) && true = true
    rw [g q2.1]
    rfl
  · rfl
theorem cutD_take {ds : List PyData} {r : Nat} (h : r ≤ ds.length) : Kb.cutD ds none (some (r : Int)) = ds.take r := by
  unfold Kb.cutD
  rw [HT.sIx_nat, HT.sIx_none, List.drop_zero, Nat.min_eq_left h]
  rfl
theorem cutD_drop {ds : List PyData} {r : Nat} (h : r ≤ ds.length) : Kb.cutD ds (some (r : Int)) none = ds.drop r := by
  unfold Kb.cutD
  rw [HT.sIx_nat, HT.sIx_none, Nat.min_eq_left h, List.take_of_length_le (by rw [List.length_drop]; omega)]
theorem sh_low {n : Nat} {z : Str} (h : ∀ c ∈ z.cps.toList, c < 128) : Sh n (.str z) := sh_str fun c m => by have := h c m; omega
theorem low_of {z : Str} (h : sm (.str z) = true) : (∀ c ∈ z.cps.toList, c < 128) ∧ z.length ≤ 100 := by
  have h : ((z.cps.toList.all fun c => decide (c < 128)) && decide (z.length ≤ 100)) = true := h
  rw [Bool.and_eq_true] at h
  exact ⟨fun c m => of_decide_eq_true (List.all_eq_true.mp h.1 c m), of_decide_eq_true h.2⟩
theorem low_a {z : Str} (h : ∀ c ∈ z.cps.toList, c < 128) : ∀ c ∈ (z ++ ("a" : Str)).cps.toList, c < 128 := fun c m => by
  have m : c ∈ (z.cps ++ ("a" : Str).cps).toList := m
  rw [Array.toList_append, List.mem_append] at m
  rcases m with m | m
  · exact h c m
  · exact (by decide +kernel : ∀ c ∈ ("a" : Str).cps.toList, c < 128) c m
theorem low_cut {z : Str} {lo hi : Option Int} (h : ∀ c ∈ z.cps.toList, c < 128) : ∀ c ∈ (cutS z lo hi).cps.toList, c < 128 := fun c m => h c (by
  have m : c ∈ (List.take (HT.sIx z.length z.length hi - HT.sIx z.length 0 lo) (List.drop (HT.sIx z.length 0 lo) z.cps.toList)).toArray.toList := m
  rw [List.toList_toArray] at m
  exact List.mem_of_mem_drop (List.mem_of_mem_take m))
theorem low_up {z : Str} (h : ∀ c ∈ z.cps.toList, c < 128) : ∀ c ∈ (Txt.upper z).cps.toList, c < 128 := fun c m => by
  rw [PyProof.Rows.upper_ascii (x := z) h] at m
  have m : c ∈ (z.cps.map PyProof.Rows.up1).toList := m
  rw [Array.toList_map, List.mem_map] at m
  obtain ⟨d, hd, rfl⟩ := m
  have := h d hd
  unfold PyProof.Rows.up1
  split <;> omega
theorem sh_toS {n : Nat} {s : String} : Sh n (.str (Str.ofString s)) := sh_str fun c m => by
  rw [PySem.Str.ofString_eq_toList] at m
  have m : c ∈ (s.toList.map Char.toNat).toArray.toList := m
  rw [List.toList_toArray, List.mem_map] at m
  obtain ⟨k, _, rfl⟩ := m
  have := k.valid
  show k.val.toNat < 1114112
  rcases this with g | ⟨_, g⟩ <;> omega
mutual
theorem noL_sm : ∀ {d : PyData}, sm d = true → noL d = true
  | .tuple ds, h => noLs_sms (Bool.and_eq_true_iff.mp h).2
  | .none, _ => rfl
  | .bool _, _ => rfl
  | .int _, _ => rfl
  | .str _, _ => rfl
  | .dict _, _ => rfl
theorem noLs_sms : ∀ {ds : List PyData}, sms ds = true → noLs ds = true
  | [], _ => rfl
  | d :: ds, h => by
    have h := Bool.and_eq_true_iff.mp (show (sm d && sms ds) = true from h)
    show (noL d && noLs ds) = true
    rw [noL_sm h.1, noLs_sms h.2]
    rfl
end
mutual
theorem can_sm : ∀ {d : PyData}, sm d = true → d.canLay0 = true
  | .tuple ds, h => by
    unfold PyData.canLay0
    exact cans_sms (Bool.and_eq_true_iff.mp h).2
  | .none, _ => by simp [PyData.canLay0]
  | .bool _, _ => by simp [PyData.canLay0]
  | .int _, _ => by simp [PyData.canLay0]
  | .str z, h => (sh_low (n := 0) (low_of h).1).1
theorem cans_sms : ∀ {ds : List PyData}, sms ds = true → PyData.canLayAll0 ds = true
  | [], _ => by simp [PyData.canLayAll0]
  | d :: ds, h => by
    have h := Bool.and_eq_true_iff.mp (show (sm d && sms ds) = true from h)
    unfold PyData.canLayAll0
    rw [can_sm h.1, cans_sms h.2]
    rfl
end
theorem sh_sm {n : Nat} {d : PyData} (h : sm d = true) (g : d.depth ≤ n) : Sh n d := ⟨can_sm h, g⟩
section
variable {K : PySem.W.Frag} {H H' : Hp} {Q : VK} {E : XK} {S : Addr}
/-- a thing of data that stays while there is only drawing -/
def DpS (K : PySem.W.Frag) (S : Addr) (H : Hp) (y : V) (e : PyData) : Prop := ∀ H', Kp [S] H H' → Dp K H' y e
theorem lother_go {n : Nat} {x : V} {d : PyData} (w : Wl H S) (hx : Dp K H x d) (sd : sm d = true) (dp : d.depth ≤ n) (q : ∀ H' y e, Kp [S] H H' → Wl H' S → DpS K S H' y e → Gd d e → Sh (n + 1) e → Q y H') : sp_law_other K (n + 1) [.ref S, x] H Q E := by
  unfold sp_law_other
  exact ⟨S, x, d, rfl, w, hx, sd, dp, q⟩
/-- what comes of a part that is no tuple -/
def Lf (K : PySem.W.Frag) (d : PyData) (v : V) : Prop := ∃ e, (∀ H, Dp K H v e) ∧ Gd d e ∧ Sh 0 e
theorem lf_int {d : PyData} {i : Int} (h : PyData.eqv d (.int i) = false) : Lf K d (.int i) := ⟨.int i, fun _ => .int i, gd_no h, sh_int⟩
theorem lf_bl {d : PyData} {b : Bool} (h : PyData.eqv d (.bool b) = false) : Lf K d (.bl b) := ⟨.bool b, fun _ => .bl b, gd_no h, sh_bl⟩
theorem lf_non {d : PyData} (h : PyData.eqv d .none = false) : Lf K d .non := ⟨.none, fun _ => .non, gd_no h, sh_non⟩
theorem lf_str {d : PyData} {z : Str} (h : Gd d (.str z)) (s : Sh 0 (.str z)) : Lf K d (.str z) := ⟨.str z, fun _ => .str z, h, s⟩
theorem lf_go {p : Addr} {a b c d : V} {e : PyData} {r : Int} (h : H p = some (.lst [a, b, c, d])) (h0 : 0 ≤ r) (h1 : r < 4) (la : Lf K e a) (lb : Lf K e b) (lc : Lf K e c) (ld : Lf K e d) (q : ∀ v, Lf K e v → Q v H) : rIxU K (.ref p) (.int r) H Q := by
  refine ixP_go (fun v => Lf K e v) h h0 h1 (fun v m => ?_) q
  simp only [List.mem_cons, List.not_mem_nil, or_false] at m
  rcases m with rfl | rfl | rfl | rfl <;> assumption
end
theorem log_great {i : Int} (h0 : -GREAT - 1 ≤ i) (h1 : i ≤ GREAT + 1) : i.natAbs.log2 < 1920 := by
  by_cases e : i.natAbs = 0
  · rw [e]
    decide
  · rw [Nat.log2_lt e]
    have : i.natAbs < 2 ^ 200 := by
      have e2 : (2 : Nat) ^ 200 = 1606938044258990275541962092341162602522202993782792835301376 := by decide
      unfold GREAT at h0 h1
      omega
    exact Nat.lt_trans this (by exact Nat.pow_lt_pow_right (by decide) (by decide))
section
variable {K : PySem.W.Frag} {H : Hp} {Q : VK} {E : XK} {S a : Addr} {n : Nat} {ds : List PyData} {r : Int}
theorem depth_tup (ds : List PyData) : (PyData.tuple ds).depth = PyData.depthAll ds + 1 := by
  show PyData.depth (.tuple ds) = _
  unfold PyData.depth
  omega
theorem other_b1 {u3 : Option V} (w : Wl H S) (hx : Dp K H (.ref a) (.tuple ds)) (ne : ds ≠ []) (sd : sm (.tuple ds) = true) (dp : (PyData.tuple ds).depth ≤ n) (r0 : 0 ≤ r) (r1 : r < 4)
    (q : ∀ H' y e, Kp [S] H H' → Wl H' S → DpS K S H' y e → Gd (.tuple ds) e → Sh (n + 1) e → Q y H') : b_law_other_1 K n { nx := fun _ H' => Q .non H', rt := Q } [some (.ref S), some (.ref a), some (.int r), u3] H := by
  have sc0 : SW H S H := ⟨Kp.refl, w⟩
  obtain ⟨xs, ha, hd⟩ : ∃ xs, SqT K H a xs ∧ DpAll K H xs ds := by
    cases hx with
    | tup ha hd => exact ⟨_, ha, hd⟩
  have sms' := (Bool.and_eq_true_iff.mp sd).2
  have l0 : 0 < ds.length := List.length_pos_iff.mpr ne
  have l1 : ds.length ≤ 1000 := of_decide_eq_true (Bool.and_eq_true_iff.mp sd).1
  have lx := dpAll_len hd
  have dd : PyData.depthAll ds + 1 ≤ n := by rw [← depth_tup]; exact dp
  have el : ∀ {m : Nat}, n - 1 ≤ m → ∀ e ∈ ds, Sh m e := fun hm e me => sh_sm (sms_mem sms' me) (by have := depth_mem me; omega)
  have mt : ∀ {i : Nat}, ∀ e ∈ ds.take i, e ∈ ds := fun e m => List.mem_of_mem_take m
  have md : ∀ {i : Nat}, ∀ e ∈ ds.drop i, e ∈ ds := fun e m => List.mem_of_mem_drop m
  have lxs : ((xs.length : Nat) : Int) < 1001 := by omega
  have lx0 : (0 : Int) < ((xs.length : Nat) : Int) := by omega
  unfold b_law_other_1
  walk_at "go"
  · rename_i H1 j sc1 k1 c0 c1 hw
    obtain ⟨i, rfl⟩ : ∃ i : Nat, j = i := ⟨j.toNat, by omega⟩
    have hi : i < ds.length := by omega
    have ha1 := sqT_kpT k1 w.noT ha
    have hd1 := dpAll_kpT k1 w.noT (noLs_sms sms') hd
    have hx1 : Dp K H1 (.ref a) (.tuple ds) := .tup ha1 hd1
    refine slWD_go hx1 fun H2 y k2 dy => ?_
    rw [cutD_take (by omega)] at dy
    walk_at "go"
    have hx2 := dp_kp0 k2 hx1
    refine slWD_go hx2 fun H3 y2 k3 dy2 => ?_
    rw [show ((i : Int) + 1) = ((i + 1 : Nat) : Int) from rfl, cutD_drop (by omega)] at dy2
    walk_at "go"
    have hx3 := dp_kp0 k3 hx2
    refine addD_go (dp_kp0 k3 dy) dy2 (by rw [List.length_take, List.length_drop]; omega) fun H4 y3 k4 dy3 => ?_
    walk_at "go"
    have hx4 := dp_kp0 k4 hx3
    refine slWD_go hx4 fun H5 y4 k5 dy4 => ?_
    rw [show (1 : Int) = ((1 : Nat) : Int) from rfl, cutD_take (by omega)] at dy4
    walk_at "go"
    refine addD_go (dp_kp0 k5 hx4) dy4 (by rw [List.length_take]; omega) fun H6 y5 k6 dy5 => ?_
    walk_at "go"
    rename_i p np
    have k16 := (((k2.trans k3).trans k4).trans k5).trans k6
    have kp := (Kp.refl (M := []) (H := H6)).upd_new' (o := .lst [y3, y5]) np
    have sc7 := (sc1.kp k16).kp kp
    have d3 := dp_kp0 kp (dp_kp0 (k5.trans k6) dy3)
    have d5 := dp_kp0 kp dy5
    have hl : (upd H6 p (.lst [y3, y5])) p = some (.lst [y3, y5]) := upd_same
    generalize upd H6 p (.lst [y3, y5]) = H7 at sc7 d3 d5 hl ⊢
    refine ixP_go (fun v => ∃ es, Dp K H7 v (.tuple es) ∧ (∀ e ∈ es, e ∈ ds) ∧ es.length ≠ ds.length) hl r0 (by show r < 2; omega) (fun v m => ?_) fun v hv => ?_
    · simp only [List.mem_cons, List.not_mem_nil, or_false] at m
      rcases m with rfl | rfl
      · exact ⟨_, d3, fun e m => (List.mem_append.mp m).elim (mt e) (md e), by rw [List.length_append, List.length_take, List.length_drop]; omega⟩
      · exact ⟨_, d5, fun e m => (List.mem_append.mp m).elim id (mt e), by rw [List.length_append, List.length_take]; omega⟩
    · obtain ⟨es, dv, me, ln⟩ := hv
      refine q H7 v (.tuple es) sc7.1 sc7.2 (fun H'' k => dp_kpT k sc7.2.noT (noLs_all fun e m => noL_sm (sms_mem sms' (me e m))) dv) (gd_len (Ne.symm ln)) (sh_tup fun e m => el (by omega) e (me e m))
  · rename_i H1 j sc1 k1 c0 c1 hw
    obtain ⟨i, rfl⟩ : ∃ i : Nat, j = i := ⟨j.toNat, by omega⟩
    have hi : i < ds.length := by omega
    have ha1 := sqT_kpT k1 w.noT ha
    have hd1 := dpAll_kpT k1 w.noT (noLs_sms sms') hd
    have hx1 : Dp K H1 (.ref a) (.tuple ds) := .tup ha1 hd1
    refine .inr (slA_go ha1 fun H2 p2 k2 hp2 => ?_)
    walk_at "go"
    have ei := List.getElem?_eq_getElem hi
    have mi := List.getElem_mem hi
    generalize ds[i] = d at ei mi
    have w2 := sc1.2.kp k2 List.not_mem_nil
    show rIxU K (.ref a) (.int (i : Nat)) H2 _
    refine ixDp_go (dp_kp0 k2 hx1) ei fun v hv => ?_
    walk_at "go"
    show sp_law_other K n [.ref S, v] H2 _ _
    have dmi := depth_mem mi
    obtain ⟨n, rfl⟩ : ∃ n', n = n' + 1 := ⟨n - 1, by omega⟩
    refine lother_go w2 hv (sms_mem sms' mi) (by omega) fun H3 z e k3 w3 st gd sh => ?_
    walk_at "go"
    rename_i T nT
    have kT := (Kp.refl (M := []) (H := H3)).upd_new' (o := .tup [z]) nT
    have hp3 := sqT_kpT k3 w2.noT hp2
    refine addA_go (kT.sqT List.not_mem_nil hp3) (SqT.of upd_same) (by have := cutV_length xs none (some (i : Int)); show _ + 1 ≤ _; omega) fun H5 p5 k5 hp5 => ?_
    walk_at "go"
    have k35 := kT.trans k5
    have w5 := w3.kp k35 List.not_mem_nil
    have ha5 := (k35.sqT List.not_mem_nil (sqT_kpT k3 w2.noT (k2.sqT List.not_mem_nil ha1)))
    refine .inr (slA_go ha5 fun H6 p6 k6 hp6 => ?_)
    walk_at "go"
    refine addA_go (k6.sqT List.not_mem_nil hp5) hp6 (by have := cutV_length xs none (some (i : Int)); have := cutV_length xs (some ((i : Int) + 1)) none; rw [List.length_append]; show _ + 1 + _ ≤ _; omega) fun H7 p7 k7 hp7 => ?_
    have k37 := (k35.trans k6).trans k7
    have w7 := w3.kp k37 List.not_mem_nil
    have kS : Kp [S] H1 H7 := ((k2.mono fun b m => absurd m List.not_mem_nil).trans k3).trans (k37.mono fun b m => absurd m List.not_mem_nil)
    have hd7 := dpAll_kpT kS sc1.2.noT (noLs_sms sms') hd1
    have c1 := dpAll_cut (lo := none) (hi := some (i : Int)) hd7
    have c2 := dpAll_cut (lo := some ((i : Int) + 1)) (hi := none) hd7
    rw [cutD_take (by omega)] at c1
    rw [show ((i : Int) + 1) = ((i + 1 : Nat) : Int) from rfl, cutD_drop (by omega)] at c2
    have nt : noLs (ds.take i) = true := noLs_all fun e m => noL_sm (sms_mem sms' (mt e m))
    have nd : noLs (ds.drop (i + 1)) = true := noLs_all fun e m => noL_sm (sms_mem sms' (md e m))
    refine q H7 (.ref p7) (.tuple (ds.take i ++ [e] ++ ds.drop (i + 1))) (k1.trans kS) w7 (fun H'' k => ?_) (gd_at ei gd) (sh_tup fun e' m => ?_)
    · refine .tup (sqT_kpT k w7.noT hp7) (dpAll_app (dpAll_app (dpAll_kpT k w7.noT nt c1) (dpAll_one (st H'' ?_))) (dpAll_kpT k w7.noT nd c2))
      exact (k37.mono fun b m => absurd m List.not_mem_nil).trans k
    · rcases List.mem_append.mp m with m | m
      · rcases List.mem_append.mp m with m | m
        · exact el (by omega) e' (mt e' m)
        · rw [List.mem_singleton.mp m]
          exact sh
      · exact el (by omega) e' (md e' m)
theorem other_c0 {σ : L2.St} (w : Wl H S) (q : ∀ H' L vs, Kp [] H H' → Wl H' S → H' L = some (.lst vs) → vs.length = 4 → (∀ v ∈ vs, ∃ e, DpS K S H' v e ∧ Gd (.tuple []) e ∧ Sh 2 e) → Q (.ref L) H') : c_law_other_0 K n σ H Q := by
  unfold c_law_other_0
  walk_at "go"
  rename_i p1 n1 p2 n2 p3 n3 p4 n4 p5 n5 L nL
  have nd : ∀ {G : Hp} {p : Addr} {o : HO}, G p = none → Kp [] G (upd G p o) := fun h => Kp.refl.upd_new' h
  have sT : ∀ {G : Hp} {p : Addr} {vs : List V}, SqT K (upd G p (.tup vs)) p vs := SqT.of upd_same
  generalize e1 : upd H p1 (.tup [.int 1]) = G1 at n2 n3 n4 n5 nL ⊢
  have k1 : Kp [] H G1 := by rw [← e1]; exact nd n1
  have d1 : Dp K G1 (.ref p1) (.tuple [.int 1]) := by rw [← e1]; exact .tup sT (dpAll_one (.int 1))
  have w1 := w.kp k1 List.not_mem_nil
  generalize e2 : upd G1 p2 (.tup [.int 0, .str "a", .int 1]) = G2 at n3 n4 n5 nL ⊢
  have k2 : Kp [] G1 G2 := by rw [← e2]; exact nd n2
  have d2 : Dp K G2 (.ref p2) (.tuple [.int 0, .str "a", .int 1]) := by rw [← e2]; exact .tup sT (.cons (.int 0) (.cons (.str "a") (dpAll_one (.int 1))))
  have w2 := w1.kp k2 List.not_mem_nil
  generalize e3 : upd G2 p3 (.lst [.ref p2]) = G3 at n4 n5 nL ⊢
  have k3 : Kp [] G2 G3 := by rw [← e3]; exact nd n3
  have h3 : G3 p3 = some (.lst [.ref p2]) := by rw [← e3]; exact upd_same
  have n3S : p3 ≠ S := w2.ne n3
  generalize e4 : upd G3 p4 (.tup []) = G4 at n5 nL ⊢
  have k4 : Kp [] G3 G4 := by rw [← e4]; exact nd n4
  have d4 : Dp K G4 (.ref p4) (.tuple []) := by rw [← e4]; exact .tup sT .nil
  generalize e5 : upd G4 p5 (.tup [.ref p4]) = G5 at nL ⊢
  have k5 : Kp [] G4 G5 := by rw [← e5]; exact nd n5
  have d5 : Dp K G5 (.ref p5) (.tuple [.tuple []]) := by
    have := dp_kp0 k5 d4
    rw [← e5] at this ⊢
    exact .tup sT (dpAll_one this)
  generalize e6 : upd G5 L (.lst [.ref p1, .non, .ref p3, .ref p5]) = G6
  have k6 : Kp [] G5 G6 := by rw [← e6]; exact nd nL
  have h6 : G6 L = some (.lst [.ref p1, .non, .ref p3, .ref p5]) := by rw [← e6]; exact upd_same
  have k36 := (k4.trans k5).trans k6
  have w6 := w2.kp (k3.trans k36) List.not_mem_nil
  have sa : ∀ {m : Nat}, Sh m (.str "a") := fun {m} => sh_low (by decide +kernel)
  refine q G6 L _ ((k1.trans k2).trans (k3.trans k36)) w6 h6 rfl fun v m => ?_
  simp only [List.mem_cons, List.not_mem_nil, or_false] at m
  rcases m with rfl | rfl | rfl | rfl
  · exact ⟨_, fun H'' k => dp_kpT k w6.noT rfl (dp_kp0 (k2.trans (k3.trans k36)) d1), gd_len (by decide), sh_tup (sh_all1 sh_int)⟩
  · exact ⟨.none, fun H'' k => .non, gd_no (by simp [PyData.eqv]), sh_non⟩
  · exact ⟨.list [.tuple [.int 0, .str "a", .int 1]], fun H'' k => .lst (SqL.of (k _ _ (nm_cons n3S List.not_mem_nil) (k36 _ _ List.not_mem_nil h3))) (dpAll_one (dp_kpT k w6.noT rfl (dp_kp0 (k3.trans k36) d2))), gd_no (by simp [PyData.eqv]), sh_lst (sh_all1 (sh_tup (n := 0) (sh_allc sh_int (sh_allc sa (sh_all1 sh_int)))))⟩
  · exact ⟨_, fun H'' k => dp_kpT k w6.noT rfl (dp_kp0 k6 d5), gd_len (by decide), sh_tup (sh_all1 (sh_tup (n := 0) fun d h => nomatch h))⟩
theorem other_b0 {u3 : Option V} (w : Wl H S) (hx : Dp K H (.ref a) (.tuple ds)) (sd : sm (.tuple ds) = true) (dp : (PyData.tuple ds).depth ≤ n) (r0 : 0 ≤ r) (r1 : r < 4)
    (q : ∀ H' y e, Kp [S] H H' → Wl H' S → DpS K S H' y e → Gd (.tuple ds) e → Sh (n + 1) e → Q y H') : b_law_other_0 K n { nx := fun _ H' => Q .non H', rt := Q } [some (.ref S), some (.ref a), some (.int r), u3] H := by
  have sc0 : SW H S H := ⟨Kp.refl, w⟩
  obtain ⟨xs, ha, hd⟩ : ∃ xs, SqT K H a xs ∧ DpAll K H xs ds := by
    cases hx with
    | tup ha hd => exact ⟨_, ha, hd⟩
  have lx := dpAll_len hd
  unfold b_law_other_0
  walk_at "go"
  rename_i p0 n0
  have k0 := (Kp.refl (M := []) (H := H)).upd_new' (o := .tup []) n0
  refine eqET_go (k0.sqT List.not_mem_nil ha) (SqT.of upd_same) ?_
  cases ds with
  | nil =>
    obtain rfl : xs = [] := List.length_eq_zero_iff.mp lx
    walk_at "go"
    refine other_c0 (w.kp k0 List.not_mem_nil) fun H7 L vs k7 w7 hl lv hv => ?_
    walk_at "go"
    have dn : 1 ≤ n := by rw [depth_tup] at dp; omega
    refine ixP_go (fun v => ∃ e, DpS K S H7 v e ∧ Gd (.tuple []) e ∧ Sh 2 e) hl r0 (by rw [lv]; exact r1) hv fun v hv => ?_
    obtain ⟨e, st, gd, sh⟩ := hv
    exact q H7 v e ((k0.trans k7).mono fun b m => absurd m List.not_mem_nil) w7 st gd (sh_mono sh (by omega))
  | cons d ds =>
    have e0 : xs.isEmpty = false := by cases xs <;> simp_all
    rw [e0]
    walk_at "go"
    exact other_b1 (w.kp k0 List.not_mem_nil) (dp_kp0 k0 hx) (by simp) sd dp r0 r1 fun H' y e k => q H' y e ((k0.mono fun b m => absurd m List.not_mem_nil).trans k)
end
theorem p_law_other (K : PySem.W.Frag) (n : Nat) (vs : List V) (H : Hp) (Q : VK) (E : XK) (h : sp_law_other K (n + 1) vs H Q E) : t_law_other K n { nx := fun _ H' => Q .non H', rt := Q } (start ["_law_well", "_law_part", "_law_way", "_law_at"] vs) H := by
  unfold sp_law_other at h
  obtain ⟨S, x, d, rfl, w, hx, sd, dp, q⟩ := h
  have sc0 : SW H S H := ⟨Kp.refl, w⟩
  have fin : ∀ {G : Hp} {v : V}, SW H S G → Lf K d v → Q v G := fun {G v} sc ⟨e, h1, h2, h3⟩ => q G v e sc.1 sc.2 (fun H'' _ => h1 H'') h2 (sh_mono h3 (by omega))
  unfold t_law_other
  cases d with
  | dict _ => cases hx
  | list _ => cases sd
  | none =>
    cases hx
    walk_at "go"
    rename_i H1 r1 sc1 k1 c0 c1 p np
    refine lf_go (e := .none) upd_same c0 c1 (lf_int (by simp [PyData.eqv])) (lf_int (by simp [PyData.eqv])) (lf_str (gd_no (by simp [PyData.eqv])) (sh_low (by decide +kernel))) (lf_int (by simp [PyData.eqv])) fun v l => ?_
    exact fin (sc1.new np) l
  | bool b =>
    cases hx
    walk_at "go"
    rename_i H1 r1 sc1 k1 c0 c1 p np
    refine lf_go (e := .bool b) upd_same c0 c1 (lf_bl (by cases b <;> simp [PyData.eqv])) (lf_non (by simp [PyData.eqv])) (lf_str (gd_no (by simp [PyData.eqv])) (sh_low (by decide +kernel))) (lf_int (by cases b <;> simp [PyData.eqv])) fun v l => ?_
    exact fin (sc1.new np) l
  | int i =>
    cases hx
    have sd := of_decide_eq_true (p := -GREAT - 1 ≤ i ∧ i ≤ GREAT + 1) sd
    walk_at "go"
    rename_i H1 r1 sc1 k1 c0 c1
    refine strI_go (log_great sd.1 sd.2) ?_
    walk_at "go"
    rename_i p np
    refine lf_go (e := .int i) upd_same c0 c1 (lf_int (by simp [PyData.eqv]; omega)) (lf_int (by simp [PyData.eqv]; omega)) (lf_non (by simp [PyData.eqv])) (lf_str (gd_no (by simp [PyData.eqv])) sh_toS) fun v l => ?_
    exact fin (sc1.new np) l
  | str z =>
    cases hx
    obtain ⟨lz, ll⟩ := low_of sd
    walk_at "go"
    rename_i H1 r1 sc1 k1 c0 c1
    refine addS_go (by have : ("a" : Str).length = 1 := by decide +kernel
                       omega) ?_
    walk_at "go"
    refine slWS_go (by omega) ?_
    walk_at "go"
    rename_i p np
    refine lf_go (e := .str z) upd_same c0 c1 (lf_str (fun _ => rfl) (sh_low (low_a lz))) (lf_str (fun _ => rfl) (sh_low (low_cut lz))) (lf_non (by simp [PyData.eqv])) (lf_str (fun _ => rfl) (sh_low (low_up lz))) fun v l => ?_
    exact fin (sc1.new np) l
  | tuple ds =>
    have dx := hx
    cases hx with
    | @tup a xs _ ha hd =>
    walk_at "go"
    rename_i H1 r1 sc1 k1 c0 c1
    have ha1 := sqT_kpT k1 w.noT ha
    refine isi_go (sqT_tyA ha1) ki_tuple_bool ?_
    walk_at "go"
    refine isi_go (sqT_tyA ha1) ki_tuple_int ?_
    walk_at "go"
    refine isi_go (sqT_tyA ha1) ki_tuple_str ?_
    walk_at "go"
    exact other_b0 sc1.2 (dp_kpT k1 w.noT (noL_sm sd) dx) sd dp c0 c1 fun H' y e k wl ds' g sh => q H' y e (k1.trans k) wl ds' g sh
end K02

-- imports: QS1 QS2 QS3 QM1 QM2 QM3 QM4 QM5 QM6 QM7 QM8 QM9 QM10 QM11 QM12 QJ1 QJ2 QL1 QL6
/-! ## k34: steps held against steps -/
set_option maxHeartbeats 4000000
set_option maxRecDepth 4000
namespace K02
open PySem PySem.Spec PyProof.Rows L2 Kb
mutual
theorem ta_nbl : ∀ {d e : PyData}, nbl d = true → nbl e = true → TA d e = true
  | .tuple xs, .tuple ys, h, g => by
    show (if xs.length = ys.length then TAs xs ys else true) = true
    split
    · exact tas_nbl h g
    · rfl
  | .tuple _, .none, _, _ => rfl
  | .tuple _, .int _, _, _ => rfl
  | .tuple _, .str _, _, _ => rfl
  | .none, .none, _, _ => rfl
  | .none, .int _, _, _ => rfl
  | .none, .str _, _, _ => rfl
  | .none, .tuple _, _, _ => rfl
  | .int _, .none, _, _ => rfl
  | .int _, .int _, _, _ => rfl
  | .int _, .str _, _, _ => rfl
  | .int _, .tuple _, _, _ => rfl
  | .str _, .none, _, _ => rfl
  | .str _, .int _, _, _ => rfl
  | .str _, .str _, _, _ => rfl
  | .str _, .tuple _, _, _ => rfl
theorem tas_nbl : ∀ {xs ys : List PyData}, nbls xs = true → nbls ys = true → TAs xs ys = true
  | [], _, _, _ => by cases ‹List PyData› <;> rfl
  | _ :: _, [], _, _ => rfl
  | x :: xs, y :: ys, h, g => by
    have h := Bool.and_eq_true_iff.mp (show (nbl x && nbls xs) = true from h)
    have g := Bool.and_eq_true_iff.mp (show (nbl y && nbls ys) = true from g)
    show (TA x y && TAs xs ys) = true
    rw [ta_nbl h.1 g.1, tas_nbl h.2 g.2]
    rfl
end
def GdL (xs ys : List PyData) : Prop := PyData.eqvAll xs ys = true → TAs xs ys = true
theorem gdl_nil : GdL [] [] := fun _ => rfl
theorem gdl_cons {x y : PyData} {xs ys : List PyData} (h : Gd x y) (g : GdL xs ys) : GdL (x :: xs) (y :: ys) := fun q => by
  unfold PyData.eqvAll at q
  rw [Bool.and_eq_true] at q
  show (TA x y && TAs xs ys) = true
  rw [h q.1, g q.2]
  rfl
theorem gd_ofl {xs ys : List PyData} (h : GdL xs ys) : Gd (.tuple xs) (.tuple ys) := fun q => by
  unfold PyData.eqv at q
  show (if xs.length = ys.length then TAs xs ys else true) = true
  rw [if_pos (eqvAll_len q)]
  exact h q
theorem gdl_mem : ∀ {xs ys : List PyData}, (∀ x ∈ xs, ∀ y ∈ ys, Gd x y) → GdL xs ys
  | [], [], _ => gdl_nil
  | [], _ :: _, _ => fun _ => rfl
  | _ :: _, [], _ => fun _ => rfl
  | x :: xs, y :: ys, h => gdl_cons (h x List.mem_cons_self y List.mem_cons_self) (gdl_mem fun a ha b hb => h a (List.mem_cons_of_mem _ ha) b (List.mem_cons_of_mem _ hb))
theorem v5_gd {d e : PyData} (h : V5 d) (g : V5 e) : Gd d e := by
  rcases h with rfl | rfl | rfl | rfl | rfl <;> rcases g with rfl | rfl | rfl | rfl | rfl <;> first
    | exact gd_refl
    | exact gd_no (by simp [PyData.eqv])
theorem f5_gd {d e : PyData} (h : F5 d) (g : F5 e) : Gd d e := by
  obtain ⟨n, w, j, l, rfl, hl⟩ := h
  obtain ⟨n', w', j', l', rfl, hl'⟩ := g
  refine gd_ofl (gdl_cons (fun _ => rfl) (gdl_cons (fun _ => rfl) (gdl_cons (fun _ => rfl) (gdl_cons (gd_ofl ?_) gdl_nil))))
  rcases hl with rfl | ⟨v, rfl, hv⟩ <;> rcases hl' with rfl | ⟨v', rfl, hv'⟩
  · exact gdl_nil
  · exact fun _ => rfl
  · exact fun _ => rfl
  · exact gdl_cons (v5_gd hv hv') gdl_nil
theorem e5_gd {d e : PyData} (h : E5 d) (g : E5 e) : Gd d e := by
  obtain ⟨w, v, rfl, hv⟩ := h
  obtain ⟨w', v', rfl, hv'⟩ := g
  exact gd_ofl (gdl_cons (fun _ => rfl) (gdl_cons (v5_gd hv hv') gdl_nil))
theorem eqv_head {d : PyData} {z : Str} {cs es : List PyData} (h : PyData.eqv (.tuple (d :: cs)) (.tuple (.str z :: es)) = true) : d = .str z := by
  unfold PyData.eqv PyData.eqvAll at h
  have h := (Bool.and_eq_true_iff.mp h).1
  cases d <;> simp [PyData.eqv] at h
  rw [h]
theorem eqv_comm' (d e : PyData) : PyData.eqv d e = PyData.eqv e d := PySem.W.eqv_comm d e
theorem ws_gd {d e : PyData} (h : WS d) (g : WS e) : Gd d e := by
  rcases h.sh with ⟨h1, h2⟩ | ⟨k, fs, ds, ls, rfl, h1, h2, h3⟩
  · rcases g.sh with ⟨g1, g2⟩ | ⟨k', fs', ds', ls', rfl, g1, g2, g3⟩
    · exact fun _ => ta_nbl h1 g1
    · intro q
      obtain ⟨c, cs, rfl⟩ := h.ne
      rw [eqv_head q] at h2
      exact absurd rfl (h2 cs)
  · rcases g.sh with ⟨g1, g2⟩ | ⟨k', fs', ds', ls', rfl, g1, g2, g3⟩
    · intro q
      obtain ⟨c, cs, rfl⟩ := g.ne
      rw [eqv_comm'] at q
      rw [eqv_head q] at g2
      exact absurd rfl (g2 cs)
    · exact gd_ofl (gdl_cons (fun _ => rfl) (gdl_cons (fun _ => rfl) (gdl_cons (gd_ofl (gdl_mem fun x hx y hy => f5_gd (h1 x hx) (g1 y hy))) (gdl_cons (gd_ofl (gdl_mem fun x hx y hy => e5_gd (h2 x hx) (g2 y hy))) (gdl_cons (gd_ofl fun _ => tas_nbl h3 g3) gdl_nil)))))
theorem nbls_all : ∀ {ds : List PyData}, (∀ d ∈ ds, nbl d = true) → nbls ds = true
  | [], _ => rfl
  | d :: ds, h => by
    show (nbl d && nbls ds) = true
    rw [h d List.mem_cons_self, nbls_all fun e m => h e (List.mem_cons_of_mem _ m)]
    rfl
theorem nbl_map {α : Type} {f : α → PyData} {l : List α} (h : ∀ a ∈ l, nbl (f a) = true) : nbls (l.map f) = true := nbls_all fun d m => by
  obtain ⟨a, ha, rfl⟩ := List.mem_map.mp m
  exact h a ha
theorem nbl_o {o : Option Int} : nbl (oD o) = true := by cases o <;> rfl
theorem nbl_caseF {ps : List Pr} {q : PC × PC} : nbl (caseF ps q) = true := by
  obtain ⟨⟨n1, z1, o1⟩, n2, z2, o2⟩ := q
  cases o2
  · rfl
  · cases o1 <;> rfl
theorem nbl_otherF {cs : List PC} : nbl (otherF cs) = true := by
  unfold otherF
  cases cs.find? fun c => c.num == 0 <;> rfl
theorem ws_step {m m' : SM} (wa : m.wf) (wb : m'.wf) (da : D5 m) (db : D5 m') {ps : List Pr} (l : ps.length ≤ 900) {s t : Srt} (is : SIn m s) (it : SIn m' t) : WS (stepF m m' ps s t) := by
  have h1 := sm_step wa wb da db l is it
  have h2 := (sh_step (ps := ps) wa wb is it).2
  by_cases c5 : (∃ k k', s = .node k ∧ t = .node k')
  · obtain ⟨k, k', rfl, rfl⟩ := c5
    have mk : (m.kinds.lookup k).isSome = true := is.1
    have mk' : (m'.kinds.lookup k').isSome = true := it.1
    refine ⟨h1, h2, ⟨_, _, rfl⟩, .inr ⟨k', _, _, _, rfl, fun f hf => ?_, fun e he => ?_, nbl_map fun _ _ => rfl⟩⟩
    · obtain ⟨q, hq, rfl⟩ := List.mem_map.mp hf
      obtain ⟨m1, m2, _⟩ := bothF_mem hq
      exact ⟨_, _, _, _, rfl, v5_dl (da _ (kind_mem mk) _ m1)⟩
    · obtain ⟨g, hg, e'⟩ := List.mem_filterMap.mp he
      obtain ⟨d', ed, rfl⟩ := Option.map_eq_some_iff.mp e'
      have mg := (List.mem_filter.mp hg).1
      exact ⟨_, _, rfl, db _ (kind_mem mk') _ mg d' ed⟩
  · have no : ∀ {z : Str} {ds cs : List PyData}, z ≠ "node" → PyData.tuple (.str z :: ds) ≠ .tuple (.str "node" :: cs) := fun h e => by
      injection e with e
      injection e with e _
      injection e with e
      exact h e
    by_cases c6 : (∃ k k', s = .pick k ∧ t = .pick k')
    · obtain ⟨k, k', rfl, rfl⟩ := c6
      refine ⟨h1, h2, ⟨_, _, rfl⟩, .inl ⟨?_, fun cs => no (by decide +kernel)⟩⟩
      show (true && (nbls _ && (nbl _ && true))) = true
      rw [nbl_map fun _ _ => nbl_caseF, nbl_otherF]
      rfl
    · cases s <;> cases t <;> first
        | exact absurd ⟨_, _, rfl, rfl⟩ c5
        | exact absurd ⟨_, _, rfl, rfl⟩ c6
        | exact ⟨h1, h2, ⟨_, _, rfl⟩, .inl ⟨rfl, fun cs => no (by decide +kernel)⟩⟩
        | (refine ⟨h1, h2, ⟨_, _, rfl⟩, .inl ⟨?_, fun cs => no (by decide +kernel)⟩⟩
           show (true && (nbl (oD _) && (nbl (oD _) && true))) = true
           rw [nbl_o, nbl_o]
           rfl)
theorem ws_made {m m' : SM} {U : List Pr} (M : Met m m' U) (da : D5 m) (db : D5 m') : ∀ d ∈ madeF m m', WS d := fun d hd => by
  obtain ⟨p, hp, rfl⟩ := List.mem_map.mp hd
  exact ws_step M.a M.b da db (by have := pairs_few M; have : NN = 160 := rfl; omega) (pairs_l M p hp).1 (pairs_l M p hp).2
theorem WS.shh {d : PyData} (h : WS d) : Sh 20 d := sh_sm h.sm (Nat.le_trans h.dp (by omega))
end K02

-- imports: QS1 QS2 QS3 QM1 QM2 QM3 QM4 QM5 QM6 QM7 QM8 QM9 QM10 QM11 QM12 QJ1 QJ2 QL1 QL6 QL7
/-! ## k34: a row of steps spoilt; the place that is due -/
set_option maxHeartbeats 4000000
set_option maxRecDepth 4000
namespace K02
open PySem PySem.Spec PyProof.Rows L2 Kb
theorem len_law_spoilt (K : PySem.W.Frag) : ∀ vs H Q E, sp_law_spoilt K vs H Q E → vs.length = ["_law_well", "_law_steps"].length := by
  intro vs H Q E h
  unfold sp_law_spoilt at h
  obtain ⟨_, _, _, rfl, _⟩ := h
  rfl
theorem len_law_due (K : PySem.W.Frag) : ∀ vs H Q E, sp_law_due K vs H Q E → vs.length = ["_law_steps", "_law_others"].length := by
  intro vs H Q E h
  unfold sp_law_due at h
  obtain ⟨_, _, _, _, rfl, _⟩ := h
  rfl
section
variable {K : PySem.W.Frag} {H H' : Hp} {Q : VK} {E : XK} {S L a b : Addr} {ds es : List PyData} {lo hi : Option Int}
theorem lsd_kpS (h : LsD K H L ds) (n : ∀ d ∈ ds, sm d = true) (ne : L ≠ S) (w : Wl H S) (k : Kp [S] H H') : LsD K H' L ds := by
  obtain ⟨xs, hx, hd⟩ := h
  exact ⟨xs, k _ _ (nm_cons ne List.not_mem_nil) hx, dpAll_kpT k w.noT (noLs_sms (sms_all n)) hd⟩
theorem lsd_ne (h : LsD K H L ds) (w : Wl H S) (n : ∀ d ∈ ds, WS d) (e : ds ≠ []) : L ≠ S := fun q => by
  obtain ⟨xs, hx, hd⟩ := h
  obtain ⟨c, k, hS⟩ := w
  rw [q, hS] at hx
  cases hx
  cases ds with
  | nil => exact e rfl
  | cons d ds =>
    cases hd with
    | cons h1 _ =>
      obtain ⟨c', cs, e'⟩ := (n d List.mem_cons_self).ne
      rw [e'] at h1
      cases h1
theorem slLs_go (h : LsD K H L ds) (q : ∀ H' p, Kp [] H H' → H p = none → LsD K H' p (Kb.cutD ds lo hi) → Q (.ref p) H') : rSlLU K (.ref L) lo hi H Q := by
  obtain ⟨xs, hx, hd⟩ := h
  refine slL_go (SqL.of hx) fun p np => ?_
  have k := (Kp.refl (M := []) (H := H)).upd_new' (o := .lst (cutV xs lo hi)) np
  exact q _ p k np ⟨_, upd_same, dpAll_cut (dpAll_kp0 k hd)⟩
theorem addLs_go (h : LsD K H a ds) (g : LsD K H b es) (l : ds.length + es.length ≤ 16777216) (q : ∀ H' p, Kp [] H H' → H p = none → LsD K H' p (ds ++ es) → Q (.ref p) H') : rAddU K (.ref a) (.ref b) H Q := by
  obtain ⟨xs, hx, hd⟩ := h
  obtain ⟨ys, hy, he⟩ := g
  refine addL_go hx hy (by rw [dpAll_len hd, dpAll_len he]; exact l) fun p np => ?_
  have k := (Kp.refl (M := []) (H := H)).upd_new' (o := .lst (xs ++ ys)) np
  exact q _ p k np ⟨_, upd_same, dpAll_app (dpAll_kp0 k hd) (dpAll_kp0 k he)⟩
theorem dpAll_rev : ∀ {xs : List V} {ds : List PyData}, DpAll K H xs ds → DpAll K H xs.reverse ds.reverse
  | _, [], h => by cases h; exact .nil
  | _, d :: ds, h => by
    cases h with
    | cons a b =>
      rw [List.reverse_cons, List.reverse_cons]
      exact dpAll_app (dpAll_rev b) (dpAll_one a)
theorem ixLs_go {i : Nat} {d : PyData} (h : LsD K H L ds) (e : ds[i]? = some d) (q : ∀ v, Dp K H v d → Q v H) : rIxU K (.ref L) (.int (i : Nat)) H Q := ixQ_go h.sqD e q
theorem lenLs_go (h : LsD K H L ds) (q : Q (.int (ds.length : Nat)) H) : rLenU K [.ref L] H Q := Kb.lenQ_go h.sqD q
/-- what a spoilt row is, for the law -/
def SpQ (K : PySem.W.Frag) (H : Hp) (S : Addr) (ds : List PyData) (Q : VK) : Prop := ∀ (H' : Hp) (L' : Addr) (es : List PyData), Kp [S] H H' → Wl H' S → LsD K H' L' es → (∀ (i : Nat) (d e : PyData), ds[i]? = some d → es[i]? = some e → Gd d e) → (∀ e ∈ es, Sh 20 e) → es.length ≤ 4000 → Q (.ref L') H'
theorem SpQ.ws {H0 : Hp} (q : SpQ K H0 S ds Q) (hw : ∀ d ∈ ds, WS d) (k : Kp [S] H0 H) (w : Wl H S) (h : LsD K H L es) (g : ∀ e ∈ es, WS e) (l : es.length ≤ 4000) : Q (.ref L) H :=
  q H L es k w h (fun i d e hd he => ws_gd (hw d (List.mem_of_getElem? hd)) (g e (List.mem_of_getElem? he))) (fun e he => (g e he).shh) l
theorem mem_cut {e : PyData} (h : e ∈ Kb.cutD ds lo hi) : e ∈ ds := List.mem_of_mem_drop (List.mem_of_mem_take h)
theorem len_cut : (Kb.cutD ds lo hi).length ≤ ds.length := by
  unfold Kb.cutD
  rw [List.length_take, List.length_drop]
  omega
theorem ws_truth : WS (.tuple [.str "truth"]) := ⟨by decide +kernel, by simp [PyData.depth, PyData.depthAll], ⟨_, _, rfl⟩, .inl ⟨rfl, fun cs e => by
  injection e with e
  injection e with e _
  injection e with e
  exact absurd e (by decide +kernel)⟩⟩
theorem spoilt_b5 {H0 : Hp} {i : Nat} {x6 : V} {ys : List V} {cs : List PyData} {e6 : PyData} {j : Nat} {u2 : Option V} {ya : Addr} (w : Wl H S) (k0 : Kp [S] H0 H) (hL : LsD K H L ds) (ll : ds.length ≤ 1000) (hw : ∀ d ∈ ds, WS d) (hi : ds[i]? = some (.tuple cs)) (hya : SqT K H ya ys) (hyd : DpAll K H ys cs) (hj : j < cs.length) (st : DpS K S H x6 e6) (g6 : Gd (.tuple cs) e6) (s6 : Sh 20 e6) (q : SpQ K H0 S ds Q) :
    b_law_spoilt_5 K { nx := fun _ H' => Q .non H', rt := Q } [some (.ref S), some (.ref L), u2, some (.int (i : Nat)), some (.ref ya), some (.int (j : Nat)), some x6] H := by
  have hlt : i < ds.length := (List.getElem?_eq_some_iff.mp hi).1
  have ne : L ≠ S := lsd_ne hL w hw (fun e => by rw [e] at hlt; exact absurd hlt (Nat.not_lt_zero _))
  have ksm : ∀ e ∈ ds, sm e = true := fun e he => (hw e he).sm
  have hd := hw _ (List.mem_of_getElem? hi)
  have sms' := (Bool.and_eq_true_iff.mp hd.sm).2
  have l1 : cs.length ≤ 1000 := of_decide_eq_true (Bool.and_eq_true_iff.mp hd.sm).1
  have lx := dpAll_len hyd
  have dd : PyData.depthAll cs + 1 ≤ 6 := by rw [← depth_tup]; exact hd.dp
  have nlc : noLs cs = true := noLs_sms sms'
  have hx : Dp K H (.ref ya) (.tuple cs) := .tup hya hyd
  unfold b_law_spoilt_5
  walk_at "go"
  refine slLs_go hL fun H1 p1 k1 n1 h1 => ?_
  rw [cutD_take (by omega)] at h1
  have w1 := w.kp k1 List.not_mem_nil
  walk_at "go"
  refine slA_go (k1.sqT List.not_mem_nil hya) fun H2 p2 k2 hp2 => ?_
  have w2 := w1.kp k2 List.not_mem_nil
  walk_at "go"
  rename_i T nT
  have kT := (Kp.refl (M := []) (H := H2)).upd_new' (o := .tup [.int 0]) nT
  have hT : SqT K (upd H2 T (.tup [.int 0])) T [.int 0] := SqT.of upd_same
  generalize upd H2 T (.tup [.int 0]) = H3 at kT hT ⊢
  have w3 := w2.kp kT List.not_mem_nil
  have hy3 := (k2.trans kT).sqT List.not_mem_nil (k1.sqT List.not_mem_nil hya)
  refine addA_go hy3 hT (by show ys.length + 1 ≤ _; omega) fun H4 p4 k4 hp4 => ?_
  have w4 := w3.kp k4 List.not_mem_nil
  have sc4 : SW H4 S H4 := ⟨Kp.refl, w4⟩
  walk_at "go"
  rename_i p5 n5 p6 n6 H7 r sc7 k7 c0 c1
  have k5 := (Kp.refl (M := []) (H := H4)).upd_new' (o := .lst [x6, .ref p2, .ref p4]) n5
  have h5 : (upd H4 p5 (.lst [x6, .ref p2, .ref p4])) p5 = some (.lst [x6, .ref p2, .ref p4]) := upd_same
  have w5 := w4.kp k5 List.not_mem_nil
  have n5S := w4.ne n5
  generalize upd H4 p5 (.lst [x6, .ref p2, .ref p4]) = H5 at n6 sc7 k7 k5 h5 w5
  have k6 := (Kp.refl (M := []) (H := H5)).upd_new' (o := .lst [.int 0, .int 0, .int 0, .int 1, .int 2]) n6
  have h6 : (upd H5 p6 (.lst [.int 0, .int 0, .int 0, .int 1, .int 2])) p6 = some (.lst [.int 0, .int 0, .int 0, .int 1, .int 2]) := upd_same
  have n6S := w5.ne n6
  have w6 := w5.kp k6 List.not_mem_nil
  generalize upd H5 p6 (.lst [.int 0, .int 0, .int 0, .int 1, .int 2]) = H6 at k7 k6 h6 w6
  have h67 := k7 _ _ (nm_cons n6S List.not_mem_nil) h6
  have h57 := k7 _ _ (nm_cons n5S List.not_mem_nil) (k6 _ _ List.not_mem_nil h5)
  have k06 : Kp [] H H6 := ((((k1.trans k2).trans kT).trans k4).trans k5).trans k6
  have k07 : Kp [S] H H7 := (k06.mono fun b m => absurd m List.not_mem_nil).trans k7
  have w7 := sc7.2
  have p1S : p1 ≠ S := w.ne n1
  have hp1 : LsD K H7 p1 (ds.take i) := lsd_kpS (h1.kp0 ((((k2.trans kT).trans k4).trans k5).trans k6)) (fun e m => ksm e (List.mem_of_mem_take m)) p1S w6 k7
  have hL7 : LsD K H7 L ds := lsd_kpS hL ksm ne w k07
  have el : ∀ e ∈ cs, Sh 19 e := fun e me => sh_sm (sms_mem sms' me) (by have := depth_mem me; omega)
  -- the three that may stand there
  have q1 : ∃ e, Dp K H7 x6 e ∧ Gd (.tuple cs) e ∧ Sh 20 e ∧ ∀ H'', Kp [] H7 H'' → Dp K H'' x6 e := ⟨e6, st H7 k07, g6, s6, fun H'' k => st H'' (k07.trans (k.mono fun b m => absurd m List.not_mem_nil))⟩
  have two : ∀ {p : Addr} {es : List PyData}, Dp K H6 (.ref p) (.tuple es) → noLs es = true → es.length ≠ cs.length → (∀ e ∈ es, Sh 19 e) → ∃ e, Dp K H7 (.ref p) e ∧ Gd (.tuple cs) e ∧ Sh 20 e ∧ ∀ H'', Kp [] H7 H'' → Dp K H'' (.ref p) e := fun {p es} hp hn hl hs => by
    have := dp_kpT k7 w6.noT (d := .tuple es) hn hp
    exact ⟨_, this, gd_len (Ne.symm hl), sh_tup hs, fun H'' k => dp_kp0 k this⟩
  have c2 := dpAll_cut (lo := none) (hi := some (j : Int)) (dpAll_kp0 k06 hyd)
  rw [cutD_take (by omega)] at c2
  have q2 := two (p := p2) (es := cs.take j) (.tup ((((kT.trans k4).trans k5).trans k6).sqT List.not_mem_nil hp2) c2) (noLs_all fun e m => noL_sm (sms_mem sms' (List.mem_of_mem_take m))) (by rw [List.length_take]; omega) (fun e m => el e (List.mem_of_mem_take m))
  have q3 := two (p := p4) (es := cs ++ [.int 0]) (.tup ((k5.trans k6).sqT List.not_mem_nil hp4) (dpAll_app (dpAll_kp0 k06 hyd) (dpAll_one (.int 0)))) (noLs_all fun e m => (List.mem_append.mp m).elim (fun m => noL_sm (sms_mem sms' m)) (fun m => by rw [List.mem_singleton.mp m]; rfl)) (by rw [List.length_append]; show _ + 1 ≠ _; omega) (fun e m => (List.mem_append.mp m).elim (el e) (fun m => by rw [List.mem_singleton.mp m]; exact sh_int))
  refine ixP_go (fun v => v = .int 0 ∨ v = .int 1 ∨ v = .int 2) h67 c0 (by show r < 5; exact c1) (fun v m => ?_) fun v hv => ?_
  · simp only [List.mem_cons, List.not_mem_nil, or_false] at m
    rcases m with rfl | rfl | rfl | rfl | rfl
    · exact .inl rfl
    · exact .inl rfl
    · exact .inl rfl
    · exact .inr (.inl rfl)
    · exact .inr (.inr rfl)
  · have main : ∀ {x : V}, (∃ e, Dp K H7 x e ∧ Gd (.tuple cs) e ∧ Sh 20 e ∧ ∀ H'', Kp [] H7 H'' → Dp K H'' x e) → ∀ p8, H7 p8 = none → rAddU K (.ref p1) (.ref p8) (upd H7 p8 (.lst [x])) fun x' H1 => tSl (rSlLU K) (tVar 1) (tPart (tOp (rAddU K) (tVar 3) (tC (.int 1)))) tNoPart [some (.ref S), some (.ref L), u2, some (.int (i : Nat)), some (.ref ya), some (.int (j : Nat)), some x6] H1 fun y H2 => rAddU K x' y H2 Q := fun {x} ⟨e, d7, gd, sh, stx⟩ p8 n8 => by
      have k8 := (Kp.refl (M := []) (H := H7)).upd_new' (o := .lst [x]) n8
      have h8 : LsD K (upd H7 p8 (.lst [x])) p8 [e] := ⟨_, upd_same, dpAll_one (stx _ k8)⟩
      generalize upd H7 p8 (.lst [x]) = H8 at k8 h8 ⊢
      refine addLs_go (hp1.kp0 k8) h8 (by rw [List.length_take]; show _ + 1 ≤ _; omega) fun H9 p9 k9 n9 h9 => ?_
      walk_at "go"
      refine slLs_go (hL7.kp0 (k8.trans k9)) fun H10 p10 k10 n10 h10 => ?_
      rw [show ((i : Int) + 1) = ((i + 1 : Nat) : Int) from rfl, cutD_drop (by omega)] at h10
      refine addLs_go (h9.kp0 k10) h10 (by rw [List.length_append, List.length_take, List.length_drop]; show _ + 1 + _ ≤ _; omega) fun H11 p11 k11 n11 h11 => ?_
      have k711 : Kp [] H7 H11 := ((k8.trans k9).trans k10).trans k11
      refine q H11 p11 _ (k0.trans (k07.trans (k711.mono fun b m => absurd m List.not_mem_nil))) (w7.kp k711 List.not_mem_nil) h11 (fun l d e' hd' he' => ?_) (fun e' m => ?_) (by rw [List.length_append, List.length_append, List.length_take, List.length_drop]; show _ + 1 + _ ≤ _; omega)
      · rcases Nat.lt_trichotomy l i with g | g | g
        · rw [List.append_assoc, List.getElem?_append_left (by rw [List.length_take]; omega), List.getElem?_take_of_lt g, hd'] at he'
          cases he'
          exact gd_refl
        · subst g
          rw [hi] at hd'
          cases hd'
          rw [List.append_assoc, List.getElem?_append_right (by rw [List.length_take]; omega), List.length_take, Nat.min_eq_left (by omega), Nat.sub_self] at he'
          cases he'
          exact gd
        · rw [List.getElem?_append_right (by rw [List.length_append, List.length_take]; show _ + 1 ≤ _; omega), List.length_append, List.length_take, Nat.min_eq_left (by omega), List.getElem?_drop] at he'
          have e1 : i + 1 + (l - (i + [e].length)) = l := by show i + 1 + (l - (i + 1)) = l; omega
          rw [e1, hd'] at he'
          cases he'
          exact gd_refl
      · rcases List.mem_append.mp m with m | m
        · rcases List.mem_append.mp m with m | m
          · exact (hw _ (List.mem_of_mem_take m)).shh
          · rw [List.mem_singleton.mp m]
            exact sh
        · exact (hw _ (List.mem_of_mem_drop m)).shh
    rcases hv with rfl | rfl | rfl
    · refine ixL_go (SqL.of h57) rfl ?_
      walk_at "go"
      exact main q1 _ (by assumption)
    · refine ixL_go (SqL.of h57) rfl ?_
      walk_at "go"
      exact main q2 _ (by assumption)
    · refine ixL_go (SqL.of h57) rfl ?_
      walk_at "go"
      exact main q3 _ (by assumption)
theorem spoilt_b4 {H0 : Hp} {i : Nat} {d : PyData} {y : V} {u2 u5 u6 : Option V} (w : Wl H S) (k0 : Kp [S] H0 H) (hL : LsD K H L ds) (ll : ds.length ≤ 1000) (hw : ∀ d ∈ ds, WS d) (hi : ds[i]? = some d) (hy : Dp K H y d) (q : SpQ K H0 S ds Q) :
    b_law_spoilt_4 K { nx := fun _ H' => Q .non H', rt := Q } [some (.ref S), some (.ref L), u2, some (.int (i : Nat)), some y, u5, u6] H := by
  have sc0 : SW H S H := ⟨Kp.refl, w⟩
  have hlt : i < ds.length := (List.getElem?_eq_some_iff.mp hi).1
  have ne : L ≠ S := lsd_ne hL w hw (fun e => by rw [e] at hlt; exact absurd hlt (Nat.not_lt_zero _))
  have ksm : ∀ e ∈ ds, sm e = true := fun e he => (hw e he).sm
  have hd := hw d (List.mem_of_getElem? hi)
  obtain ⟨c, cs0, rfl⟩ := hd.ne
  obtain ⟨cs, ecs⟩ : ∃ cs, cs = c :: cs0 := ⟨_, rfl⟩
  rw [← ecs] at hd hi hy
  have cne : 0 < cs.length := by rw [ecs]; exact Nat.succ_pos _
  obtain ⟨ya, ys, rfl, hya, hyd⟩ := dp_tup hy
  have sms' := (Bool.and_eq_true_iff.mp hd.sm).2
  have l1 : cs.length ≤ 1000 := of_decide_eq_true (Bool.and_eq_true_iff.mp hd.sm).1
  have lx := dpAll_len hyd
  have dd : PyData.depthAll cs + 1 ≤ 6 := by rw [← depth_tup]; exact hd.dp
  have lxs : ((ys.length : Nat) : Int) < 1001 := by omega
  have lx0 : (0 : Int) < ((ys.length : Nat) : Int) := by omega
  unfold b_law_spoilt_4
  walk_at "go"
  rename_i H1 jj sc1 k1 c0 c1
  obtain ⟨j, rfl⟩ : ∃ j : Nat, jj = j := ⟨jj.toNat, by omega⟩
  have hj : j < cs.length := by omega
  have ha1 := sqT_kpT k1 w.noT hya
  have hd1 := dpAll_kpT k1 w.noT (noLs_sms sms') hyd
  have hx1 : Dp K H1 (.ref ya) (.tuple cs) := .tup ha1 hd1
  refine slA_go ha1 fun H2 p2 k2 hp2 => ?_
  walk_at "go"
  have ei := List.getElem?_eq_getElem hj
  have mi := List.getElem_mem hj
  generalize cs[j] = d at ei mi
  have w2 := sc1.2.kp k2 List.not_mem_nil
  show rIxU K (.ref ya) (.int (j : Nat)) H2 _
  refine ixDp_go (dp_kp0 k2 hx1) ei fun v hv => ?_
  walk_at "go"
  show sp_law_other K 8 [.ref S, v] H2 _ _
  have dmi := depth_mem mi
  refine lother_go w2 hv (sms_mem sms' mi) (by omega) fun H3 z e k3 w3 st gd sh => ?_
  walk_at "go"
  rename_i T nT
  have kT := (Kp.refl (M := []) (H := H3)).upd_new' (o := .tup [z]) nT
  have hp3 := sqT_kpT k3 w2.noT hp2
  refine addA_go (kT.sqT List.not_mem_nil hp3) (SqT.of upd_same) (by have := cutV_length ys none (some (j : Int)); show _ + 1 ≤ _; omega) fun H5 p5 k5 hp5 => ?_
  walk_at "go"
  have k35 := kT.trans k5
  have w5 := w3.kp k35 List.not_mem_nil
  have ha5 := (k35.sqT List.not_mem_nil (sqT_kpT k3 w2.noT (k2.sqT List.not_mem_nil ha1)))
  unfold tNoPart
  refine slA_go ha5 fun H6 p6 k6 hp6 => ?_
  walk_at "go"
  refine addA_go (k6.sqT List.not_mem_nil hp5) hp6 (by have := cutV_length ys none (some (j : Int)); have := cutV_length ys (some ((j : Int) + 1)) none; rw [List.length_append]; show _ + 1 + _ ≤ _; omega) fun H7 p7 k7 hp7 => ?_
  have k37 := (k35.trans k6).trans k7
  have w7 := w3.kp k37 List.not_mem_nil
  have kS : Kp [S] H1 H7 := ((k2.mono fun b m => absurd m List.not_mem_nil).trans k3).trans (k37.mono fun b m => absurd m List.not_mem_nil)
  have hd7 := dpAll_kpT kS sc1.2.noT (noLs_sms sms') hd1
  have c1 := dpAll_cut (lo := none) (hi := some (j : Int)) hd7
  have c2 := dpAll_cut (lo := some ((j : Int) + 1)) (hi := none) hd7
  rw [cutD_take (by omega)] at c1
  rw [show ((j : Int) + 1) = ((j + 1 : Nat) : Int) from rfl, cutD_drop (by omega)] at c2
  have mt : ∀ e ∈ cs.take j, e ∈ cs := fun e m => List.mem_of_mem_take m
  have md : ∀ e ∈ cs.drop (j + 1), e ∈ cs := fun e m => List.mem_of_mem_drop m
  have nt : noLs (cs.take j) = true := noLs_all fun e m => noL_sm (sms_mem sms' (mt e m))
  have nd : noLs (cs.drop (j + 1)) = true := noLs_all fun e m => noL_sm (sms_mem sms' (md e m))
  have el : ∀ e ∈ cs, Sh 8 e := fun e me => sh_sm (sms_mem sms' me) (by have := depth_mem me; omega)
  have k17 : Kp [S] H H7 := k1.trans kS
  walk_at "go"
  refine spoilt_b5 (x6 := .ref p7) (e6 := .tuple (cs.take j ++ [e] ++ cs.drop (j + 1))) (cs := cs) (ys := ys) w7 (k0.trans k17) (lsd_kpS hL ksm ne w k17) ll hw hi (sqT_kpT kS sc1.2.noT ha1) hd7 hj (fun H'' k => ?_) (gd_at ei gd) (sh_mono (sh_tup (n := 8) fun e' m => ?_) (by omega)) q
  · refine .tup (sqT_kpT k w7.noT hp7) (dpAll_app (dpAll_app (dpAll_kpT k w7.noT nt c1) (dpAll_one (st H'' ?_))) (dpAll_kpT k w7.noT nd c2))
    exact (k37.mono fun b m => absurd m List.not_mem_nil).trans k
  · rcases List.mem_append.mp m with m | m
    · rcases List.mem_append.mp m with m | m
      · exact el e' (mt e' m)
      · rw [List.mem_singleton.mp m]
        exact sh
    · exact el e' (md e' m)
theorem spoilt_b0 {H0 : Hp} {i : Nat} {r : Int} {d : PyData} {y : V} {u5 u6 : Option V} (w : Wl H S) (k0 : Kp [S] H0 H) (hL : LsD K H L ds) (ll : ds.length ≤ 1000) (hw : ∀ d ∈ ds, WS d) (hi : ds[i]? = some d) (hy : Dp K H y d) (r0 : 0 ≤ r) (r1 : r < 9) (q : SpQ K H0 S ds Q) :
    b_law_spoilt_0 K { nx := fun _ H' => Q .non H', rt := Q } [some (.ref S), some (.ref L), some (.int r), some (.int (i : Nat)), some y, u5, u6] H := by
  have sc0 : SW H S H := ⟨Kp.refl, w⟩
  have hlt : i < ds.length := (List.getElem?_eq_some_iff.mp hi).1
  have ne : L ≠ S := lsd_ne hL w hw (fun e => by rw [e] at hlt; exact absurd hlt (Nat.not_lt_zero _))
  have ksm : ∀ e ∈ ds, sm e = true := fun e he => (hw e he).sm
  unfold b_law_spoilt_0
  walk_at "go"
  · refine slLs_go hL fun H1 p1 k1 n1 h1 => ?_
    walk_at "go"
    refine slLs_go (hL.kp0 k1) fun H2 p2 k2 n2 h2 => ?_
    walk_at "go"
    refine addLs_go (h1.kp0 k2) h2 (by have := len_cut (ds := ds) (lo := none) (hi := some (i : Int)); have := len_cut (ds := ds) (lo := some ((i : Int) + 1)) (hi := none); omega) fun H3 p3 k3 n3 h3 => ?_
    have kk := (k1.trans k2).trans k3
    exact q.ws hw (k0.trans (kk.mono fun b m => absurd m List.not_mem_nil)) (w.kp kk List.not_mem_nil) h3 (fun e m => hw e ((List.mem_append.mp m).elim mem_cut mem_cut)) (by rw [List.length_append]; have := len_cut (ds := ds) (lo := none) (hi := some (i : Int)); have := len_cut (ds := ds) (lo := some ((i : Int) + 1)) (hi := none); omega)
  unfold b_law_spoilt_1
  walk_at "go"
  · refine slLs_go hL fun H1 p1 k1 n1 h1 => ?_
    walk_at "go"
    refine slLs_go (hL.kp0 k1) fun H2 p2 k2 n2 h2 => ?_
    walk_at "go"
    refine addLs_go (h1.kp0 k2) h2 (by have := len_cut (ds := ds) (lo := none) (hi := some ((i : Int) + 1)); have := len_cut (ds := ds) (lo := some (i : Int)) (hi := none); omega) fun H3 p3 k3 n3 h3 => ?_
    have kk := (k1.trans k2).trans k3
    exact q.ws hw (k0.trans (kk.mono fun b m => absurd m List.not_mem_nil)) (w.kp kk List.not_mem_nil) h3 (fun e m => hw e ((List.mem_append.mp m).elim mem_cut mem_cut)) (by rw [List.length_append]; have := len_cut (ds := ds) (lo := none) (hi := some ((i : Int) + 1)); have := len_cut (ds := ds) (lo := some (i : Int)) (hi := none); omega)
  unfold b_law_spoilt_2
  walk_at "go"
  · refine slLs_go hL fun H1 p1 k1 n1 h1 => ?_
    walk_at "go"
    refine slLs_go (hL.kp0 k1) fun H2 p2 k2 n2 h2 => ?_
    obtain ⟨zs, hz, hzd⟩ := h2
    refine ⟨p2, zs, rfl, SqL.of hz, fun p3 n3 => ?_⟩
    have k3 := (Kp.refl (M := []) (H := H2)).upd_new' (o := .lst zs.reverse) n3
    have h3 : LsD K (upd H2 p3 (.lst zs.reverse)) p3 (Kb.cutD ds (some (i : Int)) (some ((i : Int) + 2))).reverse := ⟨_, upd_same, dpAll_rev (dpAll_kp0 k3 hzd)⟩
    generalize upd H2 p3 (.lst zs.reverse) = H3 at k3 h3 ⊢
    walk_at "go"
    have l1 := len_cut (ds := ds) (lo := none) (hi := some (i : Int))
    have l2 := len_cut (ds := ds) (lo := some (i : Int)) (hi := some ((i : Int) + 2))
    have l3 := len_cut (ds := ds) (lo := some ((i : Int) + 2)) (hi := none)
    refine addLs_go (h1.kp0 (k2.trans k3)) h3 (by rw [List.length_reverse]; omega) fun H4 p4 k4 n4 h4 => ?_
    walk_at "go"
    have k14 := ((k1.trans k2).trans k3).trans k4
    refine slLs_go (hL.kp0 k14) fun H5 p5 k5 n5 h5 => ?_
    walk_at "go"
    refine addLs_go (h4.kp0 k5) h5 (by rw [List.length_append, List.length_reverse]; omega) fun H6 p6 k6 n6 h6 => ?_
    have kk := (k14.trans k5).trans k6
    refine q.ws hw (k0.trans (kk.mono fun b m => absurd m List.not_mem_nil)) (w.kp kk List.not_mem_nil) h6 (fun e m => ?_) (by rw [List.length_append, List.length_append, List.length_reverse]; omega)
    rcases List.mem_append.mp m with m | m
    · rcases List.mem_append.mp m with m | m
      · exact hw e (mem_cut m)
      · exact hw e (mem_cut (List.mem_reverse.mp m))
    · exact hw e (mem_cut m)
  unfold b_law_spoilt_3
  walk_at "go"
  · rename_i p1 n1 p2 n2
    have k1 := (Kp.refl (M := []) (H := H)).upd_new' (o := .tup [.str "truth"]) n1
    have d1 : Dp K (upd H p1 (.tup [.str "truth"])) (.ref p1) (.tuple [.str "truth"]) := .tup (SqT.of upd_same) (dpAll_one (.str "truth"))
    generalize upd H p1 (.tup [.str "truth"]) = G1 at n2 k1 d1 ⊢
    have k2 := (Kp.refl (M := []) (H := G1)).upd_new' (o := .lst [.ref p1]) n2
    have h2 : LsD K (upd G1 p2 (.lst [.ref p1])) p2 [.tuple [.str "truth"]] := ⟨_, upd_same, dpAll_one (dp_kp0 k2 d1)⟩
    generalize upd G1 p2 (.lst [.ref p1]) = G2 at k2 h2 ⊢
    have k12 := k1.trans k2
    have w2 := w.kp k12 List.not_mem_nil
    refine addLs_go (hL.kp0 k12) h2 (by show _ + 1 ≤ _; omega) fun G3 p3 k3 n3 h3 => ?_
    have w3 := w2.kp k3 List.not_mem_nil
    walk_at "go"
    refine slLs_go (hL.kp0 (k12.trans k3)) fun G4 p4 k4 n4 h4 => ?_
    have w4 := w3.kp k4 List.not_mem_nil
    have lc := len_cut (ds := ds) (lo := none) (hi := some (-1))
    have sc4 : SW G4 S G4 := ⟨Kp.refl, w4⟩
    walk_at "go"
    rename_i p5 n5 p6 n6 G7 j sc7 k7 c0 c1
    have k5 := (Kp.refl (M := []) (H := G4)).upd_new' (o := .lst []) n5
    have h5 : LsD K (upd G4 p5 (.lst [])) p5 [] := ⟨_, upd_same, .nil⟩
    have w5 := w4.kp k5 List.not_mem_nil
    have n5S := w4.ne n5
    generalize upd G4 p5 (.lst []) = G5 at n6 sc7 k7 k5 h5 w5
    have k6 := (Kp.refl (M := []) (H := G5)).upd_new' (o := .lst [.ref p3, .ref p4, .ref p5, .ref L]) n6
    have h6 : (upd G5 p6 (.lst [.ref p3, .ref p4, .ref p5, .ref L])) p6 = some (.lst [.ref p3, .ref p4, .ref p5, .ref L]) := upd_same
    have n6S := w5.ne n6
    have w6 := w5.kp k6 List.not_mem_nil
    generalize upd G5 p6 (.lst [.ref p3, .ref p4, .ref p5, .ref L]) = G6 at k7 k6 h6 w6
    have h67 := k7 _ _ (nm_cons n6S List.not_mem_nil) h6
    have kk : Kp [S] H0 G7 := (k0.trans ((((k12.trans k3).trans k4).trans (k5.trans k6)).mono fun b m => absurd m List.not_mem_nil)).trans k7
    refine ixP_go (fun v => ∃ p es, v = .ref p ∧ LsD K G6 p es ∧ (∀ e ∈ es, WS e) ∧ p ≠ S ∧ es.length ≤ 4000) h67 c0 (by show j < 4; exact c1) (fun v m => ?_) fun v hv => ?_
    · simp only [List.mem_cons, List.not_mem_nil, or_false] at m
      rcases m with rfl | rfl | rfl | rfl
      · refine ⟨p3, _, rfl, h3.kp0 (k4.trans (k5.trans k6)), fun e m => ?_, w2.ne n3, by rw [List.length_append]; show _ + 1 ≤ _; omega⟩
        rcases List.mem_append.mp m with m | m
        · exact hw e m
        · rw [List.mem_singleton.mp m]
          exact ws_truth
      · exact ⟨p4, _, rfl, h4.kp0 (k5.trans k6), fun e m => hw e (mem_cut m), w3.ne n4, by omega⟩
      · exact ⟨p5, [], rfl, h5.kp0 k6, (fun e m => nomatch m), n5S, Nat.zero_le _⟩
      · exact ⟨L, ds, rfl, hL.kp0 (((k12.trans k3).trans k4).trans (k5.trans k6)), hw, ne, by omega⟩
    · obtain ⟨p, es, rfl, hp, hes, pS, le⟩ := hv
      exact q.ws hw kk sc7.2 (lsd_kpS hp (fun e m => (hes e m).sm) pS w6 k7) hes le
  · exact spoilt_b4 w k0 hL ll hw hi hy q
end
theorem p_law_spoilt (K : PySem.W.Frag) (vs : List V) (H : Hp) (Q : VK) (E : XK) (h : sp_law_spoilt K vs H Q E) : t_law_spoilt K { nx := fun _ H' => Q .non H', rt := Q } (start ["_law_well", "_law_steps", "_law_way", "_law_at", "_law_step", "_law_place", "_law_other_here"] vs) H := by
  unfold sp_law_spoilt at h
  obtain ⟨S, L, ds, rfl, w, hL, ne, ll, hw, nLS, q⟩ := h
  have sc0 : SW H S H := ⟨Kp.refl, w⟩
  have l0 : 0 < ds.length := List.length_pos_iff.mpr ne
  have ksm : ∀ e ∈ ds, sm e = true := fun e he => (hw e he).sm
  unfold t_law_spoilt
  walk_at "go"
  rename_i H1 r sc1 k1 c0 c1
  have hL1 := lsd_kpS hL ksm nLS w k1
  refine lenLs_go hL1 ?_
  refine draw_go ⟨Kp.refl, sc1.2⟩ (by omega) (log_small (by omega) (by omega)) fun H2 jj sc2 k2 d0 d1 => ?_
  obtain ⟨j, rfl⟩ : ∃ j : Nat, jj = j := ⟨jj.toNat, by omega⟩
  have hj : j < ds.length := by omega
  have hL2 := lsd_kpS hL1 ksm nLS sc1.2 k2
  walk_at "go"
  have ej := List.getElem?_eq_getElem hj
  show rIxU K (.ref L) (.int (j : Nat)) H2 _
  refine ixLs_go hL2 ej fun v hv => ?_
  walk_at "go"
  exact spoilt_b0 (H0 := H) sc2.2 (k1.trans k2) hL2 ll hw ej hv c0 c1 q
theorem p_law_due (K : PySem.W.Frag) (vs : List V) (H : Hp) (Q : VK) (E : XK) (h : sp_law_due K vs H Q E) : t_law_due K { nx := fun _ H' => Q .non H', rt := Q } (start ["_law_steps", "_law_others", "_law_at"] vs) H := by
  unfold sp_law_due at h
  obtain ⟨a, b, ds, es, rfl, ha, hb, la, lb, sa, sb, q⟩ := h
  unfold t_law_due
  walk_at "go"
  refine Kb.lenQ_go ha ?_
  walk_at "go"
  refine Kb.lenQ_go hb ?_
  walk_at "go"
  refine max2_go ?_
  rw [max_int]
  walk_at "go"
  refine for_it walk_range (fun i σ H' => ∃ u2, σ = [some (.ref a), some (.ref b), u2] ∧ Kp [] H H' ∧ ∀ j, j < i → badAt badL ds es j = false) ⟨_, rfl, Kp.refl, fun j hj => absurd hj (Nat.not_lt_zero _)⟩ (fun i σ H' _ _ => trivial) ?_ (fun σ H' h => ?_)
  · rintro i x σ Ha Hb hi ⟨u2, rfl, kb, ok⟩ ⟨rfl, rfl⟩
    have ei : (fun i : Nat => V.int (0 + (i : Int))) i = V.int (i : Int) := by show V.int (0 + (i : Int)) = _; rw [Int.zero_add]
    rw [ei]
    have hab := ha.kp0 kb
    have hbb := hb.kp0 kb
    have bad : badAt badL ds es i = true → Q (.int (i : Int)) Hb := fun h => by
      have := q Hb kb
      rw [fb_some ok h (by omega)] at this
      exact this
    walk_at "go"
    refine Kb.lenQ_go hab ?_
    walk_at "go"
    · exact bad (badAt_l (by omega))
    refine Kb.lenQ_go hbb ?_
    walk_at "go"
    · exact bad (badAt_r (by omega))
    have h1 : i < ds.length := by omega
    have h2 : i < es.length := by omega
    have e1 := List.getElem?_eq_getElem h1
    have e2 := List.getElem?_eq_getElem h2
    have md := List.getElem_mem h1
    have me := List.getElem_mem h2
    generalize ds[i] = d at e1 md
    generalize es[i] = e at e2 me
    have eb : badAt badL ds es i = badL d e := badAt_in e1 e2
    show rIxU K (.ref a) (.int (i : Nat)) Hb _
    refine ixQ_go hab e1 fun u hu => ?_
    walk_at "go"
    show rIxU K (.ref b) (.int (i : Nat)) Hb _
    refine ixQ_go hbb e2 fun v hv => ?_
    refine neD_go hu hv ((sa d md).ok (by omega)) ((sb e me).ok (by omega)) ?_
    cases ev : PyData.eqv d e with
    | false =>
      walk_at "go"
      exact bad (by rw [eb]; unfold badL; rw [ev]; rfl)
    | true =>
      walk_at "go"
      intro j hj
      rcases Nat.lt_or_ge j i with g | g
      · exact ok j g
      · have ej : j = i := by omega
        rw [ej, eb]
        unfold badL
        rw [ev]
        rfl
  · obtain ⟨u2, rfl, kb, ok⟩ := h
    walk_at "go"
    have := q _ kb
    rw [fb_none fun j hj => ok j (by omega)] at this
    exact this
end K02

-- imports: QS1 QS2 QS3 QS4 QS5 QS6 QM1 QM2 QM3 QM4 QM5 QM6 QM7 QM8 QM9 QM10 QM11 QM12 QM13 QJ1 QJ2 QL1 QL2 QL3 QL4 QL5 QL6 QL7 QL8
/-! ## k34: the law as a whole -/
set_option maxHeartbeats 4000000
set_option maxRecDepth 4000
namespace K02
open PySem PySem.Spec PyProof.Rows L2 Kb
open LamX (TabS)
theorem fb_eq {ds es : List PyData} (h : ∀ (i : Nat) (d e : PyData), ds[i]? = some d → es[i]? = some e → Gd d e) : firstBad badJ ds es = firstBad badL ds es := by
  unfold firstBad
  congr 1
  funext i
  unfold badAt
  cases hd : ds[i]? with
  | none => rfl
  | some d =>
    cases he : es[i]? with
    | none => rfl
    | some e =>
      show badJ d e = badL d e
      unfold badJ badL
      rw [eqv_comm' e d]
      cases ev : PyData.eqv d e with
      | false => simp
      | true =>
        rw [h i d e hd he ev]
        rfl
theorem fb_self {ds : List PyData} (h : ∀ d ∈ ds, d.canLay0 = true) : firstBad badJ ds ds = none := fb_none fun j hj => by
  have hj : j < ds.length := by omega
  rw [badAt_in (List.getElem?_eq_getElem hj) (List.getElem?_eq_getElem hj)]
  unfold badJ
  rw [TA_refl, PySem.SeqAt.eqv_refl _ (h _ (List.getElem_mem hj))]
  rfl
section
variable {K : PySem.W.Frag} {H H' : Hp} {Q : VK} {E : XK} {S a b c L : Addr} {Pt : Tb}
theorem len_law (K : PySem.W.Frag) (Pt : Tb) : ∀ vs H Q E, sp_law K Pt vs H Q E → vs.length = ["_law_script"].length := by
  intro _ _ _ _ h
  unfold sp_law at h
  obtain ⟨_, _, rfl, _⟩ := h
  rfl
theorem kn_of {r : Int} (h0 : 0 ≤ r) (h1 : r < 3) : ∃ zs : List Str, cutV [V.str "k", V.str "kk", V.str "kkk"] none (some (1 + r)) = zs.map V.str ∧ Kn zs ∧ ("k" : Str) ∈ zs := by
  have : r = 0 ∨ r = 1 ∨ r = 2 := by omega
  rcases this with rfl | rfl | rfl
  · exact ⟨["k"], rfl, ⟨by simp, by decide, by decide +kernel, by decide +kernel⟩, by simp⟩
  · exact ⟨["k", "kk"], rfl, ⟨by simp, by decide, by decide +kernel, by decide +kernel⟩, by simp⟩
  · exact ⟨["k", "kk", "kkk"], rfl, ⟨by simp, by decide, by decide +kernel, by decide +kernel⟩, by simp⟩
theorem judge_go {m m' : SM} {U : List Pr} {es : List PyData} (sa : SV K H a m) (sb : SV K H b m') (M : Met m m' U) (hc : SqD K H c es) (le : es.length ≤ 10000) (she : ∀ e ∈ es, Sh 20 e) (da : D5 m) (db : D5 m') (q : ∀ H', Kp [] H H' → Q (rsV (firstBad badJ (madeF m m') es)) H') : sp_judge_reader K [.ref a, .ref b, .ref c] H Q E := by
  unfold sp_judge_reader
  exact ⟨a, b, c, m, m', U, es, rfl, sa, sb, M, hc, le, she, da, db, q⟩
theorem ldue_go {ds es : List PyData} (ha : SqD K H a ds) (hb : SqD K H b es) (la : ds.length ≤ 10000) (lb : es.length ≤ 10000) (sa : ∀ d ∈ ds, Sh 20 d) (sb : ∀ e ∈ es, Sh 20 e) (q : ∀ H', Kp [] H H' → Q (rsV (firstBad badL ds es)) H') : sp_law_due K [.ref a, .ref b] H Q E := by
  unfold sp_law_due
  exact ⟨a, b, ds, es, rfl, ha, hb, la, lb, sa, sb, q⟩
theorem lspoilt_go {ds : List PyData} (w : Wl H S) (hL : LsD K H L ds) (ne : ds ≠ []) (l : ds.length ≤ 1000) (hw : ∀ d ∈ ds, WS d) (nLS : L ≠ S) (q : SpQ K H S ds Q) : sp_law_spoilt K [.ref S, .ref L] H Q E := by
  unfold sp_law_spoilt
  exact ⟨S, L, ds, rfl, w, hL, ne, l, hw, nLS, q⟩
theorem lschema_go {k : Addr} {st : Str} {zs : List Str} (w : Wl H S) (hk : H k = some (.lst (zs.map V.str))) (kn : Kn zs) (sm : Stem st) (tb : Tbl Pt H) (q : ∀ H' z m, Kp [S, Pt.a, Pt.b] H H' → Wl H' S → Tbl Pt H' → SV K H' z m → Small m → D5 m → Q (.ref z) H') : sp_law_schema K Pt [.ref S, .ref k, .str st] H Q E := by
  unfold sp_law_schema
  exact ⟨S, k, st, zs, rfl, w, hk, kn, sm, tb, q⟩
theorem ne_rs {o : Option Nat} (q : Q (.bl false) H) : rNeU K (rsV o) (rsV o) H Q := by
  cases o with
  | none => exact neSS_go q
  | some i =>
    refine ne_go ?_
    rw [decide_eq_true rfl]
    exact q
theorem isi_rs {o : Option Nat} (q : Q (.bl false) H) : rIsiU K [rsV o, .ty "bool"] H Q := by
  cases o with
  | none => exact isi_go (.base (.str _)) ki_str_bool q
  | some i => exact isi_go (.base (.int _)) ki_int_bool q
theorem SV.wl {m : SM} (h : SV K H a m) (wf : m.wf) (w : Wl H S) (k : Kp [S] H H') : SV K H' a m := by
  obtain ⟨c, d, hS⟩ := w
  exact h.kpT wf k (mem1 (P := fun z => NoT H z ∧ (∀ kvs, H z ≠ some (.dK kvs)) ∧ ∀ dx D1 D2 r, H z ≠ some (.ins (cAt K "Schema") dx (schF D1 D2 r))) (lst_noT hS))
theorem SV.sch {m : SM} (h : SV K H a m) (wf : m.wf) (w : Wl H S) (tb : Tbl Pt H) (k : Kp [S, Pt.a, Pt.b] H H') : SV K H' a m := by
  obtain ⟨c, d, hS⟩ := w
  have tn : ∀ {P : Addr} {qn : Str}, TabS H P qn → NoT H P ∧ (∀ kvs, H P ≠ some (.dK kvs)) ∧ ∀ dx D1 D2 r, H P ≠ some (.ins (cAt K "Schema") dx (schF D1 D2 r)) := fun {P qn} t => by
    have nt := noT_tab t
    obtain ⟨ps, h1, _⟩ := t
    exact ⟨nt, (fun kvs e => by rw [h1] at e; cases e), fun dx D1 D2 r e => by rw [h1] at e; cases e⟩
  refine h.kpT wf k fun b m => ?_
  rcases List.mem_cons.mp m with rfl | m
  · exact lst_noT hS
  · exact mem2 (P := fun z => NoT H z ∧ (∀ kvs, H z ≠ some (.dK kvs)) ∧ ∀ dx D1 D2 r, H z ≠ some (.ins (cAt K "Schema") dx (schF D1 D2 r))) (tn tb.a) (tn tb.b) b m
/-- a list that is not the well stays while a schema is made -/
theorem lst_sch {p : Addr} {xs : List V} (tb : Tbl Pt H) (k : Kp [S, Pt.a, Pt.b] H H') (h : H p = some (.lst xs)) (ne : p ≠ S) : H' p = some (.lst xs) := by
  have tn : ∀ {P : Addr} {qn : Str}, TabS H P qn → p ≠ P := fun {P qn} t e => by
    obtain ⟨ps, h1, _⟩ := t
    rw [← e, h] at h1
    cases h1
  exact k _ _ (nm_cons ne (nm_cons (tn tb.a) (nm_cons (tn tb.b) List.not_mem_nil))) h
theorem rds_go {y : V} {ds : List PyData} (h : Dp K H y (.tuple ds)) (q : ∀ H' l, Kp [] H H' → H l = none → LsD K H' l ds → Q (.ref l) H') : rListU K [y] H Q := by
  obtain ⟨a, xs, rfl, ha, hd⟩ := dp_tup h
  refine list_goT ha fun l nl => ?_
  have k := (Kp.refl (M := []) (H := H)).upd_new' (o := .lst xs) nl
  exact q _ l k nl ⟨_, upd_same, dpAll_kp0 k hd⟩
theorem lds_go {ds : List PyData} (h : LsD K H L ds) (q : ∀ H' l, Kp [] H H' → H l = none → LsD K H' l ds → Q (.ref l) H') : rListU K [.ref L] H Q := by
  obtain ⟨xs, ha, hd⟩ := h
  refine list_goL (SqL.of ha) fun l nl => ?_
  have k := (Kp.refl (M := []) (H := H)).upd_new' (o := .lst xs) nl
  exact q _ l k nl ⟨_, upd_same, dpAll_kp0 k hd⟩
theorem tds_go {ds : List PyData} (h : LsD K H L ds) (q : ∀ H' l, Kp [] H H' → H l = none → SqD K H' l ds → Q (.ref l) H') : rTupleU K [.ref L] H Q := by
  obtain ⟨xs, ha, hd⟩ := h
  refine tuple_goL (SqL.of ha) fun l nl => ?_
  have k := (Kp.refl (M := []) (H := H)).upd_new' (o := .tup xs) nl
  exact q _ l k nl ⟨xs, .inr (SqT.of upd_same), dpAll_kp0 k hd⟩
theorem law_b3 {κ : Ends} {m m' : SM} {L6 : Addr} {u0 u1 u2 u3 u7 u8 u9 : Option V} (sa : SV K H a m) (sb : SV K H b m') (ma : Small m) (mb : Small m') (da : D5 m) (db : D5 m') (h6 : LsD K H L6 (madeF m m'))
    (q : ∀ H' u8, Kp [] H H' → κ.nx [u0, u1, u2, u3, some (.ref a), some (.ref b), some (.ref L6), u7, u8, u9] H') :
    b_law_3 K Pt κ [u0, u1, u2, u3, some (.ref a), some (.ref b), some (.ref L6), u7, u8, u9] H := by
  have M := met_of ma mb
  have M' := met_of mb ma
  have W := ws_made M da db
  have W' := ws_made M' db da
  have l6 : (madeF m m').length ≤ 900 := by unfold madeF; rw [List.length_map]; have := pairs_few M; have : NN = 160 := rfl; omega
  have l8 : (madeF m' m).length ≤ 900 := by unfold madeF; rw [List.length_map]; have := pairs_few M'; have : NN = 160 := rfl; omega
  unfold b_law_3
  walk_at "go"
  refine made_go sb sa M' fun H1 y k1 dy => ?_
  walk_at "go"
  refine rds_go dy fun H2 L8 k2 n8 h8 => ?_
  walk_at "go"
  refine tds_go h8 fun H3 T k3 nT hT => ?_
  have k13 := (k1.trans k2).trans k3
  walk_at "go"
  refine judge_go (sa.kp0 k13) (sb.kp0 k13) M hT (by omega) (fun e he => (W' e he).shh) da db fun H4 k4 => ?_
  walk_at "go"
  have k14 := k13.trans k4
  refine ldue_go ((h6.kp0 k14).sqD) ((h8.kp0 (k3.trans k4)).sqD) (by omega) (by omega) (fun e he => (W e he).shh) (fun e he => (W' e he).shh) fun H5 k5 => ?_
  rw [fb_eq fun i d e hd he => ws_gd (W d (List.mem_of_getElem? hd)) (W' e (List.mem_of_getElem? he))]
  refine ne_rs ?_
  walk_at "go"
  exact q H5 _ (k14.trans k5)
theorem law_b2 {κ : Ends} {m m' : SM} {L6 : Addr} {u0 u1 u3 u7 u8 u9 : Option V} (w : Wl H S) (sa : SV K H a m) (sb : SV K H b m') (ma : Small m) (mb : Small m') (da : D5 m) (db : D5 m') (h6 : LsD K H L6 (madeF m m')) (n6 : L6 ≠ S)
    (q : ∀ H' u7 u8 u9, Kp [S] H H' → Wl H' S → κ.nx [u0, u1, some (.ref S), u3, some (.ref a), some (.ref b), some (.ref L6), u7, u8, u9] H') :
    b_law_2 K Pt κ [u0, u1, some (.ref S), u3, some (.ref a), some (.ref b), some (.ref L6), u7, u8, u9] H := by
  have M := met_of ma mb
  have W := ws_made M da db
  have Wsm : ∀ d ∈ madeF m m', sm d = true := fun d hd => (W d hd).sm
  have l6 : (madeF m m').length ≤ 900 := by unfold madeF; rw [List.length_map]; have := pairs_few M; have : NN = 160 := rfl; omega
  have ne6 : madeF m m' ≠ [] := by
    unfold madeF
    intro e
    have := (pairs_ok M).top
    rw [List.map_eq_nil_iff.mp e] at this
    cases this
  unfold b_law_2
  walk_at "go"
  refine for_it walk_range (fun i σ H' => ∃ u7 u8 u9, σ = [u0, u1, some (.ref S), u3, some (.ref a), some (.ref b), some (.ref L6), u7, u8, u9] ∧ Kp [S] H H' ∧ Wl H' S) ⟨_, _, _, rfl, Kp.refl, w⟩ (fun i σ H' _ _ => trivial) ?_ (fun σ H' h => ?_)
  · rintro i x σ Ha Hb hi ⟨v7, v8, v9, rfl, kb, wb⟩ ⟨rfl, rfl⟩
    have ei : (fun i : Nat => V.int (0 + (i : Int))) i = V.int (i : Int) := by show V.int (0 + (i : Int)) = _; rw [Int.zero_add]
    rw [ei]
    have sab := sa.wl ma.w w kb
    have sbb := sb.wl mb.w w kb
    have h6b := lsd_kpS h6 Wsm n6 w kb
    walk_at "go"
    refine lds_go h6b fun H1 l k1 nl hl => ?_
    have w1 := wb.kp k1 List.not_mem_nil
    have lS := wb.ne nl
    walk_at "go"
    refine lspoilt_go w1 hl ne6 (by omega) W lS fun H2 L8 es k2 w2 h8 gd she le => ?_
    have k12 : Kp [S] Hb H2 := (k1.mono fun b m => absurd m List.not_mem_nil).trans k2
    have sa2 := sab.wl ma.w wb k12
    have sb2 := sbb.wl mb.w wb k12
    have h62 := lsd_kpS h6b Wsm n6 wb k12
    walk_at "go"
    refine tds_go h8 fun H3 T k3 nT hT => ?_
    walk_at "go"
    rename_i P nP
    have kP := (Kp.refl (M := []) (H := H3)).upd_new' (o := .lst [.ref T, .ref L8]) nP
    have hP : (upd H3 P (.lst [.ref T, .ref L8])) P = some (.lst [.ref T, .ref L8]) := upd_same
    generalize upd H3 P (.lst [.ref T, .ref L8]) = H4 at kP hP ⊢
    have k34 := k3.trans kP
    refine ixP_go (fun v => ∃ c, v = .ref c ∧ SqD K H4 c es) hP (by omega) (by show _ < (2 : Int); omega) (fun v m => ?_) fun v hv => ?_
    · simp only [List.mem_cons, List.not_mem_nil, or_false] at m
      rcases m with rfl | rfl
      · exact ⟨T, rfl, hT.kp0 kP⟩
      · exact ⟨L8, rfl, (h8.kp0 k34).sqD⟩
    · obtain ⟨c, rfl, hc⟩ := hv
      walk_at "go"
      refine judge_go (sa2.kp0 k34) (sb2.kp0 k34) M hc (by omega) she da db fun H5 k5 => ?_
      walk_at "go"
      have k25 := k34.trans k5
      refine ldue_go ((h62.kp0 k25).sqD) ((h8.kp0 k25).sqD) (by omega) (by omega) (fun e he => (W e he).shh) she fun H6 k6 => ?_
      rw [fb_eq gd]
      refine ne_rs ?_
      walk_at "go"
      refine isi_rs ?_
      walk_at "go"
      have k26 := k25.trans k6
      exact ⟨kb.trans (k12.trans (k26.mono fun b m => absurd m List.not_mem_nil)), w2.kp k26 List.not_mem_nil⟩
  · obtain ⟨v7, v8, v9, rfl, kb, wb⟩ := h
    walk_at "go"
    refine law_b3 (sa.wl ma.w w kb) (sb.wl mb.w w kb) ma mb da db (lsd_kpS h6 Wsm n6 w kb) fun H1 u8 k1 => ?_
    exact q H1 _ _ _ (kb.trans (k1.mono fun b m => absurd m List.not_mem_nil)) (wb.kp k1 List.not_mem_nil)
theorem law_b1 {κ : Ends} {m m' : SM} {u0 u1 u3 u6 u7 u8 u9 : Option V} (w : Wl H S) (sa : SV K H a m) (sb : SV K H b m') (ma : Small m) (mb : Small m') (da : D5 m) (db : D5 m')
    (q : ∀ H' u6 u7 u8 u9, Kp [S] H H' → Wl H' S → κ.nx [u0, u1, some (.ref S), u3, some (.ref a), some (.ref b), u6, u7, u8, u9] H') :
    b_law_1 K Pt κ [u0, u1, some (.ref S), u3, some (.ref a), some (.ref b), u6, u7, u8, u9] H := by
  have M := met_of ma mb
  have W := ws_made M da db
  have l6 : (madeF m m').length ≤ 900 := by unfold madeF; rw [List.length_map]; have := pairs_few M; have : NN = 160 := rfl; omega
  unfold b_law_1
  walk_at "go"
  refine made_go sa sb M fun H1 y k1 dy => ?_
  walk_at "go"
  refine rds_go dy fun H2 L6 k2 n6 h6 => ?_
  have k12 := k1.trans k2
  have w2 := w.kp k12 List.not_mem_nil
  have n6S : L6 ≠ S := (w.kp k1 List.not_mem_nil).ne n6
  walk_at "go"
  refine made_go (sa.kp0 k12) (sb.kp0 k12) M fun H3 y3 k3 dy3 => ?_
  obtain ⟨c3, xs3, rfl, hc3, hd3⟩ := dp_tup dy3
  have k13 := k12.trans k3
  walk_at "go"
  refine judge_go (sa.kp0 k13) (sb.kp0 k13) M (sqD_dp dy3) (by omega) (fun e he => (W e he).shh) da db fun H4 k4 => ?_
  rw [fb_self fun d hd => (W d hd).shh.1]
  have k14 := k13.trans k4
  walk_at "go"
  refine lds_go (h6.kp0 (k3.trans k4)) fun H5 l5 k5 n5 h5 => ?_
  have k15 := k14.trans k5
  walk_at "go"
  refine judge_go (sa.kp0 k15) (sb.kp0 k15) M h5.sqD (by omega) (fun e he => (W e he).shh) da db fun H6 k6 => ?_
  rw [fb_self fun d hd => (W d hd).shh.1]
  have k16 := k15.trans k6
  walk_at "go"
  refine law_b2 (w.kp k16 List.not_mem_nil) (sa.kp0 k16) (sb.kp0 k16) ma mb da db (h6.kp0 (((k3.trans k4).trans k5).trans k6)) n6S fun H' u7 u8 u9 k wl => ?_
  exact q H' _ _ _ _ ((k16.mono fun b m => absurd m List.not_mem_nil).trans k) wl
end
theorem p_law (K : PySem.W.Frag) (Pt : Tb) (vs : List V) (H : Hp) (Q : VK) (E : XK) (h : sp_law K Pt vs H Q E) : t_law K Pt { nx := fun _ H' => Q .non H', rt := Q } (start ["_law_script", "_law_cell", "_law_well", "_law_kinds", "_law_old", "_law_new", "_law_steps", "_law_k", "_law_others", "_law_found"] vs) H := by
  unfold sp_law at h
  obtain ⟨a, ns, rfl, hS, nl, tb, q⟩ := h
  unfold t_law
  walk_at "go"
  rename_i p1 np1
  have k1 := (Kp.refl (M := []) (H := H)).upd_new' (o := .lst [.int 0]) np1
  refine addLS_go (k1.sqL List.not_mem_nil hS) (SqL.of upd_same) (by rw [List.length_map]; show _ + 1 ≤ _; omega) fun p2 np2 => ?_
  walk_at "go"
  rename_i p3 np3
  have cm : ∀ v ∈ cutV (ns.map V.int ++ [.int 0]) none (some 6), ∃ i, v = V.int i := fun v m => by
    unfold cutV at m
    have m := List.mem_of_mem_drop (List.mem_of_mem_take m)
    rcases List.mem_append.mp m with m | m
    · obtain ⟨i, _, e⟩ := List.mem_map.mp m
      exact ⟨i, e.symm⟩
    · exact ⟨0, List.mem_singleton.mp m⟩
  have k3 := (k1.upd_new' (o := .lst (ns.map V.int ++ [.int 0])) np2).upd_new' (o := .lst (cutV (ns.map V.int ++ [.int 0]) none (some 6))) np3
  have h3 : (upd (upd (upd H p1 (.lst [.int 0])) p2 (.lst (ns.map V.int ++ [.int 0]))) p3 (.lst (cutV (ns.map V.int ++ [.int 0]) none (some 6)))) p3 = some (.lst (cutV (ns.map V.int ++ [.int 0]) none (some 6))) := upd_same
  generalize cutV (ns.map V.int ++ [.int 0]) none (some 6) = L at cm k3 h3 ⊢
  generalize upd (upd (upd H p1 (.lst [.int 0])) p2 (.lst (ns.map V.int ++ [.int 0]))) p3 (.lst L) = H3 at k3 h3 ⊢
  have tb3 := Tbl.kp0 tb k3
  refine ⟨⟨_, SqL.of h3⟩, ?_⟩
  refine for_it (walk_list (xs := L)) (fun i σ H' => ∃ u1 u2 u3 u4 u5 u6 u7 u8 u9, σ = [some (.ref a), u1, u2, u3, u4, u5, u6, u7, u8, u9] ∧ Tbl Pt H' ∧ H' p3 = some (.lst L)) ⟨_, _, _, _, _, _, _, _, _, rfl, tb3, h3⟩ (fun i σ H' _ ⟨_, _, _, _, _, _, _, _, _, _, _, k⟩ => SqL.of k) ?_ (fun σ H' h => ?_)
  · rintro i x σ Ha Hb hi ⟨u1, u2, u3, u4, u5, u6, u7, u8, u9, rfl, tba, hp⟩ ⟨eH, ex⟩
    subst eH
    obtain ⟨c, rfl⟩ := cm x (List.mem_of_getElem? ex)
    walk_at "go"
    rename_i S nS P nP
    have kS := (Kp.refl (M := []) (H := Hb)).upd_new' (o := .lst [.int c, .int 0]) nS
    have wS : Wl (upd Hb S (.lst [.int c, .int 0])) S := ⟨_, _, upd_same⟩
    have tb4 := Tbl.kp0 tba kS
    have hp4 := kS.at_ List.not_mem_nil hp
    have pS : p3 ≠ S := ne_of_none hp nS
    generalize upd Hb S (.lst [.int c, .int 0]) = H4 at kS wS tb4 hp4 nP ⊢
    have sc4 : SW H4 S H4 := ⟨Kp.refl, wS⟩
    walk_at "go"
    rename_i H6 r6 sc6 k6 c0 c1 A nA
    obtain ⟨zs, ez, kn, mk⟩ := kn_of c0 c1
    have hP : H6 P = some (.lst [.str "k", .str "kk", .str "kkk"]) := k6 _ _ (sc4.nm nP) upd_same
    rw [ez]
    have kA := (Kp.refl (M := []) (H := H6)).upd_new' (o := .lst (zs.map V.str)) nA
    have w7 : Wl (upd H6 A (.lst (zs.map V.str))) S := sc6.2.new nA
    have hA7 : (upd H6 A (.lst (zs.map V.str))) A = some (.lst (zs.map V.str)) := upd_same
    have nAS : A ≠ S := sc6.2.ne nA
    have tb7 := Tbl.kp0 (Tbl.wl tb4 wS sc6.1) kA
    have hp7 := kA _ _ List.not_mem_nil (sc6.1 _ _ (nm_cons pS List.not_mem_nil) hp4)
    generalize upd H6 A (.lst (zs.map V.str)) = H7 at kA w7 hA7 tb7 hp7 ⊢
    unfold b_law_0
    walk_at "go"
    show sp_law_schema K Pt [.ref S, .ref A, .str "o"] H7 _ _
    refine lschema_go w7 hA7 kn (Or.inl rfl) tb7 fun H8 z1 m1 k8 w8 tb8 sv1 s1 d1 => ?_
    have hp8 := lst_sch tb7 k8 hp7 pS
    have hA8 := lst_sch tb7 k8 hA7 nAS
    have sc8 : SW H8 S H8 := ⟨Kp.refl, w8⟩
    walk_at "go"
    rename_i pl npl H9 r9 sc9 k9 e0 e1
    have kl := (Kp.refl (M := []) (H := H8)).upd_new' (o := .lst [.str "o", .str "n"]) npl
    have hl9 := k9 _ _ (sc8.nm npl) upd_same
    have w9 := sc9.2
    have hp9 := sc9.1 _ _ (nm_cons pS List.not_mem_nil) hp8
    have hA9 := sc9.1 _ _ (nm_cons nAS List.not_mem_nil) hA8
    have tb9 := Tbl.wl tb8 w8 sc9.1
    have sv19 := sv1.wl s1.w w8 sc9.1
    refine ixP_go (fun v => ∃ st, v = .str st ∧ Stem st) hl9 e0 (by show r9 < 2; exact e1) (fun v m => ?_) fun v hv => ?_
    · simp only [List.mem_cons, List.not_mem_nil, or_false] at m
      rcases m with rfl | rfl
      · exact ⟨_, rfl, .inl rfl⟩
      · exact ⟨_, rfl, .inr rfl⟩
    · obtain ⟨st, rfl, hst⟩ := hv
      walk_at "go"
      show sp_law_schema K Pt [.ref S, .ref A, .str st] H9 _ _
      refine lschema_go w9 hA9 kn hst tb9 fun H10 z2 m2 k10 w10 tb10 sv2 s2 d2 => ?_
      have hp10 := lst_sch tb9 k10 hp9 pS
      have sv110 := sv19.sch s1.w w9 tb9 k10
      walk_at "go"
      refine law_b1 w10 sv110 sv2 s1 s2 d1 d2 fun H' u6 u7 u8 u9 k w' => ?_
      exact ⟨_, _, _, _, _, _, _, _, _, rfl, Tbl.wl tb10 w10 k, k _ _ (nm_cons pS List.not_mem_nil) hp10⟩
  · walk_at "go"
    exact q _
theorem tab0 {H : Hp} {P : Addr} {q : Str} (h : H P = some (.tbl #[])) : TabS H P q := ⟨#[], h, trivial, fun pos cv e => by cases e⟩
theorem law_end (K : PySem.W.Frag) (Pt : Tb) (H : Hp) (a : Addr) (ns : List Int) (hl : ns.length ≤ 63) (ha : H Pt.a = some (.tbl #[])) (hb : H Pt.b = some (.tbl #[])) (ab : Pt.a ≠ Pt.b) (hS : SqL K H a (ns.map V.int)) : sp_law K Pt [.ref a] H (fun v _ => v = .bl true) fun _ _ _ => False :=
  ⟨a, ns, rfl, hS, hl, ⟨tab0 ha, tab0 hb, ab⟩, fun _ => rfl⟩
end K02

namespace K02
open PySem PySem.Spec PyProof.Rows L2 Kb
def topS (i : Nat) : Stmt := PySem.Challenge.pw_thingwires_k34_whole_readers_judged.main.body.getD i (.Pass ⟨0, 0, 0, 0⟩)
abbrev s_is_whole : Stmt := topS 6
abbrev s_is_within : Stmt := topS 7
abbrev s_is_row : Stmt := topS 8
abbrev s_fields_of : Stmt := topS 9
abbrev s_cases_of : Stmt := topS 10
abbrev s_left_of : Stmt := topS 11
abbrev s_truths_alike : Stmt := topS 13
abbrev s_by_number : Stmt := topS 16
abbrev s_lacking_names : Stmt := topS 17
abbrev s_both_of : Stmt := topS 19
abbrev s_gone_into : Stmt := topS 20
abbrev s_Walk_meet : Stmt := inClass (topS 21) 1
abbrev s_Walk___init__ : Stmt := inClass (topS 21) 0
abbrev s_all_pairs : Stmt := topS 22
abbrev s_Making___init__ : Stmt := inClass (topS 24) 0
abbrev s_Making_number_of : Stmt := inClass (topS 24) 1
abbrev s_Making_choice : Stmt := inClass (topS 24) 3
abbrev s_Making_node : Stmt := inClass (topS 24) 4
abbrev s_Making_step : Stmt := inClass (topS 24) 2
abbrev s_made : Stmt := topS 25
abbrev s_judge_reader : Stmt := topS 27
abbrev s_is_name : Stmt := topS 35
abbrev s_is_bounds : Stmt := topS 36
abbrev s_is_known : Stmt := topS 37
abbrev s_is_sort : Stmt := topS 38
abbrev s_is_default : Stmt := topS 39
abbrev s_refuse_if : Stmt := topS 40
abbrev s_look_at_heading : Stmt := topS 41
abbrev s_look_at_part : Stmt := topS 42
abbrev s_Schema_take_kind : Stmt := inClass (topS 43) 1
abbrev s_Schema_take_choice : Stmt := inClass (topS 43) 2
abbrev s_Schema_comes_back : Stmt := inClass (topS 43) 3
abbrev s_Schema___init__ : Stmt := inClass (topS 43) 0
abbrev s_law_draw : Stmt := topS 45
abbrev s_law_sort : Stmt := topS 46
abbrev s_law_left : Stmt := topS 47
abbrev s_law_schema : Stmt := topS 48
abbrev s_law_other : Stmt := topS 49
abbrev s_law_spoilt : Stmt := topS 50
abbrev s_law_due : Stmt := topS 51
abbrev s_law : Stmt := topS 52
structure Txt (K : PySem.W.Frag) (mg : Str → Option Value) (C : Addr) : Prop where
  m_abs : mg "abs" = none
  m_all : mg "all" = none
  m_bool : mg "bool" = none
  m_enumerate : mg "enumerate" = none
  m_int : mg "int" = none
  m_isinstance : mg "isinstance" = none
  m_len : mg "len" = none
  m_list : mg "list" = none
  m_max : mg "max" = none
  m_min : mg "min" = none
  m_range : mg "range" = none
  m_sorted : mg "sorted" = none
  m_str : mg "str" = none
  m_tuple : mg "tuple" = none
  m_zip : mg "zip" = none
  c_GREATEST : ∃ t, mg "GREATEST" = some (.int 999999999999999999999999999999999999999999999999999999999999 t)
  c_LETTERS : ∃ t, mg "LETTERS" = some (.str (PySem.Str.ofString "abcdefghijklmnopqrstuvwxyz") t)
  c_MOST_SIGNS : ∃ t, mg "MOST_SIGNS" = some (.int 8 t)
  c_MOST_NUMBER : ∃ t, mg "MOST_NUMBER" = some (.int 99 t)
  c_MOST_TEXT : ∃ t, mg "MOST_TEXT" = some (.int 40 t)
  c_MOST_ROW : ∃ t, mg "MOST_ROW" = some (.int 20 t)
  c_MOST_DEEP : ∃ t, mg "MOST_DEEP" = some (.int 3 t)
  g_INSIDE : mg "INSIDE" = some (.ref (cAt K "INSIDE"))
  own : Own K C
  g_Walk : mg "Walk" = some (.ref (cAt K "Walk"))
  mk_Walk : PySem.W.makesIn K (cAt K "Walk") = true
  kc_Walk : PySem.W.keepIn K (.ref (cAt K "Walk")) = true
  g_Making : mg "Making" = some (.ref (cAt K "Making"))
  mk_Making : PySem.W.makesIn K (cAt K "Making") = true
  kc_Making : PySem.W.keepIn K (.ref (cAt K "Making")) = true
  g_Schema : mg "Schema" = some (.ref (cAt K "Schema"))
  mk_Schema : PySem.W.makesIn K (cAt K "Schema") = true
  kc_Schema : PySem.W.keepIn K (.ref (cAt K "Schema")) = true
  d_is_whole : Def K mg s_is_whole "is_whole"
  d_is_within : Def K mg s_is_within "is_within"
  d_is_row : Def K mg s_is_row "is_row"
  d_fields_of : Def K mg s_fields_of "fields_of"
  d_cases_of : Def K mg s_cases_of "cases_of"
  d_left_of : Def K mg s_left_of "left_of"
  d_truths_alike : Def K mg s_truths_alike "truths_alike"
  d_by_number : Def K mg s_by_number "by_number"
  d_lacking_names : Def K mg s_lacking_names "lacking_names"
  d_both_of : Def K mg s_both_of "both_of"
  d_gone_into : Def K mg s_gone_into "gone_into"
  d_Walk_meet : DefM K (cAt K "Walk") s_Walk_meet "meet" "Walk.meet"
  d_Walk___init__ : DefD K (cAt K "Walk") s_Walk___init__ "Walk.__init__" []
  d_all_pairs : Def K mg s_all_pairs "all_pairs"
  d_Making___init__ : DefD K (cAt K "Making") s_Making___init__ "Making.__init__" []
  d_Making_number_of : DefM K (cAt K "Making") s_Making_number_of "number_of" "Making.number_of"
  d_Making_choice : DefM K (cAt K "Making") s_Making_choice "choice" "Making.choice"
  d_Making_node : DefM K (cAt K "Making") s_Making_node "node" "Making.node"
  d_Making_step : DefM K (cAt K "Making") s_Making_step "step" "Making.step"
  d_made : Def K mg s_made "made"
  d_judge_reader : Def K mg s_judge_reader "judge_reader"
  d_is_name : Def K mg s_is_name "is_name"
  d_is_bounds : Def K mg s_is_bounds "is_bounds"
  d_is_known : Def K mg s_is_known "is_known"
  d_is_sort : DefF K mg s_is_sort "is_sort" [.int 0]
  d_is_default : Def K mg s_is_default "is_default"
  d_refuse_if : Def K mg s_refuse_if "refuse_if"
  d_look_at_heading : Def K mg s_look_at_heading "look_at_heading"
  d_look_at_part : Def K mg s_look_at_part "look_at_part"
  d_Schema_comes_back : DefM K (cAt K "Schema") s_Schema_comes_back "comes_back" "Schema.comes_back"
  d_Schema___init__ : DefK K (cAt K "Schema") s_Schema___init__ "Schema.__init__" [("choices", .non)]
  d_law_draw : Def K mg s_law_draw "_law_draw"
  d_law_sort : Def K mg s_law_sort "_law_sort"
  d_law_left : Def K mg s_law_left "_law_left"
  d_law_schema : Def K mg s_law_schema "_law_schema"
  d_law_other : Def K mg s_law_other "_law_other"
  d_law_spoilt : Def K mg s_law_spoilt "_law_spoilt"
  d_law_due : Def K mg s_law_due "_law_due"
  d_law : Def K mg s_law "law"
structure Tbs (K : PySem.W.Frag) (mg : Str → Option Value) (base : Heap) (Pt : Tb) : Prop where
  e_Schema_take_kind : ∃ c, DefMC K (cAt K "Schema") s_Schema_take_kind "take_kind" "Schema.take_kind" c ∧ LamX.TabB base mg c Pt.a
  e_Schema_take_choice : ∃ c, DefMC K (cAt K "Schema") s_Schema_take_choice "take_choice" "Schema.take_choice" c ∧ LamX.TabB base mg c Pt.b
theorem sc_is_whole : FnScope ["thing"] ["thing"] (defScope s_is_whole) := ⟨rfl, rfl, rfl, by decide +kernel, rfl, by decide +kernel, by decide +kernel⟩
theorem ok_is_whole {P : Program} {w : World} {K : PySem.W.Frag} {mg : Str → Option Value} {base : Heap} {C : Addr} (T : Txt K mg C) : Cal P w K mg base CX0 1 "is_whole" ["thing"] (sp_is_whole K) := by
  refine Cal.of (st := s_is_whole) T.d_is_whole sc_is_whole (fun _ _ _ _ _ _ us hl => match us, hl with | [_], _ => rfl) (len_is_whole K) fun f cdv A outer s H vs Q E hr h => ⟨t_is_whole K, ?_, p_is_whole K vs H Q E h⟩
  exact (pss_one (ps_ret (pe_and (pe_callB u_isi (by rfl) T.m_isinstance (by decide +kernel) (pa_cons (pv 0) (pa_cons (pe_bltn (v := .ty "int") (by rfl) T.m_int (by decide +kernel) rfl) pa_nil))) (pe_one (pe_not (pe_callB u_isi (by rfl) T.m_isinstance (by decide +kernel) (pa_cons (pv 0) (pa_cons (pe_bltn (v := .ty "bool") (by rfl) T.m_bool (by decide +kernel) rfl) pa_nil))))))))

theorem sc_is_within : FnScope ["thing", "low", "high"] ["thing", "low", "high"] (defScope s_is_within) := ⟨rfl, rfl, rfl, by decide +kernel, rfl, by decide +kernel, by decide +kernel⟩
theorem ok_is_within {P : Program} {w : World} {K : PySem.W.Frag} {mg : Str → Option Value} {base : Heap} {C : Addr} (T : Txt K mg C) : Cal P w K mg base CX0 2 "is_within" ["thing", "low", "high"] (sp_is_within K) := by
  refine Cal.of (st := s_is_within) T.d_is_within sc_is_within (fun _ _ _ _ _ _ us hl => match us, hl with | [_, _, _], _ => rfl) (len_is_within K) fun f cdv A outer s H vs Q E hr h => ⟨t_is_within K, ?_, p_is_within K vs H Q E h⟩
  exact (pss_cons (ps_if (PW.pt (pw_or (pt_not (pt_truth (pe_callC (ok_is_whole T) (hr.mono (by omega)) (by rfl) pass0 (pa_cons (pv 0) pa_nil)) (by intro _; rfl))) (pw_or1 (PW.pt (pw_and (pt_cmpR u_notN (pv 1) pe_non (nomark _)) (pw_and1 (pt_cmpR u_lt (pv 0) (pv 1) (nomark _))))))))
 (pss_one (ps_ret pe_bl))
 pss_nil)
 (pss_one (ps_ret (pe_or (pe_cmpR u_isN (pv 2) pe_non (nomark _)) (pe_one (pe_cmpR u_le (pv 0) (pv 2) (nomark _)))))))

theorem sc_is_row : FnScope ["thing"] ["thing"] (defScope s_is_row) := ⟨rfl, rfl, rfl, by decide +kernel, rfl, by decide +kernel, by decide +kernel⟩
theorem ok_is_row {P : Program} {w : World} {K : PySem.W.Frag} {mg : Str → Option Value} {base : Heap} {C : Addr} (T : Txt K mg C) : Cal P w K mg base CX0 1 "is_row" ["thing"] (sp_is_row K) := by
  refine Cal.of (st := s_is_row) T.d_is_row sc_is_row (fun _ _ _ _ _ _ us hl => match us, hl with | [_], _ => rfl) (len_is_row K) fun f cdv A outer s H vs Q E hr h => ⟨t_is_row K, ?_, p_is_row K vs H Q E h⟩
  exact (pss_one (ps_ret (pe_callB u_isi (by rfl) T.m_isinstance (by decide +kernel) (pa_cons (pv 0) (pa_cons (pe_tup (pa_cons (pe_bltn (v := .ty "list") (by rfl) T.m_list (by decide +kernel) rfl) (pa_cons (pe_bltn (v := .ty "tuple") (by rfl) T.m_tuple (by decide +kernel) rfl) pa_nil))) pa_nil)))))

theorem sc_fields_of : FnScope ["schema", "kind"] ["schema", "kind"] (defScope s_fields_of) := ⟨rfl, rfl, rfl, by decide +kernel, rfl, by decide +kernel, by decide +kernel⟩
theorem ok_fields_of {P : Program} {w : World} {K : PySem.W.Frag} {mg : Str → Option Value} {base : Heap} {C : Addr} (T : Txt K mg C) : Cal P w K mg base CX0 1 "fields_of" ["schema", "kind"] (sp_fields_of K) := by
  refine Cal.of (st := s_fields_of) T.d_fields_of sc_fields_of (fun _ _ _ _ _ _ us hl => match us, hl with | [_, _], _ => rfl) (len_fields_of) fun f cdv A outer s H vs Q E hr h => ⟨t_fields_of K C, ?_, p_fields_of K C T.own vs H Q E h⟩
  exact (pss_one (ps_ret (pe_dget (hu_of hr) (pe_fldU (pv 0) (by rfl)) (pv 1) (fun _ _ => rfl))))

theorem sc_cases_of : FnScope ["schema", "name"] ["schema", "name"] (defScope s_cases_of) := ⟨rfl, rfl, rfl, by decide +kernel, rfl, by decide +kernel, by decide +kernel⟩
theorem ok_cases_of {P : Program} {w : World} {K : PySem.W.Frag} {mg : Str → Option Value} {base : Heap} {C : Addr} (T : Txt K mg C) : Cal P w K mg base CX0 1 "cases_of" ["schema", "name"] (sp_cases_of K) := by
  refine Cal.of (st := s_cases_of) T.d_cases_of sc_cases_of (fun _ _ _ _ _ _ us hl => match us, hl with | [_, _], _ => rfl) (len_cases_of) fun f cdv A outer s H vs Q E hr h => ⟨t_cases_of K C, ?_, p_cases_of K C T.own vs H Q E h⟩
  exact (pss_one (ps_ret (pe_dget (hu_of hr) (pe_fldU (pv 0) (by rfl)) (pv 1) (fun _ _ => rfl))))

theorem sc_left_of : FnScope ["field"] ["field"] (defScope s_left_of) := ⟨rfl, rfl, rfl, by decide +kernel, rfl, by decide +kernel, by decide +kernel⟩
theorem ok_left_of {P : Program} {w : World} {K : PySem.W.Frag} {mg : Str → Option Value} {base : Heap} {C : Addr} (T : Txt K mg C) : Cal P w K mg base CX0 1 "left_of" ["field"] (sp_left_of K) := by
  refine Cal.of (st := s_left_of) T.d_left_of sc_left_of (fun _ _ _ _ _ _ us hl => match us, hl with | [_], _ => rfl) (len_left_of K) fun f cdv A outer s H vs Q E hr h => ⟨t_left_of K, ?_, p_left_of K vs H Q E h⟩
  exact (pss_one (ps_ret (pe_slice sl_tupA (pv 0) (po_some pe_int) po_none)))

theorem sc_truths_alike : FnScope ["due", "given", "mine", "its"] ["due", "given"] (defScope s_truths_alike) := ⟨rfl, rfl, rfl, by decide +kernel, rfl, by decide +kernel, by decide +kernel⟩
theorem ok_truths_alike {P : Program} {w : World} {K : PySem.W.Frag} {mg : Str → Option Value} {base : Heap} {C : Addr} (T : Txt K mg C) : ∀ n : Nat, Cal P w K mg base CX0 (1 + n) "truths_alike" ["due", "given"] (sp_truths_alike K n)
  | 0 => Cal.of (k := 0) (st := s_truths_alike) T.d_truths_alike sc_truths_alike (fun _ _ _ _ _ _ us hl => match us, hl with | [_, _], _ => rfl) (fun vs H Q E h => (no_truths_alike K h).elim) fun f cdv A outer s H vs Q E hr h => (no_truths_alike K h).elim
  | n + 1 => by
    have ih := ok_truths_alike (P := P) (w := w) (base := base) T n
    refine Cal.of (k := 1 + n) (st := s_truths_alike) T.d_truths_alike sc_truths_alike (fun _ _ _ _ _ _ us hl => match us, hl with | [_, _], _ => rfl) (len_truths_alike K n) fun f cdv A outer s H vs Q E hr h => ⟨t_truths_alike K n, ?_, p_truths_alike K n vs H Q E h⟩
    exact (pss_cons (ps_if (PW.pt (pw_and (pt_truth (pe_callB u_isi (by rfl) T.m_isinstance (by decide +kernel) (pa_cons (pv 0) (pa_cons (pe_bltn (v := .ty "tuple") (by rfl) T.m_tuple (by decide +kernel) rfl) pa_nil))) (by intro _; rfl)) (pw_and (pt_truth (pe_callB u_isi (by rfl) T.m_isinstance (by decide +kernel) (pa_cons (pv 1) (pa_cons (pe_bltn (v := .ty "tuple") (by rfl) T.m_tuple (by decide +kernel) rfl) pa_nil))) (by intro _; rfl)) (pw_and1 (pt_cmpR (u_eq hr.units) (pe_callB u_len (by rfl) T.m_len PySem.boot_len (pa_cons (pv 0) pa_nil)) (pe_callB u_len (by rfl) T.m_len PySem.boot_len (pa_cons (pv 1) pa_nil)) (nomark _))))))
 (pss_one (ps_ret (pe_callB (u_all rfl) (by rfl) T.m_all (by decide +kernel) (pa_cons (pe_lc (own := [("mine", 2), ("its", 3)]) (g := (gTup K 2 (gCons (gName 2) (gCons (gName 3) gNil)))) (tt := tYes) rfl sc_truths_alike.nd (RZ.pi_zipA (by rfl) T.m_zip (pa_cons (pv 0) (pa_cons (pv 1) pa_nil))) (blkOk_by (N := ["due", "given", "mine", "its"]) (sc := (defScope s_truths_alike)) (own := [("mine", 2), ("its", 3)]) (by decide +kernel)) (fun _ _ _ _ _ => (pg_tup (by rfl) (pgs_cons (pg_name (i := 2) sc_truths_alike.nd rfl (by first | exact Or.inl rfl | exact Or.inr rfl)) (pgs_cons (pg_name (i := 3) sc_truths_alike.nd rfl (by first | exact Or.inl rfl | exact Or.inr rfl)) pgs_nil)))) (fun _ _ _ _ _ => pts_nil) (fun _ _ _ _ _ => (pe_callC ih (hr.mono (by omega)) (by rfl) pass0 (pa_cons (pv 2) (pa_cons (pv 3) pa_nil))))) pa_nil))))
 pss_nil)
 (pss_one (ps_ret (pe_cmpR (u_eq hr.units) (pe_callB u_isi (by rfl) T.m_isinstance (by decide +kernel) (pa_cons (pv 0) (pa_cons (pe_bltn (v := .ty "bool") (by rfl) T.m_bool (by decide +kernel) rfl) pa_nil))) (pe_callB u_isi (by rfl) T.m_isinstance (by decide +kernel) (pa_cons (pv 1) (pa_cons (pe_bltn (v := .ty "bool") (by rfl) T.m_bool (by decide +kernel) rfl) pa_nil))) (nomark _)))))

theorem sc_by_number : FnScope ["rows", "number", "row"] ["rows", "number"] (defScope s_by_number) := ⟨rfl, rfl, rfl, by decide +kernel, rfl, by decide +kernel, by decide +kernel⟩
theorem ok_by_number {P : Program} {w : World} {K : PySem.W.Frag} {mg : Str → Option Value} {base : Heap} {C : Addr} (T : Txt K mg C) : Cal P w K mg base CX0 1 "by_number" ["rows", "number"] (sp_by_number K) := by
  refine Cal.of (st := s_by_number) T.d_by_number sc_by_number (fun _ _ _ _ _ _ us hl => match us, hl with | [_, _], _ => rfl) (len_by_number) fun f cdv A outer s H vs Q E hr h => ⟨t_by_number K, ?_, p_by_number K vs H Q E h⟩
  exact (pss_cons (ps_for PassesOwn.never rfl (pi_tup (pv 0)) (pg_name (i := 2) sc_by_number.nd rfl (by first | exact Or.inl rfl | exact Or.inr rfl))
 (pss_one (ps_if (pt_cmpR (u_eq hr.units) (pe_ix u_ix (pv 2) pe_int (fun _ _ => rfl)) (pv 1) (nomark _))
 (pss_one (ps_ret (pv 2)))
 pss_nil)))
 (pss_one (ps_ret pe_non)))

theorem sc_lacking_names : FnScope ["mine", "yours", "field"] ["mine", "yours"] (defScope s_lacking_names) := ⟨rfl, rfl, rfl, by decide +kernel, rfl, by decide +kernel, by decide +kernel⟩
theorem ok_lacking_names {P : Program} {w : World} {K : PySem.W.Frag} {mg : Str → Option Value} {base : Heap} {C : Addr} (T : Txt K mg C) : Cal P w K mg base CX0 2 "lacking_names" ["mine", "yours"] (sp_lacking_names K) := by
  refine Cal.of (st := s_lacking_names) T.d_lacking_names sc_lacking_names (fun _ _ _ _ _ _ us hl => match us, hl with | [_, _], _ => rfl) (len_lacking_names) fun f cdv A outer s H vs Q E hr h => ⟨t_lacking_names K, ?_, p_lacking_names K vs H Q E h⟩
  exact (pss_one (ps_ret (pe_lc (own := [("field", 2)]) (g := (gName 2)) (tt := (tAnd (tTest (tOp rIsNU (tCall (sp_by_number K) [] E0 (tCons (tVar 1) (tCons (tOp (rIxU K) (tVar 2) (tC (.int 0))) tNil))) (tC .non))) (tTest (tOp (rEqX K) (tCall (sp_left_of K) [] E0 (tCons (tVar 2) tNil)) (tTup tNil))))) rfl sc_lacking_names.nd (pi_tup (pv 0)) (blkOk_by (N := ["mine", "yours", "field"]) (sc := (defScope s_lacking_names)) (own := [("field", 2)]) (by decide +kernel)) (fun _ _ _ _ _ => (pg_name (i := 2) sc_lacking_names.nd rfl (by first | exact Or.inl rfl | exact Or.inr rfl))) (fun _ _ _ _ _ => (pts_one (PW.pt (pw_and (pt_cmpR u_isN (pe_callC (ok_by_number T) (hr.mono (by omega)) (by rfl) pass0 (pa_cons (pv 1) (pa_cons (pe_ix u_ix (pv 2) pe_int (fun _ _ => rfl)) pa_nil))) pe_non (nomark _)) (pw_and1 (pt_cmpR (u_eqX hr.units) (pe_callC (ok_left_of T) (hr.mono (by omega)) (by rfl) pass0 (pa_cons (pv 2) pa_nil)) (pe_tup pa_nil) (nomark _))))))) (fun _ _ _ _ _ => (pe_ix u_ix (pv 2) pe_int (fun _ _ => rfl))))))

theorem sc_both_of : FnScope ["mine", "yours", "one"] ["mine", "yours"] (defScope s_both_of) := ⟨rfl, rfl, rfl, by decide +kernel, rfl, by decide +kernel, by decide +kernel⟩
theorem ok_both_of {P : Program} {w : World} {K : PySem.W.Frag} {mg : Str → Option Value} {base : Heap} {C : Addr} (T : Txt K mg C) : Cal P w K mg base CX0 2 "both_of" ["mine", "yours"] (sp_both_of K) := by
  refine Cal.of (st := s_both_of) T.d_both_of sc_both_of (fun _ _ _ _ _ _ us hl => match us, hl with | [_, _], _ => rfl) (len_both_of) fun f cdv A outer s H vs Q E hr h => ⟨t_both_of K, ?_, p_both_of K vs H Q E h⟩
  exact (pss_one (ps_ret (pe_lc (own := [("one", 2)]) (g := (gName 2)) (tt := (tTest (tOp rNotNU (tCall (sp_by_number K) [] E0 (tCons (tVar 1) (tCons (tOp (rIxU K) (tVar 2) (tC (.int 0))) tNil))) (tC .non)))) rfl sc_both_of.nd (pi_tup (pv 0)) (blkOk_by (N := ["mine", "yours", "one"]) (sc := (defScope s_both_of)) (own := [("one", 2)]) (by decide +kernel)) (fun _ _ _ _ _ => (pg_name (i := 2) sc_both_of.nd rfl (by first | exact Or.inl rfl | exact Or.inr rfl))) (fun _ _ _ _ _ => (pts_one (pt_cmpR u_notN (pe_callC (ok_by_number T) (hr.mono (by omega)) (by rfl) pass0 (pa_cons (pv 1) (pa_cons (pe_ix u_ix (pv 2) pe_int (fun _ _ => rfl)) pa_nil))) pe_non (nomark _)))) (fun _ _ _ _ _ => (pe_tup (pa_cons (pv 2) (pa_cons (pe_callC (ok_by_number T) (hr.mono (by omega)) (by rfl) pass0 (pa_cons (pv 1) (pa_cons (pe_ix u_ix (pv 2) pe_int (fun _ _ => rfl)) pa_nil))) pa_nil)))))))

theorem sc_gone_into : FnScope ["old", "new", "pair", "mine", "yours", "both", "one", "two"] ["old", "new", "pair"] (defScope s_gone_into) := ⟨rfl, rfl, rfl, by decide +kernel, rfl, by decide +kernel, by decide +kernel⟩
theorem ok_gone_into {P : Program} {w : World} {K : PySem.W.Frag} {mg : Str → Option Value} {base : Heap} {C : Addr} (T : Txt K mg C) : Cal P w K mg base CX0 3 "gone_into" ["old", "new", "pair"] (sp_gone_into K) := by
  refine Cal.of (st := s_gone_into) T.d_gone_into sc_gone_into (fun _ _ _ _ _ _ us hl => match us, hl with | [_, _, _], _ => rfl) (len_gone_into) fun f cdv A outer s H vs Q E hr h => ⟨t_gone_into K C, ?_, p_gone_into K C T.own vs H Q E h⟩
  unfold t_gone_into b_gone_into_0 b_gone_into_1
  exact (pss_cons (ps_asg (pv 2) (pg_tup (by rfl) (pgs_cons (pg_name (i := 3) sc_gone_into.nd rfl (by first | exact Or.inl rfl | exact Or.inr rfl)) (pgs_cons (pg_name (i := 4) sc_gone_into.nd rfl (by first | exact Or.inl rfl | exact Or.inr rfl)) pgs_nil))))
 (pss_cons (ps_if (PW.pt (pw_and (pt_cmpR (u_eq hr.units) (pe_ix u_ix (pv 3) pe_int (fun _ _ => rfl)) pe_str (nomark _)) (pw_and1 (pt_cmpR (u_eq hr.units) (pe_ix u_ix (pv 4) pe_int (fun _ _ => rfl)) pe_str (nomark _)))))
 (pss_one (ps_ret (pe_lst (pa_cons (pe_tup (pa_cons (pe_tup (pa_cons (pe_gref (by rfl) T.g_INSIDE) pa_nil)) (pa_cons (pe_tup (pa_cons (pe_ix u_ix (pv 3) pe_int (fun _ _ => rfl)) (pa_cons (pe_ix u_ix (pv 4) pe_int (fun _ _ => rfl)) pa_nil))) pa_nil))) pa_nil))))
 pss_nil)
 (pss_cons (ps_if (pt_cmpR (u_eq hr.units) (pe_ix u_ix (pv 3) pe_int (fun _ _ => rfl)) pe_str (nomark _))
 (pss_one (ps_ret (pe_lst (pa_cons (pe_tup (pa_cons (pe_tup (pa_cons (pe_gref (by rfl) T.g_INSIDE) pa_nil)) (pa_cons (pe_tup (pa_cons (pe_ix u_ix (pv 3) pe_int (fun _ _ => rfl)) (pa_cons (pv 4) pa_nil))) pa_nil))) pa_nil))))
 pss_nil)
 (pss_cons (ps_if (pt_cmpR (u_eq hr.units) (pe_ix u_ix (pv 4) pe_int (fun _ _ => rfl)) pe_str (nomark _))
 (pss_one (ps_ret (pe_lst (pa_cons (pe_tup (pa_cons (pe_tup pa_nil) (pa_cons (pe_tup (pa_cons (pv 3) (pa_cons (pe_ix u_ix (pv 4) pe_int (fun _ _ => rfl)) pa_nil))) pa_nil))) pa_nil))))
 pss_nil)
 (pss_cons (ps_if (pt_cmpR (u_ne hr.units) (pe_ix u_ix (pv 3) pe_int (fun _ _ => rfl)) (pe_ix u_ix (pv 4) pe_int (fun _ _ => rfl)) (nomark _))
 (pss_one (ps_ret (pe_lst pa_nil)))
 pss_nil)
 (pss_cons (ps_if (PW.pt (pw_and (pt_cmpR (u_eq hr.units) (pe_ix u_ix (pv 3) pe_int (fun _ _ => rfl)) pe_str (nomark _)) (pw_and (pt_cmpR u_gt (pe_ix u_ix (pv 3) pe_int (fun _ _ => rfl)) pe_int (nomark _)) (pw_and1 (pt_cmpR u_gt (pe_ix u_ix (pv 4) pe_int (fun _ _ => rfl)) pe_int (nomark _))))))
 (pss_one (ps_ret (pe_lst (pa_cons (pe_tup (pa_cons (pe_tup (pa_cons pe_int pa_nil)) (pa_cons (pe_tup (pa_cons (pe_ix u_ix (pv 3) pe_int (fun _ _ => rfl)) (pa_cons (pe_ix u_ix (pv 4) pe_int (fun _ _ => rfl)) pa_nil))) pa_nil))) pa_nil))))
 pss_nil)
 (pss_cons (ps_if (pt_cmpR (u_eq hr.units) (pe_ix u_ix (pv 3) pe_int (fun _ _ => rfl)) pe_str (nomark _))
 (pss_cons (ps_set (i := 5) sc_gone_into.nd rfl (by first | exact Or.inl rfl | exact Or.inr rfl) (pe_callC (ok_both_of T) (hr.mono (by omega)) (by rfl) pass0 (pa_cons (pe_callC (ok_cases_of T) (hr.mono (by omega)) (by rfl) pass0 (pa_cons (pv 0) (pa_cons (pe_ix u_ix (pv 3) pe_int (fun _ _ => rfl)) pa_nil))) (pa_cons (pe_callC (ok_cases_of T) (hr.mono (by omega)) (by rfl) pass0 (pa_cons (pv 1) (pa_cons (pe_ix u_ix (pv 4) pe_int (fun _ _ => rfl)) pa_nil))) pa_nil))))
 (pss_cons (ps_setLc (i := 5) (own := [("one", 6), ("two", 7)]) (g := (gTup K 2 (gCons (gName 6) (gCons (gName 7) gNil)))) (tt := (tTwo (tTest (tOp rNotNU (tOp (rIxU K) (tVar 6) (tC (.int 2))) (tC .non))) (tTest (tOp rNotNU (tOp (rIxU K) (tVar 7) (tC (.int 2))) (tC .non))))) rfl sc_gone_into.nd rfl rfl (sw_true rfl rfl rfl (by decide +kernel)) (pi_list (pv 5)) (blkOk_by (N := ["old", "new", "pair", "mine", "yours", "both", "one", "two"]) (sc := (defScope s_gone_into)) (own := [("one", 6), ("two", 7)]) (by decide +kernel)) (fun _ _ _ _ _ => (pg_tup (by rfl) (pgs_cons (pg_name (i := 6) sc_gone_into.nd rfl (by first | exact Or.inl rfl | exact Or.inr rfl)) (pgs_cons (pg_name (i := 7) sc_gone_into.nd rfl (by first | exact Or.inl rfl | exact Or.inr rfl)) pgs_nil)))) (fun _ _ _ _ _ => (pts_two (pt_cmpR u_notN (pe_ix u_ix (pv 6) pe_int (fun _ _ => rfl)) pe_non (nomark _)) (pt_cmpR u_notN (pe_ix u_ix (pv 7) pe_int (fun _ _ => rfl)) pe_non (nomark _)))) (fun _ _ _ _ _ => (pe_tup (pa_cons (pv 6) (pa_cons (pv 7) pa_nil)))))
 (pss_one (ps_ret (pe_lc (own := [("one", 6), ("two", 7)]) (g := (gTup K 2 (gCons (gName 6) (gCons (gName 7) gNil)))) (tt := tYes) rfl sc_gone_into.nd (pi_list (pv 5)) (blkOk_by (N := ["old", "new", "pair", "mine", "yours", "both", "one", "two"]) (sc := (defScope s_gone_into)) (own := [("one", 6), ("two", 7)]) (by decide +kernel)) (fun _ _ _ _ _ => (pg_tup (by rfl) (pgs_cons (pg_name (i := 6) sc_gone_into.nd rfl (by first | exact Or.inl rfl | exact Or.inr rfl)) (pgs_cons (pg_name (i := 7) sc_gone_into.nd rfl (by first | exact Or.inl rfl | exact Or.inr rfl)) pgs_nil)))) (fun _ _ _ _ _ => pts_nil) (fun _ _ _ _ _ => (pe_tup (pa_cons (pe_tup (pa_cons (pe_tup (pa_cons pe_str (pa_cons (pe_ix u_ix (pv 7) pe_int (fun _ _ => rfl)) pa_nil))) pa_nil)) (pa_cons (pe_tup (pa_cons (pe_ix u_ix (pv 6) pe_int (fun _ _ => rfl)) (pa_cons (pe_ix u_ix (pv 7) pe_int (fun _ _ => rfl)) pa_nil))) pa_nil)))))))))
 pss_nil)
 (pss_cons (ps_if (pt_cmpR (u_eq hr.units) (pe_ix u_ix (pv 3) pe_int (fun _ _ => rfl)) pe_str (nomark _))
 (pss_cons (ps_set (i := 5) sc_gone_into.nd rfl (by first | exact Or.inl rfl | exact Or.inr rfl) (pe_callC (ok_both_of T) (hr.mono (by omega)) (by rfl) pass0 (pa_cons (pe_callC (ok_fields_of T) (hr.mono (by omega)) (by rfl) pass0 (pa_cons (pv 0) (pa_cons (pe_ix u_ix (pv 3) pe_int (fun _ _ => rfl)) pa_nil))) (pa_cons (pe_callC (ok_fields_of T) (hr.mono (by omega)) (by rfl) pass0 (pa_cons (pv 1) (pa_cons (pe_ix u_ix (pv 4) pe_int (fun _ _ => rfl)) pa_nil))) pa_nil))))
 (pss_one (ps_ret (pe_lc (own := [("one", 6), ("two", 7)]) (g := (gTup K 2 (gCons (gName 6) (gCons (gName 7) gNil)))) (tt := tYes) rfl sc_gone_into.nd (pi_list (pv 5)) (blkOk_by (N := ["old", "new", "pair", "mine", "yours", "both", "one", "two"]) (sc := (defScope s_gone_into)) (own := [("one", 6), ("two", 7)]) (by decide +kernel)) (fun _ _ _ _ _ => (pg_tup (by rfl) (pgs_cons (pg_name (i := 6) sc_gone_into.nd rfl (by first | exact Or.inl rfl | exact Or.inr rfl)) (pgs_cons (pg_name (i := 7) sc_gone_into.nd rfl (by first | exact Or.inl rfl | exact Or.inr rfl)) pgs_nil)))) (fun _ _ _ _ _ => pts_nil) (fun _ _ _ _ _ => (pe_tup (pa_cons (pe_tup (pa_cons (pe_ix u_ix (pv 7) pe_int (fun _ _ => rfl)) pa_nil)) (pa_cons (pe_tup (pa_cons (pe_ix u_ix (pv 6) pe_int (fun _ _ => rfl)) (pa_cons (pe_ix u_ix (pv 7) pe_int (fun _ _ => rfl)) pa_nil))) pa_nil))))))))
 pss_nil)
 (pss_one (ps_ret (pe_lst pa_nil)))))))))))

theorem sc_Walk_meet : FnScope ["self", "pair", "chain", "at", "steps", "other"] ["self", "pair", "chain"] (defScope s_Walk_meet) := ⟨rfl, rfl, rfl, by decide +kernel, rfl, by decide +kernel, by decide +kernel⟩
theorem ok_Walk_meet {P : Program} {w : World} {K : PySem.W.Frag} {mg : Str → Option Value} {base : Heap} {C : Addr} (T : Txt K mg C) : ∀ n : Nat, CalF P w K mg base CX0 (4 + n) (cAt K "Walk") s_Walk_meet "meet" "Walk.meet" ["self", "pair", "chain"] (sp_Walk_meet K n)
  | 0 => CalF.of (k := 3) T.d_Walk_meet sc_Walk_meet (fun vs H Q E h => (no_Walk_meet h).elim) fun f cdv A outer s H vs Q E hr h => (no_Walk_meet h).elim
  | n + 1 => by
    have ih := ok_Walk_meet (P := P) (w := w) (base := base) T n
    refine CalF.of (k := 4 + n) T.d_Walk_meet sc_Walk_meet (len_Walk_meet n) fun f cdv A outer s H vs Q E hr h => ⟨t_Walk_meet K C n, ?_, p_Walk_meet K C T.own n vs H Q E h⟩
    exact (pss_cons (ps_if (pt_cmpR (op_inD (hu65 hr)) (pv 1) (pe_fldU (pv 0) (by rfl)) (by rfl))
 (pss_one ps_retN)
 pss_nil)
 (pss_cons (ps_set (i := 3) sc_Walk_meet.nd rfl (by first | exact Or.inl rfl | exact Or.inr rfl) (pe_callB u_len (by rfl) T.m_len PySem.boot_len (pa_cons (pe_fldU (pv 0) (by rfl)) pa_nil)))
 (pss_cons (ps_expr (pe_bm PySem.F.plainAttrs_list PySem.F.slot_list_append PySem.F.type_list_append u_append (pe_fldU (pv 0) (by rfl)) (pa_cons (pv 1) pa_nil)))
 (pss_cons (ps_expr (pe_bm PySem.F.plainAttrs_list PySem.F.slot_list_append PySem.F.type_list_append u_append (pe_fldU (pv 0) (by rfl)) (pa_cons (pv 2) pa_nil)))
 (pss_one (ps_for PassesOwn.never rfl (pi_list (pe_callC (ok_gone_into T) (hr.mono (by omega)) (by rfl) pass0 (pa_cons (pe_fldU (pv 0) (by rfl)) (pa_cons (pe_fldU (pv 0) (by rfl)) (pa_cons (pv 1) pa_nil))))) (pg_tup (by rfl) (pgs_cons (pg_name (i := 4) sc_Walk_meet.nd rfl (by first | exact Or.inl rfl | exact Or.inr rfl)) (pgs_cons (pg_name (i := 5) sc_Walk_meet.nd rfl (by first | exact Or.inl rfl | exact Or.inr rfl)) pgs_nil)))
 (pss_one (ps_expr (pe_methM (pv 0) T.own.Walk.cl (CalF.calM ih (fun _ _ _ _ _ _ us hl => match us, hl with | [_, _, _], _ => rfl)) (hr.mono (by omega)) pass0 (pa_cons (pv 5) (pa_cons (pe_op u_addA (pv 2) (pe_tup (pa_cons (pe_tup (pa_cons (pv 3) (pa_cons (pv 4) pa_nil))) pa_nil))) pa_nil)))))))))))

theorem sc_Walk___init__ : FnScope ["self", "old", "new"] ["self", "old", "new"] (defScope s_Walk___init__) := ⟨rfl, rfl, rfl, by decide +kernel, rfl, by decide +kernel, by decide +kernel⟩
theorem ok_Walk___init__ {P : Program} {w : World} {K : PySem.W.Frag} {mg : Str → Option Value} {base : Heap} {C : Addr} (T : Txt K mg C) : CalD P w K mg base CX0 165 (cAt K "Walk") s_Walk___init__ "Walk.__init__" [] ["self", "old", "new"] (sp_Walk___init__ K) := by
  refine CalD.of T.d_Walk___init__ sc_Walk___init__ (len_Walk___init__) fun f cdv A outer s H vs Q E hr h => ⟨t_Walk___init__ K C, ?_, p_Walk___init__ K C T.own vs H Q E h⟩
  exact (pss_cons (ps_fldU (pv 0) (pv 1) rfl)
 (pss_cons (ps_fldU (pv 0) (pv 2) rfl)
 (pss_cons (ps_fldU (pv 0) (pe_lst pa_nil) rfl)
 (pss_cons (ps_fldU (pv 0) (pe_lst pa_nil) rfl)
 (pss_one (ps_expr (pe_methM (pv 0) T.own.Walk.cl (CalF.calM (ok_Walk_meet T 160) (fun _ _ _ _ _ _ us hl => match us, hl with | [_, _, _], _ => rfl)) (hr.mono (by omega)) pass0 (pa_cons (pe_tup (pa_cons (pe_fldU (pv 1) (by rfl)) (pa_cons (pe_fldU (pv 2) (by rfl)) pa_nil))) (pa_cons (pe_tup pa_nil) pa_nil)))))))))

theorem sc_all_pairs : FnScope ["old", "new"] ["old", "new"] (defScope s_all_pairs) := ⟨rfl, rfl, rfl, by decide +kernel, rfl, by decide +kernel, by decide +kernel⟩
theorem ok_all_pairs {P : Program} {w : World} {K : PySem.W.Frag} {mg : Str → Option Value} {base : Heap} {C : Addr} (T : Txt K mg C) : Cal P w K mg base CX0 167 "all_pairs" ["old", "new"] (sp_all_pairs K) := by
  refine Cal.of (st := s_all_pairs) T.d_all_pairs sc_all_pairs (fun _ _ _ _ _ _ us hl => match us, hl with | [_, _], _ => rfl) (len_all_pairs) fun f cdv A outer s H vs Q E hr h => ⟨t_all_pairs K C, ?_, p_all_pairs K C T.own vs H Q E h⟩
  exact (pss_one (ps_ret (pe_callTy u_tupK (by rfl) T.m_tuple (by decide +kernel) (pa_cons (pe_fldU (pe_makeP (n := 2) (ks := []) (fun us ws => us) T.mk_Walk T.kc_Walk (ok_Walk___init__ T) (fun r z => r) (fun _ _ _ _ _ _ us ws h1 h2 => match us, ws, h1, h2 with | [_, _, _], [], _, _ => rfl) (hr.mono (by omega)) (by rfl) T.g_Walk pass0 (pa_cons (pv 0) (pa_cons (pv 1) pa_nil)) pk_nil) (by rfl)) pa_nil))))

theorem sc_Making___init__ : FnScope ["self", "old", "new"] ["self", "old", "new"] (defScope s_Making___init__) := ⟨rfl, rfl, rfl, by decide +kernel, rfl, by decide +kernel, by decide +kernel⟩
theorem ok_Making___init__ {P : Program} {w : World} {K : PySem.W.Frag} {mg : Str → Option Value} {base : Heap} {C : Addr} (T : Txt K mg C) : CalD P w K mg base CX0 168 (cAt K "Making") s_Making___init__ "Making.__init__" [] ["self", "old", "new"] (sp_Making___init__ K) := by
  refine CalD.of T.d_Making___init__ sc_Making___init__ (len_Making___init__) fun f cdv A outer s H vs Q E hr h => ⟨t_Making___init__ K C, ?_, p_Making___init__ K C T.own vs H Q E h⟩
  exact (pss_cons (ps_fldU (pv 0) (pv 1) rfl)
 (pss_cons (ps_fldU (pv 0) (pv 2) rfl)
 (pss_one (ps_fldU (pv 0) (pe_callC (ok_all_pairs T) (hr.mono (by omega)) (by rfl) pass0 (pa_cons (pv 1) (pa_cons (pv 2) pa_nil))) rfl))))

theorem sc_Making_number_of : FnScope ["self", "mine", "yours"] ["self", "mine", "yours"] (defScope s_Making_number_of) := ⟨rfl, rfl, rfl, by decide +kernel, rfl, by decide +kernel, by decide +kernel⟩
theorem ok_Making_number_of {P : Program} {w : World} {K : PySem.W.Frag} {mg : Str → Option Value} {base : Heap} {C : Addr} (T : Txt K mg C) : CalF P w K mg base CX0 1 (cAt K "Making") s_Making_number_of "number_of" "Making.number_of" ["self", "mine", "yours"] (sp_Making_number_of K) := by
  refine CalF.of T.d_Making_number_of sc_Making_number_of (len_Making_number_of) fun f cdv A outer s H vs Q E hr h => ⟨t_Making_number_of K C, ?_, p_Making_number_of K C T.own vs H Q E h⟩
  exact (pss_cons (ps_if (pt_cmpR (op_inD (hu65 hr)) (pe_tup (pa_cons (pv 1) (pa_cons (pv 2) pa_nil))) (pe_fldU (pv 0) (by rfl)) (by rfl))
 (pss_one (ps_ret (pe_bmT PySem.F.plainAttrs_tuple PySem.F.slot_tuple_index PySem.F.type_tuple_index (u_idxT (hu65 hr)) (pe_fldU (pv 0) (by rfl)) (pa_cons (pe_tup (pa_cons (pv 1) (pa_cons (pv 2) pa_nil))) pa_nil))))
 pss_nil)
 (pss_one (ps_ret (pe_un u_neg pe_int))))

theorem sc_Making_choice : FnScope ["self", "mine", "yours", "theirs", "cases", "number", "word", "content", "case", "other"] ["self", "mine", "yours"] (defScope s_Making_choice) := ⟨rfl, rfl, rfl, by decide +kernel, rfl, by decide +kernel, by decide +kernel⟩
theorem ok_Making_choice {P : Program} {w : World} {K : PySem.W.Frag} {mg : Str → Option Value} {base : Heap} {C : Addr} (T : Txt K mg C) : CalF P w K mg base CX0 2 (cAt K "Making") s_Making_choice "choice" "Making.choice" ["self", "mine", "yours"] (sp_Making_choice K) := by
  refine CalF.of T.d_Making_choice sc_Making_choice (len_Making_choice) fun f cdv A outer s H vs Q E hr h => ⟨t_Making_choice K C, ?_, p_Making_choice K C T.own vs H Q E h⟩
  unfold t_Making_choice b_Making_choice_0 b_Making_choice_1
  exact (pss_cons (ps_set (i := 3) sc_Making_choice.nd rfl (by first | exact Or.inl rfl | exact Or.inr rfl) (pe_callC (ok_cases_of T) (hr.mono (by omega)) (by rfl) pass0 (pa_cons (pe_fldU (pv 0) (by rfl)) (pa_cons (pv 2) pa_nil))))
 (pss_cons (ps_set (i := 4) sc_Making_choice.nd rfl (by first | exact Or.inl rfl | exact Or.inr rfl) (pe_lst pa_nil))
 (pss_cons (ps_for PassesOwn.never rfl (pi_tup (pe_callC (ok_cases_of T) (hr.mono (by omega)) (by rfl) pass0 (pa_cons (pe_fldU (pv 0) (by rfl)) (pa_cons (pv 1) pa_nil)))) (pg_tup (by rfl) (pgs_cons (pg_name (i := 5) sc_Making_choice.nd rfl (by first | exact Or.inl rfl | exact Or.inr rfl)) (pgs_cons (pg_name (i := 6) sc_Making_choice.nd rfl (by first | exact Or.inl rfl | exact Or.inr rfl)) (pgs_cons (pg_name (i := 7) sc_Making_choice.nd rfl (by first | exact Or.inl rfl | exact Or.inr rfl)) pgs_nil))))
 (pss_cons (ps_set (i := 8) sc_Making_choice.nd rfl (by first | exact Or.inl rfl | exact Or.inr rfl) (pe_callC (ok_by_number T) (hr.mono (by omega)) (by rfl) pass0 (pa_cons (pv 3) (pa_cons (pv 5) pa_nil))))
 (pss_one (ps_if (PW.pt (pw_and (pt_cmpR u_notN (pv 8) pe_non (nomark _)) (pw_and1 (pt_cmpR u_isN (pe_ix u_ix (pv 8) pe_int (fun _ _ => rfl)) pe_non (nomark _)))))
 (pss_one (ps_expr (pe_bm PySem.F.plainAttrs_list PySem.F.slot_list_append PySem.F.type_list_append u_append (pv 4) (pa_cons (pe_tup (pa_cons (pv 5) (pa_cons (pe_ix u_ix (pv 8) pe_int (fun _ _ => rfl)) (pa_cons pe_non pa_nil)))) pa_nil))))
 (pss_one (ps_if (PW.pt (pw_and (pt_cmpR u_notN (pv 8) pe_non (nomark _)) (pw_and1 (pt_cmpR u_isN (pv 7) pe_non (nomark _)))))
 (pss_one (ps_expr (pe_bm PySem.F.plainAttrs_list PySem.F.slot_list_append PySem.F.type_list_append u_append (pv 4) (pa_cons (pe_tup (pa_cons (pv 5) (pa_cons (pe_ix u_ix (pv 8) pe_int (fun _ _ => rfl)) (pa_cons (pe_un u_neg pe_int) pa_nil)))) pa_nil))))
 (pss_one (ps_if (pt_cmpR u_notN (pv 8) pe_non (nomark _))
 (pss_one (ps_expr (pe_bm PySem.F.plainAttrs_list PySem.F.slot_list_append PySem.F.type_list_append u_append (pv 4) (pa_cons (pe_tup (pa_cons (pv 5) (pa_cons (pe_ix u_ix (pv 8) pe_int (fun _ _ => rfl)) (pa_cons (pe_methM (pv 0) T.own.Making.cl (CalF.calM (ok_Making_number_of T) (fun _ _ _ _ _ _ us hl => match us, hl with | [_, _, _], _ => rfl)) (hr.mono (by omega)) pass0 (pa_cons (pv 7) (pa_cons (pe_ix u_ix (pv 8) pe_int (fun _ _ => rfl)) pa_nil))) pa_nil)))) pa_nil))))
 pss_nil))))))))
 (pss_cons (ps_set (i := 9) sc_Making_choice.nd rfl (by first | exact Or.inl rfl | exact Or.inr rfl) (pe_callC (ok_by_number T) (hr.mono (by omega)) (by rfl) pass0 (pa_cons (pv 3) (pa_cons pe_int pa_nil))))
 (pss_cons (ps_if (pt_cmpR u_notN (pv 9) pe_non (nomark _))
 (pss_one (ps_set (i := 9) sc_Making_choice.nd rfl (by first | exact Or.inl rfl | exact Or.inr rfl) (pe_ix u_ix (pv 9) pe_int (fun _ _ => rfl))))
 pss_nil)
 (pss_one (ps_ret (pe_tup (pa_cons pe_str (pa_cons (pe_callTy u_tuple (by rfl) T.m_tuple (by decide +kernel) (pa_cons (pv 4) pa_nil)) (pa_cons (pv 9) pa_nil)))))))))))

theorem sc_Making_node : FnScope ["self", "mine", "yours", "ours", "theirs", "fields", "defaults", "field", "one"] ["self", "mine", "yours"] (defScope s_Making_node) := ⟨rfl, rfl, rfl, by decide +kernel, rfl, by decide +kernel, by decide +kernel⟩
theorem ok_Making_node {P : Program} {w : World} {K : PySem.W.Frag} {mg : Str → Option Value} {base : Heap} {C : Addr} (T : Txt K mg C) : CalF P w K mg base CX0 3 (cAt K "Making") s_Making_node "node" "Making.node" ["self", "mine", "yours"] (sp_Making_node K) := by
  refine CalF.of T.d_Making_node sc_Making_node (len_Making_node) fun f cdv A outer s H vs Q E hr h => ⟨t_Making_node K C, ?_, p_Making_node K C T.own vs H Q E h⟩
  unfold t_Making_node b_Making_node_0
  exact (pss_cons (ps_par (i := 3) (j := 4) rfl sc_Making_node.nd rfl rfl (by decide) rfl rfl (pa_cons (pe_callC (ok_fields_of T) (hr.mono (by omega)) (by rfl) pass0 (pa_cons (pe_fldU (pv 0) (by rfl)) (pa_cons (pv 1) pa_nil))) (pa_cons (pe_callC (ok_fields_of T) (hr.mono (by omega)) (by rfl) pass0 (pa_cons (pe_fldU (pv 0) (by rfl)) (pa_cons (pv 2) pa_nil))) pa_nil)) (by rfl))
 (pss_cons (ps_set (i := 5) sc_Making_node.nd rfl (by first | exact Or.inl rfl | exact Or.inr rfl) (pe_lst pa_nil))
 (pss_cons (ps_set (i := 6) sc_Making_node.nd rfl (by first | exact Or.inl rfl | exact Or.inr rfl) (pe_lst pa_nil))
 (pss_cons (ps_for PassesOwn.never rfl (pi_tup (pv 4)) (pg_name (i := 7) sc_Making_node.nd rfl (by first | exact Or.inl rfl | exact Or.inr rfl))
 (pss_cons (ps_set (i := 8) sc_Making_node.nd rfl (by first | exact Or.inl rfl | exact Or.inr rfl) (pe_callC (ok_by_number T) (hr.mono (by omega)) (by rfl) pass0 (pa_cons (pv 3) (pa_cons (pe_ix u_ix (pv 7) pe_int (fun _ _ => rfl)) pa_nil))))
 (pss_one (ps_if (pt_cmpR u_notN (pv 8) pe_non (nomark _))
 (pss_one (ps_expr (pe_bm PySem.F.plainAttrs_list PySem.F.slot_list_append PySem.F.type_list_append u_append (pv 5) (pa_cons (pe_tup (pa_cons (pe_ix u_ix (pv 7) pe_int (fun _ _ => rfl)) (pa_cons (pe_ix u_ix (pv 7) pe_int (fun _ _ => rfl)) (pa_cons (pe_methM (pv 0) T.own.Making.cl (CalF.calM (ok_Making_number_of T) (fun _ _ _ _ _ _ us hl => match us, hl with | [_, _, _], _ => rfl)) (hr.mono (by omega)) pass0 (pa_cons (pe_ix u_ix (pv 8) pe_int (fun _ _ => rfl)) (pa_cons (pe_ix u_ix (pv 7) pe_int (fun _ _ => rfl)) pa_nil))) (pa_cons (pe_callTy u_tuple (by rfl) T.m_tuple (by decide +kernel) (pa_cons (pe_callC (ok_left_of T) (hr.mono (by omega)) (by rfl) pass0 (pa_cons (pv 8) pa_nil)) pa_nil)) pa_nil))))) pa_nil))))
 (pss_one (ps_if (pt_cmpR (u_neX hr.units) (pe_callC (ok_left_of T) (hr.mono (by omega)) (by rfl) pass0 (pa_cons (pv 7) pa_nil)) (pe_tup pa_nil) (nomark _))
 (pss_one (ps_expr (pe_bm PySem.F.plainAttrs_list PySem.F.slot_list_append PySem.F.type_list_append u_append (pv 6) (pa_cons (pe_tup (pa_cons (pe_ix u_ix (pv 7) pe_int (fun _ _ => rfl)) (pa_cons (pe_ix u_ix (pe_callC (ok_left_of T) (hr.mono (by omega)) (by rfl) pass0 (pa_cons (pv 7) pa_nil)) pe_int (fun _ _ => rfl)) pa_nil))) pa_nil))))
 pss_nil))))))
 (pss_one (ps_ret (pe_tup (pa_cons pe_str (pa_cons (pv 2) (pa_cons (pe_callTy u_tuple (by rfl) T.m_tuple (by decide +kernel) (pa_cons (pv 5) pa_nil)) (pa_cons (pe_callTy u_tuple (by rfl) T.m_tuple (by decide +kernel) (pa_cons (pv 6) pa_nil)) (pa_cons (pe_callTy u_tuple (by rfl) T.m_tuple (by decide +kernel) (pa_cons (pe_callC (ok_lacking_names T) (hr.mono (by omega)) (by rfl) pass0 (pa_cons (pv 4) (pa_cons (pv 3) pa_nil))) pa_nil)) pa_nil))))))))))))

theorem sc_Making_step : FnScope ["self", "mine", "yours", "inner"] ["self", "mine", "yours"] (defScope s_Making_step) := ⟨rfl, rfl, rfl, by decide +kernel, rfl, by decide +kernel, by decide +kernel⟩
theorem ok_Making_step {P : Program} {w : World} {K : PySem.W.Frag} {mg : Str → Option Value} {base : Heap} {C : Addr} (T : Txt K mg C) : CalF P w K mg base CX0 4 (cAt K "Making") s_Making_step "step" "Making.step" ["self", "mine", "yours"] (sp_Making_step K) := by
  refine CalF.of T.d_Making_step sc_Making_step (len_Making_step) fun f cdv A outer s H vs Q E hr h => ⟨t_Making_step K C, ?_, p_Making_step K C T.own vs H Q E h⟩
  unfold t_Making_step b_Making_step_0 b_Making_step_1
  exact (pss_cons (ps_if (PW.pt (pw_and (pt_cmpR (u_eq hr.units) (pe_ix u_ix (pv 1) pe_int (fun _ _ => rfl)) pe_str (nomark _)) (pw_and1 (pt_cmpR (u_eq hr.units) (pe_ix u_ix (pv 2) pe_int (fun _ _ => rfl)) pe_str (nomark _)))))
 (pss_one (ps_ret (pe_tup (pa_cons pe_str (pa_cons (pe_methM (pv 0) T.own.Making.cl (CalF.calM (ok_Making_number_of T) (fun _ _ _ _ _ _ us hl => match us, hl with | [_, _, _], _ => rfl)) (hr.mono (by omega)) pass0 (pa_cons (pe_ix u_ix (pv 1) pe_int (fun _ _ => rfl)) (pa_cons (pe_ix u_ix (pv 2) pe_int (fun _ _ => rfl)) pa_nil))) pa_nil)))))
 pss_nil)
 (pss_cons (ps_if (pt_cmpR (u_eq hr.units) (pe_ix u_ix (pv 1) pe_int (fun _ _ => rfl)) pe_str (nomark _))
 (pss_one (ps_ret (pe_tup (pa_cons pe_str (pa_cons (pe_methM (pv 0) T.own.Making.cl (CalF.calM (ok_Making_number_of T) (fun _ _ _ _ _ _ us hl => match us, hl with | [_, _, _], _ => rfl)) (hr.mono (by omega)) pass0 (pa_cons (pe_ix u_ix (pv 1) pe_int (fun _ _ => rfl)) (pa_cons (pv 2) pa_nil))) pa_nil)))))
 pss_nil)
 (pss_cons (ps_if (pt_cmpR (u_eq hr.units) (pe_ix u_ix (pv 2) pe_int (fun _ _ => rfl)) pe_str (nomark _))
 (pss_one (ps_ret (pe_tup (pa_cons pe_str (pa_cons (pe_methM (pv 0) T.own.Making.cl (CalF.calM (ok_Making_number_of T) (fun _ _ _ _ _ _ us hl => match us, hl with | [_, _, _], _ => rfl)) (hr.mono (by omega)) pass0 (pa_cons (pv 1) (pa_cons (pe_ix u_ix (pv 2) pe_int (fun _ _ => rfl)) pa_nil))) pa_nil)))))
 pss_nil)
 (pss_cons (ps_if (pt_cmpR (u_ne hr.units) (pe_ix u_ix (pv 1) pe_int (fun _ _ => rfl)) (pe_ix u_ix (pv 2) pe_int (fun _ _ => rfl)) (nomark _))
 (pss_one (ps_ret (pe_tup (pa_cons pe_str pa_nil))))
 pss_nil)
 (pss_cons (ps_if (pt_cmpR (u_eq hr.units) (pe_ix u_ix (pv 1) pe_int (fun _ _ => rfl)) pe_str (nomark _))
 (pss_cons (ps_set (i := 3) sc_Making_step.nd rfl (by first | exact Or.inl rfl | exact Or.inr rfl) (pe_un u_neg pe_int))
 (pss_cons (ps_if (PW.pt (pw_and (pt_cmpR u_gt (pe_ix u_ix (pv 1) pe_int (fun _ _ => rfl)) pe_int (nomark _)) (pw_and1 (pt_cmpR u_gt (pe_ix u_ix (pv 2) pe_int (fun _ _ => rfl)) pe_int (nomark _)))))
 (pss_one (ps_set (i := 3) sc_Making_step.nd rfl (by first | exact Or.inl rfl | exact Or.inr rfl) (pe_methM (pv 0) T.own.Making.cl (CalF.calM (ok_Making_number_of T) (fun _ _ _ _ _ _ us hl => match us, hl with | [_, _, _], _ => rfl)) (hr.mono (by omega)) pass0 (pa_cons (pe_ix u_ix (pv 1) pe_int (fun _ _ => rfl)) (pa_cons (pe_ix u_ix (pv 2) pe_int (fun _ _ => rfl)) pa_nil)))))
 pss_nil)
 (pss_one (ps_ret (pe_tup (pa_cons pe_str (pa_cons (pe_ix u_ix (pv 2) pe_int (fun _ _ => rfl)) (pa_cons (pv 3) pa_nil))))))))
 pss_nil)
 (pss_cons (ps_if (pt_cmpR (u_eq hr.units) (pe_ix u_ix (pv 1) pe_int (fun _ _ => rfl)) pe_str (nomark _))
 (pss_one (ps_ret (pe_methM (pv 0) T.own.Making.cl (CalF.calM (ok_Making_choice T) (fun _ _ _ _ _ _ us hl => match us, hl with | [_, _, _], _ => rfl)) (hr.mono (by omega)) pass0 (pa_cons (pe_ix u_ix (pv 1) pe_int (fun _ _ => rfl)) (pa_cons (pe_ix u_ix (pv 2) pe_int (fun _ _ => rfl)) pa_nil)))))
 pss_nil)
 (pss_cons (ps_if (pt_cmpR (u_eq hr.units) (pe_ix u_ix (pv 1) pe_int (fun _ _ => rfl)) pe_str (nomark _))
 (pss_one (ps_ret (pe_methM (pv 0) T.own.Making.cl (CalF.calM (ok_Making_node T) (fun _ _ _ _ _ _ us hl => match us, hl with | [_, _, _], _ => rfl)) (hr.mono (by omega)) pass0 (pa_cons (pe_ix u_ix (pv 1) pe_int (fun _ _ => rfl)) (pa_cons (pe_ix u_ix (pv 2) pe_int (fun _ _ => rfl)) pa_nil)))))
 pss_nil)
 (pss_one (ps_ret (pv 2))))))))))

theorem sc_made : FnScope ["old", "new", "making", "mine", "yours"] ["old", "new"] (defScope s_made) := ⟨rfl, rfl, rfl, by decide +kernel, rfl, by decide +kernel, by decide +kernel⟩
theorem ok_made {P : Program} {w : World} {K : PySem.W.Frag} {mg : Str → Option Value} {base : Heap} {C : Addr} (T : Txt K mg C) : Cal P w K mg base CX0 170 "made" ["old", "new"] (sp_made K) := by
  refine Cal.of (st := s_made) T.d_made sc_made (fun _ _ _ _ _ _ us hl => match us, hl with | [_, _], _ => rfl) (len_made) fun f cdv A outer s H vs Q E hr h => ⟨t_made K C, ?_, p_made K C T.own vs H Q E h⟩
  exact (pss_cons (ps_set (i := 2) sc_made.nd rfl (by first | exact Or.inl rfl | exact Or.inr rfl) (pe_makeP (n := 2) (ks := []) (fun us ws => us) T.mk_Making T.kc_Making (ok_Making___init__ T) (fun r z => r) (fun _ _ _ _ _ _ us ws h1 h2 => match us, ws, h1, h2 with | [_, _, _], [], _, _ => rfl) (hr.mono (by omega)) (by rfl) T.g_Making pass0 (pa_cons (pv 0) (pa_cons (pv 1) pa_nil)) pk_nil))
 (pss_one (ps_ret (pe_callTy u_tuple (by rfl) T.m_tuple (by decide +kernel) (pa_cons (pe_lc (own := [("mine", 3), ("yours", 4)]) (g := (gTup K 2 (gCons (gName 3) (gCons (gName 4) gNil)))) (tt := tYes) rfl sc_made.nd (pi_tup (pe_fldU (pv 2) (by rfl))) (blkOk_by (N := ["old", "new", "making", "mine", "yours"]) (sc := (defScope s_made)) (own := [("mine", 3), ("yours", 4)]) (by decide +kernel)) (fun _ _ _ _ _ => (pg_tup (by rfl) (pgs_cons (pg_name (i := 3) sc_made.nd rfl (by first | exact Or.inl rfl | exact Or.inr rfl)) (pgs_cons (pg_name (i := 4) sc_made.nd rfl (by first | exact Or.inl rfl | exact Or.inr rfl)) pgs_nil)))) (fun _ _ _ _ _ => pts_nil) (fun _ _ _ _ _ => (pe_methM (pv 2) T.own.Making.cl (CalF.calM (ok_Making_step T) (fun _ _ _ _ _ _ us hl => match us, hl with | [_, _, _], _ => rfl)) (hr.mono (by omega)) pass0 (pa_cons (pv 3) (pa_cons (pv 4) pa_nil))))) pa_nil)))))

theorem sc_judge_reader : FnScope ["old", "new", "steps", "due", "at"] ["old", "new", "steps"] (defScope s_judge_reader) := ⟨rfl, rfl, rfl, by decide +kernel, rfl, by decide +kernel, by decide +kernel⟩
theorem ok_judge_reader {P : Program} {w : World} {K : PySem.W.Frag} {mg : Str → Option Value} {base : Heap} {C : Addr} (T : Txt K mg C) : Cal P w K mg base CX0 171 "judge_reader" ["old", "new", "steps"] (sp_judge_reader K) := by
  refine Cal.of (st := s_judge_reader) T.d_judge_reader sc_judge_reader (fun _ _ _ _ _ _ us hl => match us, hl with | [_, _, _], _ => rfl) (len_judge_reader K) fun f cdv A outer s H vs Q E hr h => ⟨t_judge_reader K, ?_, p_judge_reader K vs H Q E h⟩
  exact (pss_cons (ps_set (i := 3) sc_judge_reader.nd rfl (by first | exact Or.inl rfl | exact Or.inr rfl) (pe_callC (ok_made T) (hr.mono (by omega)) (by rfl) pass0 (pa_cons (pv 0) (pa_cons (pv 1) pa_nil))))
 (pss_cons (ps_for PassesOwn.never rfl (pi_range1 (by rfl) T.m_range (pa_cons (pe_callB (u_max2 rfl) (by rfl) T.m_max (by decide +kernel) (pa_cons (pe_callB u_len (by rfl) T.m_len PySem.boot_len (pa_cons (pv 3) pa_nil)) (pa_cons (pe_callB u_len (by rfl) T.m_len PySem.boot_len (pa_cons (pv 2) pa_nil)) pa_nil))) pa_nil)) (pg_name (i := 4) sc_judge_reader.nd rfl (by first | exact Or.inl rfl | exact Or.inr rfl))
 (pss_cons (ps_if (PW.pt (pw_and (pt_cmpR u_lt (pv 4) (pe_callB (u_min2 rfl) (by rfl) T.m_min (by decide +kernel) (pa_cons (pe_callB u_len (by rfl) T.m_len PySem.boot_len (pa_cons (pv 3) pa_nil)) (pa_cons (pe_callB u_len (by rfl) T.m_len PySem.boot_len (pa_cons (pv 2) pa_nil)) pa_nil))) (nomark _)) (pw_and1 (pt_not (pt_truth (pe_callC (ok_truths_alike T 10) (hr.mono (by omega)) (by rfl) pass0 (pa_cons (pe_ix u_ix (pv 3) (pv 4) (fun _ _ => rfl)) (pa_cons (pe_ix u_ix (pv 2) (pv 4) (fun _ _ => rfl)) pa_nil))) (by intro _; rfl))))))
 (pss_one (ps_ret (pv 4)))
 pss_nil)
 (pss_one (ps_if (PW.pt (pw_or (pt_cmpR u_ge (pv 4) (pe_callB u_len (by rfl) T.m_len PySem.boot_len (pa_cons (pv 3) pa_nil)) (nomark _)) (pw_or (pt_cmpR u_ge (pv 4) (pe_callB u_len (by rfl) T.m_len PySem.boot_len (pa_cons (pv 2) pa_nil)) (nomark _)) (pw_or1 (pt_cmpR (u_ne hr.units) (pe_ix u_ix (pv 2) (pv 4) (fun _ _ => rfl)) (pe_ix u_ix (pv 3) (pv 4) (fun _ _ => rfl)) (nomark _))))))
 (pss_one (ps_ret (pv 4)))
 pss_nil))))
 (pss_one (ps_ret pe_str))))

theorem sc_is_name : FnScope ["thing", "sign"] ["thing"] (defScope s_is_name) := ⟨rfl, rfl, rfl, by decide +kernel, rfl, by decide +kernel, by decide +kernel⟩
theorem ok_is_name {P : Program} {w : World} {K : PySem.W.Frag} {mg : Str → Option Value} {base : Heap} {C : Addr} (T : Txt K mg C) : Cal P w K mg base CX0 1 "is_name" ["thing"] (sp_is_name K) := by
  refine Cal.of (st := s_is_name) T.d_is_name sc_is_name (fun _ _ _ _ _ _ us hl => match us, hl with | [_], _ => rfl) (len_is_name K) fun f cdv A outer s H vs Q E hr h => ⟨t_is_name K, ?_, p_is_name K vs H Q E h⟩
  exact (pss_cons (ps_if (PW.pt (pw_or (pt_not (pt_truth (pe_callB u_isi (by rfl) T.m_isinstance (by decide +kernel) (pa_cons (pv 0) (pa_cons (pe_bltn (v := .ty "str") (by rfl) T.m_str (by decide +kernel) rfl) pa_nil))) (by intro _; rfl))) (pw_or1 (pt_not (pt_chain u_le u_le pe_int (pe_callB u_len (by rfl) T.m_len PySem.boot_len (pa_cons (pv 0) pa_nil)) (pe_gint (by rfl) T.c_MOST_SIGNS))))))
 (pss_one (ps_ret pe_bl))
 pss_nil)
 (pss_one (ps_ret (pe_callB (u_all rfl) (by rfl) T.m_all (by decide +kernel) (pa_cons (pe_lc (own := [("sign", 1)]) (g := (gName 1)) (tt := tYes) rfl sc_is_name.nd (pi_str (pv 0)) (blkOk_by (N := ["thing", "sign"]) (sc := (defScope s_is_name)) (own := [("sign", 1)]) (by decide +kernel)) (fun _ _ _ _ _ => (pg_name (i := 1) sc_is_name.nd rfl (by first | exact Or.inl rfl | exact Or.inr rfl))) (fun _ _ _ _ _ => pts_nil) (fun _ _ _ _ _ => (pe_cmpR u_in (pv 1) (pe_gstr (by rfl) T.c_LETTERS) (by rfl)))) pa_nil)))))

theorem sc_is_bounds : FnScope ["low", "high", "one"] ["low", "high"] (defScope s_is_bounds) := ⟨rfl, rfl, rfl, by decide +kernel, rfl, by decide +kernel, by decide +kernel⟩
theorem ok_is_bounds {P : Program} {w : World} {K : PySem.W.Frag} {mg : Str → Option Value} {base : Heap} {C : Addr} (T : Txt K mg C) : Cal P w K mg base CX0 2 "is_bounds" ["low", "high"] (sp_is_bounds K) := by
  refine Cal.of (st := s_is_bounds) T.d_is_bounds sc_is_bounds (fun _ _ _ _ _ _ us hl => match us, hl with | [_, _], _ => rfl) (len_is_bounds K) fun f cdv A outer s H vs Q E hr h => ⟨t_is_bounds K, ?_, p_is_bounds K vs H Q E h⟩
  exact (pss_cons (ps_if (pt_not (pt_truth (pe_callB (u_all rfl) (by rfl) T.m_all (by decide +kernel) (pa_cons (pe_lc (own := [("one", 2)]) (g := (gName 2)) (tt := tYes) rfl sc_is_bounds.nd (pi_tup (pe_tup (pa_cons (pv 0) (pa_cons (pv 1) pa_nil)))) (blkOk_by (N := ["low", "high", "one"]) (sc := (defScope s_is_bounds)) (own := [("one", 2)]) (by decide +kernel)) (fun _ _ _ _ _ => (pg_name (i := 2) sc_is_bounds.nd rfl (by first | exact Or.inl rfl | exact Or.inr rfl))) (fun _ _ _ _ _ => pts_nil) (fun _ _ _ _ _ => (pe_or (pe_cmpR u_isN (pv 2) pe_non (nomark _)) (pe_one (pe_callC (ok_is_whole T) (hr.mono (by omega)) (by rfl) pass0 (pa_cons (pv 2) pa_nil)))))) pa_nil)) (by intro _; rfl)))
 (pss_one (ps_ret pe_bl))
 pss_nil)
 (pss_one (ps_ret (pe_or (pe_cmpR u_isN (pv 0) pe_non (nomark _)) (pe_or (pe_cmpR u_isN (pv 1) pe_non (nomark _)) (pe_one (pe_cmpR u_le (pv 0) (pv 1) (nomark _))))))))

theorem sc_is_known : FnScope ["names", "thing"] ["names", "thing"] (defScope s_is_known) := ⟨rfl, rfl, rfl, by decide +kernel, rfl, by decide +kernel, by decide +kernel⟩
theorem ok_is_known {P : Program} {w : World} {K : PySem.W.Frag} {mg : Str → Option Value} {base : Heap} {C : Addr} (T : Txt K mg C) : Cal P w K mg base CX0 1 "is_known" ["names", "thing"] (sp_is_known K) := by
  refine Cal.of (st := s_is_known) T.d_is_known sc_is_known (fun _ _ _ _ _ _ us hl => match us, hl with | [_, _], _ => rfl) (len_is_known K) fun f cdv A outer s H vs Q E hr h => ⟨t_is_known K, ?_, p_is_known K vs H Q E h⟩
  exact (pss_one (ps_ret (pe_and (pe_callB u_isi (by rfl) T.m_isinstance (by decide +kernel) (pa_cons (pv 1) (pa_cons (pe_bltn (v := .ty "str") (by rfl) T.m_str (by decide +kernel) rfl) pa_nil))) (pe_one (pe_cmp (pc_din (hu_of hr) (pv 1) (pv 0)))))))

theorem sc_is_sort : FnScope ["kinds", "choices", "thing", "deep", "word", "rest"] ["kinds", "choices", "thing", "deep"] (defScope s_is_sort) := ⟨rfl, rfl, rfl, by decide +kernel, rfl, by decide +kernel, by decide +kernel⟩
theorem ok_is_sort {P : Program} {w : World} {K : PySem.W.Frag} {mg : Str → Option Value} {base : Heap} {C : Addr} (T : Txt K mg C) : ∀ n : Nat, CalDf P w K mg base CX0 (3 + n) s_is_sort "is_sort" [.int 0] ["kinds", "choices", "thing", "deep"] (sp_is_sort K n)
  | 0 => CalDf.of (k := 2) T.d_is_sort sc_is_sort (fun vs H Q E h => (no_is_sort K h).elim) fun f cdv A outer s H vs Q E hr h => (no_is_sort K h).elim
  | n + 1 => by
    have ih := ok_is_sort (P := P) (w := w) (base := base) T n
    refine CalDf.of (k := 3 + n) T.d_is_sort sc_is_sort (len_is_sort K n) fun f cdv A outer s H vs Q E hr h => ⟨t_is_sort K n, ?_, p_is_sort K n vs H Q E h⟩
    unfold t_is_sort b_is_sort_0
    exact (pss_cons (ps_if (PW.pt (pw_or (pt_cmpR u_gt (pv 3) (pe_gint (by rfl) T.c_MOST_DEEP) (nomark _)) (pw_or (pt_not (pt_truth (pe_callB u_isi (by rfl) T.m_isinstance (by decide +kernel) (pa_cons (pv 2) (pa_cons (pe_bltn (v := .ty "tuple") (by rfl) T.m_tuple (by decide +kernel) rfl) pa_nil))) (by intro _; rfl))) (pw_or (pt_cmpR (u_eqX hr.units) (pv 2) (pe_tup pa_nil) (nomark _)) (pw_or1 (pt_not (pt_truth (pe_callB u_isi (by rfl) T.m_isinstance (by decide +kernel) (pa_cons (pe_ix u_ix (pv 2) pe_int (fun _ _ => rfl)) (pa_cons (pe_bltn (v := .ty "str") (by rfl) T.m_str (by decide +kernel) rfl) pa_nil))) (by intro _; rfl))))))))
 (pss_one (ps_ret pe_bl))
 pss_nil)
 (pss_cons (ps_asg (pv 2) (pg_star (by rfl) (pgs_cons (pg_name (i := 4) sc_is_sort.nd rfl (by first | exact Or.inl rfl | exact Or.inr rfl)) (pgs_star (pg_name (i := 5) sc_is_sort.nd rfl (by first | exact Or.inl rfl | exact Or.inr rfl))))))
 (pss_cons (ps_if (pt_cmpR (u_eq hr.units) (pv 4) pe_str (nomark _))
 (pss_one (ps_ret (pe_cmpR (u_eqX hr.units) (pv 5) (pe_lst pa_nil) (nomark _))))
 pss_nil)
 (pss_cons (ps_if (pt_cmpR (u_eq hr.units) (pv 4) pe_str (nomark _))
 (pss_one (ps_ret (pe_and (pe_cmpR (u_eq hr.units) (pe_callB u_len (by rfl) T.m_len PySem.boot_len (pa_cons (pv 5) pa_nil)) pe_int (nomark _)) (pe_one (pe_callC (ok_is_bounds T) (hr.mono (by omega)) (by rfl) pass0 (pa_cons (pe_ix u_ix (pv 5) pe_int (fun _ _ => rfl)) (pa_cons (pe_ix u_ix (pv 5) pe_int (fun _ _ => rfl)) pa_nil)))))))
 pss_nil)
 (pss_cons (ps_if (pt_cmpR (u_eq hr.units) (pv 4) pe_str (nomark _))
 (pss_one (ps_ret (pe_and (pe_cmpR (u_eq hr.units) (pe_callB u_len (by rfl) T.m_len PySem.boot_len (pa_cons (pv 5) pa_nil)) pe_int (nomark _)) (pe_one (pe_callC (ok_is_within T) (hr.mono (by omega)) (by rfl) pass0 (pa_cons (pe_ix u_ix (pv 5) pe_int (fun _ _ => rfl)) (pa_cons pe_int (pa_cons (pe_gint (by rfl) T.c_MOST_TEXT) pa_nil))))))))
 pss_nil)
 (pss_cons (ps_if (pt_cmpR (u_eq hr.units) (pv 4) pe_str (nomark _))
 (pss_one (ps_ret (pe_and (pe_cmpR (u_eq hr.units) (pe_callB u_len (by rfl) T.m_len PySem.boot_len (pa_cons (pv 5) pa_nil)) pe_int (nomark _)) (pe_and (pe_callC (ok_is_within T) (hr.mono (by omega)) (by rfl) pass0 (pa_cons (pe_ix u_ix (pv 5) pe_int (fun _ _ => rfl)) (pa_cons pe_int (pa_cons (pe_gint (by rfl) T.c_MOST_ROW) pa_nil)))) (pe_one (pe_callDf 4 1 ih (by simp) rfl (fun _ _ _ _ _ _ _ us its h1 h2 => match us, its, h1, h2 with | [_, _, _, _], [_], _, _ => ⟨_, rfl, rfl⟩) (hr.mono (by omega)) (by rfl) pass0 (pa_cons (pv 0) (pa_cons (pv 1) (pa_cons (pe_ix u_ix (pv 5) pe_int (fun _ _ => rfl)) (pa_cons (pe_op u_add (pv 3) pe_int) pa_nil))))))))))
 pss_nil)
 (pss_cons (ps_if (pt_cmpR (u_ne hr.units) (pe_callB u_len (by rfl) T.m_len PySem.boot_len (pa_cons (pv 5) pa_nil)) pe_int (nomark _))
 (pss_one (ps_ret pe_bl))
 pss_nil)
 (pss_cons (ps_if (pt_cmpR (u_eq hr.units) (pv 4) pe_str (nomark _))
 (pss_one (ps_ret (pe_and (pe_callDf 4 1 ih (by simp) rfl (fun _ _ _ _ _ _ _ us its h1 h2 => match us, its, h1, h2 with | [_, _, _, _], [_], _, _ => ⟨_, rfl, rfl⟩) (hr.mono (by omega)) (by rfl) pass0 (pa_cons (pv 0) (pa_cons (pv 1) (pa_cons (pe_ix u_ix (pv 5) pe_int (fun _ _ => rfl)) (pa_cons (pe_op u_add (pv 3) pe_int) pa_nil))))) (pe_one (pe_cmpR (u_ne hr.units) (pe_ix u_ix (pe_ix u_ix (pv 5) pe_int (fun _ _ => rfl)) pe_int (fun _ _ => rfl)) pe_str (nomark _))))))
 pss_nil)
 (pss_one (ps_ret (pe_or (pe_and (pe_cmpR (u_eq hr.units) (pv 4) pe_str (nomark _)) (pe_one (pe_callC (ok_is_known T) (hr.mono (by omega)) (by rfl) pass0 (pa_cons (pv 0) (pa_cons (pe_ix u_ix (pv 5) pe_int (fun _ _ => rfl)) pa_nil))))) (pe_one (pe_and (pe_cmpR (u_eq hr.units) (pv 4) pe_str (nomark _)) (pe_one (pe_callC (ok_is_known T) (hr.mono (by omega)) (by rfl) pass0 (pa_cons (pv 1) (pa_cons (pe_ix u_ix (pv 5) pe_int (fun _ _ => rfl)) pa_nil)))))))))))))))))

theorem sc_is_default : FnScope ["of", "thing"] ["of", "thing"] (defScope s_is_default) := ⟨rfl, rfl, rfl, by decide +kernel, rfl, by decide +kernel, by decide +kernel⟩
theorem ok_is_default {P : Program} {w : World} {K : PySem.W.Frag} {mg : Str → Option Value} {base : Heap} {C : Addr} (T : Txt K mg C) : Cal P w K mg base CX0 3 "is_default" ["of", "thing"] (sp_is_default K) := by
  refine Cal.of (st := s_is_default) T.d_is_default sc_is_default (fun _ _ _ _ _ _ us hl => match us, hl with | [_, _], _ => rfl) (len_is_default K) fun f cdv A outer s H vs Q E hr h => ⟨t_is_default K, ?_, p_is_default K vs H Q E h⟩
  exact (pss_cons (ps_if (pt_cmpR (u_eq hr.units) (pe_ix u_ix (pv 0) pe_int (fun _ _ => rfl)) pe_str (nomark _))
 (pss_one (ps_ret (pe_and (pe_callC (ok_is_within T) (hr.mono (by omega)) (by rfl) pass0 (pa_cons (pv 1) (pa_cons (pe_ix u_ix (pv 0) pe_int (fun _ _ => rfl)) (pa_cons (pe_ix u_ix (pv 0) pe_int (fun _ _ => rfl)) pa_nil)))) (pe_one (pe_cmpR u_le (pe_callB u_abs (by rfl) T.m_abs (by decide +kernel) (pa_cons (pv 1) pa_nil)) (pe_gint (by rfl) T.c_GREATEST) (nomark _))))))
 pss_nil)
 (pss_cons (ps_if (pt_cmpR (u_eq hr.units) (pe_ix u_ix (pv 0) pe_int (fun _ _ => rfl)) pe_str (nomark _))
 (pss_one (ps_ret (pe_callB u_isi (by rfl) T.m_isinstance (by decide +kernel) (pa_cons (pv 1) (pa_cons (pe_bltn (v := .ty "bool") (by rfl) T.m_bool (by decide +kernel) rfl) pa_nil)))))
 pss_nil)
 (pss_cons (ps_if (pt_cmpR (u_eq hr.units) (pe_ix u_ix (pv 0) pe_int (fun _ _ => rfl)) pe_str (nomark _))
 (pss_one (ps_ret (pe_and (pe_callB u_isi (by rfl) T.m_isinstance (by decide +kernel) (pa_cons (pv 1) (pa_cons (pe_bltn (v := .ty "str") (by rfl) T.m_str (by decide +kernel) rfl) pa_nil))) (pe_one (pe_cmpR u_le (pe_callB u_len (by rfl) T.m_len PySem.boot_len (pa_cons (pv 1) pa_nil)) (pe_ix u_ix (pv 0) pe_int (fun _ _ => rfl)) (nomark _))))))
 pss_nil)
 (pss_cons (ps_if (pt_cmpR (u_eq hr.units) (pe_ix u_ix (pv 0) pe_int (fun _ _ => rfl)) pe_str (nomark _))
 (pss_one (ps_ret (pe_and (pe_callB u_isi (by rfl) T.m_isinstance (by decide +kernel) (pa_cons (pv 1) (pa_cons (pe_bltn (v := .ty "tuple") (by rfl) T.m_tuple (by decide +kernel) rfl) pa_nil))) (pe_one (pe_cmpR (u_eqX hr.units) (pv 1) (pe_tup pa_nil) (nomark _))))))
 pss_nil)
 (pss_one (ps_ret (pe_and (pe_cmpR (u_eq hr.units) (pe_ix u_ix (pv 0) pe_int (fun _ _ => rfl)) pe_str (nomark _)) (pe_one (pe_cmpR u_isN (pv 1) pe_non (nomark _))))))))))

theorem sc_refuse_if : FnScope ["truth", "path", "why"] ["truth", "path", "why"] (defScope s_refuse_if) := ⟨rfl, rfl, rfl, by decide +kernel, rfl, by decide +kernel, by decide +kernel⟩
theorem ok_refuse_if {P : Program} {w : World} {K : PySem.W.Frag} {mg : Str → Option Value} {base : Heap} {C : Addr} (T : Txt K mg C) : Cal P w K mg base CX0 1 "refuse_if" ["truth", "path", "why"] (sp_refuse_if K) := by
  refine Cal.of (st := s_refuse_if) T.d_refuse_if sc_refuse_if (fun _ _ _ _ _ _ us hl => match us, hl with | [_, _, _], _ => rfl) (len_refuse_if K) fun f cdv A outer s H vs Q E hr h => ⟨t_refuse_if K, ?_, p_refuse_if K vs H Q E h⟩
  exact (pss_one (ps_if (pt_truth (pv 0) (by intro _; rfl))
 (pss_one ps_never)
 pss_nil))

theorem sc_look_at_heading : FnScope ["word", "name", "row"] ["word", "name", "row"] (defScope s_look_at_heading) := ⟨rfl, rfl, rfl, by decide +kernel, rfl, by decide +kernel, by decide +kernel⟩
theorem ok_look_at_heading {P : Program} {w : World} {K : PySem.W.Frag} {mg : Str → Option Value} {base : Heap} {C : Addr} (T : Txt K mg C) : Cal P w K mg base CX0 2 "look_at_heading" ["word", "name", "row"] (sp_look_at_heading K) := by
  refine Cal.of (st := s_look_at_heading) T.d_look_at_heading sc_look_at_heading (fun _ _ _ _ _ _ us hl => match us, hl with | [_, _, _], _ => rfl) (len_look_at_heading K) fun f cdv A outer s H vs Q E hr h => ⟨t_look_at_heading K, ?_, p_look_at_heading K vs H Q E h⟩
  exact (pss_cons (ps_expr (pe_callC (ok_refuse_if T) (hr.mono (by omega)) (by rfl) pass0 (pa_cons (pe_not (pe_callC (ok_is_name T) (hr.mono (by omega)) (by rfl) pass0 (pa_cons (pv 1) pa_nil))) (pa_cons (pe_tup (pa_cons (pv 0) (pa_cons (pv 1) (pa_cons (pe_un u_neg pe_int) pa_nil)))) (pa_cons pe_str pa_nil)))))
 (pss_one (ps_expr (pe_callC (ok_refuse_if T) (hr.mono (by omega)) (by rfl) pass0 (pa_cons (pe_not (pe_callC (ok_is_row T) (hr.mono (by omega)) (by rfl) pass0 (pa_cons (pv 2) pa_nil))) (pa_cons (pe_tup (pa_cons (pv 0) (pa_cons (pv 1) (pa_cons (pe_un u_neg pe_int) pa_nil)))) (pa_cons pe_str pa_nil)))))))

theorem sc_look_at_part : FnScope ["path", "part", "ahead", "least", "lengths", "other"] ["path", "part", "ahead", "least", "lengths"] (defScope s_look_at_part) := ⟨rfl, rfl, rfl, by decide +kernel, rfl, by decide +kernel, by decide +kernel⟩
theorem ok_look_at_part {P : Program} {w : World} {K : PySem.W.Frag} {mg : Str → Option Value} {base : Heap} {C : Addr} (T : Txt K mg C) : Cal P w K mg base CX0 3 "look_at_part" ["path", "part", "ahead", "least", "lengths"] (sp_look_at_part K) := by
  refine Cal.of (st := s_look_at_part) T.d_look_at_part sc_look_at_part (fun _ _ _ _ _ _ us hl => match us, hl with | [_, _, _, _, _], _ => rfl) (len_look_at_part K) fun f cdv A outer s H vs Q E hr h => ⟨t_look_at_part K, ?_, p_look_at_part K vs H Q E h⟩
  exact (pss_cons (ps_expr (pe_callC (ok_refuse_if T) (hr.mono (by omega)) (by rfl) pass0 (pa_cons (pe_or (pe_not (pe_callB u_isi (by rfl) T.m_isinstance (by decide +kernel) (pa_cons (pv 1) (pa_cons (pe_bltn (v := .ty "tuple") (by rfl) T.m_tuple (by decide +kernel) rfl) pa_nil)))) (pe_one (pe_cmpR u_notIn (pe_callB u_len (by rfl) T.m_len PySem.boot_len (pa_cons (pv 1) pa_nil)) (pv 4) (by rfl)))) (pa_cons (pv 0) (pa_cons pe_str pa_nil)))))
 (pss_cons (ps_expr (pe_callC (ok_refuse_if T) (hr.mono (by omega)) (by rfl) pass0 (pa_cons (pe_or (pe_not (pe_callC (ok_is_name T) (hr.mono (by omega)) (by rfl) pass0 (pa_cons (pe_ix u_ix (pv 1) pe_int (fun _ _ => rfl)) pa_nil))) (pe_one (pe_cmpR u_in (pe_ix u_ix (pv 1) pe_int (fun _ _ => rfl)) (pe_lc (own := [("other", 5)]) (g := (gName 5)) (tt := tYes) rfl sc_look_at_part.nd (pi_seq (pv 2)) (blkOk_by (N := ["path", "part", "ahead", "least", "lengths", "other"]) (sc := (defScope s_look_at_part)) (own := [("other", 5)]) (by decide +kernel)) (fun _ _ _ _ _ => (pg_name (i := 5) sc_look_at_part.nd rfl (by first | exact Or.inl rfl | exact Or.inr rfl))) (fun _ _ _ _ _ => pts_nil) (fun _ _ _ _ _ => (pe_ix u_ix (pv 5) pe_int (fun _ _ => rfl)))) (by rfl)))) (pa_cons (pv 0) (pa_cons pe_str pa_nil)))))
 (pss_cons (ps_expr (pe_callC (ok_refuse_if T) (hr.mono (by omega)) (by rfl) pass0 (pa_cons (pe_not (pe_callC (ok_is_within T) (hr.mono (by omega)) (by rfl) pass0 (pa_cons (pe_ix u_ix (pv 1) pe_int (fun _ _ => rfl)) (pa_cons (pv 3) (pa_cons (pe_gint (by rfl) T.c_MOST_NUMBER) pa_nil))))) (pa_cons (pv 0) (pa_cons pe_str pa_nil)))))
 (pss_one (ps_expr (pe_callC (ok_refuse_if T) (hr.mono (by omega)) (by rfl) pass0 (pa_cons (pe_cmpR u_in (pe_ix u_ix (pv 1) pe_int (fun _ _ => rfl)) (pe_lc (own := [("other", 5)]) (g := (gName 5)) (tt := tYes) rfl sc_look_at_part.nd (pi_seq (pv 2)) (blkOk_by (N := ["path", "part", "ahead", "least", "lengths", "other"]) (sc := (defScope s_look_at_part)) (own := [("other", 5)]) (by decide +kernel)) (fun _ _ _ _ _ => (pg_name (i := 5) sc_look_at_part.nd rfl (by first | exact Or.inl rfl | exact Or.inr rfl))) (fun _ _ _ _ _ => pts_nil) (fun _ _ _ _ _ => (pe_ix u_ix (pv 5) pe_int (fun _ _ => rfl)))) (by rfl)) (pa_cons (pv 0) (pa_cons pe_str pa_nil)))))))))

theorem sc_Schema_take_kind : FnScope ["self", "kinds", "choices", "name", "row", "place", "field", "path", "left"] ["self", "kinds", "choices", "name", "row"] (defScope s_Schema_take_kind) := ⟨rfl, rfl, rfl, by decide +kernel, rfl, by decide +kernel, by decide +kernel⟩
theorem ok_Schema_take_kind {P : Program} {w : World} {K : PySem.W.Frag} {mg : Str → Option Value} {base : Heap} {C : Addr} {Pt : Tb} (T : Txt K mg C) (B : Tbs K mg base Pt) : CalF P w K mg base CX0 8 (cAt K "Schema") s_Schema_take_kind "take_kind" "Schema.take_kind" ["self", "kinds", "choices", "name", "row"] (sp_Schema_take_kind K Pt) := by
  obtain ⟨c, D, TB⟩ := B.e_Schema_take_kind
  refine CalF.ofC D sc_Schema_take_kind (len_Schema_take_kind K Pt) fun f A outer s H vs Q E hr h => ⟨t_Schema_take_kind K C Pt, ?_, p_Schema_take_kind K C T.own Pt vs H Q E h⟩
  exact (pss_cons (ps_expr (pe_callC (ok_look_at_heading T) (hr.mono (by omega)) (by rfl) pass0 (pa_cons pe_str (pa_cons (pv 3) (pa_cons (pv 4) pa_nil)))))
 (pss_cons (ps_for PassesOwn.never rfl (pi_enumV (by rfl) T.m_enumerate (pv 4)) (pg_tup (by rfl) (pgs_cons (pg_name (i := 5) sc_Schema_take_kind.nd rfl (by first | exact Or.inl rfl | exact Or.inr rfl)) (pgs_cons (pg_name (i := 6) sc_Schema_take_kind.nd rfl (by first | exact Or.inl rfl | exact Or.inr rfl)) pgs_nil)))
 (pss_cons (ps_set (i := 7) sc_Schema_take_kind.nd rfl (by first | exact Or.inl rfl | exact Or.inr rfl) (pe_tup (pa_cons pe_str (pa_cons (pv 3) (pa_cons (pv 5) pa_nil)))))
 (pss_cons (ps_expr (pe_callC (ok_look_at_part T) (hr.mono (by omega)) (by rfl) pass0 (pa_cons (pv 7) (pa_cons (pv 6) (pa_cons (pe_slice u_slV (pv 4) po_none (po_some (pv 5))) (pa_cons pe_int (pa_cons (pe_tup (pa_cons pe_int (pa_cons pe_int pa_nil))) pa_nil)))))))
 (pss_cons (ps_expr (pe_callC (ok_refuse_if T) (hr.mono (by omega)) (by rfl) pass0 (pa_cons (pe_not (pe_callDf 3 0 (ok_is_sort T 4) (by simp) rfl (fun _ _ _ _ _ _ _ us its h1 h2 => match us, its, h1, h2 with | [_, _, _], [_], _, _ => ⟨_, rfl, rfl⟩) (hr.mono (by omega)) (by rfl) pass0 (pa_cons (pv 1) (pa_cons (pv 2) (pa_cons (pe_ix u_ix (pv 6) pe_int (fun _ _ => rfl)) pa_nil))))) (pa_cons (pv 7) (pa_cons pe_str pa_nil)))))
 (pss_one (ps_expr (pe_callC (ok_refuse_if T) (hr.mono (by omega)) (by rfl) pass0 (pa_cons (pe_not (pe_callB (u_all rfl) (by rfl) T.m_all (by decide +kernel) (pa_cons (pe_lc (own := [("left", 8)]) (g := (gName 8)) (tt := tYes) rfl sc_Schema_take_kind.nd (pi_tup (pe_callC (ok_left_of T) (hr.mono (by omega)) (by rfl) pass0 (pa_cons (pv 6) pa_nil))) (blkOk_by (N := ["self", "kinds", "choices", "name", "row", "place", "field", "path", "left"]) (sc := (defScope s_Schema_take_kind)) (own := [("left", 8)]) (by decide +kernel)) (fun _ _ _ _ _ => (pg_name (i := 8) sc_Schema_take_kind.nd rfl (by first | exact Or.inl rfl | exact Or.inr rfl))) (fun _ _ _ _ _ => pts_nil) (fun _ _ _ _ _ => (pe_callC (ok_is_default T) (hr.mono (by omega)) (by rfl) pass0 (pa_cons (pe_ix u_ix (pv 6) pe_int (fun _ _ => rfl)) (pa_cons (pv 8) pa_nil))))) pa_nil))) (pa_cons (pv 7) (pa_cons pe_str pa_nil))))))))))
 (pss_one (ps_dput (hu_of hr) (pe_fldU (pv 0) (by rfl)) (pv 3) (pe_callTy u_tuple (by rfl) T.m_tuple (by decide +kernel) (pa_cons (pe_sortKey (by rfl) T.m_sorted (pv 4) TB rfl rfl (hr.mono (by omega)) (NdefX.nscope_by (by decide +kernel)) (by decide +kernel) rfl rfl (fun _ _ _ _ _ => rfl)) pa_nil)) rfl))))

theorem sc_Schema_take_choice : FnScope ["self", "kinds", "choices", "name", "row", "place", "case", "path", "number", "word", "content"] ["self", "kinds", "choices", "name", "row"] (defScope s_Schema_take_choice) := ⟨rfl, rfl, rfl, by decide +kernel, rfl, by decide +kernel, by decide +kernel⟩
theorem ok_Schema_take_choice {P : Program} {w : World} {K : PySem.W.Frag} {mg : Str → Option Value} {base : Heap} {C : Addr} {Pt : Tb} (T : Txt K mg C) (B : Tbs K mg base Pt) : CalF P w K mg base CX0 8 (cAt K "Schema") s_Schema_take_choice "take_choice" "Schema.take_choice" ["self", "kinds", "choices", "name", "row"] (sp_Schema_take_choice K Pt) := by
  obtain ⟨c, D, TB⟩ := B.e_Schema_take_choice
  refine CalF.ofC D sc_Schema_take_choice (len_Schema_take_choice K Pt) fun f A outer s H vs Q E hr h => ⟨t_Schema_take_choice K C Pt, ?_, p_Schema_take_choice K C T.own Pt vs H Q E h⟩
  exact (pss_cons (ps_expr (pe_callC (ok_look_at_heading T) (hr.mono (by omega)) (by rfl) pass0 (pa_cons pe_str (pa_cons (pv 3) (pa_cons (pv 4) pa_nil)))))
 (pss_cons (ps_expr (pe_callC (ok_refuse_if T) (hr.mono (by omega)) (by rfl) pass0 (pa_cons (pe_cmpR (u_eq hr.units) (pe_callB u_len (by rfl) T.m_len PySem.boot_len (pa_cons (pv 4) pa_nil)) pe_int (nomark _)) (pa_cons (pe_tup (pa_cons pe_str (pa_cons (pv 3) (pa_cons (pe_un u_neg pe_int) pa_nil)))) (pa_cons pe_str pa_nil)))))
 (pss_cons (ps_for PassesOwn.never rfl (pi_enumV (by rfl) T.m_enumerate (pv 4)) (pg_tup (by rfl) (pgs_cons (pg_name (i := 5) sc_Schema_take_choice.nd rfl (by first | exact Or.inl rfl | exact Or.inr rfl)) (pgs_cons (pg_name (i := 6) sc_Schema_take_choice.nd rfl (by first | exact Or.inl rfl | exact Or.inr rfl)) pgs_nil)))
 (pss_cons (ps_set (i := 7) sc_Schema_take_choice.nd rfl (by first | exact Or.inl rfl | exact Or.inr rfl) (pe_tup (pa_cons pe_str (pa_cons (pv 3) (pa_cons (pv 5) pa_nil)))))
 (pss_cons (ps_expr (pe_callC (ok_look_at_part T) (hr.mono (by omega)) (by rfl) pass0 (pa_cons (pv 7) (pa_cons (pv 6) (pa_cons (pe_slice u_slV (pv 4) po_none (po_some (pv 5))) (pa_cons pe_int (pa_cons (pe_tup (pa_cons pe_int pa_nil)) pa_nil)))))))
 (pss_cons (ps_asg (pv 6) (pg_tup (by rfl) (pgs_cons (pg_name (i := 8) sc_Schema_take_choice.nd rfl (by first | exact Or.inl rfl | exact Or.inr rfl)) (pgs_cons (pg_name (i := 9) sc_Schema_take_choice.nd rfl (by first | exact Or.inl rfl | exact Or.inr rfl)) (pgs_cons (pg_name (i := 10) sc_Schema_take_choice.nd rfl (by first | exact Or.inl rfl | exact Or.inr rfl)) pgs_nil)))))
 (pss_cons (ps_expr (pe_callC (ok_refuse_if T) (hr.mono (by omega)) (by rfl) pass0 (pa_cons (pe_and (pe_cmpR u_notN (pv 10) pe_non (nomark _)) (pe_one (pe_not (pe_callDf 3 0 (ok_is_sort T 4) (by simp) rfl (fun _ _ _ _ _ _ _ us its h1 h2 => match us, its, h1, h2 with | [_, _, _], [_], _, _ => ⟨_, rfl, rfl⟩) (hr.mono (by omega)) (by rfl) pass0 (pa_cons (pv 1) (pa_cons (pv 2) (pa_cons (pv 10) pa_nil))))))) (pa_cons (pv 7) (pa_cons pe_str pa_nil)))))
 (pss_one (ps_expr (pe_callC (ok_refuse_if T) (hr.mono (by omega)) (by rfl) pass0 (pa_cons (pe_and (pe_cmpR (u_eq hr.units) (pv 8) pe_int (nomark _)) (pe_one (pe_cmpR u_notN (pv 10) pe_non (nomark _)))) (pa_cons (pv 7) (pa_cons pe_str pa_nil)))))))))))
 (pss_one (ps_dput (hu_of hr) (pe_fldU (pv 0) (by rfl)) (pv 3) (pe_callTy u_tuple (by rfl) T.m_tuple (by decide +kernel) (pa_cons (pe_sortKey (by rfl) T.m_sorted (pv 4) TB rfl rfl (hr.mono (by omega)) (NdefX.nscope_by (by decide +kernel)) (by decide +kernel) rfl rfl (fun _ _ _ _ _ => rfl)) pa_nil)) rfl)))))

theorem sc_Schema_comes_back : FnScope ["self", "name", "seen", "at", "content"] ["self", "name"] (defScope s_Schema_comes_back) := ⟨rfl, rfl, rfl, by decide +kernel, rfl, by decide +kernel, by decide +kernel⟩
theorem ok_Schema_comes_back {P : Program} {w : World} {K : PySem.W.Frag} {mg : Str → Option Value} {base : Heap} {C : Addr} (T : Txt K mg C) : CalF P w K mg base CX0 1 (cAt K "Schema") s_Schema_comes_back "comes_back" "Schema.comes_back" ["self", "name"] (sp_Schema_comes_back K) := by
  refine CalF.of T.d_Schema_comes_back sc_Schema_comes_back (len_Schema_comes_back K) fun f cdv A outer s H vs Q E hr h => ⟨t_Schema_comes_back K C, ?_, p_Schema_comes_back K C T.own vs H Q E h⟩
  exact (pss_cons (ps_set (i := 2) sc_Schema_comes_back.nd rfl (by first | exact Or.inl rfl | exact Or.inr rfl) pe_dnewK)
 (pss_cons (ps_set (i := 3) sc_Schema_comes_back.nd rfl (by first | exact Or.inl rfl | exact Or.inr rfl) (pv 1))
 (pss_cons (ps_while PassesOwn.never (pt_cmp (pc_dnotin (hu_of hr) (pv 3) (pv 2)))
 (pss_cons (ps_dput (hu_of hr) (pv 2) (pv 3) pe_bl rfl)
 (pss_cons (ps_set (i := 4) sc_Schema_comes_back.nd rfl (by first | exact Or.inl rfl | exact Or.inr rfl) (pe_ix u_ix (pe_ix u_ix (pe_dget (hu_of hr) (pe_fldU (pv 0) (by rfl)) (pv 3) (fun _ _ => rfl)) pe_int (fun _ _ => rfl)) pe_int (fun _ _ => rfl)))
 (pss_cons (ps_if (PW.pt (pw_or (pt_cmpR u_isN (pv 4) pe_non (nomark _)) (pw_or1 (pt_cmpR (u_ne hr.units) (pe_ix u_ix (pv 4) pe_int (fun _ _ => rfl)) pe_str (nomark _)))))
 (pss_one (ps_ret pe_bl))
 pss_nil)
 (pss_one (ps_set (i := 3) sc_Schema_comes_back.nd rfl (by first | exact Or.inl rfl | exact Or.inr rfl) (pe_ix u_ix (pv 4) pe_int (fun _ _ => rfl))))))))
 (pss_one (ps_ret (pe_cmpR (u_eq hr.units) (pv 3) (pv 1) (nomark _)))))))

theorem sc_Schema___init__ : FnScope ["self", "kinds", "choices", "root", "some", "name", "row"] ["self", "kinds", "choices", "root"] (defScope s_Schema___init__) := ⟨rfl, rfl, rfl, by decide +kernel, rfl, by decide +kernel, by decide +kernel⟩
theorem ok_Schema___init__ {P : Program} {w : World} {K : PySem.W.Frag} {mg : Str → Option Value} {base : Heap} {C : Addr} {Pt : Tb} (T : Txt K mg C) (B : Tbs K mg base Pt) : CalK P w K mg base CX0 9 (cAt K "Schema") s_Schema___init__ "Schema.__init__" [("choices", .non)] ["self", "kinds", "choices", "root"] (sp_Schema___init__ K Pt) := by
  refine CalK.of T.d_Schema___init__ sc_Schema___init__ (len_Schema___init__ K Pt) fun f cdv A outer s H vs Q E hr h => ⟨t_Schema___init__ K C Pt, ?_, p_Schema___init__ K C T.own Pt vs H Q E h⟩
  unfold t_Schema___init__ b_Schema___init___0 b_Schema___init___1 b_Schema___init___2
  exact (pss_cons (ps_set (i := 4) sc_Schema___init__.nd rfl (by first | exact Or.inl rfl | exact Or.inr rfl) (pe_ifExp (pt_cmpR u_isN (pv 2) pe_non (nomark _)) pe_dnewK (pv 2)))
 (pss_cons (ps_asg (pe_tup (pa_cons pe_dnewK (pa_cons pe_dnewK (pa_cons (pv 3) pa_nil)))) (pg_tup (by rfl) (pgs_cons (pg_attr (pv 0)) (pgs_cons (pg_attr (pv 0)) (pgs_cons (pg_attr (pv 0)) pgs_nil)))))
 (pss_cons (ps_lock (ps_for PassesOwn.never rfl (pi_items (pv 1)) (pg_tup (by rfl) (pgs_cons (pg_name (i := 5) sc_Schema___init__.nd rfl (by first | exact Or.inl rfl | exact Or.inr rfl)) (pgs_cons (pg_name (i := 6) sc_Schema___init__.nd rfl (by first | exact Or.inl rfl | exact Or.inr rfl)) pgs_nil)))
 (pss_one (ps_expr (pe_methM (pv 0) T.own.Schema.cl (CalF.calM (ok_Schema_take_kind T B) (fun _ _ _ _ _ _ us hl => match us, hl with | [_, _, _, _, _], _ => rfl)) (hr.mono (by omega)) pass0 (pa_cons (pv 1) (pa_cons (pv 4) (pa_cons (pv 5) (pa_cons (pv 6) pa_nil)))))))))
 (pss_cons (ps_lock (ps_for PassesOwn.never rfl (pi_items (pv 4)) (pg_tup (by rfl) (pgs_cons (pg_name (i := 5) sc_Schema___init__.nd rfl (by first | exact Or.inl rfl | exact Or.inr rfl)) (pgs_cons (pg_name (i := 6) sc_Schema___init__.nd rfl (by first | exact Or.inl rfl | exact Or.inr rfl)) pgs_nil)))
 (pss_one (ps_expr (pe_methM (pv 0) T.own.Schema.cl (CalF.calM (ok_Schema_take_choice T B) (fun _ _ _ _ _ _ us hl => match us, hl with | [_, _, _, _, _], _ => rfl)) (hr.mono (by omega)) pass0 (pa_cons (pv 1) (pa_cons (pv 4) (pa_cons (pv 5) (pa_cons (pv 6) pa_nil)))))))))
 (pss_cons (ps_expr (pe_callC (ok_refuse_if T) (hr.mono (by omega)) (by rfl) pass0 (pa_cons (pe_not (pe_callDf 3 0 (ok_is_sort T 4) (by simp) rfl (fun _ _ _ _ _ _ _ us its h1 h2 => match us, its, h1, h2 with | [_, _, _], [_], _, _ => ⟨_, rfl, rfl⟩) (hr.mono (by omega)) (by rfl) pass0 (pa_cons (pv 1) (pa_cons (pv 4) (pa_cons (pv 3) pa_nil))))) (pa_cons (pe_tup (pa_cons pe_str pa_nil)) (pa_cons pe_str pa_nil)))))
 (pss_one (ps_lock (ps_for PassesOwn.never rfl (pi_keys (pe_fldU (pv 0) (by rfl))) (pg_name (i := 5) sc_Schema___init__.nd rfl (by first | exact Or.inl rfl | exact Or.inr rfl))
 (pss_one (ps_expr (pe_callC (ok_refuse_if T) (hr.mono (by omega)) (by rfl) pass0 (pa_cons (pe_methM (pv 0) T.own.Schema.cl (CalF.calM (ok_Schema_comes_back T) (fun _ _ _ _ _ _ us hl => match us, hl with | [_, _], _ => rfl)) (hr.mono (by omega)) pass0 (pa_cons (pv 5) pa_nil)) (pa_cons (pe_tup (pa_cons pe_str (pa_cons (pv 5) (pa_cons (pe_un u_neg pe_int) pa_nil)))) (pa_cons pe_str pa_nil))))))))))))))

theorem sc_law_draw : FnScope ["_law_well", "_law_many", "_law_found", "_law_low"] ["_law_well", "_law_many"] (defScope s_law_draw) := ⟨rfl, rfl, rfl, by decide +kernel, rfl, by decide +kernel, by decide +kernel⟩
theorem ok_law_draw {P : Program} {w : World} {K : PySem.W.Frag} {mg : Str → Option Value} {base : Heap} {C : Addr} (T : Txt K mg C) : Cal P w K mg base CX0 1 "_law_draw" ["_law_well", "_law_many"] (sp_law_draw K) := by
  refine Cal.of (st := s_law_draw) T.d_law_draw sc_law_draw (fun _ _ _ _ _ _ us hl => match us, hl with | [_, _], _ => rfl) (len_law_draw K) fun f cdv A outer s H vs Q E hr h => ⟨t_law_draw K, ?_, p_law_draw K vs H Q E h⟩
  exact (pss_cons (ps_if (pt_cmpR u_ge (pe_ix u_ix (pv 0) pe_int (fun _ _ => rfl)) (pe_op u_pow pe_int pe_int) (nomark _))
 (pss_cons (ps_set (i := 2) sc_law_draw.nd rfl (by first | exact Or.inl rfl | exact Or.inr rfl) (pe_op u_mod (pe_ix u_ix (pv 0) pe_int (fun _ _ => rfl)) (pv 1)))
 (pss_cons (ps_asg (pe_op u_divW (pe_ix u_ix (pv 0) pe_int (fun _ _ => rfl)) (pv 1)) (pg_sub (pv 0) pe_int u_set))
 (pss_one (ps_ret (pv 2)))))
 pss_nil)
 (pss_cons (ps_asg (pe_op u_add (pe_ix u_ix (pv 0) pe_int (fun _ _ => rfl)) pe_int) (pg_sub (pv 0) pe_int u_set))
 (pss_cons (ps_set (i := 3) sc_law_draw.nd rfl (by first | exact Or.inl rfl | exact Or.inr rfl) (pe_op u_add (pe_op u_mod (pe_ix u_ix (pv 0) pe_int (fun _ _ => rfl)) pe_int) (pe_op u_mul (pe_op u_divW (pe_ix u_ix (pv 0) pe_int (fun _ _ => rfl)) pe_int) pe_int)))
 (pss_cons (ps_set (i := 3) sc_law_draw.nd rfl (by first | exact Or.inl rfl | exact Or.inr rfl) (pe_op u_mod (pe_op u_add (pe_op u_add (pv 3) (pe_op u_mul pe_int (pe_ix u_ix (pv 0) pe_int (fun _ _ => rfl)))) pe_int) pe_int))
 (pss_cons (ps_set (i := 3) sc_law_draw.nd rfl (by first | exact Or.inl rfl | exact Or.inr rfl) (pe_op u_mod (pe_op u_pow (pv 3) pe_int) pe_int))
 (pss_cons (ps_set (i := 3) sc_law_draw.nd rfl (by first | exact Or.inl rfl | exact Or.inr rfl) (pe_op u_mod (pe_op u_mul (pv 3) (pe_op u_add (pe_op u_add (pe_op u_divW (pv 3) pe_int) pe_int) (pe_ix u_ix (pv 0) pe_int (fun _ _ => rfl)))) pe_int))
 (pss_one (ps_ret (pe_op u_mod (pe_op u_divW (pe_op u_mod (pe_op u_mul (pv 3) (pe_op u_add (pe_op u_divW (pv 3) pe_int) pe_int)) pe_int) pe_int) (pv 1))))))))))

theorem sc_law_sort : FnScope ["_law_well", "_law_kinds", "_law_kind", "_law_low", "_law_some"] ["_law_well", "_law_kinds"] (defScope s_law_sort) := ⟨rfl, rfl, rfl, by decide +kernel, rfl, by decide +kernel, by decide +kernel⟩
theorem ok_law_sort {P : Program} {w : World} {K : PySem.W.Frag} {mg : Str → Option Value} {base : Heap} {C : Addr} (T : Txt K mg C) : Cal P w K mg base CX0 2 "_law_sort" ["_law_well", "_law_kinds"] (sp_law_sort K) := by
  refine Cal.of (st := s_law_sort) T.d_law_sort sc_law_sort (fun _ _ _ _ _ _ us hl => match us, hl with | [_, _], _ => rfl) (len_law_sort K) fun f cdv A outer s H vs Q E hr h => ⟨t_law_sort K, ?_, p_law_sort K vs H Q E h⟩
  unfold t_law_sort c_law_sort_1 c_law_sort_0
  exact (pss_cons (ps_set (i := 2) sc_law_sort.nd rfl (by first | exact Or.inl rfl | exact Or.inr rfl) (pe_tup (pa_cons pe_str (pa_cons (pe_ix u_ix (pv 1) (pe_callC (ok_law_draw T) (hr.mono (by omega)) (by rfl) pass0 (pa_cons (pv 0) (pa_cons (pe_callB u_len (by rfl) T.m_len PySem.boot_len (pa_cons (pv 1) pa_nil)) pa_nil))) (fun _ _ => rfl)) pa_nil))))
 (pss_cons (ps_set (i := 3) sc_law_sort.nd rfl (by first | exact Or.inl rfl | exact Or.inr rfl) (pe_op u_sub (pe_callC (ok_law_draw T) (hr.mono (by omega)) (by rfl) pass0 (pa_cons (pv 0) (pa_cons pe_int pa_nil))) pe_int))
 (pss_cons (ps_set (i := 4) sc_law_sort.nd rfl (by first | exact Or.inl rfl | exact Or.inr rfl) (pe_lst (pa_cons (pv 2) (pa_cons (pe_tup (pa_cons pe_str (pa_cons (pv 2) pa_nil))) (pa_cons (pe_tup (pa_cons pe_str (pa_cons pe_int (pa_cons (pv 2) pa_nil)))) (pa_cons (pe_tup (pa_cons pe_str (pa_cons pe_str pa_nil))) (pa_cons (pe_tup (pa_cons pe_str (pa_cons (pv 3) (pa_cons pe_int pa_nil)))) (pa_cons (pe_tup (pa_cons pe_str pa_nil)) (pa_cons (pe_tup (pa_cons pe_str (pa_cons pe_int pa_nil))) pa_nil)))))))))
 (pss_one (ps_ret (pe_ix u_ix (pe_op u_add (pv 4) (pe_lst (pa_cons (pe_tup (pa_cons pe_str (pa_cons pe_int (pa_cons (pe_tup (pa_cons pe_str (pa_cons pe_int pa_nil))) pa_nil)))) (pa_cons (pe_tup (pa_cons pe_str (pa_cons (pe_tup (pa_cons pe_str (pa_cons pe_str pa_nil))) pa_nil))) (pa_cons (pe_tup (pa_cons pe_str (pa_cons pe_non (pa_cons pe_non pa_nil)))) pa_nil))))) (pe_callC (ok_law_draw T) (hr.mono (by omega)) (by rfl) pass0 (pa_cons (pv 0) (pa_cons pe_int pa_nil))) (fun _ _ => rfl)))))))

theorem sc_law_left : FnScope ["_law_sort_here", "_law_some"] ["_law_sort_here"] (defScope s_law_left) := ⟨rfl, rfl, rfl, by decide +kernel, rfl, by decide +kernel, by decide +kernel⟩
theorem ok_law_left {P : Program} {w : World} {K : PySem.W.Frag} {mg : Str → Option Value} {base : Heap} {C : Addr} (T : Txt K mg C) : Cal P w K mg base CX0 1 "_law_left" ["_law_sort_here"] (sp_law_left K) := by
  refine Cal.of (st := s_law_left) T.d_law_left sc_law_left (fun _ _ _ _ _ _ us hl => match us, hl with | [_], _ => rfl) (len_law_left K) fun f cdv A outer s H vs Q E hr h => ⟨t_law_left K, ?_, p_law_left K vs H Q E h⟩
  exact (pss_cons (ps_set (i := 1) sc_law_left.nd rfl (by first | exact Or.inl rfl | exact Or.inr rfl) (pe_disp (pps_cons pe_str pe_bl (pps_cons pe_str pe_str (pps_cons pe_str (pe_tup pa_nil) (pps_cons pe_str pe_non (pps_cons pe_str pe_int pps_nil))))) (by rfl) (by rfl) (fun z => by cases z) (by decide)))
 (pss_one (ps_ret (pe_ifExp (pt_cmp (pc_din (hu_of hr) (pe_ix u_ix (pv 0) pe_int (fun _ _ => rfl)) (pv 1))) (pe_tup (pa_cons (pe_dget (hu_of hr) (pv 1) (pe_ix u_ix (pv 0) pe_int (fun _ _ => rfl)) (fun _ _ => rfl)) pa_nil)) (pe_tup pa_nil)))))

theorem sc_law_schema : FnScope ["_law_well", "_law_kinds", "_law_stem", "_law_rows", "_law_kind", "_law_k", "_law_sort_here", "_law_left_here", "_law_cases", "_law_bare"] ["_law_well", "_law_kinds", "_law_stem"] (defScope s_law_schema) := ⟨rfl, rfl, rfl, by decide +kernel, rfl, by decide +kernel, by decide +kernel⟩
theorem ok_law_schema {P : Program} {w : World} {K : PySem.W.Frag} {mg : Str → Option Value} {base : Heap} {C : Addr} {Pt : Tb} (T : Txt K mg C) (B : Tbs K mg base Pt) : Cal P w K mg base CX0 11 "_law_schema" ["_law_well", "_law_kinds", "_law_stem"] (sp_law_schema K Pt) := by
  refine Cal.of (st := s_law_schema) T.d_law_schema sc_law_schema (fun _ _ _ _ _ _ us hl => match us, hl with | [_, _, _], _ => rfl) (len_law_schema K Pt) fun f cdv A outer s H vs Q E hr h => ⟨t_law_schema K C Pt, ?_, p_law_schema K C T.own Pt vs H Q E h⟩
  unfold t_law_schema b_law_schema_2 b_law_schema_4 b_law_schema_3 b_law_schema_0 b_law_schema_1
  exact (pss_cons (ps_set (i := 3) sc_law_schema.nd rfl (by first | exact Or.inl rfl | exact Or.inr rfl) pe_dnewK)
 (pss_cons (ps_for PassesOwn.never rfl (pi_list (pv 1)) (pg_name (i := 4) sc_law_schema.nd rfl (by first | exact Or.inl rfl | exact Or.inr rfl))
 (pss_cons (ps_dput (hu_of hr) (pv 3) (pv 4) (pe_lst pa_nil) rfl)
 (pss_one (ps_for PassesOwn.never rfl (pi_range1 (by rfl) T.m_range (pa_cons (pe_op u_add pe_int (pe_callC (ok_law_draw T) (hr.mono (by omega)) (by rfl) pass0 (pa_cons (pv 0) (pa_cons pe_int pa_nil)))) pa_nil)) (pg_name (i := 5) sc_law_schema.nd rfl (by first | exact Or.inl rfl | exact Or.inr rfl))
 (pss_one (ps_if (pt_cmpR u_gt (pe_callC (ok_law_draw T) (hr.mono (by omega)) (by rfl) pass0 (pa_cons (pv 0) (pa_cons pe_int pa_nil))) pe_int (nomark _))
 (pss_cons (ps_set (i := 6) sc_law_schema.nd rfl (by first | exact Or.inl rfl | exact Or.inr rfl) (pe_callC (ok_law_sort T) (hr.mono (by omega)) (by rfl) pass0 (pa_cons (pv 0) (pa_cons (pv 1) pa_nil))))
 (pss_cons (ps_set (i := 7) sc_law_schema.nd rfl (by first | exact Or.inl rfl | exact Or.inr rfl) (pe_ifExp (pt_cmpR (u_eq hr.units) (pe_callC (ok_law_draw T) (hr.mono (by omega)) (by rfl) pass0 (pa_cons (pv 0) (pa_cons pe_int pa_nil))) pe_int (nomark _)) (pe_callC (ok_law_left T) (hr.mono (by omega)) (by rfl) pass0 (pa_cons (pv 6) pa_nil)) (pe_tup pa_nil)))
 (pss_one (ps_expr (pe_bm PySem.F.plainAttrs_list PySem.F.slot_list_append PySem.F.type_list_append u_append (pe_dget (hu_of hr) (pv 3) (pv 4) (fun _ _ => rfl)) (pa_cons (pe_op u_add (pe_tup (pa_cons (pe_op u_add (pv 5) pe_int) (pa_cons (pe_op u_add (pv 2) (pe_ix u_ix pe_str (pv 5) (fun _ _ => rfl))) (pa_cons (pv 6) pa_nil)))) (pv 7)) pa_nil))))))
 pss_nil))))))
 (pss_cons (ps_set (i := 8) sc_law_schema.nd rfl (by first | exact Or.inl rfl | exact Or.inr rfl) (pe_lst (pa_cons (pe_tup (pa_cons (pe_callC (ok_law_draw T) (hr.mono (by omega)) (by rfl) pass0 (pa_cons (pv 0) (pa_cons pe_int pa_nil))) (pa_cons pe_str (pa_cons pe_non pa_nil)))) pa_nil)))
 (pss_cons (ps_for PassesOwn.never rfl (pi_range1 (by rfl) T.m_range (pa_cons (pe_callC (ok_law_draw T) (hr.mono (by omega)) (by rfl) pass0 (pa_cons (pv 0) (pa_cons pe_int pa_nil))) pa_nil)) (pg_name (i := 5) sc_law_schema.nd rfl (by first | exact Or.inl rfl | exact Or.inr rfl))
 (pss_cons (ps_set (i := 6) sc_law_schema.nd rfl (by first | exact Or.inl rfl | exact Or.inr rfl) (pe_callC (ok_law_sort T) (hr.mono (by omega)) (by rfl) pass0 (pa_cons (pv 0) (pa_cons (pv 1) pa_nil))))
 (pss_one (ps_if (pt_cmpR u_gt (pe_callC (ok_law_draw T) (hr.mono (by omega)) (by rfl) pass0 (pa_cons (pv 0) (pa_cons pe_int pa_nil))) pe_int (nomark _))
 (pss_cons (ps_set (i := 9) sc_law_schema.nd rfl (by first | exact Or.inl rfl | exact Or.inr rfl) (pe_or (pe_cmpR (u_eq hr.units) (pe_ix u_ix (pv 6) pe_int (fun _ _ => rfl)) pe_str (nomark _)) (pe_one (pe_cmpR (u_eq hr.units) (pe_callC (ok_law_draw T) (hr.mono (by omega)) (by rfl) pass0 (pa_cons (pv 0) (pa_cons pe_int pa_nil))) pe_int (nomark _)))))
 (pss_one (ps_expr (pe_bm PySem.F.plainAttrs_list PySem.F.slot_list_append PySem.F.type_list_append u_append (pv 8) (pa_cons (pe_tup (pa_cons (pe_op u_add pe_int (pv 5)) (pa_cons (pe_op u_add (pv 2) (pe_ix u_ix (pe_lst (pa_cons pe_str (pa_cons pe_str (pa_cons pe_str pa_nil)))) (pv 5) (fun _ _ => rfl))) (pa_cons (pe_ifExp (pt_truth (pv 9) (by intro _; rfl)) pe_non (pv 6)) pa_nil)))) pa_nil)))))
 pss_nil))))
 (pss_one (ps_ret (pe_makeKO (n := 1) (ks := ["choices", "root"]) [] (fun us mv ws => us ++ ws) T.mk_Schema T.kc_Schema (ok_Schema___init__ T B) (by simp) (fun q hq => nomatch hq) (fun r d z => (r.append z)) (fun _ _ _ _ _ _ us mv ws h1 h2 h3 => match us, mv, ws, h1, h2, h3 with | [_, _], [], [_, _], _, _, _ => rfl) (hr.mono (by omega)) (by rfl) T.g_Schema pass0 (pa_cons (pv 3) pa_nil) (pk_cons (pe_disp (pps_cons pe_str (pv 8) pps_nil) (by rfl) (by rfl) (fun z => by cases z) (by decide)) (pk_cons (pe_tup (pa_cons pe_str (pa_cons (pe_ix u_ix (pv 1) pe_int (fun _ _ => rfl)) pa_nil))) pk_nil)))))))))

theorem sc_law_other : FnScope ["_law_well", "_law_part", "_law_way", "_law_at"] ["_law_well", "_law_part"] (defScope s_law_other) := ⟨rfl, rfl, rfl, by decide +kernel, rfl, by decide +kernel, by decide +kernel⟩
theorem ok_law_other {P : Program} {w : World} {K : PySem.W.Frag} {mg : Str → Option Value} {base : Heap} {C : Addr} (T : Txt K mg C) : ∀ n : Nat, Cal P w K mg base CX0 (2 + n) "_law_other" ["_law_well", "_law_part"] (sp_law_other K n)
  | 0 => Cal.of (k := 1) (st := s_law_other) T.d_law_other sc_law_other (fun _ _ _ _ _ _ us hl => match us, hl with | [_, _], _ => rfl) (fun vs H Q E h => (no_law_other K h).elim) fun f cdv A outer s H vs Q E hr h => (no_law_other K h).elim
  | n + 1 => by
    have ih := ok_law_other (P := P) (w := w) (base := base) T n
    refine Cal.of (k := 2 + n) (st := s_law_other) T.d_law_other sc_law_other (fun _ _ _ _ _ _ us hl => match us, hl with | [_, _], _ => rfl) (len_law_other K n) fun f cdv A outer s H vs Q E hr h => ⟨t_law_other K n, ?_, p_law_other K n vs H Q E h⟩
    unfold t_law_other b_law_other_0 b_law_other_1 c_law_other_0
    exact (pss_cons (ps_set (i := 2) sc_law_other.nd rfl (by first | exact Or.inl rfl | exact Or.inr rfl) (pe_callC (ok_law_draw T) (hr.mono (by omega)) (by rfl) pass0 (pa_cons (pv 0) (pa_cons pe_int pa_nil))))
 (pss_cons (ps_if (pt_cmpR u_isN (pv 1) pe_non (nomark _))
 (pss_one (ps_ret (pe_ix u_ix (pe_lst (pa_cons pe_int (pa_cons pe_int (pa_cons pe_str (pa_cons (pe_un u_neg pe_int) pa_nil))))) (pv 2) (fun _ _ => rfl))))
 pss_nil)
 (pss_cons (ps_if (pt_truth (pe_callB u_isi (by rfl) T.m_isinstance (by decide +kernel) (pa_cons (pv 1) (pa_cons (pe_bltn (v := .ty "bool") (by rfl) T.m_bool (by decide +kernel) rfl) pa_nil))) (by intro _; rfl))
 (pss_one (ps_ret (pe_ix u_ix (pe_lst (pa_cons (pe_not (pv 1)) (pa_cons pe_non (pa_cons pe_str (pa_cons (pe_un u_neg pe_int) pa_nil))))) (pv 2) (fun _ _ => rfl))))
 pss_nil)
 (pss_cons (ps_if (pt_truth (pe_callB u_isi (by rfl) T.m_isinstance (by decide +kernel) (pa_cons (pv 1) (pa_cons (pe_bltn (v := .ty "int") (by rfl) T.m_int (by decide +kernel) rfl) pa_nil))) (by intro _; rfl))
 (pss_one (ps_ret (pe_ix u_ix (pe_lst (pa_cons (pe_op u_add (pv 1) pe_int) (pa_cons (pe_op u_sub (pv 1) pe_int) (pa_cons pe_non (pa_cons (pe_callTy u_str (by rfl) T.m_str (by decide +kernel) (pa_cons (pv 1) pa_nil)) pa_nil))))) (pv 2) (fun _ _ => rfl))))
 pss_nil)
 (pss_cons (ps_if (pt_truth (pe_callB u_isi (by rfl) T.m_isinstance (by decide +kernel) (pa_cons (pv 1) (pa_cons (pe_bltn (v := .ty "str") (by rfl) T.m_str (by decide +kernel) rfl) pa_nil))) (by intro _; rfl))
 (pss_one (ps_ret (pe_ix u_ix (pe_lst (pa_cons (pe_op u_add (pv 1) pe_str) (pa_cons (pe_slice u_slW (pv 1) po_none (po_some (pe_un u_neg pe_int))) (pa_cons pe_non (pa_cons (pe_upper (pv 1)) pa_nil))))) (pv 2) (fun _ _ => rfl))))
 pss_nil)
 (pss_cons (ps_if (pt_cmpR (u_eqX hr.units) (pv 1) (pe_tup pa_nil) (nomark _))
 (pss_one (ps_ret (pe_ix u_ix (pe_lst (pa_cons (pe_tup (pa_cons pe_int pa_nil)) (pa_cons pe_non (pa_cons (pe_lst (pa_cons (pe_tup (pa_cons pe_int (pa_cons pe_str (pa_cons pe_int pa_nil)))) pa_nil)) (pa_cons (pe_tup (pa_cons (pe_tup pa_nil) pa_nil)) pa_nil))))) (pv 2) (fun _ _ => rfl))))
 pss_nil)
 (pss_cons (ps_set (i := 3) sc_law_other.nd rfl (by first | exact Or.inl rfl | exact Or.inr rfl) (pe_callC (ok_law_draw T) (hr.mono (by omega)) (by rfl) pass0 (pa_cons (pv 0) (pa_cons (pe_callB u_len (by rfl) T.m_len PySem.boot_len (pa_cons (pv 1) pa_nil)) pa_nil))))
 (pss_cons (ps_if (pt_cmpR u_lt (pv 2) pe_int (nomark _))
 (pss_one (ps_ret (pe_ix u_ix (pe_lst (pa_cons (pe_op u_addA (pe_slice u_slW (pv 1) po_none (po_some (pv 3))) (pe_slice u_slW (pv 1) (po_some (pe_op u_add (pv 3) pe_int)) po_none)) (pa_cons (pe_op u_addA (pv 1) (pe_slice u_slW (pv 1) po_none (po_some pe_int))) pa_nil))) (pv 2) (fun _ _ => rfl))))
 pss_nil)
 (pss_one (ps_ret (pe_op u_addA (pe_op u_addA (pe_slice u_slW (pv 1) po_none (po_some (pv 3))) (pe_tup (pa_cons (pe_callC ih (hr.mono (by omega)) (by rfl) pass0 (pa_cons (pv 0) (pa_cons (pe_ix u_ix (pv 1) (pv 3) (fun _ _ => rfl)) pa_nil))) pa_nil))) (pe_slice u_slW (pv 1) (po_some (pe_op u_add (pv 3) pe_int)) po_none))))))))))))

theorem sc_law_spoilt : FnScope ["_law_well", "_law_steps", "_law_way", "_law_at", "_law_step", "_law_place", "_law_other_here"] ["_law_well", "_law_steps"] (defScope s_law_spoilt) := ⟨rfl, rfl, rfl, by decide +kernel, rfl, by decide +kernel, by decide +kernel⟩
theorem ok_law_spoilt {P : Program} {w : World} {K : PySem.W.Frag} {mg : Str → Option Value} {base : Heap} {C : Addr} (T : Txt K mg C) : Cal P w K mg base CX0 11 "_law_spoilt" ["_law_well", "_law_steps"] (sp_law_spoilt K) := by
  refine Cal.of (st := s_law_spoilt) T.d_law_spoilt sc_law_spoilt (fun _ _ _ _ _ _ us hl => match us, hl with | [_, _], _ => rfl) (len_law_spoilt K) fun f cdv A outer s H vs Q E hr h => ⟨t_law_spoilt K, ?_, p_law_spoilt K vs H Q E h⟩
  unfold t_law_spoilt b_law_spoilt_0 b_law_spoilt_1 b_law_spoilt_2 b_law_spoilt_3 b_law_spoilt_4 b_law_spoilt_5
  exact (pss_cons (ps_set (i := 2) sc_law_spoilt.nd rfl (by first | exact Or.inl rfl | exact Or.inr rfl) (pe_callC (ok_law_draw T) (hr.mono (by omega)) (by rfl) pass0 (pa_cons (pv 0) (pa_cons pe_int pa_nil))))
 (pss_cons (ps_set (i := 3) sc_law_spoilt.nd rfl (by first | exact Or.inl rfl | exact Or.inr rfl) (pe_callC (ok_law_draw T) (hr.mono (by omega)) (by rfl) pass0 (pa_cons (pv 0) (pa_cons (pe_callB u_len (by rfl) T.m_len PySem.boot_len (pa_cons (pv 1) pa_nil)) pa_nil))))
 (pss_cons (ps_set (i := 4) sc_law_spoilt.nd rfl (by first | exact Or.inl rfl | exact Or.inr rfl) (pe_ix u_ix (pv 1) (pv 3) (fun _ _ => rfl)))
 (pss_cons (ps_if (pt_cmpR (u_eq hr.units) (pv 2) pe_int (nomark _))
 (pss_one (ps_ret (pe_op u_add (pe_slice u_slL (pv 1) po_none (po_some (pv 3))) (pe_slice u_slL (pv 1) (po_some (pe_op u_add (pv 3) pe_int)) po_none))))
 pss_nil)
 (pss_cons (ps_if (pt_cmpR (u_eq hr.units) (pv 2) pe_int (nomark _))
 (pss_one (ps_ret (pe_op u_add (pe_slice u_slL (pv 1) po_none (po_some (pe_op u_add (pv 3) pe_int))) (pe_slice u_slL (pv 1) (po_some (pv 3)) po_none))))
 pss_nil)
 (pss_cons (ps_if (pt_cmpR (u_eq hr.units) (pv 2) pe_int (nomark _))
 (pss_one (ps_ret (pe_op u_add (pe_op u_add (pe_slice u_slL (pv 1) po_none (po_some (pv 3))) (pe_revL (pe_slice u_slL (pv 1) (po_some (pv 3)) (po_some (pe_op u_add (pv 3) pe_int))))) (pe_slice u_slL (pv 1) (po_some (pe_op u_add (pv 3) pe_int)) po_none))))
 pss_nil)
 (pss_cons (ps_if (pt_cmpR (u_eq hr.units) (pv 2) pe_int (nomark _))
 (pss_one (ps_ret (pe_ix u_ix (pe_lst (pa_cons (pe_op u_add (pv 1) (pe_lst (pa_cons (pe_tup (pa_cons pe_str pa_nil)) pa_nil))) (pa_cons (pe_slice u_slL (pv 1) po_none (po_some (pe_un u_neg pe_int))) (pa_cons (pe_lst pa_nil) (pa_cons (pv 1) pa_nil))))) (pe_callC (ok_law_draw T) (hr.mono (by omega)) (by rfl) pass0 (pa_cons (pv 0) (pa_cons pe_int pa_nil))) (fun _ _ => rfl))))
 pss_nil)
 (pss_cons (ps_set (i := 5) sc_law_spoilt.nd rfl (by first | exact Or.inl rfl | exact Or.inr rfl) (pe_callC (ok_law_draw T) (hr.mono (by omega)) (by rfl) pass0 (pa_cons (pv 0) (pa_cons (pe_callB u_len (by rfl) T.m_len PySem.boot_len (pa_cons (pv 4) pa_nil)) pa_nil))))
 (pss_cons (ps_set (i := 6) sc_law_spoilt.nd rfl (by first | exact Or.inl rfl | exact Or.inr rfl) (pe_op u_addA (pe_op u_addA (pe_slice sl_tupA (pv 4) po_none (po_some (pv 5))) (pe_tup (pa_cons (pe_callC (ok_law_other T 8) (hr.mono (by omega)) (by rfl) pass0 (pa_cons (pv 0) (pa_cons (pe_ix u_ix (pv 4) (pv 5) (fun _ _ => rfl)) pa_nil))) pa_nil))) (pe_slice sl_tupA (pv 4) (po_some (pe_op u_add (pv 5) pe_int)) po_none)))
 (pss_one (ps_ret (pe_op u_add (pe_op u_add (pe_slice u_slL (pv 1) po_none (po_some (pv 3))) (pe_lst (pa_cons (pe_ix u_ix (pe_lst (pa_cons (pv 6) (pa_cons (pe_slice sl_tupA (pv 4) po_none (po_some (pv 5))) (pa_cons (pe_op u_addA (pv 4) (pe_tup (pa_cons pe_int pa_nil))) pa_nil)))) (pe_ix u_ix (pe_lst (pa_cons pe_int (pa_cons pe_int (pa_cons pe_int (pa_cons pe_int (pa_cons pe_int pa_nil)))))) (pe_callC (ok_law_draw T) (hr.mono (by omega)) (by rfl) pass0 (pa_cons (pv 0) (pa_cons pe_int pa_nil))) (fun _ _ => rfl)) (fun _ _ => rfl)) pa_nil))) (pe_slice u_slL (pv 1) (po_some (pe_op u_add (pv 3) pe_int)) po_none)))))))))))))

theorem sc_law_due : FnScope ["_law_steps", "_law_others", "_law_at"] ["_law_steps", "_law_others"] (defScope s_law_due) := ⟨rfl, rfl, rfl, by decide +kernel, rfl, by decide +kernel, by decide +kernel⟩
theorem ok_law_due {P : Program} {w : World} {K : PySem.W.Frag} {mg : Str → Option Value} {base : Heap} {C : Addr} (T : Txt K mg C) : Cal P w K mg base CX0 1 "_law_due" ["_law_steps", "_law_others"] (sp_law_due K) := by
  refine Cal.of (st := s_law_due) T.d_law_due sc_law_due (fun _ _ _ _ _ _ us hl => match us, hl with | [_, _], _ => rfl) (len_law_due K) fun f cdv A outer s H vs Q E hr h => ⟨t_law_due K, ?_, p_law_due K vs H Q E h⟩
  exact (pss_cons (ps_for PassesOwn.never rfl (pi_range1 (by rfl) T.m_range (pa_cons (pe_callB (u_max2 rfl) (by rfl) T.m_max (by decide +kernel) (pa_cons (pe_callB u_len (by rfl) T.m_len PySem.boot_len (pa_cons (pv 0) pa_nil)) (pa_cons (pe_callB u_len (by rfl) T.m_len PySem.boot_len (pa_cons (pv 1) pa_nil)) pa_nil))) pa_nil)) (pg_name (i := 2) sc_law_due.nd rfl (by first | exact Or.inl rfl | exact Or.inr rfl))
 (pss_one (ps_if (PW.pt (pw_or (pt_cmpR u_ge (pv 2) (pe_callB u_len (by rfl) T.m_len PySem.boot_len (pa_cons (pv 0) pa_nil)) (nomark _)) (pw_or (pt_cmpR u_ge (pv 2) (pe_callB u_len (by rfl) T.m_len PySem.boot_len (pa_cons (pv 1) pa_nil)) (nomark _)) (pw_or1 (pt_cmpR (u_ne hr.units) (pe_ix u_ix (pv 0) (pv 2) (fun _ _ => rfl)) (pe_ix u_ix (pv 1) (pv 2) (fun _ _ => rfl)) (nomark _))))))
 (pss_one (ps_ret (pv 2)))
 pss_nil)))
 (pss_one (ps_ret pe_str)))

theorem sc_law : FnScope ["_law_script", "_law_cell", "_law_well", "_law_kinds", "_law_old", "_law_new", "_law_steps", "_law_k", "_law_others", "_law_found"] ["_law_script"] (defScope s_law) := ⟨rfl, rfl, rfl, by decide +kernel, rfl, by decide +kernel, by decide +kernel⟩
theorem ok_law {P : Program} {w : World} {K : PySem.W.Frag} {mg : Str → Option Value} {base : Heap} {C : Addr} {Pt : Tb} (T : Txt K mg C) (B : Tbs K mg base Pt) : Cal P w K mg base CX0 172 "law" ["_law_script"] (sp_law K Pt) := by
  refine Cal.of (st := s_law) T.d_law sc_law (fun _ _ _ _ _ _ us hl => match us, hl with | [_], _ => rfl) (len_law K Pt) fun f cdv A outer s H vs Q E hr h => ⟨t_law K Pt, ?_, p_law K Pt vs H Q E h⟩
  unfold t_law b_law_0 b_law_1 b_law_2 b_law_3
  exact (pss_cons (ps_for PassesOwn.never rfl (pi_list (pe_slice u_slL (pe_op u_add (pv 0) (pe_lst (pa_cons pe_int pa_nil))) po_none (po_some pe_int))) (pg_name (i := 1) sc_law.nd rfl (by first | exact Or.inl rfl | exact Or.inr rfl))
 (pss_cons (ps_set (i := 2) sc_law.nd rfl (by first | exact Or.inl rfl | exact Or.inr rfl) (pe_lst (pa_cons (pv 1) (pa_cons pe_int pa_nil))))
 (pss_cons (ps_set (i := 3) sc_law.nd rfl (by first | exact Or.inl rfl | exact Or.inr rfl) (pe_slice u_slL (pe_lst (pa_cons pe_str (pa_cons pe_str (pa_cons pe_str pa_nil)))) po_none (po_some (pe_op u_add pe_int (pe_callC (ok_law_draw T) (hr.mono (by omega)) (by rfl) pass0 (pa_cons (pv 2) (pa_cons pe_int pa_nil)))))))
 (pss_cons (ps_set (i := 4) sc_law.nd rfl (by first | exact Or.inl rfl | exact Or.inr rfl) (pe_callC (ok_law_schema T B) (hr.mono (by omega)) (by rfl) pass0 (pa_cons (pv 2) (pa_cons (pv 3) (pa_cons pe_str pa_nil)))))
 (pss_cons (ps_set (i := 5) sc_law.nd rfl (by first | exact Or.inl rfl | exact Or.inr rfl) (pe_callC (ok_law_schema T B) (hr.mono (by omega)) (by rfl) pass0 (pa_cons (pv 2) (pa_cons (pv 3) (pa_cons (pe_ix u_ix (pe_lst (pa_cons pe_str (pa_cons pe_str pa_nil))) (pe_callC (ok_law_draw T) (hr.mono (by omega)) (by rfl) pass0 (pa_cons (pv 2) (pa_cons pe_int pa_nil))) (fun _ _ => rfl)) pa_nil)))))
 (pss_cons (ps_set (i := 6) sc_law.nd rfl (by first | exact Or.inl rfl | exact Or.inr rfl) (pe_callTy u_list (by rfl) T.m_list (by decide +kernel) (pa_cons (pe_callC (ok_made T) (hr.mono (by omega)) (by rfl) pass0 (pa_cons (pv 4) (pa_cons (pv 5) pa_nil))) pa_nil)))
 (pss_cons (ps_if (PW.pt (pw_or (pt_cmpR (u_ne hr.units) (pe_callC (ok_judge_reader T) (hr.mono (by omega)) (by rfl) pass0 (pa_cons (pv 4) (pa_cons (pv 5) (pa_cons (pe_callC (ok_made T) (hr.mono (by omega)) (by rfl) pass0 (pa_cons (pv 4) (pa_cons (pv 5) pa_nil))) pa_nil)))) pe_str (nomark _)) (pw_or1 (pt_cmpR (u_ne hr.units) (pe_callC (ok_judge_reader T) (hr.mono (by omega)) (by rfl) pass0 (pa_cons (pv 4) (pa_cons (pv 5) (pa_cons (pe_callTy u_list (by rfl) T.m_list (by decide +kernel) (pa_cons (pv 6) pa_nil)) pa_nil)))) pe_str (nomark _)))))
 (pss_one (ps_ret pe_bl))
 pss_nil)
 (pss_cons (ps_for PassesOwn.never rfl (pi_range1 (by rfl) T.m_range (pa_cons pe_int pa_nil)) (pg_name (i := 7) sc_law.nd rfl (by first | exact Or.inl rfl | exact Or.inr rfl))
 (pss_cons (ps_set (i := 8) sc_law.nd rfl (by first | exact Or.inl rfl | exact Or.inr rfl) (pe_callC (ok_law_spoilt T) (hr.mono (by omega)) (by rfl) pass0 (pa_cons (pv 2) (pa_cons (pe_callTy u_list (by rfl) T.m_list (by decide +kernel) (pa_cons (pv 6) pa_nil)) pa_nil))))
 (pss_cons (ps_set (i := 9) sc_law.nd rfl (by first | exact Or.inl rfl | exact Or.inr rfl) (pe_callC (ok_judge_reader T) (hr.mono (by omega)) (by rfl) pass0 (pa_cons (pv 4) (pa_cons (pv 5) (pa_cons (pe_ix u_ix (pe_lst (pa_cons (pe_callTy u_tuple (by rfl) T.m_tuple (by decide +kernel) (pa_cons (pv 8) pa_nil)) (pa_cons (pv 8) pa_nil))) (pe_op u_mod (pv 7) pe_int) (fun _ _ => rfl)) pa_nil)))))
 (pss_one (ps_if (PW.pt (pw_or (pt_cmpR (u_ne hr.units) (pv 9) (pe_callC (ok_law_due T) (hr.mono (by omega)) (by rfl) pass0 (pa_cons (pv 6) (pa_cons (pv 8) pa_nil))) (nomark _)) (pw_or1 (pt_truth (pe_callB u_isi (by rfl) T.m_isinstance (by decide +kernel) (pa_cons (pv 9) (pa_cons (pe_bltn (v := .ty "bool") (by rfl) T.m_bool (by decide +kernel) rfl) pa_nil))) (by intro _; rfl)))))
 (pss_one (ps_ret pe_bl))
 pss_nil)))))
 (pss_cons (ps_set (i := 8) sc_law.nd rfl (by first | exact Or.inl rfl | exact Or.inr rfl) (pe_callTy u_list (by rfl) T.m_list (by decide +kernel) (pa_cons (pe_callC (ok_made T) (hr.mono (by omega)) (by rfl) pass0 (pa_cons (pv 5) (pa_cons (pv 4) pa_nil))) pa_nil)))
 (pss_one (ps_if (pt_cmpR (u_ne hr.units) (pe_callC (ok_judge_reader T) (hr.mono (by omega)) (by rfl) pass0 (pa_cons (pv 4) (pa_cons (pv 5) (pa_cons (pe_callTy u_tuple (by rfl) T.m_tuple (by decide +kernel) (pa_cons (pv 8) pa_nil)) pa_nil)))) (pe_callC (ok_law_due T) (hr.mono (by omega)) (by rfl) pass0 (pa_cons (pv 6) (pa_cons (pv 8) pa_nil))) (nomark _))
 (pss_one (ps_ret pe_bl))
 pss_nil)))))))))))
 (pss_one (ps_ret pe_bl)))

theorem txt_mk {K : PySem.W.Frag} {h : Heap} {mg : Str → Option Value} (X : K.In h) (G : h.Ns mainGlobals mg)
    {C_INSIDE : Addr} {C : Addr} {C_Walk : Addr} {C_Making : Addr} {C_Schema : Addr} {n_INSIDE : Nat} {s_INSIDE : Array (Option Value)} {tk_INSIDE0 : Tok} {f_is_whole : Addr} {od_is_whole an_is_whole : Option Addr} {sl_is_whole : Array (Option Value)} {oc_is_whole kV_is_whole dc_is_whole pm_is_whole cd_is_whole ct_is_whole : Value} {f_is_within : Addr} {od_is_within an_is_within : Option Addr} {sl_is_within : Array (Option Value)} {oc_is_within kV_is_within dc_is_within pm_is_within cd_is_within ct_is_within : Value} {f_is_row : Addr} {od_is_row an_is_row : Option Addr} {sl_is_row : Array (Option Value)} {oc_is_row kV_is_row dc_is_row pm_is_row cd_is_row ct_is_row : Value} {f_fields_of : Addr} {od_fields_of an_fields_of : Option Addr} {sl_fields_of : Array (Option Value)} {oc_fields_of kV_fields_of dc_fields_of pm_fields_of cd_fields_of ct_fields_of : Value} {f_cases_of : Addr} {od_cases_of an_cases_of : Option Addr} {sl_cases_of : Array (Option Value)} {oc_cases_of kV_cases_of dc_cases_of pm_cases_of cd_cases_of ct_cases_of : Value} {f_left_of : Addr} {od_left_of an_left_of : Option Addr} {sl_left_of : Array (Option Value)} {oc_left_of kV_left_of dc_left_of pm_left_of cd_left_of ct_left_of : Value} {f_truths_alike : Addr} {od_truths_alike an_truths_alike : Option Addr} {sl_truths_alike : Array (Option Value)} {oc_truths_alike kV_truths_alike dc_truths_alike pm_truths_alike cd_truths_alike ct_truths_alike : Value} {f_by_number : Addr} {od_by_number an_by_number : Option Addr} {sl_by_number : Array (Option Value)} {oc_by_number kV_by_number dc_by_number pm_by_number cd_by_number ct_by_number : Value} {f_lacking_names : Addr} {od_lacking_names an_lacking_names : Option Addr} {sl_lacking_names : Array (Option Value)} {oc_lacking_names kV_lacking_names dc_lacking_names pm_lacking_names cd_lacking_names ct_lacking_names : Value} {f_both_of : Addr} {od_both_of an_both_of : Option Addr} {sl_both_of : Array (Option Value)} {oc_both_of kV_both_of dc_both_of pm_both_of cd_both_of ct_both_of : Value} {f_gone_into : Addr} {od_gone_into an_gone_into : Option Addr} {sl_gone_into : Array (Option Value)} {oc_gone_into kV_gone_into dc_gone_into pm_gone_into cd_gone_into ct_gone_into : Value} {f_Walk_meet : Addr} {od_Walk_meet an_Walk_meet : Option Addr} {sl_Walk_meet : Array (Option Value)} {oc_Walk_meet kV_Walk_meet dc_Walk_meet pm_Walk_meet cd_Walk_meet ct_Walk_meet : Value} {f_Walk___init__ : Addr} {od_Walk___init__ an_Walk___init__ : Option Addr} {sl_Walk___init__ : Array (Option Value)} {oc_Walk___init__ kV_Walk___init__ dc_Walk___init__ pm_Walk___init__ cd_Walk___init__ ct_Walk___init__ : Value} {f_all_pairs : Addr} {od_all_pairs an_all_pairs : Option Addr} {sl_all_pairs : Array (Option Value)} {oc_all_pairs kV_all_pairs dc_all_pairs pm_all_pairs cd_all_pairs ct_all_pairs : Value} {f_Making___init__ : Addr} {od_Making___init__ an_Making___init__ : Option Addr} {sl_Making___init__ : Array (Option Value)} {oc_Making___init__ kV_Making___init__ dc_Making___init__ pm_Making___init__ cd_Making___init__ ct_Making___init__ : Value} {f_Making_number_of : Addr} {od_Making_number_of an_Making_number_of : Option Addr} {sl_Making_number_of : Array (Option Value)} {oc_Making_number_of kV_Making_number_of dc_Making_number_of pm_Making_number_of cd_Making_number_of ct_Making_number_of : Value} {f_Making_choice : Addr} {od_Making_choice an_Making_choice : Option Addr} {sl_Making_choice : Array (Option Value)} {oc_Making_choice kV_Making_choice dc_Making_choice pm_Making_choice cd_Making_choice ct_Making_choice : Value} {f_Making_node : Addr} {od_Making_node an_Making_node : Option Addr} {sl_Making_node : Array (Option Value)} {oc_Making_node kV_Making_node dc_Making_node pm_Making_node cd_Making_node ct_Making_node : Value} {f_Making_step : Addr} {od_Making_step an_Making_step : Option Addr} {sl_Making_step : Array (Option Value)} {oc_Making_step kV_Making_step dc_Making_step pm_Making_step cd_Making_step ct_Making_step : Value} {f_made : Addr} {od_made an_made : Option Addr} {sl_made : Array (Option Value)} {oc_made kV_made dc_made pm_made cd_made ct_made : Value} {f_judge_reader : Addr} {od_judge_reader an_judge_reader : Option Addr} {sl_judge_reader : Array (Option Value)} {oc_judge_reader kV_judge_reader dc_judge_reader pm_judge_reader cd_judge_reader ct_judge_reader : Value} {f_is_name : Addr} {od_is_name an_is_name : Option Addr} {sl_is_name : Array (Option Value)} {oc_is_name kV_is_name dc_is_name pm_is_name cd_is_name ct_is_name : Value} {f_is_bounds : Addr} {od_is_bounds an_is_bounds : Option Addr} {sl_is_bounds : Array (Option Value)} {oc_is_bounds kV_is_bounds dc_is_bounds pm_is_bounds cd_is_bounds ct_is_bounds : Value} {f_is_known : Addr} {od_is_known an_is_known : Option Addr} {sl_is_known : Array (Option Value)} {oc_is_known kV_is_known dc_is_known pm_is_known cd_is_known ct_is_known : Value} {f_is_sort D_is_sort : Addr} {od_is_sort an_is_sort od2_is_sort : Option Addr} {sl_is_sort sl2_is_sort : Array (Option Value)} {oc_is_sort kV_is_sort dc_is_sort pm_is_sort cd_is_sort ct_is_sort oc2_is_sort : Value} {n2_is_sort : Nat} {tk_is_sort : Tok} {f_is_default : Addr} {od_is_default an_is_default : Option Addr} {sl_is_default : Array (Option Value)} {oc_is_default kV_is_default dc_is_default pm_is_default cd_is_default ct_is_default : Value} {f_refuse_if : Addr} {od_refuse_if an_refuse_if : Option Addr} {sl_refuse_if : Array (Option Value)} {oc_refuse_if kV_refuse_if dc_refuse_if pm_refuse_if cd_refuse_if ct_refuse_if : Value} {f_look_at_heading : Addr} {od_look_at_heading an_look_at_heading : Option Addr} {sl_look_at_heading : Array (Option Value)} {oc_look_at_heading kV_look_at_heading dc_look_at_heading pm_look_at_heading cd_look_at_heading ct_look_at_heading : Value} {f_look_at_part : Addr} {od_look_at_part an_look_at_part : Option Addr} {sl_look_at_part : Array (Option Value)} {oc_look_at_part kV_look_at_part dc_look_at_part pm_look_at_part cd_look_at_part ct_look_at_part : Value} {f_Schema_comes_back : Addr} {od_Schema_comes_back an_Schema_comes_back : Option Addr} {sl_Schema_comes_back : Array (Option Value)} {oc_Schema_comes_back kV_Schema_comes_back dc_Schema_comes_back pm_Schema_comes_back cd_Schema_comes_back ct_Schema_comes_back : Value} {f_Schema___init__ D_Schema___init__ : Addr} {od_Schema___init__ an_Schema___init__ : Option Addr} {sl_Schema___init__ : Array (Option Value)} {oc_Schema___init__ dc_Schema___init__ pm_Schema___init__ cd_Schema___init__ ct_Schema___init__ : Value} {f_law_draw : Addr} {od_law_draw an_law_draw : Option Addr} {sl_law_draw : Array (Option Value)} {oc_law_draw kV_law_draw dc_law_draw pm_law_draw cd_law_draw ct_law_draw : Value} {f_law_sort : Addr} {od_law_sort an_law_sort : Option Addr} {sl_law_sort : Array (Option Value)} {oc_law_sort kV_law_sort dc_law_sort pm_law_sort cd_law_sort ct_law_sort : Value} {f_law_left : Addr} {od_law_left an_law_left : Option Addr} {sl_law_left : Array (Option Value)} {oc_law_left kV_law_left dc_law_left pm_law_left cd_law_left ct_law_left : Value} {f_law_schema : Addr} {od_law_schema an_law_schema : Option Addr} {sl_law_schema : Array (Option Value)} {oc_law_schema kV_law_schema dc_law_schema pm_law_schema cd_law_schema ct_law_schema : Value} {f_law_other : Addr} {od_law_other an_law_other : Option Addr} {sl_law_other : Array (Option Value)} {oc_law_other kV_law_other dc_law_other pm_law_other cd_law_other ct_law_other : Value} {f_law_spoilt : Addr} {od_law_spoilt an_law_spoilt : Option Addr} {sl_law_spoilt : Array (Option Value)} {oc_law_spoilt kV_law_spoilt dc_law_spoilt pm_law_spoilt cd_law_spoilt ct_law_spoilt : Value} {f_law_due : Addr} {od_law_due an_law_due : Option Addr} {sl_law_due : Array (Option Value)} {oc_law_due kV_law_due dc_law_due pm_law_due cd_law_due ct_law_due : Value} {f_law : Addr} {od_law an_law : Option Addr} {sl_law : Array (Option Value)} {oc_law kV_law dc_law pm_law cd_law ct_law : Value}
    (z_abs : PySem.W.nsIn K mainGlobals "abs" = some none) (z_all : PySem.W.nsIn K mainGlobals "all" = some none) (z_bool : PySem.W.nsIn K mainGlobals "bool" = some none) (z_enumerate : PySem.W.nsIn K mainGlobals "enumerate" = some none) (z_int : PySem.W.nsIn K mainGlobals "int" = some none) (z_isinstance : PySem.W.nsIn K mainGlobals "isinstance" = some none) (z_len : PySem.W.nsIn K mainGlobals "len" = some none) (z_list : PySem.W.nsIn K mainGlobals "list" = some none) (z_max : PySem.W.nsIn K mainGlobals "max" = some none) (z_min : PySem.W.nsIn K mainGlobals "min" = some none) (z_range : PySem.W.nsIn K mainGlobals "range" = some none) (z_sorted : PySem.W.nsIn K mainGlobals "sorted" = some none) (z_str : PySem.W.nsIn K mainGlobals "str" = some none) (z_tuple : PySem.W.nsIn K mainGlobals "tuple" = some none) (z_zip : PySem.W.nsIn K mainGlobals "zip" = some none) {k_GREATEST : Tok} (y_GREATEST : PySem.W.nsIn K mainGlobals "GREATEST" = some (some (.int 999999999999999999999999999999999999999999999999999999999999 k_GREATEST))) {k_LETTERS : Tok} (y_LETTERS : PySem.W.nsIn K mainGlobals "LETTERS" = some (some (.str (PySem.Str.ofString "abcdefghijklmnopqrstuvwxyz") k_LETTERS))) {k_MOST_SIGNS : Tok} (y_MOST_SIGNS : PySem.W.nsIn K mainGlobals "MOST_SIGNS" = some (some (.int 8 k_MOST_SIGNS))) {k_MOST_NUMBER : Tok} (y_MOST_NUMBER : PySem.W.nsIn K mainGlobals "MOST_NUMBER" = some (some (.int 99 k_MOST_NUMBER))) {k_MOST_TEXT : Tok} (y_MOST_TEXT : PySem.W.nsIn K mainGlobals "MOST_TEXT" = some (some (.int 40 k_MOST_TEXT))) {k_MOST_ROW : Tok} (y_MOST_ROW : PySem.W.nsIn K mainGlobals "MOST_ROW" = some (some (.int 20 k_MOST_ROW))) {k_MOST_DEEP : Tok} (y_MOST_DEEP : PySem.W.nsIn K mainGlobals "MOST_DEEP" = some (some (.int 3 k_MOST_DEEP))) (at_INSIDE : PySem.W.nsIn K mainGlobals "INSIDE" = some (some (.ref C_INSIDE))) (at_Walk : PySem.W.nsIn K mainGlobals "Walk" = some (some (.ref C_Walk))) (pg_Walk : PySem.W.plainGet K C_Walk Str.empty = true) (hd_Walk : PySem.W.hasDictIn K C_Walk = true) (po_Walk : PySem.W.plainOver K C_Walk = true) (sa_Walk : PySem.W.findIn K (.ref C_Walk) "__setattr__" = some (some (.builtin "object.__setattr__"))) (no_old_Walk : PySem.W.findIn K (.ref C_Walk) "old" = some none) (no_new_Walk : PySem.W.findIn K (.ref C_Walk) "new" = some none) (no_pairs_Walk : PySem.W.findIn K (.ref C_Walk) "pairs" = some none) (no_chains_Walk : PySem.W.findIn K (.ref C_Walk) "chains" = some none) (mk_Walk : PySem.W.makesIn K C_Walk = true) (kc_Walk : PySem.W.keepIn K (.ref C_Walk) = true) (mr_Walk : PySem.W.mroIn K C_Walk (.type "object") = some true) (eq_Walk : PySem.W.findIn K (.ref C_Walk) "__eq__" = some (some (.builtin "object.__eq__"))) (ha_Walk : PySem.W.findIn K (.ref C_Walk) "__class__" = some (some (.builtin "object.__class__"))) (hn_Walk : PySem.W.specialIn K (.builtin "object.__class__") "__get__" = some (some (.builtin "getset_descriptor.__get__"))) (ht_Walk : PySem.W.takesIn K (.builtin "object.__class__") = some true) (kb_Walk : PySem.W.kitOne K (.ref C_Walk) (.type "bool") = some false) (at_Making : PySem.W.nsIn K mainGlobals "Making" = some (some (.ref C_Making))) (pg_Making : PySem.W.plainGet K C_Making Str.empty = true) (hd_Making : PySem.W.hasDictIn K C_Making = true) (po_Making : PySem.W.plainOver K C_Making = true) (sa_Making : PySem.W.findIn K (.ref C_Making) "__setattr__" = some (some (.builtin "object.__setattr__"))) (no_old_Making : PySem.W.findIn K (.ref C_Making) "old" = some none) (no_new_Making : PySem.W.findIn K (.ref C_Making) "new" = some none) (no_pairs_Making : PySem.W.findIn K (.ref C_Making) "pairs" = some none) (mk_Making : PySem.W.makesIn K C_Making = true) (kc_Making : PySem.W.keepIn K (.ref C_Making) = true) (mr_Making : PySem.W.mroIn K C_Making (.type "object") = some true) (eq_Making : PySem.W.findIn K (.ref C_Making) "__eq__" = some (some (.builtin "object.__eq__"))) (ha_Making : PySem.W.findIn K (.ref C_Making) "__class__" = some (some (.builtin "object.__class__"))) (hn_Making : PySem.W.specialIn K (.builtin "object.__class__") "__get__" = some (some (.builtin "getset_descriptor.__get__"))) (ht_Making : PySem.W.takesIn K (.builtin "object.__class__") = some true) (kb_Making : PySem.W.kitOne K (.ref C_Making) (.type "bool") = some false) (at_Schema : PySem.W.nsIn K mainGlobals "Schema" = some (some (.ref C_Schema))) (pg_Schema : PySem.W.plainGet K C_Schema Str.empty = true) (hd_Schema : PySem.W.hasDictIn K C_Schema = true) (po_Schema : PySem.W.plainOver K C_Schema = true) (sa_Schema : PySem.W.findIn K (.ref C_Schema) "__setattr__" = some (some (.builtin "object.__setattr__"))) (no_kinds_Schema : PySem.W.findIn K (.ref C_Schema) "kinds" = some none) (no_choices_Schema : PySem.W.findIn K (.ref C_Schema) "choices" = some none) (no_root_Schema : PySem.W.findIn K (.ref C_Schema) "root" = some none) (mk_Schema : PySem.W.makesIn K C_Schema = true) (kc_Schema : PySem.W.keepIn K (.ref C_Schema) = true) (mr_Schema : PySem.W.mroIn K C_Schema (.type "object") = some true) (eq_Schema : PySem.W.findIn K (.ref C_Schema) "__eq__" = some (some (.builtin "object.__eq__"))) (ha_Schema : PySem.W.findIn K (.ref C_Schema) "__class__" = some (some (.builtin "object.__class__"))) (hn_Schema : PySem.W.specialIn K (.builtin "object.__class__") "__get__" = some (some (.builtin "getset_descriptor.__get__"))) (ht_Schema : PySem.W.takesIn K (.builtin "object.__class__") = some true) (kb_Schema : PySem.W.kitOne K (.ref C_Schema) (.type "bool") = some false) (lk_INSIDE : K.lookup C_INSIDE = some ⟨.type "tuple", none, .seq #[.str (PySem.Str.ofString "inside") tk_INSIDE0] n_INSIDE, s_INSIDE⟩) (a_is_whole : PySem.W.nsIn K mainGlobals "is_whole" = some (some (.ref f_is_whole))) (l_is_whole : K.lookup f_is_whole = some ⟨oc_is_whole, od_is_whole, .func (PySem.W.fnOf "is_whole" "is_whole" (defArgs s_is_whole) (defBody s_is_whole) (defScope s_is_whole) .none kV_is_whole dc_is_whole pm_is_whole an_is_whole cd_is_whole ct_is_whole), sl_is_whole⟩) (q_is_whole : PySem.W.codeIn K cd_is_whole "is_whole" = true) (k_is_whole : PySem.W.keepIn K (.ref f_is_whole) = true) (a_is_within : PySem.W.nsIn K mainGlobals "is_within" = some (some (.ref f_is_within))) (l_is_within : K.lookup f_is_within = some ⟨oc_is_within, od_is_within, .func (PySem.W.fnOf "is_within" "is_within" (defArgs s_is_within) (defBody s_is_within) (defScope s_is_within) .none kV_is_within dc_is_within pm_is_within an_is_within cd_is_within ct_is_within), sl_is_within⟩) (q_is_within : PySem.W.codeIn K cd_is_within "is_within" = true) (k_is_within : PySem.W.keepIn K (.ref f_is_within) = true) (a_is_row : PySem.W.nsIn K mainGlobals "is_row" = some (some (.ref f_is_row))) (l_is_row : K.lookup f_is_row = some ⟨oc_is_row, od_is_row, .func (PySem.W.fnOf "is_row" "is_row" (defArgs s_is_row) (defBody s_is_row) (defScope s_is_row) .none kV_is_row dc_is_row pm_is_row an_is_row cd_is_row ct_is_row), sl_is_row⟩) (q_is_row : PySem.W.codeIn K cd_is_row "is_row" = true) (k_is_row : PySem.W.keepIn K (.ref f_is_row) = true) (a_fields_of : PySem.W.nsIn K mainGlobals "fields_of" = some (some (.ref f_fields_of))) (l_fields_of : K.lookup f_fields_of = some ⟨oc_fields_of, od_fields_of, .func (PySem.W.fnOf "fields_of" "fields_of" (defArgs s_fields_of) (defBody s_fields_of) (defScope s_fields_of) .none kV_fields_of dc_fields_of pm_fields_of an_fields_of cd_fields_of ct_fields_of), sl_fields_of⟩) (q_fields_of : PySem.W.codeIn K cd_fields_of "fields_of" = true) (k_fields_of : PySem.W.keepIn K (.ref f_fields_of) = true) (a_cases_of : PySem.W.nsIn K mainGlobals "cases_of" = some (some (.ref f_cases_of))) (l_cases_of : K.lookup f_cases_of = some ⟨oc_cases_of, od_cases_of, .func (PySem.W.fnOf "cases_of" "cases_of" (defArgs s_cases_of) (defBody s_cases_of) (defScope s_cases_of) .none kV_cases_of dc_cases_of pm_cases_of an_cases_of cd_cases_of ct_cases_of), sl_cases_of⟩) (q_cases_of : PySem.W.codeIn K cd_cases_of "cases_of" = true) (k_cases_of : PySem.W.keepIn K (.ref f_cases_of) = true) (a_left_of : PySem.W.nsIn K mainGlobals "left_of" = some (some (.ref f_left_of))) (l_left_of : K.lookup f_left_of = some ⟨oc_left_of, od_left_of, .func (PySem.W.fnOf "left_of" "left_of" (defArgs s_left_of) (defBody s_left_of) (defScope s_left_of) .none kV_left_of dc_left_of pm_left_of an_left_of cd_left_of ct_left_of), sl_left_of⟩) (q_left_of : PySem.W.codeIn K cd_left_of "left_of" = true) (k_left_of : PySem.W.keepIn K (.ref f_left_of) = true) (a_truths_alike : PySem.W.nsIn K mainGlobals "truths_alike" = some (some (.ref f_truths_alike))) (l_truths_alike : K.lookup f_truths_alike = some ⟨oc_truths_alike, od_truths_alike, .func (PySem.W.fnOf "truths_alike" "truths_alike" (defArgs s_truths_alike) (defBody s_truths_alike) (defScope s_truths_alike) .none kV_truths_alike dc_truths_alike pm_truths_alike an_truths_alike cd_truths_alike ct_truths_alike), sl_truths_alike⟩) (q_truths_alike : PySem.W.codeIn K cd_truths_alike "truths_alike" = true) (k_truths_alike : PySem.W.keepIn K (.ref f_truths_alike) = true) (a_by_number : PySem.W.nsIn K mainGlobals "by_number" = some (some (.ref f_by_number))) (l_by_number : K.lookup f_by_number = some ⟨oc_by_number, od_by_number, .func (PySem.W.fnOf "by_number" "by_number" (defArgs s_by_number) (defBody s_by_number) (defScope s_by_number) .none kV_by_number dc_by_number pm_by_number an_by_number cd_by_number ct_by_number), sl_by_number⟩) (q_by_number : PySem.W.codeIn K cd_by_number "by_number" = true) (k_by_number : PySem.W.keepIn K (.ref f_by_number) = true) (a_lacking_names : PySem.W.nsIn K mainGlobals "lacking_names" = some (some (.ref f_lacking_names))) (l_lacking_names : K.lookup f_lacking_names = some ⟨oc_lacking_names, od_lacking_names, .func (PySem.W.fnOf "lacking_names" "lacking_names" (defArgs s_lacking_names) (defBody s_lacking_names) (defScope s_lacking_names) .none kV_lacking_names dc_lacking_names pm_lacking_names an_lacking_names cd_lacking_names ct_lacking_names), sl_lacking_names⟩) (q_lacking_names : PySem.W.codeIn K cd_lacking_names "lacking_names" = true) (k_lacking_names : PySem.W.keepIn K (.ref f_lacking_names) = true) (a_both_of : PySem.W.nsIn K mainGlobals "both_of" = some (some (.ref f_both_of))) (l_both_of : K.lookup f_both_of = some ⟨oc_both_of, od_both_of, .func (PySem.W.fnOf "both_of" "both_of" (defArgs s_both_of) (defBody s_both_of) (defScope s_both_of) .none kV_both_of dc_both_of pm_both_of an_both_of cd_both_of ct_both_of), sl_both_of⟩) (q_both_of : PySem.W.codeIn K cd_both_of "both_of" = true) (k_both_of : PySem.W.keepIn K (.ref f_both_of) = true) (a_gone_into : PySem.W.nsIn K mainGlobals "gone_into" = some (some (.ref f_gone_into))) (l_gone_into : K.lookup f_gone_into = some ⟨oc_gone_into, od_gone_into, .func (PySem.W.fnOf "gone_into" "gone_into" (defArgs s_gone_into) (defBody s_gone_into) (defScope s_gone_into) .none kV_gone_into dc_gone_into pm_gone_into an_gone_into cd_gone_into ct_gone_into), sl_gone_into⟩) (q_gone_into : PySem.W.codeIn K cd_gone_into "gone_into" = true) (k_gone_into : PySem.W.keepIn K (.ref f_gone_into) = true) (a_Walk_meet : PySem.W.findIn K (.ref C_Walk) "meet" = some (some (.ref f_Walk_meet))) (i_Walk_meet : PySem.W.isFn K (.ref f_Walk_meet) = true) (l_Walk_meet : K.lookup f_Walk_meet = some ⟨oc_Walk_meet, od_Walk_meet, .func (PySem.W.fnOf "meet" "Walk.meet" (defArgs s_Walk_meet) (defBody s_Walk_meet) (defScope s_Walk_meet) .none kV_Walk_meet dc_Walk_meet pm_Walk_meet an_Walk_meet cd_Walk_meet ct_Walk_meet), sl_Walk_meet⟩) (q_Walk_meet : PySem.W.codeIn K cd_Walk_meet "Walk.meet" = true) (k_Walk_meet : PySem.W.keepIn K (.ref f_Walk_meet) = true) (a_Walk___init__ : PySem.W.findIn K (.ref C_Walk) "__init__" = some (some (.ref f_Walk___init__))) (i_Walk___init__ : PySem.W.isFn K (.ref f_Walk___init__) = true) (l_Walk___init__ : K.lookup f_Walk___init__ = some ⟨oc_Walk___init__, od_Walk___init__, .func (PySem.W.fnOf "__init__" "Walk.__init__" (defArgs s_Walk___init__) (defBody s_Walk___init__) (defScope s_Walk___init__) .none kV_Walk___init__ dc_Walk___init__ pm_Walk___init__ an_Walk___init__ cd_Walk___init__ ct_Walk___init__), sl_Walk___init__⟩) (q_Walk___init__ : PySem.W.codeIn K cd_Walk___init__ "Walk.__init__" = true) (k_Walk___init__ : PySem.W.keepIn K (.ref f_Walk___init__) = true) (a_all_pairs : PySem.W.nsIn K mainGlobals "all_pairs" = some (some (.ref f_all_pairs))) (l_all_pairs : K.lookup f_all_pairs = some ⟨oc_all_pairs, od_all_pairs, .func (PySem.W.fnOf "all_pairs" "all_pairs" (defArgs s_all_pairs) (defBody s_all_pairs) (defScope s_all_pairs) .none kV_all_pairs dc_all_pairs pm_all_pairs an_all_pairs cd_all_pairs ct_all_pairs), sl_all_pairs⟩) (q_all_pairs : PySem.W.codeIn K cd_all_pairs "all_pairs" = true) (k_all_pairs : PySem.W.keepIn K (.ref f_all_pairs) = true) (a_Making___init__ : PySem.W.findIn K (.ref C_Making) "__init__" = some (some (.ref f_Making___init__))) (i_Making___init__ : PySem.W.isFn K (.ref f_Making___init__) = true) (l_Making___init__ : K.lookup f_Making___init__ = some ⟨oc_Making___init__, od_Making___init__, .func (PySem.W.fnOf "__init__" "Making.__init__" (defArgs s_Making___init__) (defBody s_Making___init__) (defScope s_Making___init__) .none kV_Making___init__ dc_Making___init__ pm_Making___init__ an_Making___init__ cd_Making___init__ ct_Making___init__), sl_Making___init__⟩) (q_Making___init__ : PySem.W.codeIn K cd_Making___init__ "Making.__init__" = true) (k_Making___init__ : PySem.W.keepIn K (.ref f_Making___init__) = true) (a_Making_number_of : PySem.W.findIn K (.ref C_Making) "number_of" = some (some (.ref f_Making_number_of))) (i_Making_number_of : PySem.W.isFn K (.ref f_Making_number_of) = true) (l_Making_number_of : K.lookup f_Making_number_of = some ⟨oc_Making_number_of, od_Making_number_of, .func (PySem.W.fnOf "number_of" "Making.number_of" (defArgs s_Making_number_of) (defBody s_Making_number_of) (defScope s_Making_number_of) .none kV_Making_number_of dc_Making_number_of pm_Making_number_of an_Making_number_of cd_Making_number_of ct_Making_number_of), sl_Making_number_of⟩) (q_Making_number_of : PySem.W.codeIn K cd_Making_number_of "Making.number_of" = true) (k_Making_number_of : PySem.W.keepIn K (.ref f_Making_number_of) = true) (a_Making_choice : PySem.W.findIn K (.ref C_Making) "choice" = some (some (.ref f_Making_choice))) (i_Making_choice : PySem.W.isFn K (.ref f_Making_choice) = true) (l_Making_choice : K.lookup f_Making_choice = some ⟨oc_Making_choice, od_Making_choice, .func (PySem.W.fnOf "choice" "Making.choice" (defArgs s_Making_choice) (defBody s_Making_choice) (defScope s_Making_choice) .none kV_Making_choice dc_Making_choice pm_Making_choice an_Making_choice cd_Making_choice ct_Making_choice), sl_Making_choice⟩) (q_Making_choice : PySem.W.codeIn K cd_Making_choice "Making.choice" = true) (k_Making_choice : PySem.W.keepIn K (.ref f_Making_choice) = true) (a_Making_node : PySem.W.findIn K (.ref C_Making) "node" = some (some (.ref f_Making_node))) (i_Making_node : PySem.W.isFn K (.ref f_Making_node) = true) (l_Making_node : K.lookup f_Making_node = some ⟨oc_Making_node, od_Making_node, .func (PySem.W.fnOf "node" "Making.node" (defArgs s_Making_node) (defBody s_Making_node) (defScope s_Making_node) .none kV_Making_node dc_Making_node pm_Making_node an_Making_node cd_Making_node ct_Making_node), sl_Making_node⟩) (q_Making_node : PySem.W.codeIn K cd_Making_node "Making.node" = true) (k_Making_node : PySem.W.keepIn K (.ref f_Making_node) = true) (a_Making_step : PySem.W.findIn K (.ref C_Making) "step" = some (some (.ref f_Making_step))) (i_Making_step : PySem.W.isFn K (.ref f_Making_step) = true) (l_Making_step : K.lookup f_Making_step = some ⟨oc_Making_step, od_Making_step, .func (PySem.W.fnOf "step" "Making.step" (defArgs s_Making_step) (defBody s_Making_step) (defScope s_Making_step) .none kV_Making_step dc_Making_step pm_Making_step an_Making_step cd_Making_step ct_Making_step), sl_Making_step⟩) (q_Making_step : PySem.W.codeIn K cd_Making_step "Making.step" = true) (k_Making_step : PySem.W.keepIn K (.ref f_Making_step) = true) (a_made : PySem.W.nsIn K mainGlobals "made" = some (some (.ref f_made))) (l_made : K.lookup f_made = some ⟨oc_made, od_made, .func (PySem.W.fnOf "made" "made" (defArgs s_made) (defBody s_made) (defScope s_made) .none kV_made dc_made pm_made an_made cd_made ct_made), sl_made⟩) (q_made : PySem.W.codeIn K cd_made "made" = true) (k_made : PySem.W.keepIn K (.ref f_made) = true) (a_judge_reader : PySem.W.nsIn K mainGlobals "judge_reader" = some (some (.ref f_judge_reader))) (l_judge_reader : K.lookup f_judge_reader = some ⟨oc_judge_reader, od_judge_reader, .func (PySem.W.fnOf "judge_reader" "judge_reader" (defArgs s_judge_reader) (defBody s_judge_reader) (defScope s_judge_reader) .none kV_judge_reader dc_judge_reader pm_judge_reader an_judge_reader cd_judge_reader ct_judge_reader), sl_judge_reader⟩) (q_judge_reader : PySem.W.codeIn K cd_judge_reader "judge_reader" = true) (k_judge_reader : PySem.W.keepIn K (.ref f_judge_reader) = true) (a_is_name : PySem.W.nsIn K mainGlobals "is_name" = some (some (.ref f_is_name))) (l_is_name : K.lookup f_is_name = some ⟨oc_is_name, od_is_name, .func (PySem.W.fnOf "is_name" "is_name" (defArgs s_is_name) (defBody s_is_name) (defScope s_is_name) .none kV_is_name dc_is_name pm_is_name an_is_name cd_is_name ct_is_name), sl_is_name⟩) (q_is_name : PySem.W.codeIn K cd_is_name "is_name" = true) (k_is_name : PySem.W.keepIn K (.ref f_is_name) = true) (a_is_bounds : PySem.W.nsIn K mainGlobals "is_bounds" = some (some (.ref f_is_bounds))) (l_is_bounds : K.lookup f_is_bounds = some ⟨oc_is_bounds, od_is_bounds, .func (PySem.W.fnOf "is_bounds" "is_bounds" (defArgs s_is_bounds) (defBody s_is_bounds) (defScope s_is_bounds) .none kV_is_bounds dc_is_bounds pm_is_bounds an_is_bounds cd_is_bounds ct_is_bounds), sl_is_bounds⟩) (q_is_bounds : PySem.W.codeIn K cd_is_bounds "is_bounds" = true) (k_is_bounds : PySem.W.keepIn K (.ref f_is_bounds) = true) (a_is_known : PySem.W.nsIn K mainGlobals "is_known" = some (some (.ref f_is_known))) (l_is_known : K.lookup f_is_known = some ⟨oc_is_known, od_is_known, .func (PySem.W.fnOf "is_known" "is_known" (defArgs s_is_known) (defBody s_is_known) (defScope s_is_known) .none kV_is_known dc_is_known pm_is_known an_is_known cd_is_known ct_is_known), sl_is_known⟩) (q_is_known : PySem.W.codeIn K cd_is_known "is_known" = true) (k_is_known : PySem.W.keepIn K (.ref f_is_known) = true) (a_is_sort : PySem.W.nsIn K mainGlobals "is_sort" = some (some (.ref f_is_sort))) (l_is_sort : K.lookup f_is_sort = some ⟨oc_is_sort, od_is_sort, .func (PySem.W.fnOf "is_sort" "is_sort" (defArgs s_is_sort) (defBody s_is_sort) (defScope s_is_sort) (.ref D_is_sort) kV_is_sort dc_is_sort pm_is_sort an_is_sort cd_is_sort ct_is_sort), sl_is_sort⟩) (q_is_sort : PySem.W.codeIn K cd_is_sort "is_sort" = true) (k_is_sort : PySem.W.keepIn K (.ref f_is_sort) = true) (t_is_sort : K.lookup D_is_sort = some ⟨oc2_is_sort, od2_is_sort, .seq #[.int 0 tk_is_sort] n2_is_sort, sl2_is_sort⟩) (a_is_default : PySem.W.nsIn K mainGlobals "is_default" = some (some (.ref f_is_default))) (l_is_default : K.lookup f_is_default = some ⟨oc_is_default, od_is_default, .func (PySem.W.fnOf "is_default" "is_default" (defArgs s_is_default) (defBody s_is_default) (defScope s_is_default) .none kV_is_default dc_is_default pm_is_default an_is_default cd_is_default ct_is_default), sl_is_default⟩) (q_is_default : PySem.W.codeIn K cd_is_default "is_default" = true) (k_is_default : PySem.W.keepIn K (.ref f_is_default) = true) (a_refuse_if : PySem.W.nsIn K mainGlobals "refuse_if" = some (some (.ref f_refuse_if))) (l_refuse_if : K.lookup f_refuse_if = some ⟨oc_refuse_if, od_refuse_if, .func (PySem.W.fnOf "refuse_if" "refuse_if" (defArgs s_refuse_if) (defBody s_refuse_if) (defScope s_refuse_if) .none kV_refuse_if dc_refuse_if pm_refuse_if an_refuse_if cd_refuse_if ct_refuse_if), sl_refuse_if⟩) (q_refuse_if : PySem.W.codeIn K cd_refuse_if "refuse_if" = true) (k_refuse_if : PySem.W.keepIn K (.ref f_refuse_if) = true) (a_look_at_heading : PySem.W.nsIn K mainGlobals "look_at_heading" = some (some (.ref f_look_at_heading))) (l_look_at_heading : K.lookup f_look_at_heading = some ⟨oc_look_at_heading, od_look_at_heading, .func (PySem.W.fnOf "look_at_heading" "look_at_heading" (defArgs s_look_at_heading) (defBody s_look_at_heading) (defScope s_look_at_heading) .none kV_look_at_heading dc_look_at_heading pm_look_at_heading an_look_at_heading cd_look_at_heading ct_look_at_heading), sl_look_at_heading⟩) (q_look_at_heading : PySem.W.codeIn K cd_look_at_heading "look_at_heading" = true) (k_look_at_heading : PySem.W.keepIn K (.ref f_look_at_heading) = true) (a_look_at_part : PySem.W.nsIn K mainGlobals "look_at_part" = some (some (.ref f_look_at_part))) (l_look_at_part : K.lookup f_look_at_part = some ⟨oc_look_at_part, od_look_at_part, .func (PySem.W.fnOf "look_at_part" "look_at_part" (defArgs s_look_at_part) (defBody s_look_at_part) (defScope s_look_at_part) .none kV_look_at_part dc_look_at_part pm_look_at_part an_look_at_part cd_look_at_part ct_look_at_part), sl_look_at_part⟩) (q_look_at_part : PySem.W.codeIn K cd_look_at_part "look_at_part" = true) (k_look_at_part : PySem.W.keepIn K (.ref f_look_at_part) = true) (a_Schema_comes_back : PySem.W.findIn K (.ref C_Schema) "comes_back" = some (some (.ref f_Schema_comes_back))) (i_Schema_comes_back : PySem.W.isFn K (.ref f_Schema_comes_back) = true) (l_Schema_comes_back : K.lookup f_Schema_comes_back = some ⟨oc_Schema_comes_back, od_Schema_comes_back, .func (PySem.W.fnOf "comes_back" "Schema.comes_back" (defArgs s_Schema_comes_back) (defBody s_Schema_comes_back) (defScope s_Schema_comes_back) .none kV_Schema_comes_back dc_Schema_comes_back pm_Schema_comes_back an_Schema_comes_back cd_Schema_comes_back ct_Schema_comes_back), sl_Schema_comes_back⟩) (q_Schema_comes_back : PySem.W.codeIn K cd_Schema_comes_back "Schema.comes_back" = true) (k_Schema_comes_back : PySem.W.keepIn K (.ref f_Schema_comes_back) = true) (a_Schema___init__ : PySem.W.findIn K (.ref C_Schema) "__init__" = some (some (.ref f_Schema___init__))) (i_Schema___init__ : PySem.W.isFn K (.ref f_Schema___init__) = true) (l_Schema___init__ : K.lookup f_Schema___init__ = some ⟨oc_Schema___init__, od_Schema___init__, .func (PySem.W.fnOf "__init__" "Schema.__init__" (defArgs s_Schema___init__) (defBody s_Schema___init__) (defScope s_Schema___init__) .none (.ref D_Schema___init__) dc_Schema___init__ pm_Schema___init__ an_Schema___init__ cd_Schema___init__ ct_Schema___init__), sl_Schema___init__⟩) (q_Schema___init__ : PySem.W.codeIn K cd_Schema___init__ "Schema.__init__" = true) (k_Schema___init__ : PySem.W.keepIn K (.ref f_Schema___init__) = true) (d_Schema___init__ : PySem.W.nsIn K D_Schema___init__ "choices" = some (some .none)) (a_law_draw : PySem.W.nsIn K mainGlobals "_law_draw" = some (some (.ref f_law_draw))) (l_law_draw : K.lookup f_law_draw = some ⟨oc_law_draw, od_law_draw, .func (PySem.W.fnOf "_law_draw" "_law_draw" (defArgs s_law_draw) (defBody s_law_draw) (defScope s_law_draw) .none kV_law_draw dc_law_draw pm_law_draw an_law_draw cd_law_draw ct_law_draw), sl_law_draw⟩) (q_law_draw : PySem.W.codeIn K cd_law_draw "_law_draw" = true) (k_law_draw : PySem.W.keepIn K (.ref f_law_draw) = true) (a_law_sort : PySem.W.nsIn K mainGlobals "_law_sort" = some (some (.ref f_law_sort))) (l_law_sort : K.lookup f_law_sort = some ⟨oc_law_sort, od_law_sort, .func (PySem.W.fnOf "_law_sort" "_law_sort" (defArgs s_law_sort) (defBody s_law_sort) (defScope s_law_sort) .none kV_law_sort dc_law_sort pm_law_sort an_law_sort cd_law_sort ct_law_sort), sl_law_sort⟩) (q_law_sort : PySem.W.codeIn K cd_law_sort "_law_sort" = true) (k_law_sort : PySem.W.keepIn K (.ref f_law_sort) = true) (a_law_left : PySem.W.nsIn K mainGlobals "_law_left" = some (some (.ref f_law_left))) (l_law_left : K.lookup f_law_left = some ⟨oc_law_left, od_law_left, .func (PySem.W.fnOf "_law_left" "_law_left" (defArgs s_law_left) (defBody s_law_left) (defScope s_law_left) .none kV_law_left dc_law_left pm_law_left an_law_left cd_law_left ct_law_left), sl_law_left⟩) (q_law_left : PySem.W.codeIn K cd_law_left "_law_left" = true) (k_law_left : PySem.W.keepIn K (.ref f_law_left) = true) (a_law_schema : PySem.W.nsIn K mainGlobals "_law_schema" = some (some (.ref f_law_schema))) (l_law_schema : K.lookup f_law_schema = some ⟨oc_law_schema, od_law_schema, .func (PySem.W.fnOf "_law_schema" "_law_schema" (defArgs s_law_schema) (defBody s_law_schema) (defScope s_law_schema) .none kV_law_schema dc_law_schema pm_law_schema an_law_schema cd_law_schema ct_law_schema), sl_law_schema⟩) (q_law_schema : PySem.W.codeIn K cd_law_schema "_law_schema" = true) (k_law_schema : PySem.W.keepIn K (.ref f_law_schema) = true) (a_law_other : PySem.W.nsIn K mainGlobals "_law_other" = some (some (.ref f_law_other))) (l_law_other : K.lookup f_law_other = some ⟨oc_law_other, od_law_other, .func (PySem.W.fnOf "_law_other" "_law_other" (defArgs s_law_other) (defBody s_law_other) (defScope s_law_other) .none kV_law_other dc_law_other pm_law_other an_law_other cd_law_other ct_law_other), sl_law_other⟩) (q_law_other : PySem.W.codeIn K cd_law_other "_law_other" = true) (k_law_other : PySem.W.keepIn K (.ref f_law_other) = true) (a_law_spoilt : PySem.W.nsIn K mainGlobals "_law_spoilt" = some (some (.ref f_law_spoilt))) (l_law_spoilt : K.lookup f_law_spoilt = some ⟨oc_law_spoilt, od_law_spoilt, .func (PySem.W.fnOf "_law_spoilt" "_law_spoilt" (defArgs s_law_spoilt) (defBody s_law_spoilt) (defScope s_law_spoilt) .none kV_law_spoilt dc_law_spoilt pm_law_spoilt an_law_spoilt cd_law_spoilt ct_law_spoilt), sl_law_spoilt⟩) (q_law_spoilt : PySem.W.codeIn K cd_law_spoilt "_law_spoilt" = true) (k_law_spoilt : PySem.W.keepIn K (.ref f_law_spoilt) = true) (a_law_due : PySem.W.nsIn K mainGlobals "_law_due" = some (some (.ref f_law_due))) (l_law_due : K.lookup f_law_due = some ⟨oc_law_due, od_law_due, .func (PySem.W.fnOf "_law_due" "_law_due" (defArgs s_law_due) (defBody s_law_due) (defScope s_law_due) .none kV_law_due dc_law_due pm_law_due an_law_due cd_law_due ct_law_due), sl_law_due⟩) (q_law_due : PySem.W.codeIn K cd_law_due "_law_due" = true) (k_law_due : PySem.W.keepIn K (.ref f_law_due) = true) (a_law : PySem.W.nsIn K mainGlobals "law" = some (some (.ref f_law))) (l_law : K.lookup f_law = some ⟨oc_law, od_law, .func (PySem.W.fnOf "law" "law" (defArgs s_law) (defBody s_law) (defScope s_law) .none kV_law dc_law pm_law an_law cd_law ct_law), sl_law⟩) (q_law : PySem.W.codeIn K cd_law "law" = true) (k_law : PySem.W.keepIn K (.ref f_law) = true) : Txt K mg C :=
  ⟨PySem.W.mg_none_of X G z_abs, PySem.W.mg_none_of X G z_all, PySem.W.mg_none_of X G z_bool, PySem.W.mg_none_of X G z_enumerate, PySem.W.mg_none_of X G z_int, PySem.W.mg_none_of X G z_isinstance, PySem.W.mg_none_of X G z_len, PySem.W.mg_none_of X G z_list, PySem.W.mg_none_of X G z_max, PySem.W.mg_none_of X G z_min, PySem.W.mg_none_of X G z_range, PySem.W.mg_none_of X G z_sorted, PySem.W.mg_none_of X G z_str, PySem.W.mg_none_of X G z_tuple, PySem.W.mg_none_of X G z_zip, ⟨_, PySem.W.mg_of X G y_GREATEST⟩, ⟨_, PySem.W.mg_of X G y_LETTERS⟩, ⟨_, PySem.W.mg_of X G y_MOST_SIGNS⟩, ⟨_, PySem.W.mg_of X G y_MOST_NUMBER⟩, ⟨_, PySem.W.mg_of X G y_MOST_TEXT⟩, ⟨_, PySem.W.mg_of X G y_MOST_ROW⟩, ⟨_, PySem.W.mg_of X G y_MOST_DEEP⟩, (by rw [cAt_of at_INSIDE]; exact PySem.W.mg_of X G at_INSIDE), ⟨(by rw [cAt_of at_Walk]; exact ⟨⟨pg_Walk, hd_Walk, po_Walk, sa_Walk⟩, no_old_Walk, no_new_Walk, no_pairs_Walk, no_chains_Walk, ⟨⟨pg_Walk, hd_Walk, po_Walk, sa_Walk⟩, ⟨mr_Walk, eq_Walk⟩, ha_Walk, hn_Walk, ht_Walk⟩, kb_Walk⟩), (by rw [cAt_of at_Making]; exact ⟨⟨pg_Making, hd_Making, po_Making, sa_Making⟩, no_old_Making, no_new_Making, no_pairs_Making, ⟨⟨pg_Making, hd_Making, po_Making, sa_Making⟩, ⟨mr_Making, eq_Making⟩, ha_Making, hn_Making, ht_Making⟩, kb_Making⟩), (by rw [cAt_of at_Schema]; exact ⟨⟨pg_Schema, hd_Schema, po_Schema, sa_Schema⟩, no_kinds_Schema, no_choices_Schema, no_root_Schema, ⟨⟨pg_Schema, hd_Schema, po_Schema, sa_Schema⟩, ⟨mr_Schema, eq_Schema⟩, ha_Schema, hn_Schema, ht_Schema⟩, kb_Schema⟩), (by rw [cAt_of at_INSIDE]; exact ⟨_, _, _, lk_INSIDE, rfl, rfl, sz_of' (show 1 ≤ 16777216 by decide), .cons ⟨_, rfl⟩ (.nil)⟩)⟩, (by rw [cAt_of at_Walk]; exact PySem.W.mg_of X G at_Walk), (by rw [cAt_of at_Walk]; exact mk_Walk), (by rw [cAt_of at_Walk]; exact kc_Walk), (by rw [cAt_of at_Making]; exact PySem.W.mg_of X G at_Making), (by rw [cAt_of at_Making]; exact mk_Making), (by rw [cAt_of at_Making]; exact kc_Making), (by rw [cAt_of at_Schema]; exact PySem.W.mg_of X G at_Schema), (by rw [cAt_of at_Schema]; exact mk_Schema), (by rw [cAt_of at_Schema]; exact kc_Schema), ⟨_, _, PySem.W.mg_of X G a_is_whole, fun_mk l_is_whole q_is_whole k_is_whole⟩, ⟨_, _, PySem.W.mg_of X G a_is_within, fun_mk l_is_within q_is_within k_is_within⟩, ⟨_, _, PySem.W.mg_of X G a_is_row, fun_mk l_is_row q_is_row k_is_row⟩, ⟨_, _, PySem.W.mg_of X G a_fields_of, fun_mk l_fields_of q_fields_of k_fields_of⟩, ⟨_, _, PySem.W.mg_of X G a_cases_of, fun_mk l_cases_of q_cases_of k_cases_of⟩, ⟨_, _, PySem.W.mg_of X G a_left_of, fun_mk l_left_of q_left_of k_left_of⟩, ⟨_, _, PySem.W.mg_of X G a_truths_alike, fun_mk l_truths_alike q_truths_alike k_truths_alike⟩, ⟨_, _, PySem.W.mg_of X G a_by_number, fun_mk l_by_number q_by_number k_by_number⟩, ⟨_, _, PySem.W.mg_of X G a_lacking_names, fun_mk l_lacking_names q_lacking_names k_lacking_names⟩, ⟨_, _, PySem.W.mg_of X G a_both_of, fun_mk l_both_of q_both_of k_both_of⟩, ⟨_, _, PySem.W.mg_of X G a_gone_into, fun_mk l_gone_into q_gone_into k_gone_into⟩, (by rw [cAt_of at_Walk]; exact ⟨_, _, ⟨a_Walk_meet, i_Walk_meet, k_Walk_meet⟩, fun_mk l_Walk_meet q_Walk_meet k_Walk_meet⟩), (by rw [cAt_of at_Walk]; exact ⟨_, _, ⟨a_Walk___init__, i_Walk___init__, k_Walk___init__⟩, ⟨⟨_, _, _, _, _, _, _, _, _, _, rfl, l_Walk___init__, q_Walk___init__, Or.inl ⟨rfl, rfl⟩, Or.inl rfl⟩, k_Walk___init__⟩⟩), ⟨_, _, PySem.W.mg_of X G a_all_pairs, fun_mk l_all_pairs q_all_pairs k_all_pairs⟩, (by rw [cAt_of at_Making]; exact ⟨_, _, ⟨a_Making___init__, i_Making___init__, k_Making___init__⟩, ⟨⟨_, _, _, _, _, _, _, _, _, _, rfl, l_Making___init__, q_Making___init__, Or.inl ⟨rfl, rfl⟩, Or.inl rfl⟩, k_Making___init__⟩⟩), (by rw [cAt_of at_Making]; exact ⟨_, _, ⟨a_Making_number_of, i_Making_number_of, k_Making_number_of⟩, fun_mk l_Making_number_of q_Making_number_of k_Making_number_of⟩), (by rw [cAt_of at_Making]; exact ⟨_, _, ⟨a_Making_choice, i_Making_choice, k_Making_choice⟩, fun_mk l_Making_choice q_Making_choice k_Making_choice⟩), (by rw [cAt_of at_Making]; exact ⟨_, _, ⟨a_Making_node, i_Making_node, k_Making_node⟩, fun_mk l_Making_node q_Making_node k_Making_node⟩), (by rw [cAt_of at_Making]; exact ⟨_, _, ⟨a_Making_step, i_Making_step, k_Making_step⟩, fun_mk l_Making_step q_Making_step k_Making_step⟩), ⟨_, _, PySem.W.mg_of X G a_made, fun_mk l_made q_made k_made⟩, ⟨_, _, PySem.W.mg_of X G a_judge_reader, fun_mk l_judge_reader q_judge_reader k_judge_reader⟩, ⟨_, _, PySem.W.mg_of X G a_is_name, fun_mk l_is_name q_is_name k_is_name⟩, ⟨_, _, PySem.W.mg_of X G a_is_bounds, fun_mk l_is_bounds q_is_bounds k_is_bounds⟩, ⟨_, _, PySem.W.mg_of X G a_is_known, fun_mk l_is_known q_is_known k_is_known⟩, ⟨_, _, PySem.W.mg_of X G a_is_sort, ⟨⟨_, _, _, _, _, _, _, _, _, _, rfl, l_is_sort, q_is_sort, Or.inr ⟨by simp, _, _, [.int 0 tk_is_sort], _, rfl, t_is_sort, rfl, .cons ⟨_, rfl⟩ .nil⟩, Or.inl rfl⟩, k_is_sort⟩⟩, ⟨_, _, PySem.W.mg_of X G a_is_default, fun_mk l_is_default q_is_default k_is_default⟩, ⟨_, _, PySem.W.mg_of X G a_refuse_if, fun_mk l_refuse_if q_refuse_if k_refuse_if⟩, ⟨_, _, PySem.W.mg_of X G a_look_at_heading, fun_mk l_look_at_heading q_look_at_heading k_look_at_heading⟩, ⟨_, _, PySem.W.mg_of X G a_look_at_part, fun_mk l_look_at_part q_look_at_part k_look_at_part⟩, (by rw [cAt_of at_Schema]; exact ⟨_, _, ⟨a_Schema_comes_back, i_Schema_comes_back, k_Schema_comes_back⟩, fun_mk l_Schema_comes_back q_Schema_comes_back k_Schema_comes_back⟩), (by rw [cAt_of at_Schema]; exact ⟨_, _, ⟨a_Schema___init__, i_Schema___init__, k_Schema___init__⟩, ⟨⟨_, _, _, _, _, _, _, _, _, _, rfl, l_Schema___init__, q_Schema___init__, Or.inl ⟨rfl, rfl⟩, Or.inr ⟨_, rfl, fun q hq => by rw [List.mem_singleton.mp hq]; exact ⟨_, d_Schema___init__, rfl⟩⟩⟩, k_Schema___init__⟩⟩), ⟨_, _, PySem.W.mg_of X G a_law_draw, fun_mk l_law_draw q_law_draw k_law_draw⟩, ⟨_, _, PySem.W.mg_of X G a_law_sort, fun_mk l_law_sort q_law_sort k_law_sort⟩, ⟨_, _, PySem.W.mg_of X G a_law_left, fun_mk l_law_left q_law_left k_law_left⟩, ⟨_, _, PySem.W.mg_of X G a_law_schema, fun_mk l_law_schema q_law_schema k_law_schema⟩, ⟨_, _, PySem.W.mg_of X G a_law_other, fun_mk l_law_other q_law_other k_law_other⟩, ⟨_, _, PySem.W.mg_of X G a_law_spoilt, fun_mk l_law_spoilt q_law_spoilt k_law_spoilt⟩, ⟨_, _, PySem.W.mg_of X G a_law_due, fun_mk l_law_due q_law_due k_law_due⟩, ⟨_, _, PySem.W.mg_of X G a_law, fun_mk l_law q_law k_law⟩⟩
theorem lam_Schema_take_kind {K : PySem.W.Frag} {h : Heap} {mg : Str → Option Value} (X : K.In h) (G : h.Ns mainGlobals mg) {f c C1 : Addr} {od an : Option Addr} {sl : Array (Option Value)} {oc kV dc pm ct : Value} (at_ : PySem.W.nsIn K mainGlobals "Schema" = some (some (.ref C1))) (a : PySem.W.findIn K (.ref C1) "take_kind" = some (some (.ref f))) (i : PySem.W.isFn K (.ref f) = true) (l : K.lookup f = some ⟨oc, od, .func (PySem.W.fnOf "take_kind" "Schema.take_kind" (defArgs s_Schema_take_kind) (defBody s_Schema_take_kind) (defScope s_Schema_take_kind) .none kV dc pm an (.ref c) ct), sl⟩) (q : PySem.W.codeIn K (.ref c) "Schema.take_kind" = true) (k : PySem.W.keepIn K (.ref f) = true) : DefMC K (cAt K "Schema") s_Schema_take_kind "take_kind" "Schema.take_kind" c := by
  rw [cAt_of at_]
  exact ⟨_, _, ⟨a, i, k⟩, fun_mk l q k, rfl⟩
theorem lam_Schema_take_choice {K : PySem.W.Frag} {h : Heap} {mg : Str → Option Value} (X : K.In h) (G : h.Ns mainGlobals mg) {f c C1 : Addr} {od an : Option Addr} {sl : Array (Option Value)} {oc kV dc pm ct : Value} (at_ : PySem.W.nsIn K mainGlobals "Schema" = some (some (.ref C1))) (a : PySem.W.findIn K (.ref C1) "take_choice" = some (some (.ref f))) (i : PySem.W.isFn K (.ref f) = true) (l : K.lookup f = some ⟨oc, od, .func (PySem.W.fnOf "take_choice" "Schema.take_choice" (defArgs s_Schema_take_choice) (defBody s_Schema_take_choice) (defScope s_Schema_take_choice) .none kV dc pm an (.ref c) ct), sl⟩) (q : PySem.W.codeIn K (.ref c) "Schema.take_choice" = true) (k : PySem.W.keepIn K (.ref f) = true) : DefMC K (cAt K "Schema") s_Schema_take_choice "take_choice" "Schema.take_choice" c := by
  rw [cAt_of at_]
  exact ⟨_, _, ⟨a, i, k⟩, fun_mk l q k, rfl⟩
theorem law_at {l : PySem.W.OpenLaw} {w : World} {K : PySem.W.Frag} {mg : Str → Option Value} {h : Heap} {fa C ca cb Pa Pb : Addr} (KX : K.In h) (T : Txt K mg C) (Da : DefMC K (cAt K "Schema") s_Schema_take_kind "take_kind" "Schema.take_kind" ca) (Db : DefMC K (cAt K "Schema") s_Schema_take_choice "take_choice" "Schema.take_choice" cb) (hmg : mg "law" = some (.ref fa)) (hTa : h.get? Pa = some { cls := .none, data := .fields #[] }) (hTb : h.get? Pb = some { cls := .none, data := .fields #[] }) (nTa : K.lookup Pa = none) (nTb : K.lookup Pb = none) (hCa : PySem.W.codeHdIn K ca Pa = true) (hCb : PySem.W.codeHdIn K cb Pb = true) (neab : Pa ≠ Pb) :
    LamX.LawAtS l w K CX0 172 63 "_law_script" mg fa h := by
  obtain ⟨f, fd, hm, F⟩ := T.d_law
  cases hmg.symm.trans hm
  have hA := Fun.at_ F
  have hb : ∀ us : List Value, us.length = 1 → bindArgs fd ⟨us, []⟩ = pure ((["_law_script"] : List Str).zip us) := by
    obtain ⟨oc, od, kV, doc, pm, an, cdv, ct, osl, rfl, lk, hcd⟩ := F.ex
    intro us hl
    match us, hl with
    | [_], _ => rfl
  refine ⟨fd, [(ca, Pa), (cb, Pb)], sp_law K ⟨Pa, Pb⟩, fun p hp => by simp only [List.mem_cons, List.not_mem_nil, or_false] at hp; rcases hp with rfl | rfl <;> first | exact hTa | exact hTb, fun p hp => by simp only [List.mem_cons, List.not_mem_nil, or_false] at hp; rcases hp with rfl | rfl <;> first | exact nTa | exact nTb, fun p hp => by simp only [List.mem_cons, List.not_mem_nil, or_false] at hp; rcases hp with rfl | rfl <;> first | exact PySem.W.codeHd_of_K KX hCa | exact PySem.W.codeHd_of_K KX hCb, fun s v => .of_eq (hb [v] rfl), fun H a ns hl hb8 hH hS => law_end K ⟨Pa, Pb⟩ H a ns hl (hH (ca, Pa) List.mem_cons_self) (hH (cb, Pb) (List.mem_cons_of_mem _ (List.mem_cons_self))) neab hS, fun base _ _ hTB => ?_⟩
  obtain ⟨f', fd', hm', G, _, _, hA'⟩ := (ok_law T (Pt := ⟨Pa, Pb⟩) ⟨⟨ca, Da, hTB (ca, Pa) List.mem_cons_self⟩, ⟨cb, Db, hTB (cb, Pb) (List.mem_cons_of_mem _ (List.mem_cons_self))⟩⟩).ex
  cases hm'.symm.trans hm
  cases hA'.eq hA
  exact G
end K02
open PySem PySem.W PyProof.Rows
set_option maxHeartbeats 0 in
theorem PySem.Challenge.cw_thingwires_k34_whole_readers_judged_holds : PySem.Challenge.rw_thingwires_k34_whole_readers_judged.Holds := by
  w_on; o_law; k_head; (case hw => w_witness2)
  k_fill
  refine LamX.walk_ofTs (l := PySem.Challenge.rw_thingwires_k34_whole_readers_judged) (n := 63) (k := 172) (x := "_law_script") (CX := fun _ => L2.CX0) rfl (by decide) rfl ⟨rfl, by decide, by decide⟩ (fun w h Y => PySem.W.km_in_of Y) ?F (fun _ _ _ _ _ h => h)
  case F =>
    intro w mg fa h Y KX G hmg
    refine' K02.law_at (C := fa) KX (K02.txt_mk KX G ?z_abs ?z_all ?z_bool ?z_enumerate ?z_int ?z_isinstance ?z_len ?z_list ?z_max ?z_min ?z_range ?z_sorted ?z_str ?z_tuple ?z_zip ?y_GREATEST ?y_LETTERS ?y_MOST_SIGNS ?y_MOST_NUMBER ?y_MOST_TEXT ?y_MOST_ROW ?y_MOST_DEEP ?at_INSIDE ?at_Walk ?pg_Walk ?hd_Walk ?po_Walk ?sa_Walk ?no_old_Walk ?no_new_Walk ?no_pairs_Walk ?no_chains_Walk ?mk_Walk ?kc_Walk ?mr_Walk ?eq_Walk ?ha_Walk ?hn_Walk ?ht_Walk ?kit_Walk_bool ?at_Making ?pg_Making ?hd_Making ?po_Making ?sa_Making ?no_old_Making ?no_new_Making ?no_pairs_Making ?mk_Making ?kc_Making ?mr_Making ?eq_Making ?ha_Making ?hn_Making ?ht_Making ?kit_Making_bool ?at_Schema ?pg_Schema ?hd_Schema ?po_Schema ?sa_Schema ?no_kinds_Schema ?no_choices_Schema ?no_root_Schema ?mk_Schema ?kc_Schema ?mr_Schema ?eq_Schema ?ha_Schema ?hn_Schema ?ht_Schema ?kit_Schema_bool ?lk_INSIDE ?a_is_whole ?l_is_whole ?q_is_whole ?k_is_whole ?a_is_within ?l_is_within ?q_is_within ?k_is_within ?a_is_row ?l_is_row ?q_is_row ?k_is_row ?a_fields_of ?l_fields_of ?q_fields_of ?k_fields_of ?a_cases_of ?l_cases_of ?q_cases_of ?k_cases_of ?a_left_of ?l_left_of ?q_left_of ?k_left_of ?a_truths_alike ?l_truths_alike ?q_truths_alike ?k_truths_alike ?a_by_number ?l_by_number ?q_by_number ?k_by_number ?a_lacking_names ?l_lacking_names ?q_lacking_names ?k_lacking_names ?a_both_of ?l_both_of ?q_both_of ?k_both_of ?a_gone_into ?l_gone_into ?q_gone_into ?k_gone_into ?a_Walk_meet ?i_Walk_meet ?l_Walk_meet ?q_Walk_meet ?k_Walk_meet ?a_Walk___init__ ?i_Walk___init__ ?l_Walk___init__ ?q_Walk___init__ ?k_Walk___init__ ?a_all_pairs ?l_all_pairs ?q_all_pairs ?k_all_pairs ?a_Making___init__ ?i_Making___init__ ?l_Making___init__ ?q_Making___init__ ?k_Making___init__ ?a_Making_number_of ?i_Making_number_of ?l_Making_number_of ?q_Making_number_of ?k_Making_number_of ?a_Making_choice ?i_Making_choice ?l_Making_choice ?q_Making_choice ?k_Making_choice ?a_Making_node ?i_Making_node ?l_Making_node ?q_Making_node ?k_Making_node ?a_Making_step ?i_Making_step ?l_Making_step ?q_Making_step ?k_Making_step ?a_made ?l_made ?q_made ?k_made ?a_judge_reader ?l_judge_reader ?q_judge_reader ?k_judge_reader ?a_is_name ?l_is_name ?q_is_name ?k_is_name ?a_is_bounds ?l_is_bounds ?q_is_bounds ?k_is_bounds ?a_is_known ?l_is_known ?q_is_known ?k_is_known ?a_is_sort ?l_is_sort ?q_is_sort ?k_is_sort ?t_is_sort ?a_is_default ?l_is_default ?q_is_default ?k_is_default ?a_refuse_if ?l_refuse_if ?q_refuse_if ?k_refuse_if ?a_look_at_heading ?l_look_at_heading ?q_look_at_heading ?k_look_at_heading ?a_look_at_part ?l_look_at_part ?q_look_at_part ?k_look_at_part ?a_Schema_comes_back ?i_Schema_comes_back ?l_Schema_comes_back ?q_Schema_comes_back ?k_Schema_comes_back ?a_Schema___init__ ?i_Schema___init__ ?l_Schema___init__ ?q_Schema___init__ ?k_Schema___init__ ?d_Schema___init__ ?a_law_draw ?l_law_draw ?q_law_draw ?k_law_draw ?a_law_sort ?l_law_sort ?q_law_sort ?k_law_sort ?a_law_left ?l_law_left ?q_law_left ?k_law_left ?a_law_schema ?l_law_schema ?q_law_schema ?k_law_schema ?a_law_other ?l_law_other ?q_law_other ?k_law_other ?a_law_spoilt ?l_law_spoilt ?q_law_spoilt ?k_law_spoilt ?a_law_due ?l_law_due ?q_law_due ?k_law_due ?a_law ?l_law ?q_law ?k_law) (K02.lam_Schema_take_kind KX G ?zata ?zaa ?zia ?zla ?zqa ?zka) (K02.lam_Schema_take_choice KX G ?zatb ?zab ?zib ?zlb ?zqb ?zkb) hmg (PySem.W.km_tabs_of Y _ (List.mem_cons_of_mem _ (List.mem_cons_self))) (PySem.W.km_tabs_of Y _ List.mem_cons_self) ?zna ?znb ?zca ?zcb ?zeab
    (case z_abs => k_is); (case z_all => k_is); (case z_bool => k_is); (case z_enumerate => k_is); (case z_int => k_is); (case z_isinstance => k_is); (case z_len => k_is); (case z_list => k_is); (case z_max => k_is); (case z_min => k_is); (case z_range => k_is); (case z_sorted => k_is); (case z_str => k_is); (case z_tuple => k_is); (case z_zip => k_is); (case y_GREATEST => k_is); (case y_LETTERS => k_is); (case y_MOST_SIGNS => k_is); (case y_MOST_NUMBER => k_is); (case y_MOST_TEXT => k_is); (case y_MOST_ROW => k_is); (case y_MOST_DEEP => k_is); (case at_INSIDE => k_is); (case at_Walk => k_is); (case pg_Walk => k_is); (case hd_Walk => k_is); (case po_Walk => k_is); (case sa_Walk => k_is); (case no_old_Walk => k_is); (case no_new_Walk => k_is); (case no_pairs_Walk => k_is); (case no_chains_Walk => k_is); (case mk_Walk => k_is); (case kc_Walk => k_is); (case mr_Walk => k_is); (case eq_Walk => k_is); (case ha_Walk => k_is); (case hn_Walk => k_is); (case ht_Walk => k_is); (case kit_Walk_bool => kit_is); (case at_Making => k_is); (case pg_Making => k_is); (case hd_Making => k_is); (case po_Making => k_is); (case sa_Making => k_is); (case no_old_Making => k_is); (case no_new_Making => k_is); (case no_pairs_Making => k_is); (case mk_Making => k_is); (case kc_Making => k_is); (case mr_Making => k_is); (case eq_Making => k_is); (case ha_Making => k_is); (case hn_Making => k_is); (case ht_Making => k_is); (case kit_Making_bool => kit_is); (case at_Schema => k_is); (case pg_Schema => k_is); (case hd_Schema => k_is); (case po_Schema => k_is); (case sa_Schema => k_is); (case no_kinds_Schema => k_is); (case no_choices_Schema => k_is); (case no_root_Schema => k_is); (case mk_Schema => k_is); (case kc_Schema => k_is); (case mr_Schema => k_is); (case eq_Schema => k_is); (case ha_Schema => k_is); (case hn_Schema => k_is); (case ht_Schema => k_is); (case kit_Schema_bool => kit_is); (case lk_INSIDE => k_is); (case a_is_whole => k_is); (case l_is_whole => k_is); (case q_is_whole => k_is); (case k_is_whole => k_is); (case a_is_within => k_is); (case l_is_within => k_is); (case q_is_within => k_is); (case k_is_within => k_is); (case a_is_row => k_is); (case l_is_row => k_is); (case q_is_row => k_is); (case k_is_row => k_is); (case a_fields_of => k_is); (case l_fields_of => k_is); (case q_fields_of => k_is); (case k_fields_of => k_is); (case a_cases_of => k_is); (case l_cases_of => k_is); (case q_cases_of => k_is); (case k_cases_of => k_is); (case a_left_of => k_is); (case l_left_of => k_is); (case q_left_of => k_is); (case k_left_of => k_is); (case a_truths_alike => k_is); (case l_truths_alike => k_is); (case q_truths_alike => k_is); (case k_truths_alike => k_is); (case a_by_number => k_is); (case l_by_number => k_is); (case q_by_number => k_is); (case k_by_number => k_is); (case a_lacking_names => k_is); (case l_lacking_names => k_is); (case q_lacking_names => k_is); (case k_lacking_names => k_is); (case a_both_of => k_is); (case l_both_of => k_is); (case q_both_of => k_is); (case k_both_of => k_is); (case a_gone_into => k_is); (case l_gone_into => k_is); (case q_gone_into => k_is); (case k_gone_into => k_is); (case a_Walk_meet => k_is); (case i_Walk_meet => k_is); (case l_Walk_meet => k_is); (case q_Walk_meet => k_is); (case k_Walk_meet => k_is); (case a_Walk___init__ => k_is); (case i_Walk___init__ => k_is); (case l_Walk___init__ => k_is); (case q_Walk___init__ => k_is); (case k_Walk___init__ => k_is); (case a_all_pairs => k_is); (case l_all_pairs => k_is); (case q_all_pairs => k_is); (case k_all_pairs => k_is); (case a_Making___init__ => k_is); (case i_Making___init__ => k_is); (case l_Making___init__ => k_is); (case q_Making___init__ => k_is); (case k_Making___init__ => k_is); (case a_Making_number_of => k_is); (case i_Making_number_of => k_is); (case l_Making_number_of => k_is); (case q_Making_number_of => k_is); (case k_Making_number_of => k_is); (case a_Making_choice => k_is); (case i_Making_choice => k_is); (case l_Making_choice => k_is); (case q_Making_choice => k_is); (case k_Making_choice => k_is); (case a_Making_node => k_is); (case i_Making_node => k_is); (case l_Making_node => k_is); (case q_Making_node => k_is); (case k_Making_node => k_is); (case a_Making_step => k_is); (case i_Making_step => k_is); (case l_Making_step => k_is); (case q_Making_step => k_is); (case k_Making_step => k_is); (case a_made => k_is); (case l_made => k_is); (case q_made => k_is); (case k_made => k_is); (case a_judge_reader => k_is); (case l_judge_reader => k_is); (case q_judge_reader => k_is); (case k_judge_reader => k_is); (case a_is_name => k_is); (case l_is_name => k_is); (case q_is_name => k_is); (case k_is_name => k_is); (case a_is_bounds => k_is); (case l_is_bounds => k_is); (case q_is_bounds => k_is); (case k_is_bounds => k_is); (case a_is_known => k_is); (case l_is_known => k_is); (case q_is_known => k_is); (case k_is_known => k_is); (case a_is_sort => k_is); (case l_is_sort => k_is); (case q_is_sort => k_is); (case k_is_sort => k_is); (case t_is_sort => k_is); (case a_is_default => k_is); (case l_is_default => k_is); (case q_is_default => k_is); (case k_is_default => k_is); (case a_refuse_if => k_is); (case l_refuse_if => k_is); (case q_refuse_if => k_is); (case k_refuse_if => k_is); (case a_look_at_heading => k_is); (case l_look_at_heading => k_is); (case q_look_at_heading => k_is); (case k_look_at_heading => k_is); (case a_look_at_part => k_is); (case l_look_at_part => k_is); (case q_look_at_part => k_is); (case k_look_at_part => k_is); (case a_Schema_comes_back => k_is); (case i_Schema_comes_back => k_is); (case l_Schema_comes_back => k_is); (case q_Schema_comes_back => k_is); (case k_Schema_comes_back => k_is); (case a_Schema___init__ => k_is); (case i_Schema___init__ => k_is); (case l_Schema___init__ => k_is); (case q_Schema___init__ => k_is); (case k_Schema___init__ => k_is); (case d_Schema___init__ => k_is); (case a_law_draw => k_is); (case l_law_draw => k_is); (case q_law_draw => k_is); (case k_law_draw => k_is); (case a_law_sort => k_is); (case l_law_sort => k_is); (case q_law_sort => k_is); (case k_law_sort => k_is); (case a_law_left => k_is); (case l_law_left => k_is); (case q_law_left => k_is); (case k_law_left => k_is); (case a_law_schema => k_is); (case l_law_schema => k_is); (case q_law_schema => k_is); (case k_law_schema => k_is); (case a_law_other => k_is); (case l_law_other => k_is); (case q_law_other => k_is); (case k_law_other => k_is); (case a_law_spoilt => k_is); (case l_law_spoilt => k_is); (case q_law_spoilt => k_is); (case k_law_spoilt => k_is); (case a_law_due => k_is); (case l_law_due => k_is); (case q_law_due => k_is); (case k_law_due => k_is); (case a_law => k_is); (case l_law => k_is); (case q_law => k_is); (case k_law => k_is); (case zata => k_is); (case zaa => k_is); (case zia => k_is); (case zla => k_is); (case zqa => k_is); (case zka => k_is); (case zna => rfl); (case zca => kernel_rfl); (case zatb => k_is); (case zab => k_is); (case zib => k_is); (case zlb => k_is); (case zqb => k_is); (case zkb => k_is); (case znb => rfl); (case zcb => kernel_rfl); (case zeab => decide)
