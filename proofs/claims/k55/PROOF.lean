import PyProof.Rows.All
import Wide.All
import OpenK.AllK
import Wide.FinOn
import PyProof.EqAt
import PyProof.EqKinds
import PyProof.P3Eq
import PyProof.TupleCall
import HandS.ForMost
import HandS.Style
import HandS.TupMul
import HandS.Conv
import HandS.EndBits
import HandS.IsInst
import HandS.Walk
import HandS.Wide
import HandS.Flow
import HandS.CallLocal
import HandS.Nested
import HandS.Lambda
import HandS.EndTab
import KE.GoesEnumKw
import KE.GoesNew
import KE.KExcIs
import HandS.ExcInit
import HandS.ExcField
import HandS.ExcOwn
import HandS.ExcIs
import HandS.WordsExc
import PyProof.SeqIndex
import KE.KNestM
import PySem.Challenge.RW_thingwires_k55_what_is_no_bytes
set_option Elab.async false
set_option linter.all false
set_option maxRecDepth 100000
set_option maxHeartbeats 4000000
/-! Kb: joined rules (one rule a construct, whatever the kind of value), what a def of the text promises (Cal), heaps that keep all but some places -/
namespace Kb
open PySem PySem.Spec PyProof.Rows L2

/-! ### joined operators: each reading is opened by its own lemmas alone -/
/-- list + list, of any lists that are read -/
def rCatS (K : PySem.W.Frag) : R2 := fun x y H Q => ∃ l b xs zs, x = .ref l ∧ y = .ref b ∧ SqL K H l xs ∧ SqL K H b zs ∧ xs.length + zs.length ≤ sizeLine ∧ ∀ p, H p = none → Q (.ref p) (upd H p (.lst (xs ++ zs)))
theorem op_catS {X : Cx} : OpR X (binaryOp .Add) (rCatS X.K) := by
  intro pins s σ H x y v u Q I rx ry h
  obtain ⟨l, b, xs, zs, rfl, rfl, hH, hB, hz, q⟩ := h
  cases rx
  cases ry
  obtain ⟨its, r, ⟨⟨cls, dd, data, sl⟩, n, ho, hc, hd, hs⟩, hl⟩ := I.list hH
  obtain ⟨its2, r2, ⟨⟨cls2, dd2, data2, sl2⟩, n2, ho2, hc2, hd2, hs2⟩, hl2⟩ := I.list hB
  simp only at hc hs hc2 hs2
  subst hc hs hc2 hs2
  have e1 := r.length
  have e2 := r2.length
  have ea : its.toArray ++ its2.toArray = (its ++ its2).toArray := by simp
  refine concat_meets ⟨_, ho, rfl⟩ ⟨_, ho2, rfl⟩ noFill_list_add seq_list_add PySem.F.slot_list_add PySem.F.entry_list_add (PySem.F.args_list_add_2 _ _) (list_addW l b its.toArray its2.toArray n n2 dd dd2 sl sl2 (by simp only [List.size_toArray]; omega)) ⟨ho, ho2, ?_⟩
  rw [ea]
  exact ⟨.ref _, _, I.lnew (t' := s.toks) (r.append r2) (by rw [List.length_append]; omega), rfl, q _ I.fresh⟩
@[irreducible] def rAddU (K : PySem.W.Frag) : R2 := fun x y H Q => rI0 (fun i j => .int (i + j)) x y H Q ∨ (∃ i j, x = .str i ∧ y = .str j ∧ i.length + j.length ≤ sizeLine ∧ Q (.str (i ++ j)) H) ∨ rCatS K x y H Q ∨ rCatT K x y H Q
@[irreducible] def rSubU : R2 := rI0 fun i j => .int (i - j)
@[irreducible] def rMulU (K : PySem.W.Frag) : R2 := fun x y H Q => rI CMul (fun i j => .int (i * j)) x y H Q ∨ rRep x y H Q ∨ rRepT K x y H Q
@[irreducible] def rDivU : R2 := rI CDiv fun i j => .int (i / j)
@[irreducible] def rDivW : R2 := rI CDivW fun i j => .int (i / j)
@[irreducible] def rModU : R2 := rI (fun _ j => 0 < j) fun i j => .int (i % j)
@[irreducible] def rPowU : R2 := rI CPow fun i j => .int (i ^ j.toNat)
@[irreducible] def rEqU (K : PySem.W.Frag) : R2 := fun x y H Q => rEq x y H Q ∨ rEqD K x y H Q
@[irreducible] def rNeU (K : PySem.W.Frag) : R2 := fun x y H Q => rNe x y H Q ∨ rNeD K x y H Q
@[irreducible] def rLtU : R2 := fun x y H Q => rI0 (fun i j => .bl (decide (i < j))) x y H Q ∨ ∃ i j, x = .str i ∧ y = .str j ∧ Q (.bl (decide (i.cps.toList < j.cps.toList))) H
@[irreducible] def rLeU : R2 := rI0 fun i j => .bl (decide (i ≤ j))
@[irreducible] def rGtU : R2 := fun x y H Q => rI0 (fun i j => .bl (decide (j < i))) x y H Q ∨ ∃ i j, x = .str i ∧ y = .str j ∧ Q (.bl (decide (j.cps.toList < i.cps.toList))) H
@[irreducible] def rGeU : R2 := rI0 fun i j => .bl (decide (j ≤ i))
@[irreducible] def rIsNU : R2 := fun x y H Q => y = .non ∧ Q (.bl (decide (x = .non))) H
@[irreducible] def rNotNU : R2 := fun x y H Q => y = .non ∧ Q (.bl (!decide (x = .non))) H
@[irreducible] def rInU (K : PySem.W.Frag) : R2 := fun x y H Q => (∃ (c : Nat) (z : Str), x = .str ⟨#[c]⟩ ∧ y = .str z ∧ Q (.bl (decide (c ∈ z.cps.toList))) H) ∨ rIn K false x y H Q
@[irreducible] def rNotInU (K : PySem.W.Frag) : R2 := fun x y H Q => (∃ (c : Nat) (z : Str), x = .str ⟨#[c]⟩ ∧ y = .str z ∧ Q (.bl (!decide (c ∈ z.cps.toList))) H) ∨ rIn K true x y H Q
@[irreducible] def rIxU (K : PySem.W.Frag) : R2 := rIx K
@[irreducible] def rSetU : V → V → V → Hp → (Hp → Prop) → Prop := rSetL
@[irreducible] def rIAddU : R2 := fun x y H Q => rI0 (fun i j => .int (i + j)) x y H Q ∨ (∃ i j, x = .str i ∧ y = .str j ∧ i.length + j.length ≤ sizeLine ∧ Q (.str (i ++ j)) H) ∨ rExt2 x y H Q
@[irreducible] def rISubU : R2 := rI0 fun i j => .int (i - j)
@[irreducible] def rIModU : R2 := rI (fun _ j => 0 < j) fun i j => .int (i % j)
@[irreducible] def rNegU : V → Hp → VK → Prop := rU fun i => .int (-i)
section
variable {X : Cx}
theorem u_add : OpR X (binaryOp .Add) (rAddU X.K) := by unfold rAddU; exact op_add.or (op_add_str.or (op_catS.or op_catT))
theorem u_sub : OpR X (binaryOp .Sub) rSubU := by unfold rSubU; exact op_sub
theorem u_mul : OpR X (binaryOp .Mult) (rMulU X.K) := by unfold rMulU; exact op_mul.or (op_rep.or op_repT)
theorem u_div : OpR X (binaryOp .FloorDiv) rDivU := by unfold rDivU; exact op_fdiv
theorem u_mod : OpR X (binaryOp .Mod) rModU := by unfold rModU; exact op_mod
theorem u_pow : OpR X (binaryOp .Pow) rPowU := by unfold rPowU; exact op_pow
theorem u_eq (hu : X.A.units + 64 < cLine) : OpR X (compareOp .Eq) (rEqU X.K) := by unfold rEqU; exact op_eq.or (op_eqD hu)
theorem u_ne (hu : X.A.units + 64 < cLine) : OpR X (compareOp .NotEq) (rNeU X.K) := by unfold rNeU; exact op_ne.or (op_neD hu)
theorem u_lt : OpR X (compareOp .Lt) rLtU := by unfold rLtU; exact op_lt.or op_lt_str
theorem u_le : OpR X (compareOp .LtE) rLeU := by unfold rLeU; exact op_le
theorem u_gt : OpR X (compareOp .Gt) rGtU := by unfold rGtU; exact op_gt.or op_gt_str
theorem u_ge : OpR X (compareOp .GtE) rGeU := by unfold rGeU; exact op_ge
theorem u_isN : OpR X (compareOp .Is) rIsNU := by unfold rIsNU; exact op_isN
theorem u_notN : OpR X (compareOp .IsNot) rNotNU := by unfold rNotNU; exact op_notN
theorem u_in : OpR X (compareOp .In) (rInU X.K) := by unfold rInU; exact op_in_sign.or op_in_seq
theorem u_notIn : OpR X (compareOp .NotIn) (rNotInU X.K) := by unfold rNotInU; exact op_notIn_sign.or op_notIn_seq
theorem u_ix : IxR X (rIxU X.K) := by unfold rIxU; exact ix_seq
theorem u_set : PSet X rSetU := by unfold rSetU; exact set_list
theorem u_iadd : PIp X .Add rIAddU := by unfold rIAddU; exact iop_add.or (iop_add_str.or iop_ext)
theorem u_isub : PIp X .Sub rISubU := by unfold rISubU; exact iop_sub
theorem u_imod : PIp X .Mod rIModU := by unfold rIModU; exact iop_mod
theorem u_neg : UnR X (unaryOp .USub) rNegU := by unfold rNegU; exact un_neg
end
theorem sz_of' {n : Nat} (h : n ≤ 16777216) : n ≤ sizeLine := Nat.le_trans h (by decide)
theorem szlt_of {n : Nat} (h : n < 16777216) : n < sizeLine := Nat.lt_of_lt_of_le h (by decide)
theorem cmul_l {i j : Int} (a : -18446744073709551616 < i) (b : i < 18446744073709551616) : CMul i j := .inl ⟨a, b⟩
theorem cmul_r {i j : Int} (a : -18446744073709551616 < j) (b : j < 18446744073709551616) : CMul i j := .inr ⟨a, b⟩
section
variable {K : PySem.W.Frag} {H : Hp} {Q : VK} {i j : Int} {x y : V} {a b : Addr} {xs ys : List V}
theorem add_go (q : Q (.int (i + j)) H) : rAddU K (.int i) (.int j) H Q := by unfold rAddU; exact .inl ⟨_, _, rfl, rfl, q⟩
theorem addS_go {u v : Str} (h : u.length + v.length ≤ 16777216) (q : Q (.str (u ++ v)) H) : rAddU K (.str u) (.str v) H Q := by unfold rAddU; exact .inr (.inl ⟨_, _, rfl, rfl, sz_of' h, q⟩)
theorem addLS_go (ha : SqL K H a xs) (hb : SqL K H b ys) (h : xs.length + ys.length ≤ 16777216) (q : ∀ p, H p = none → Q (.ref p) (upd H p (.lst (xs ++ ys)))) : rAddU K (.ref a) (.ref b) H Q := by
  unfold rAddU; exact .inr (.inr (.inl ⟨_, _, _, _, rfl, rfl, ha, hb, sz_of' h, q⟩))
theorem addL_go (ha : H a = some (.lst xs)) (hb : H b = some (.lst ys)) (h : xs.length + ys.length ≤ 16777216) (q : ∀ p, H p = none → Q (.ref p) (upd H p (.lst (xs ++ ys)))) : rAddU K (.ref a) (.ref b) H Q := addLS_go (SqL.of ha) (SqL.of hb) h q
theorem addT_go (ha : SqT K H a xs) (hb : SqT K H b ys) (h0 : xs ≠ []) (h : xs.length + ys.length ≤ 16777216) (q0 : ys = [] → Q (.ref a) H) (q : ys ≠ [] → ∀ p, H p = none → Q (.ref p) (upd H p (.tup (xs ++ ys)))) : rAddU K (.ref a) (.ref b) H Q := by
  unfold rAddU; exact .inr (.inr (.inr ⟨_, _, _, _, rfl, rfl, ha, hb, h0, sz_of' h, q0, q⟩))
theorem sub_go (q : Q (.int (i - j)) H) : rSubU (.int i) (.int j) H Q := by unfold rSubU; exact ⟨_, _, rfl, rfl, q⟩
theorem mul_goL (a : -18446744073709551616 < i) (b : i < 18446744073709551616) (q : Q (.int (i * j)) H) : rMulU K (.int i) (.int j) H Q := by unfold rMulU; exact .inl ⟨_, _, rfl, rfl, cmul_l a b, q⟩
theorem mul_goR (a : -18446744073709551616 < j) (b : j < 18446744073709551616) (q : Q (.int (i * j)) H) : rMulU K (.int i) (.int j) H Q := by unfold rMulU; exact .inl ⟨_, _, rfl, rfl, cmul_r a b, q⟩
theorem rep_go (ha : H a = some (.lst xs)) (h0 : -9223372036854775808 ≤ i) (h1 : i < 9223372036854775808) (h : xs.length * i.toNat ≤ 16777216) (q : ∀ p, H p = none → Q (.ref p) (upd H p (.lst (List.replicate i.toNat xs).flatten))) : rMulU K (.ref a) (.int i) H Q := by
  unfold rMulU; exact .inr (.inl ⟨_, _, _, rfl, rfl, ha, h0, h1, sz_of' h, q⟩)
theorem div_go (a : 0 < j) (b : j < 1073741824) (q : Q (.int (i / j)) H) : rDivU (.int i) (.int j) H Q := by unfold rDivU; exact ⟨_, _, rfl, rfl, ⟨a, b⟩, q⟩
theorem divW_go (h : CDivW i j) (q : Q (.int (i / j)) H) : rDivW (.int i) (.int j) H Q := by unfold rDivW; exact ⟨_, _, rfl, rfl, h, q⟩
theorem mod_go (a : 0 < j) (q : Q (.int (i % j)) H) : rModU (.int i) (.int j) H Q := by unfold rModU; exact ⟨_, _, rfl, rfl, a, q⟩
theorem pow_go (a : 0 ≤ j) (b : j ≤ 1000000) (c : i.natAbs < 2 ^ 64) (q : Q (.int (i ^ j.toNat)) H) : rPowU (.int i) (.int j) H Q := by unfold rPowU; exact ⟨_, _, rfl, rfl, ⟨a, b, c⟩, q⟩
theorem neg_go (q : Q (.int (-i)) H) : rNegU (.int i) H Q := by unfold rNegU; exact ⟨_, rfl, q⟩
theorem dInt : decide (V.int i = V.int j) = decide (i = j) := by simp
theorem dStr {u v : Str} : decide (V.str u = V.str v) = decide (u = v) := by simp
theorem dBl {u v : Bool} : decide (V.bl u = V.bl v) = decide (u = v) := by simp
theorem eq_go (q : Q (.bl (decide (i = j))) H) : rEqU K (.int i) (.int j) H Q := by unfold rEqU; exact .inl ⟨rfl, by rw [dInt]; exact q⟩
theorem eqS_go {u v : Str} (q : Q (.bl (decide (u = v))) H) : rEqU K (.str u) (.str v) H Q := by unfold rEqU; exact .inl ⟨rfl, by rw [dStr]; exact q⟩
theorem eqB_go {u v : Bool} (q : Q (.bl (decide (u = v))) H) : rEqU K (.bl u) (.bl v) H Q := by unfold rEqU; exact .inl ⟨rfl, by rw [dBl]; exact q⟩
theorem eqN_go (q : Q (.bl true) H) : rEqU K .non .non H Q := by unfold rEqU; exact .inl ⟨rfl, q⟩
theorem eqD_go {d e : PyData} (hx : Dp K H x d) (hy : Dp K H y e) (sx : SeqAt.shaped d = true) (sy : SeqAt.shaped e = true) (q : Q (.bl (PyData.eqv d e)) H) : rEqU K x y H Q := by unfold rEqU; exact .inr ⟨d, e, hx, hy, sx, sy, q⟩
theorem ne_go (q : Q (.bl (!decide (i = j))) H) : rNeU K (.int i) (.int j) H Q := by unfold rNeU; exact .inl ⟨rfl, by rw [dInt]; exact q⟩
theorem neS_go {u v : Str} (q : Q (.bl (!decide (u = v))) H) : rNeU K (.str u) (.str v) H Q := by unfold rNeU; exact .inl ⟨rfl, by rw [dStr]; exact q⟩
theorem neB_go {u v : Bool} (q : Q (.bl (!decide (u = v))) H) : rNeU K (.bl u) (.bl v) H Q := by unfold rNeU; exact .inl ⟨rfl, by rw [dBl]; exact q⟩
theorem neD_go {d e : PyData} (hx : Dp K H x d) (hy : Dp K H y e) (sx : SeqAt.shaped d = true) (sy : SeqAt.shaped e = true) (q : Q (.bl (!PyData.eqv d e)) H) : rNeU K x y H Q := by unfold rNeU; exact .inr ⟨d, e, hx, hy, sx, sy, q⟩
theorem lt_go (q : Q (.bl (decide (i < j))) H) : rLtU (.int i) (.int j) H Q := by unfold rLtU; exact .inl ⟨_, _, rfl, rfl, q⟩
theorem ltS_go {u v : Str} (q : Q (.bl (decide (u.cps.toList < v.cps.toList))) H) : rLtU (.str u) (.str v) H Q := by unfold rLtU; exact .inr ⟨_, _, rfl, rfl, q⟩
theorem le_go (q : Q (.bl (decide (i ≤ j))) H) : rLeU (.int i) (.int j) H Q := by unfold rLeU; exact ⟨_, _, rfl, rfl, q⟩
theorem gt_go (q : Q (.bl (decide (j < i))) H) : rGtU (.int i) (.int j) H Q := by unfold rGtU; exact .inl ⟨_, _, rfl, rfl, q⟩
theorem gtS_go {u v : Str} (q : Q (.bl (decide (v.cps.toList < u.cps.toList))) H) : rGtU (.str u) (.str v) H Q := by unfold rGtU; exact .inr ⟨_, _, rfl, rfl, q⟩
theorem ge_go (q : Q (.bl (decide (j ≤ i))) H) : rGeU (.int i) (.int j) H Q := by unfold rGeU; exact ⟨_, _, rfl, rfl, q⟩
theorem isN_go (q : Q (.bl (decide (x = .non))) H) : rIsNU x .non H Q := by unfold rIsNU; exact ⟨rfl, q⟩
theorem notN_go (q : Q (.bl (!decide (x = .non))) H) : rNotNU x .non H Q := by unfold rNotNU; exact ⟨rfl, q⟩
theorem inC_go {c : Nat} {z : Str} (q : Q (.bl (decide (c ∈ z.cps.toList))) H) : rInU K (.str ⟨#[c]⟩) (.str z) H Q := by unfold rInU; exact .inl ⟨_, _, rfl, rfl, q⟩
theorem inL_go (h : SqL K H a xs) (fx : flatV x = true) (fs : xs.all flatV = true) (q : Q (.bl (inV x xs)) H) : rInU K x (.ref a) H Q := by unfold rInU; exact .inr ⟨_, _, rfl, .inl h, fx, fs, q⟩
theorem inT_go (h : SqT K H a xs) (fx : flatV x = true) (fs : xs.all flatV = true) (q : Q (.bl (inV x xs)) H) : rInU K x (.ref a) H Q := by unfold rInU; exact .inr ⟨_, _, rfl, .inr h, fx, fs, q⟩
theorem notInC_go {c : Nat} {z : Str} (q : Q (.bl (!decide (c ∈ z.cps.toList))) H) : rNotInU K (.str ⟨#[c]⟩) (.str z) H Q := by unfold rNotInU; exact .inl ⟨_, _, rfl, rfl, q⟩
theorem notInL_go (h : SqL K H a xs) (fx : flatV x = true) (fs : xs.all flatV = true) (q : Q (.bl (!inV x xs)) H) : rNotInU K x (.ref a) H Q := by unfold rNotInU; exact .inr ⟨_, _, rfl, .inl h, fx, fs, q⟩
theorem ixL_go (h : SqL K H a xs) (e : atI xs i = some x) (q : Q x H) : rIxU K (.ref a) (.int i) H Q := by unfold rIxU; exact .inl ⟨_, _, _, _, rfl, rfl, h, e, q⟩
theorem ixT_go (h : SqT K H a xs) (e : atI xs i = some x) (q : Q x H) : rIxU K (.ref a) (.int i) H Q := by unfold rIxU; exact .inr (.inl ⟨_, _, _, _, rfl, rfl, h, e, q⟩)
theorem ixS_go {z : Str} {c : Nat} (h : z.length ≤ 16777216) (e : atI z.cps.toList i = some c) (q : Q (.str ⟨#[c]⟩) H) : rIxU K (.str z) (.int i) H Q := by unfold rIxU; exact .inr (.inr ⟨_, _, _, rfl, rfl, sz_of' h, e, q⟩)
theorem set_go {k : Nat} {Q : Hp → Prop} (h : H a = some (.lst xs)) (e : ixN xs.length i = some k) (q : Q (upd H a (.lst (xs.set k x)))) : rSetU (.ref a) (.int i) x H Q := by unfold rSetU; exact ⟨_, _, _, _, rfl, rfl, h, e, q⟩
theorem iadd_go (q : Q (.int (i + j)) H) : rIAddU (.int i) (.int j) H Q := by unfold rIAddU; exact .inl ⟨_, _, rfl, rfl, q⟩
theorem iaddS_go {u v : Str} (h : u.length + v.length ≤ 16777216) (q : Q (.str (u ++ v)) H) : rIAddU (.str u) (.str v) H Q := by unfold rIAddU; exact .inr (.inl ⟨_, _, rfl, rfl, sz_of' h, q⟩)
theorem iaddL_go (ha : H a = some (.lst xs)) (hb : H b = some (.lst ys)) (h : xs.length + ys.length ≤ 16777216) (q : Q (.ref a) (upd H a (.lst (xs ++ ys)))) : rIAddU (.ref a) (.ref b) H Q := by
  unfold rIAddU; exact .inr (.inr ⟨_, _, _, _, rfl, rfl, ha, hb, sz_of' h, q⟩)
theorem isub_go (q : Q (.int (i - j)) H) : rISubU (.int i) (.int j) H Q := by unfold rISubU; exact ⟨_, _, rfl, rfl, q⟩
theorem imod_go (a : 0 < j) (q : Q (.int (i % j)) H) : rIModU (.int i) (.int j) H Q := by unfold rIModU; exact ⟨_, _, rfl, rfl, a, q⟩
end

/-! ### names of the module -/
section
variable {X : Cx} {x : Str} {pos : Pos}
theorem pe_gint {i : Int} (hg : Gl X x) (hm : ∃ t, X.mg x = some (.int i t)) (hd : (x == ("__debug__" : Str)) = false := by decide) : PE X (.Name x pos) (tC (.int i)) := by
  obtain ⟨t, hm⟩ := hm
  exact pe_glob hg hm ⟨t, rfl⟩ hd
theorem pe_gstr {i : Str} (hg : Gl X x) (hm : ∃ t, X.mg x = some (.str i t)) (hd : (x == ("__debug__" : Str)) = false := by decide) : PE X (.Name x pos) (tC (.str i)) := by
  obtain ⟨t, hm⟩ := hm
  exact pe_glob hg hm ⟨t, rfl⟩ hd
end

/-! ### defs of the text -/
def Def (K : PySem.W.Frag) (mg : Str → Option Value) (st : Stmt) (x : Str) : Prop := ∃ f fd, mg x = some (.ref f) ∧ Fun K x x st f fd
def FdAt (K : PySem.W.Frag) (f : Addr) (fd : FuncData) : Prop := ∃ oc od osl, K.lookup f = some ⟨oc, od, .func fd, osl⟩
theorem FdAt.eq {K : PySem.W.Frag} {f : Addr} {fd fd' : FuncData} (a : FdAt K f fd) (b : FdAt K f fd') : fd = fd' := by
  obtain ⟨_, _, _, a⟩ := a
  obtain ⟨_, _, _, b⟩ := b
  rw [a] at b
  cases b
  rfl
theorem Fun.at_ {K : PySem.W.Frag} {x qual : Str} {st : Stmt} {f : Addr} {fd : FuncData} (F : Fun K x qual st f fd) : FdAt K f fd := by
  obtain ⟨oc, od, kV, doc, pm, an, cdv, ct, osl, rfl, lk, hcd⟩ := F.ex
  exact ⟨oc, od, osl, lk⟩
/-- the def x of the module keeps the promise sp -/
structure Cal (P : Program) (w : World) (K : PySem.W.Frag) (mg : Str → Option Value) (base : Heap) (CX : CXT) (k : Nat) (x : Str) (ps : List Str) (sp : Sp) : Prop where
  ex : ∃ f fd, mg x = some (.ref f) ∧ FnOk P w K mg base CX k f fd ps sp ∧ PySem.W.keepIn K (.ref f) = true ∧ (∀ us : List Value, us.length = ps.length → bindArgs fd ⟨us, []⟩ = pure (ps.zip us)) ∧ FdAt K f fd
section
variable {P : Program} {w : World} {K : PySem.W.Frag} {mg : Str → Option Value} {base : Heap}
theorem Cal.of {x : Str} {st : Stmt} {N ps : List Str} {k : Nat} {sp : Sp} (D : Def K mg st x) (S : FnScope N ps (defScope st))
    (hb : ∀ (kV doc pm : Value) (an : Option Addr) (cdv ct : Value) (us : List Value), us.length = ps.length → bindArgs (PySem.W.fnOf x x (defArgs st) (defBody st) (defScope st) .none kV doc pm an cdv ct) ⟨us, []⟩ = pure (ps.zip us))
    (len : ∀ vs H Q E, sp vs H Q E → vs.length = ps.length)
    (hbody : ∀ (f : Addr) (cdv : Value) (A : Around) (outer : List Env) (s : Shared) (H : Hp) (vs : List V) (Q : VK) (E : XK), Room k (A.deeper (envOfC x (defScope st) s.heap.objs.size f cdv)) → sp vs H Q E →
      ∃ t, PSs (cxOf CX0 P w K mg base N x (defScope st) f cdv A outer s H E).nox (defBody st) t ∧ t { nx := fun _ H' => Q .non H', rt := Q } (start N vs) H) : Cal P w K mg base CX0 (k + 1) x ps sp := by
  obtain ⟨f, fd, hm, F⟩ := D
  refine ⟨f, fd, hm, F.ok S len (hbody f), F.kp, ?_, Fun.at_ F⟩
  obtain ⟨oc, od, kV, doc, pm, an, cdv, ct, osl, rfl, lk, hcd⟩ := F.ex
  exact hb kV doc pm an cdv ct
theorem Cal.bound {CX : CXT} {k : Nat} {x : Str} {ps : List Str} {sp : Sp} (C : Cal P w K mg base CX k x ps sp) : ∃ f fd, mg x = some (.ref f) ∧ FnOk P w K mg base CX k f fd ps sp ∧ PySem.W.keepIn K (.ref f) = true ∧ Binds K fd ps [] := by
  obtain ⟨f, fd, a, b, c, d, _⟩ := C.ex
  exact ⟨f, fd, a, b, c, .all d⟩
theorem Cal.end_ {x y : Str} {st : Stmt} {k : Nat} {sp : Sp} {fa : Addr} (D : Def K mg st x) (C : ∀ base : Heap, Cal P w K mg base CX0 k x [y] sp) (h : mg x = some (.ref fa)) :
    ∃ fd : FuncData, (∀ (s : Shared) (v : Value), BindsTo s fd ⟨[v], []⟩ [(y, v)]) ∧ ∀ base : Heap, K.In base → base.Ns mainGlobals mg → FnOk P w K mg base CX0 k fa fd [y] sp := by
  obtain ⟨f, fd, hm, F⟩ := D
  have e := h.symm.trans hm
  cases e
  have key : ∀ base : Heap, FnOk P w K mg base CX0 k fa fd [y] sp ∧ ∀ us : List Value, us.length = [y].length → bindArgs fd ⟨us, []⟩ = pure ([y].zip us) := fun base => by
    obtain ⟨f', fd', hm', G, _, hb, hA⟩ := (C base).ex
    have e := hm'.symm.trans hm
    cases e
    have e2 := hA.eq (Fun.at_ F)
    subst e2
    exact ⟨G, hb⟩
  exact ⟨fd, fun s v => .of_eq ((key default).2 [v] rfl), fun base _ _ => (key base).1⟩
end
section
variable {X : Cx} {CX : CXT} {k : Nat} {x : Str} {ps : List Str} {sp : Sp} {E : XK} {e : Expr} {es : List Expr} {t : TA} {p pos : Pos}
theorem pe_callC (C : Cal X.prog X.w X.K X.mg X.base CX k x ps sp) (hr : Room k X.A) (hg : Gl X x) (hx : Passes CX X E)
    (ha : PA X (e :: es) t) (hdb : (x == ("__debug__" : Str)) = false := by decide) (he : starEach (e :: es) X.env = (false, eval e X.env) :: starEach es X.env := by rfl) (hpl : (backTo pos (starEach es X.env)).any (·.1) = false := by rfl) :
    PE X (.Call (.Name x p) (e :: es) [] pos) (tCall sp [] E t) := by
  obtain ⟨f, fd, hm, F, hk, hb⟩ := C.bound
  exact pe_call F hr hg hm hk hb .nil hx ha hdb he hpl
theorem pe_callC0 (C : Cal X.prog X.w X.K X.mg X.base CX k x ps sp) (hr : Room k X.A) (hg : Gl X x) (hx : Passes CX X E)
    (hdb : (x == ("__debug__" : Str)) = false := by decide) : PE X (.Call (.Name x p) [] [] pos) (tCall sp [] E tNil) := by
  obtain ⟨f, fd, hm, F, hk, hb⟩ := C.bound
  exact pe_call0 F hr hg hm hk hb .nil hx hdb
/-- f(k = v): all by names -/
theorem pe_callK0 {f : Addr} {fd : FuncData} {ks : List Str} {g : List Value → List Value → List Value} {gV : List V → List V → List V} {kws : List Keyword} {tk : TA} (F : FnOk X.prog X.w X.K X.mg X.base CX k f fd ps sp) (hr : Room k X.A) (hg : Gl X x) (hm : X.mg x = some (.ref f)) (hk : PySem.W.keepIn X.K (.ref f) = true) (hb : KBinds X.K fd ps ks g gV) (hx : Passes CX X E)
    (hkw : PK X kws tk) (hall : (backToKw pos (keywordEach kws X.env)).all (·.1.isSome) = true := by rfl) (hks : (backToKw pos (keywordEach kws X.env)).filterMap (·.1) = ks := by rfl)
    (hdb : (x == ("__debug__" : Str)) = false := by decide)
    (hpl : ((backTo pos (starEach [] X.env)).any (·.1) || (backToKw pos (keywordEach kws X.env)).any (·.1.isNone)) = false := by rfl) :
    PE X (.Call (.Name x p) [] kws pos) (tCallK sp gV E tNil tk) := by
  refine ⟨fun pins s σ H Q I h => ?_⟩
  refine wpAny_Call_Name_kw (ld_glob I hg hm ?_ hdb)
  refine PySem.W.callWith_KW0 (h₀ := X.base) I.ok.mod.kin hk hall ?_ hpl
  have h : tk σ H fun zs H2 => sp (gV [] zs) H2 Q E := h
  refine thn (hkw.run pos pins s σ H _ I h) fun ws s2 ⟨zs, H2, I2, rz, q2⟩ => ⟨I2.kIn, ?_⟩
  rw [hks]
  exact run_fnk (us := []) (vs := []) F hr hb hx I2 .nil rz q2
end

/-! ### joined calls of built-ins -/
@[irreducible] def rLenU (K : PySem.W.Frag) : List V → Hp → VK → Prop := fun xs H Q => (∃ x n, xs = [x] ∧ LenV K x H n ∧ Q (.int n) H) ∨ ∃ a kvs, xs = [V.ref a] ∧ H a = some (.dK kvs) ∧ Q (.int kvs.length) H
@[irreducible] def rIsiU (K : PySem.W.Frag) : List V → Hp → VK → Prop := fun xs H Q => rIsi K xs H Q ∨ rIsiT K xs H Q
@[irreducible] def rIntU : List V → Hp → VK → Prop := fun xs H Q => (∃ i, xs = [.int i] ∧ Q (.int i) H) ∨ ∃ k, xs = [.bl k] ∧ Q (.int (if k then 1 else 0)) H
@[irreducible] def rBoolU : List V → Hp → VK → Prop := fun xs H Q => (∃ i, xs = [.int i] ∧ Q (.bl (i != 0)) H) ∨ ∃ k, xs = [.bl k] ∧ Q (.bl k) H
@[irreducible] def rAbsU : List V → Hp → VK → Prop := fun xs H Q => ∃ i, xs = [.int i] ∧ Q (.int (if i < 0 then -i else i)) H
@[irreducible] def rOrdU : List V → Hp → VK → Prop := fun xs H Q => ∃ x, xs = [.str x] ∧ x.length = 1 ∧ Q (.int (x.cps.getD 0 0 : Nat)) H
@[irreducible] def rListU (K : PySem.W.Frag) : List V → Hp → VK → Prop := fun xs H Q => ∃ p ys, xs = [.ref p] ∧ (SqL K H p ys ∨ SqT K H p ys) ∧ ∀ l, H l = none → Q (.ref l) (upd H l (.lst ys))
@[irreducible] def rTupleU (K : PySem.W.Frag) : List V → Hp → VK → Prop := fun xs H Q => ∃ p ys, xs = [.ref p] ∧ ((SqL K H p ys ∧ ∀ l, H l = none → Q (.ref l) (upd H l (.tup ys))) ∨ (SqT K H p ys ∧ Q (.ref p) H))
@[irreducible] def rAllU (K : PySem.W.Frag) : List V → Hp → VK → Prop := rAll K
@[irreducible] def rAnyU (K : PySem.W.Frag) : List V → Hp → VK → Prop := rAny K
@[irreducible] def rSumU (K : PySem.W.Frag) : List V → Hp → VK → Prop := rSum K
@[irreducible] def rAppU : V → List V → Hp → VK → Prop := rAppend
@[irreducible] def rPopU : V → List V → Hp → VK → Prop := fun x vs H Q => rPop x vs H Q ∨ rPopAt x vs H Q
@[irreducible] def rExtU : V → List V → Hp → VK → Prop := rExtend
@[irreducible] def rSlLU (K : PySem.W.Frag) : V → Option Int → Option Int → Hp → VK → Prop := rSlL K
@[irreducible] def rSlSU : V → Option Int → Option Int → Hp → VK → Prop := rSlS
@[irreducible] def rSlTU (K : PySem.W.Frag) : V → Option Int → Option Int → Hp → VK → Prop := rSlT K
section
variable {X : Cx}
theorem CallR.or {f : Value} {r r' : List V → Hp → VK → Prop} (h : CallR X f r) (h' : CallR X f r') : CallR X f (fun xs H Q => r xs H Q ∨ r' xs H Q) := by
  intro pins s σ H xs us Q I r q
  rcases q with q | q
  · exact h pins s σ H xs us Q I r q
  · exact h' pins s σ H xs us Q I r q
theorem MtR.or {id : String} {r r' : V → List V → Hp → VK → Prop} (h : MtR X id r) (h' : MtR X id r') : MtR X id (fun x xs H Q => r x xs H Q ∨ r' x xs H Q) := by
  intro pins s σ H x xs v us Q I rx rs q
  rcases q with q | q
  · exact h pins s σ H x xs v us Q I rx rs q
  · exact h' pins s σ H x xs v us Q I rx rs q
theorem u_len : CallR X (.builtin "len") (rLenU X.K) := by unfold rLenU; exact CallR.or call_len call_lenD
theorem u_isi : CallR X (.builtin "isinstance") (rIsiU X.K) := by unfold rIsiU; exact CallR.or call_isi call_isiT
theorem u_int : CallR X (.type "int") rIntU := by unfold rIntU; exact call_int1
theorem u_bool : CallR X (.type "bool") rBoolU := by unfold rBoolU; exact call_bool1
theorem u_abs : CallR X (.builtin "abs") rAbsU := by unfold rAbsU; exact call_abs
theorem u_ord : CallR X (.builtin "ord") rOrdU := by unfold rOrdU; exact call_ord
theorem u_list : CallR X (.type "list") (rListU X.K) := by unfold rListU; exact call_list_of
theorem u_tuple : CallR X (.type "tuple") (rTupleU X.K) := by unfold rTupleU; exact call_tuple_of
theorem u_all (hc : X.calm = true) : CallR X (.builtin "all") (rAllU X.K) := by unfold rAllU; exact cr_all hc
theorem u_any (hc : X.calm = true) : CallR X (.builtin "any") (rAnyU X.K) := by unfold rAnyU; exact cr_any hc
theorem u_sum (hc : X.calm = true) : CallR X (.builtin "sum") (rSumU X.K) := by unfold rSumU; exact cr_sum hc
theorem u_append : MtR X "list.append" rAppU := by unfold rAppU; exact mt_append
theorem u_pop : MtR X "list.pop" rPopU := by unfold rPopU; exact MtR.or mt_pop mt_popAt
theorem u_extend : MtR X "list.extend" rExtU := by unfold rExtU; exact mt_extend
theorem u_slL : SlR X (rSlLU X.K) := by unfold rSlLU; exact sl_list
theorem u_slS : SlR X rSlSU := by unfold rSlSU; exact sl_str
theorem u_slT : SlR X (rSlTU X.K) := by unfold rSlTU; exact sl_tup
end
def tTru (K : PySem.W.Frag) (ta : TE) : TT := fun σ H Q => ta σ H fun x H' => ∃ k, TruV K x H' k ∧ Q k H'
def rJoin (K : PySem.W.Frag) : V → List V → Hp → VK → Prop := fun x xs H Q => ∃ a p, ∃ ys : List Str, x = .str a ∧ xs = [.ref p] ∧ (SqL K H p (ys.map V.str) ∨ SqT K H p (ys.map V.str)) ∧ (ys.map (·.length)).sum + ys.length * a.length ≤ 16777216 ∧ Q (.str (Txt.join a ys)) H
def rUpper : V → List V → Hp → VK → Prop := fun x xs H Q => ∃ a, x = .str a ∧ xs = [] ∧ a.length ≤ 5592405 ∧ Q (.str (Txt.upper a)) H
section
variable {K : PySem.W.Frag} {H : Hp} {Q : VK} {i j : Int} {x y : V} {a b : Addr} {xs ys : List V}
theorem len_str {z : Str} (h : z.length ≤ 16777216) (q : Q (.int z.length) H) : rLenU K [.str z] H Q := by unfold rLenU; exact .inl ⟨_, _, rfl, ⟨sz_of' h, rfl⟩, q⟩
theorem len_lst (h : SqL K H a xs) (q : Q (.int xs.length) H) : rLenU K [.ref a] H Q := by unfold rLenU; exact .inl ⟨_, _, rfl, .inl ⟨xs, h, rfl⟩, q⟩
theorem len_tup (h : SqT K H a xs) (q : Q (.int xs.length) H) : rLenU K [.ref a] H Q := by unfold rLenU; exact .inl ⟨_, _, rfl, .inr ⟨xs, h, rfl⟩, q⟩
theorem len_dK {kvs : List (Key × V)} (h : H a = some (.dK kvs)) (q : Q (.int kvs.length) H) : rLenU K [.ref a] H Q := by unfold rLenU; exact .inr ⟨_, _, rfl, h, q⟩
theorem isi_go {t n : String} {b : Bool} (ty : TyX K H x (.type t)) (k : PySem.W.kitOne K (.type t) (.type n) = some b) (q : Q (.bl b) H) : rIsiU K [x, .ty n] H Q := by unfold rIsiU; exact .inl ⟨x, .ty n, .type t, .type n, b, rfl, .ty n, ty, k, q⟩
theorem isi2_go {t m n : String} {b c : Bool} (hp : H a = some (.tup [.ty m, .ty n])) (ty : TyX K H x (.type t)) (k1 : PySem.W.kitOne K (.type t) (.type m) = some b) (k2 : PySem.W.kitOne K (.type t) (.type n) = some c) (q : Q (.bl (b || c)) H) : rIsiU K [x, .ref a] H Q := by
  unfold rIsiU
  refine .inr ⟨x, a, _, .type t, _, b || c, rfl, hp, .cons (.ty m) (.cons (.ty n) .nil), ty, ?_, q⟩
  refine kitAny_cons k1 (fun e => ?_) (fun e => by rw [e]; rfl)
  refine kitAny_cons k2 (fun e2 => ?_) (fun e2 => by rw [e2]; exact Bool.or_true _)
  rw [e, e2]
  exact kitAny_nil
theorem int_go (q : Q (.int i) H) : rIntU [.int i] H Q := by unfold rIntU; exact .inl ⟨_, rfl, q⟩
theorem intB_go {k : Bool} (q : Q (.int (if k then 1 else 0)) H) : rIntU [.bl k] H Q := by unfold rIntU; exact .inr ⟨_, rfl, q⟩
theorem abs_go (q : Q (.int (if i < 0 then -i else i)) H) : rAbsU [.int i] H Q := by unfold rAbsU; exact ⟨_, rfl, q⟩
theorem ord_go {c : Nat} (q : Q (.int c) H) : rOrdU [.str ⟨#[c]⟩] H Q := by unfold rOrdU; exact ⟨_, rfl, rfl, q⟩
theorem list_goL (h : SqL K H a xs) (q : ∀ l, H l = none → Q (.ref l) (upd H l (.lst xs))) : rListU K [.ref a] H Q := by unfold rListU; exact ⟨_, _, rfl, .inl h, q⟩
theorem list_goT (h : SqT K H a xs) (q : ∀ l, H l = none → Q (.ref l) (upd H l (.lst xs))) : rListU K [.ref a] H Q := by unfold rListU; exact ⟨_, _, rfl, .inr h, q⟩
theorem tuple_goL (h : SqL K H a xs) (q : ∀ l, H l = none → Q (.ref l) (upd H l (.tup xs))) : rTupleU K [.ref a] H Q := by unfold rTupleU; exact ⟨_, _, rfl, .inl ⟨h, q⟩⟩
theorem tuple_goT (h : SqT K H a xs) (q : Q (.ref a) H) : rTupleU K [.ref a] H Q := by unfold rTupleU; exact ⟨_, _, rfl, .inr ⟨h, q⟩⟩
theorem all_go {bs : List Bool} (h : SqL K H a (bs.map V.bl)) (q : Q (.bl (bs.all id)) H) : rAllU K [.ref a] H Q := by unfold rAllU; exact ⟨_, _, rfl, h, q⟩
theorem any_go {bs : List Bool} (h : SqL K H a (bs.map V.bl)) (q : Q (.bl (bs.any id)) H) : rAnyU K [.ref a] H Q := by unfold rAnyU; exact ⟨_, _, rfl, h, q⟩
theorem sum_go {ns : List Int} (h : SqL K H a (ns.map V.int)) (q : Q (.int ns.sum) H) : rSumU K [.ref a] H Q := by unfold rSumU; exact ⟨_, _, rfl, h, q⟩
theorem app_go (h : H a = some (.lst xs)) (hl : xs.length < 16777216) (q : Q .non (upd H a (.lst (xs ++ [x])))) : rAppU (.ref a) [x] H Q := by unfold rAppU; exact ⟨_, _, _, rfl, rfl, h, szlt_of hl, q⟩
theorem ext_go (h : H a = some (.lst xs)) (h2 : H b = some (.lst ys)) (hl : xs.length + ys.length ≤ 16777216) (q : Q .non (upd H a (.lst (xs ++ ys)))) : rExtU (.ref a) [.ref b] H Q := by unfold rExtU; exact ⟨_, _, _, _, rfl, rfl, h, h2, sz_of' hl, q⟩
theorem pop0_go (h : H a = some (.lst (x :: xs))) (q : Q x (upd H a (.lst xs))) : rPopU (.ref a) [.int 0] H Q := by
  unfold rPopU
  exact .inr ⟨_, _, _, 0, x, rfl, rfl, h, by decide, by decide, by
    unfold seqIndex?
    have e : (0 : Int) < ((x :: xs).length : Int) := by
      show (0 : Int) < ((xs.length + 1 : Nat) : Int)
      omega
    simp [e], rfl, q⟩
theorem popE_go (h : H a = some (.lst (xs ++ [x]))) (q : Q x (upd H a (.lst xs))) : rPopU (.ref a) [] H Q := by
  unfold rPopU
  refine .inl ⟨_, _, x, rfl, rfl, h, by simp, ?_⟩
  rw [List.dropLast_concat]
  exact q
theorem ty_lst (h : SqL K H a xs) : tyV K "list" (.ref a) H := .inl ⟨rfl, _, h⟩
theorem ty_dK {kvs : List (Key × V)} (h : H a = some (.dK kvs)) : tyV K "dict" (.ref a) H := .inr (.inr (.inl ⟨rfl, .inl ⟨_, h⟩⟩))
theorem slL_go {lo hi : Option Int} (h : SqL K H a xs) (q : ∀ p, H p = none → Q (.ref p) (upd H p (.lst (cutV xs lo hi)))) : rSlLU K (.ref a) lo hi H Q := by unfold rSlLU; exact ⟨_, _, rfl, h, q⟩
theorem slS_go {lo hi : Option Int} {z : Str} (h : z.length ≤ 16777216) (q : Q (.str (cutS z lo hi)) H) : rSlSU (.str z) lo hi H Q := by unfold rSlSU; exact ⟨_, rfl, sz_of' h, q⟩
end

/-! ### heaps -/
/-- all but the places of M is kept -/
def Kp (M : List Addr) (H H' : Hp) : Prop := ∀ a o, a ∉ M → H a = some o → H' a = some o
theorem Kp.refl {M : List Addr} {H : Hp} : Kp M H H := fun _ _ _ h => h
theorem Kp.trans {M : List Addr} {H H1 H2 : Hp} (a : Kp M H H1) (b : Kp M H1 H2) : Kp M H H2 := fun x o n h => b x o n (a x o n h)
theorem Kp.at_ {M : List Addr} {H H' : Hp} {a : Addr} {o : HO} (k : Kp M H H') (n : a ∉ M) (h : H a = some o) : H' a = some o := k a o n h
theorem Same.at_ {H H' : Hp} {a : Addr} {o : HO} (k : Same H H') (h : H a = some o) : H' a = some o := k a o h
theorem Kp.sqL {M : List Addr} {K : PySem.W.Frag} {H H' : Hp} {a : Addr} {xs : List V} (k : Kp M H H') (n : a ∉ M) (h : SqL K H a xs) : SqL K H' a xs := by
  rcases h with (h | ⟨o, h⟩) | h
  · exact .inl (.inl (k _ _ n h))
  · exact .inl (.inr ⟨o, k _ _ n h⟩)
  · exact .inr h
theorem Kp.upd_in {M : List Addr} {H H' : Hp} {a : Addr} {o : HO} (k : Kp M H H') (h : a ∈ M) : Kp M H (upd H' a o) := fun x u n e => by
  rw [upd_ne (fun z => n (by rw [z]; exact h))]
  exact k x u n e
theorem Kp.upd_new {M : List Addr} {H H' : Hp} {a : Addr} {o : HO} (k : Kp M H H') (h : H a = none) : Kp M H (upd H' a o) := fun x u n e => by
  rw [upd_ne (ne_of_none e h)]
  exact k x u n e
theorem Kp.upd_new' {M : List Addr} {H H' : Hp} {a : Addr} {o : HO} (k : Kp M H H') (h : H' a = none) : Kp M H (upd H' a o) := fun x u n e => by
  rw [upd_ne (ne_of_none (k x u n e) h)]
  exact k x u n e
theorem Kp.mono {M N : List Addr} {H H' : Hp} (k : Kp M H H') (h : ∀ a, a ∈ M → a ∈ N) : Kp N H H' := fun x u n e => k x u (fun z => n (h x z)) e
/-- what is changed was not there at first -/
theorem Kp.drop {M N : List Addr} {H H1 H2 : Hp} (k : Kp M H H1) (k2 : Kp N H1 H2) (h : ∀ a, a ∈ N → a ∈ M ∨ H a = none) : Kp M H H2 := fun x u n e => by
  refine k2 x u (fun z => ?_) (k x u n e)
  rcases h x z with q | q
  · exact n q
  · rw [e] at q
    cases q
theorem Kp.none_of {M : List Addr} {H H' : Hp} {p : Addr} (k : Kp M H H') (n : p ∉ M) (h : H' p = none) : H p = none := by
  cases q : H p with
  | none => rfl
  | some o =>
    rw [k p o n q] at h
    cases h
theorem nm_cons {a b : Addr} {M : List Addr} (h : a ≠ b) (t : a ∉ M) : a ∉ b :: M := fun z => by
  rcases List.mem_cons.mp z with e | e
  · exact h e
  · exact t e
theorem st_nx {D : Ends} {σ : L2.St} {H : Hp} (q : D.nx σ H) : tNext D σ H := q
theorem iteD {c A B : Prop} [Decidable c] (h1 : c → A) (h2 : ¬ c → B) : if decide c = true then A else B := by
  by_cases h : c
  · rw [decide_eq_true h]
    exact iteT (h1 h)
  · rw [decide_eq_false h]
    exact iteF (h2 h)
theorem Kp.of_same {M : List Addr} {H H' : Hp} (a : Same H H') : Kp M H H' := fun x o _ h => a x o h

/-! ### comprehensions: what is made so far is told -/
def Acc (D : Addr) (Pv : Nat → List V → Hp → Prop) (i : Nat) (H : Hp) : Prop := ∃ acc, acc.length ≤ i ∧ H D = some (.lst acc) ∧ Pv i acc H
theorem lc_acc {J : It} {n : Nat} {G : Hp → Prop} {Y : Nat → Hp → V → Hp → Prop} (w : Walk J n G Y) {g : TG} {tt : TT} {te : TE} {vs : List Nat} {σ : L2.St} {H1 : Hp} {D : Addr} {Qd : Hp → Prop} (Pv : Nat → List V → Hp → Prop)
    (h0 : Pv 0 [] (upd H1 D (.lst []))) (hG : ∀ i acc H, i ≤ n → Pv i acc H → G H)
    (hs : ∀ i x acc H H', i < n → acc.length ≤ i → H D = some (.lst acc) → Pv i acc H → Y i H x H' → g x (wipe σ vs) H' fun σ2 H2 => wipe σ2 vs = wipe σ vs ∧ tt σ2 H2 fun b H3 =>
      if b = true then te σ2 H3 fun y H4 => ∃ acc, H4 D = some (.lst acc) ∧ acc.length < sizeLine ∧ Acc D Pv (i + 1) (upd H4 D (.lst (acc ++ [y]))) else Acc D Pv (i + 1) H3)
    (hd : ∀ acc H, acc.length ≤ n → H D = some (.lst acc) → Pv n acc H → Qd H) :
    ∃ W : Nat → Nat → Hp → Prop, (∃ m, W 0 m (upd H1 D (.lst []))) ∧ ∀ i m H, W i m H →
      (J.stop i H ∧ Qd H) ∨ (J.go i H ∧ ∃ Nx : Hp → Prop, (∀ H', Nx H' → ∃ m', m' < m ∧ W (i + 1) m' H') ∧ ∀ x H', J.yld i H x H' → g x (wipe σ vs) H' fun σ2 H2 => wipe σ2 vs = wipe σ vs ∧ tt σ2 H2 fun b H3 =>
        if b = true then te σ2 H3 fun y H4 => ∃ acc, H4 D = some (.lst acc) ∧ acc.length < sizeLine ∧ Nx (upd H4 D (.lst (acc ++ [y]))) else Nx H3) :=
  lc_it w (Acc D Pv) ⟨[], Nat.zero_le _, upd_same, h0⟩ (fun i H hi ⟨acc, _, _, p⟩ => hG i acc H hi p) (fun i x H H' hi ⟨acc, hl, hD, p⟩ y => hs i x acc H H' hi hl hD p y) (fun H ⟨acc, hl, hD, p⟩ => hd acc H hl hD p)
theorem acc_go {D : Addr} {Pv : Nat → List V → Hp → Prop} {i : Nat} {H : Hp} {acc : List V} {y : V} (hl : acc.length ≤ i) (hi : i < 16777215) (hD : H D = some (.lst acc)) (p : Pv (i + 1) (acc ++ [y]) (upd H D (.lst (acc ++ [y])))) :
    ∃ acc, H D = some (.lst acc) ∧ acc.length < sizeLine ∧ Acc D Pv (i + 1) (upd H D (.lst (acc ++ [y]))) := by
  refine ⟨acc, hD, Nat.lt_of_le_of_lt (show acc.length ≤ 16777215 by omega) (by decide), acc ++ [y], ?_, upd_same, p⟩
  rw [List.length_append]
  show acc.length + 1 ≤ i + 1
  omega
theorem acc_skip {D : Addr} {Pv : Nat → List V → Hp → Prop} {i : Nat} {H : Hp} {acc : List V} (hl : acc.length ≤ i) (hD : H D = some (.lst acc)) (p : Pv (i + 1) acc H) : Acc D Pv (i + 1) H := ⟨acc, Nat.le_succ_of_le hl, hD, p⟩
/-! ### isinstance of built-in kinds -/
theorem ki_NoneType_str {K : PySem.W.Frag} : PySem.W.kitOne K (.type "NoneType") (.type "str") = some false := kit_ty (by decide +kernel)
theorem ki_NoneType_int {K : PySem.W.Frag} : PySem.W.kitOne K (.type "NoneType") (.type "int") = some false := kit_ty (by decide +kernel)
theorem ki_NoneType_bool {K : PySem.W.Frag} : PySem.W.kitOne K (.type "NoneType") (.type "bool") = some false := kit_ty (by decide +kernel)
theorem ki_NoneType_list {K : PySem.W.Frag} : PySem.W.kitOne K (.type "NoneType") (.type "list") = some false := kit_ty (by decide +kernel)
theorem ki_NoneType_tuple {K : PySem.W.Frag} : PySem.W.kitOne K (.type "NoneType") (.type "tuple") = some false := kit_ty (by decide +kernel)
theorem ki_NoneType_dict {K : PySem.W.Frag} : PySem.W.kitOne K (.type "NoneType") (.type "dict") = some false := kit_ty (by decide +kernel)
theorem ki_bool_str {K : PySem.W.Frag} : PySem.W.kitOne K (.type "bool") (.type "str") = some false := kit_ty (by decide +kernel)
theorem ki_bool_int {K : PySem.W.Frag} : PySem.W.kitOne K (.type "bool") (.type "int") = some true := kit_ty (by decide +kernel)
theorem ki_bool_bool {K : PySem.W.Frag} : PySem.W.kitOne K (.type "bool") (.type "bool") = some true := kit_ty (by decide +kernel)
theorem ki_bool_list {K : PySem.W.Frag} : PySem.W.kitOne K (.type "bool") (.type "list") = some false := kit_ty (by decide +kernel)
theorem ki_bool_tuple {K : PySem.W.Frag} : PySem.W.kitOne K (.type "bool") (.type "tuple") = some false := kit_ty (by decide +kernel)
theorem ki_bool_dict {K : PySem.W.Frag} : PySem.W.kitOne K (.type "bool") (.type "dict") = some false := kit_ty (by decide +kernel)
theorem ki_int_str {K : PySem.W.Frag} : PySem.W.kitOne K (.type "int") (.type "str") = some false := kit_ty (by decide +kernel)
theorem ki_int_int {K : PySem.W.Frag} : PySem.W.kitOne K (.type "int") (.type "int") = some true := kit_ty (by decide +kernel)
theorem ki_int_bool {K : PySem.W.Frag} : PySem.W.kitOne K (.type "int") (.type "bool") = some false := kit_ty (by decide +kernel)
theorem ki_int_list {K : PySem.W.Frag} : PySem.W.kitOne K (.type "int") (.type "list") = some false := kit_ty (by decide +kernel)
theorem ki_int_tuple {K : PySem.W.Frag} : PySem.W.kitOne K (.type "int") (.type "tuple") = some false := kit_ty (by decide +kernel)
theorem ki_int_dict {K : PySem.W.Frag} : PySem.W.kitOne K (.type "int") (.type "dict") = some false := kit_ty (by decide +kernel)
theorem ki_str_str {K : PySem.W.Frag} : PySem.W.kitOne K (.type "str") (.type "str") = some true := kit_ty (by decide +kernel)
theorem ki_str_int {K : PySem.W.Frag} : PySem.W.kitOne K (.type "str") (.type "int") = some false := kit_ty (by decide +kernel)
theorem ki_str_bool {K : PySem.W.Frag} : PySem.W.kitOne K (.type "str") (.type "bool") = some false := kit_ty (by decide +kernel)
theorem ki_str_list {K : PySem.W.Frag} : PySem.W.kitOne K (.type "str") (.type "list") = some false := kit_ty (by decide +kernel)
theorem ki_str_tuple {K : PySem.W.Frag} : PySem.W.kitOne K (.type "str") (.type "tuple") = some false := kit_ty (by decide +kernel)
theorem ki_str_dict {K : PySem.W.Frag} : PySem.W.kitOne K (.type "str") (.type "dict") = some false := kit_ty (by decide +kernel)
theorem ki_list_str {K : PySem.W.Frag} : PySem.W.kitOne K (.type "list") (.type "str") = some false := kit_ty (by decide +kernel)
theorem ki_list_int {K : PySem.W.Frag} : PySem.W.kitOne K (.type "list") (.type "int") = some false := kit_ty (by decide +kernel)
theorem ki_list_bool {K : PySem.W.Frag} : PySem.W.kitOne K (.type "list") (.type "bool") = some false := kit_ty (by decide +kernel)
theorem ki_list_list {K : PySem.W.Frag} : PySem.W.kitOne K (.type "list") (.type "list") = some true := kit_ty (by decide +kernel)
theorem ki_list_tuple {K : PySem.W.Frag} : PySem.W.kitOne K (.type "list") (.type "tuple") = some false := kit_ty (by decide +kernel)
theorem ki_list_dict {K : PySem.W.Frag} : PySem.W.kitOne K (.type "list") (.type "dict") = some false := kit_ty (by decide +kernel)
theorem ki_tuple_str {K : PySem.W.Frag} : PySem.W.kitOne K (.type "tuple") (.type "str") = some false := kit_ty (by decide +kernel)
theorem ki_tuple_int {K : PySem.W.Frag} : PySem.W.kitOne K (.type "tuple") (.type "int") = some false := kit_ty (by decide +kernel)
theorem ki_tuple_bool {K : PySem.W.Frag} : PySem.W.kitOne K (.type "tuple") (.type "bool") = some false := kit_ty (by decide +kernel)
theorem ki_tuple_list {K : PySem.W.Frag} : PySem.W.kitOne K (.type "tuple") (.type "list") = some false := kit_ty (by decide +kernel)
theorem ki_tuple_tuple {K : PySem.W.Frag} : PySem.W.kitOne K (.type "tuple") (.type "tuple") = some true := kit_ty (by decide +kernel)
theorem ki_tuple_dict {K : PySem.W.Frag} : PySem.W.kitOne K (.type "tuple") (.type "dict") = some false := kit_ty (by decide +kernel)
theorem ki_dict_str {K : PySem.W.Frag} : PySem.W.kitOne K (.type "dict") (.type "str") = some false := kit_ty (by decide +kernel)
theorem ki_dict_int {K : PySem.W.Frag} : PySem.W.kitOne K (.type "dict") (.type "int") = some false := kit_ty (by decide +kernel)
theorem ki_dict_bool {K : PySem.W.Frag} : PySem.W.kitOne K (.type "dict") (.type "bool") = some false := kit_ty (by decide +kernel)
theorem ki_dict_list {K : PySem.W.Frag} : PySem.W.kitOne K (.type "dict") (.type "list") = some false := kit_ty (by decide +kernel)
theorem ki_dict_tuple {K : PySem.W.Frag} : PySem.W.kitOne K (.type "dict") (.type "tuple") = some false := kit_ty (by decide +kernel)
theorem ki_dict_dict {K : PySem.W.Frag} : PySem.W.kitOne K (.type "dict") (.type "dict") = some true := kit_ty (by decide +kernel)
theorem Kp.sqT {M : List Addr} {K : PySem.W.Frag} {H H' : Hp} {a : Addr} {xs : List V} (k : Kp M H H') (n : a ∉ M) (h : SqT K H a xs) : SqT K H' a xs := by
  rcases h with (h | ⟨o, h⟩) | h
  · exact .inl (.inl (k _ _ n h))
  · exact .inl (.inr ⟨o, k _ _ n h⟩)
  · exact .inr h
theorem iteN {c A B : Prop} [Decidable c] (h1 : ¬ c → A) (h2 : c → B) : if (!decide c) = true then A else B := by
  by_cases h : c
  · rw [decide_eq_true h]
    exact iteF (h2 h)
  · rw [decide_eq_false h]
    exact iteT (h1 h)
theorem iteB {b : Bool} {A B : Prop} (h1 : b = true → A) (h2 : b = false → B) : if b = true then A else B := by
  cases b with
  | true => exact iteT (h1 rfl)
  | false => exact iteF (h2 rfl)
theorem tyX_same {K : PySem.W.Frag} {H H' : Hp} {x : V} {t : Value} (s : Same H H') (h : TyX K H x t) : TyX K H' x t := by
  cases h with
  | base b =>
    refine .base ?_
    cases b with
    | non => exact .non
    | bl y => exact .bl y
    | int i => exact .int i
    | str y => exact .str y
    | flt y => exact .flt y
    | lst e => exact .lst (s _ _ e)
    | frz e => exact .frz (s _ _ e)
    | tup e => exact .tup (s _ _ e)
    | dK e => exact .dK (s _ _ e)
    | dT e => exact .dT (s _ _ e)
    | ins e a b c d f => exact .ins (s _ _ e) a b c d f
  | byt b => exact .byt b
  | set e => exact .set (s _ _ e)
  | kList e c => exact .kList e c
  | kTuple e c => exact .kTuple e c
  | kDict e c => exact .kDict e c
  | fTuple e => exact .fTuple (s _ _ e)
  | fDict e => exact .fDict (s _ _ e)
theorem Kp.same {H H' : Hp} (k : Kp [] H H') : Same H H' := fun a o e => k a o List.not_mem_nil e
theorem str_size (z : Str) : z.cps.size = z.length := rfl
end Kb
/-! ### data: what == asks -/
namespace Kb
open PySem PySem.Spec PyProof.Rows L2
/-- small data: no deeper than n, its texts of signs that there are -/
def Sh (n : Nat) (d : PyData) : Prop := d.canLay0 = true ∧ d.depth ≤ n
theorem Sh.ok {n : Nat} {d : PyData} (h : Sh n d) (hn : n ≤ 64) : SeqAt.shaped d = true := by
  unfold SeqAt.shaped
  rw [h.1, Bool.true_and]
  exact decide_eq_true (Nat.le_trans h.2 hn)
theorem sh_non {n : Nat} : Sh n .none := ⟨by simp [PyData.canLay0], by simp [PyData.depth]⟩
theorem sh_bl {n : Nat} {b : Bool} : Sh n (.bool b) := ⟨by simp [PyData.canLay0], by simp [PyData.depth]⟩
theorem sh_int {n : Nat} {i : Int} : Sh n (.int i) := ⟨by simp [PyData.canLay0], by simp [PyData.depth]⟩
theorem sh_str {n : Nat} {x : Str} (h : ∀ c ∈ x.cps.toList, c < 1114112) : Sh n (.str x) := by
  refine ⟨?_, by simp [PyData.depth]⟩
  simp only [PyData.canLay0, PyData.strOk]
  exact Array.all_eq_true'.mpr fun c hc => decide_eq_true (h c (Array.mem_toList_iff.mpr hc))
theorem sh_all {n : Nat} : ∀ {ds : List PyData}, (∀ d ∈ ds, Sh n d) → PyData.canLayAll0 ds = true ∧ PyData.depthAll ds ≤ n
  | [], _ => ⟨by simp [PyData.canLayAll0], by simp [PyData.depthAll]⟩
  | d :: ds, h => by
    obtain ⟨a, b⟩ := h d (by simp)
    obtain ⟨c, e⟩ := sh_all fun x hx => h x (List.mem_cons_of_mem _ hx)
    exact ⟨by simp only [PyData.canLayAll0, a, c, Bool.and_self], by simp only [PyData.depthAll]; omega⟩
theorem sh_lst {n : Nat} {ds : List PyData} (h : ∀ d ∈ ds, Sh n d) : Sh (n + 1) (.list ds) := by
  obtain ⟨a, b⟩ := sh_all h
  exact ⟨by simp only [PyData.canLay0, a], by simp only [PyData.depth]; omega⟩
theorem sh_tup {n : Nat} {ds : List PyData} (h : ∀ d ∈ ds, Sh n d) : Sh (n + 1) (.tuple ds) := by
  obtain ⟨a, b⟩ := sh_all h
  exact ⟨by simp only [PyData.canLay0, a], by simp only [PyData.depth]; omega⟩
theorem sh_nil {n : Nat} : Sh (n + 1) (.list []) := sh_lst fun d h => nomatch h
theorem eqv_lnil : ∀ ds : List PyData, PyData.eqv (.list ds) (.list []) = ds.isEmpty
  | [] => by simp [PyData.eqv, PyData.eqvAll]
  | d :: ds => by simp [PyData.eqv, PyData.eqvAll]
/-- a list of ints as data -/
theorem dp_ints {K : PySem.W.Frag} {H : Hp} : ∀ ns : List Int, DpAll K H (ns.map V.int) (ns.map PyData.int)
  | [] => .nil
  | n :: ns => .cons (.int n) (dp_ints ns)
theorem sh_ints {ns : List Int} : Sh 1 (.list (ns.map PyData.int)) := sh_lst (n := 0) fun d h => by
  obtain ⟨i, _, rfl⟩ := List.mem_map.mp h
  exact sh_int
theorem eqvAll_ints : ∀ xs ys : List Int, PyData.eqvAll (xs.map PyData.int) (ys.map PyData.int) = decide (xs = ys)
  | [], [] => by simp [PyData.eqvAll]
  | [], y :: ys => by simp [PyData.eqvAll]
  | x :: xs, [] => by simp [PyData.eqvAll]
  | x :: xs, y :: ys => by
    have ih := eqvAll_ints xs ys
    simp only [List.map_cons, PyData.eqvAll, PyData.eqv, ih]
    by_cases h : x = y
    · subst h
      simp
    · simp [h]
theorem eqv_ints (xs ys : List Int) : PyData.eqv (.list (xs.map PyData.int)) (.list (ys.map PyData.int)) = decide (xs = ys) := by
  simp only [PyData.eqv]
  exact eqvAll_ints xs ys
end Kb
/-! ### slices -/
namespace Kb
open PySem PySem.Spec PyProof.Rows L2
def cutI {α : Type} (xs : List α) (lo hi : Option Int) : List α := (xs.drop (HT.sIx xs.length 0 lo)).take (HT.sIx xs.length xs.length hi - HT.sIx xs.length 0 lo)
theorem cutV_map {α : Type} (f : α → V) (xs : List α) (lo hi : Option Int) : cutV (xs.map f) lo hi = (cutI xs lo hi).map f := by
  unfold cutV cutI
  rw [List.length_map, List.map_take, List.map_drop]
theorem cutI_len {α : Type} (xs : List α) (lo hi : Option Int) : (cutI xs lo hi).length ≤ xs.length := by
  unfold cutI
  rw [List.length_take, List.length_drop]
  omega
theorem cutI_mem {α : Type} {xs : List α} {lo hi : Option Int} {x : α} (h : x ∈ cutI xs lo hi) : x ∈ xs := List.mem_of_mem_drop (List.mem_of_mem_take h)
end Kb
/-! ### calls by names alone -/
namespace Kb
open PySem PySem.Spec PyProof.Rows L2
theorem pe_callKw {X : Cx} {CX : CXT} {k : Nat} {x : Str} {st : Stmt} {ps ks : List Str} {sp : Sp} {E : XK} {kws : List Keyword} {tk : TA} {p pos : Pos} (D : Def X.K X.mg st x) (C : Cal X.prog X.w X.K X.mg X.base CX k x ps sp)
    (kb : ∀ (kV doc pm : Value) (an : Option Addr) (cdv ct : Value) (us ws : List Value), (us ++ (ws ++ [])).length = ps.length → bindArgs (PySem.W.fnOf x x (defArgs st) (defBody st) (defScope st) .none kV doc pm an cdv ct) ⟨us, ks.zip ws⟩ = pure (ps.zip (us ++ (ws ++ []))))
    (hr : Room k X.A) (hg : Gl X x) (hx : Passes CX X E) (hkw : PK X kws tk) (hall : (backToKw pos (keywordEach kws X.env)).all (·.1.isSome) = true := by rfl) (hks : (backToKw pos (keywordEach kws X.env)).filterMap (·.1) = ks := by rfl)
    (hdb : (x == ("__debug__" : Str)) = false := by decide)
    (hpl : ((backTo pos (starEach [] X.env)).any (·.1) || (backToKw pos (keywordEach kws X.env)).any (·.1.isNone)) = false := by rfl) :
    PE X (.Call (.Name x p) [] kws pos) (tCall sp [] E tk) := by
  obtain ⟨f, fd, hm, F, hk, _, hA⟩ := C.ex
  obtain ⟨f', fd', hm', F'⟩ := D
  have e := hm'.symm.trans hm
  cases e
  have e2 := hA.eq (Fun.at_ F')
  subst e2
  have K1 : KBinds X.K fd ps ks (fun us ws => us ++ (ws ++ [])) (fun vs zs => vs ++ (zs ++ [])) := by
    obtain ⟨oc, od, kV, doc, pm, an, cdv, ct, osl, rfl, lk, hcd⟩ := F'.ex
    exact ⟨fun s us ws _ hl => .of_eq (kb kV doc pm an cdv ct us ws hl), fun r r' => r.append (r'.append .nil)⟩
  exact pe_callK0 F hr hg hm hk K1 hx hkw hall hks hdb hpl
end Kb
/-! ### enumerate(v, start=k): v a list or a tuple that stands still -/
namespace Kb
open PySem PySem.Spec PyProof.Rows L2
/-- a thing at a that is walked by an iterator of its own: St H xs tells that it holds xs, Ar h its that the machine's object does, At h it i that the iterator stands at i -/
structure Src (K : PySem.W.Frag) (a : Addr) (S : Hp → List V → Prop) (Ar : Heap → Array Value → Prop) (At : Heap → Addr → Nat → Prop) (ob : Obj) : Prop where
  get : ∀ {X : Cx} {pins : List (Addr × Obj)} {σ : L2.St} {H : Hp} {s : Shared} {xs : List V}, X.K = K → Inv X pins σ H s → S H xs → ∃ its : List Value, Vals xs its ∧ Ar s.heap its.toArray
  inj : ∀ {X : Cx} {pins : List (Addr × Obj)} {σ : L2.St} {H : Hp} {s : Shared} {xs ys : List V}, X.K = K → Inv X pins σ H s → S H xs → S H ys → xs = ys
  lives : ∀ {h : Heap} {its : Array Value}, Ar h its → ∃ o, h.get? a = some o
  iobj : ∀ {h : Heap} {it : Addr} {i : Nat}, At h it i → ∃ o, h.get? it = some o ∧ ∀ v, o.data ≠ .cell v
  ikeep : ∀ {h h' : Heap} {it : Addr} {i : Nat}, At h it i → (∀ o, h.get? it = some o → h'.get? it = some o) → At h' it i
  draw : ∀ (prog : Program) (w : World) (A : Around) (it : Addr) (its : Array Value), A.handled = none → a ≠ it → Draws prog w A it [it, a] its.size (fun i v => its[i]? = some v) (fun i h => At h it i ∧ Ar h its)
  begin : ∀ its, Begins (.ref a) ob fun h => Ar h its
  first : ∀ {h : Heap} {it : Addr}, h.get? it = some ob → At h it 0
theorem src_list (K : PySem.W.Frag) (a : Addr) : Src K a (fun H xs => SqL K H a xs) (fun h its => h.IsList a its) (fun h it i => h.IsListIter it a i) { cls := .type "list_iterator", data := .fields #[.ref a, .int 0 0] } where
  get := fun hK I h => by
    subst hK
    obtain ⟨its, r, p, _⟩ := I.list h
    exact ⟨its, r, p.isList⟩
  inj := fun hK I h h' => by
    subst hK
    exact I.list_inj h h'
  lives := fun ⟨o, e, _⟩ => ⟨o, e⟩
  iobj := fun ⟨o, e, _, d⟩ => ⟨o, e, fun v z => by rw [d] at z; cases z⟩
  ikeep := fun st k => st.at k
  draw := fun prog w A it its hh ne => Draws.list hh it a ne its
  begin := fun its => begins_list a its
  first := fun e => ⟨_, e, rfl, rfl⟩
theorem src_tup (K : PySem.W.Frag) (a : Addr) : Src K a (fun H xs => SqT K H a xs) (fun h its => h.IsTuple a its) (fun h it i => h.IsTupleIter it a i) { cls := .type "tuple_iterator", data := .fields #[.ref a, .int 0 0] } where
  get := fun hK I h => by
    subst hK
    obtain ⟨its, r, p, _⟩ := I.tuple h
    exact ⟨its, r, p⟩
  inj := fun hK I h h' => by
    subst hK
    exact I.tuple_inj h h'
  lives := fun ⟨o, e, _⟩ => ⟨o, e⟩
  iobj := fun ⟨o, e, _, d⟩ => ⟨o, e, fun v z => by rw [d] at z; cases z⟩
  ikeep := fun st k => st.at k
  draw := fun prog w A it its hh ne => Draws.tuple hh it a ne its
  begin := fun its => begins_tuple a its
  first := fun e => ⟨_, e, rfl, rfl⟩
def ItS (S : Hp → List V → Prop) (k : Int) : It :=
  ⟨fun i H => ∃ xs x, S H xs ∧ xs[i]? = some x, fun i H v H' => ∃ T x, v = .ref T ∧ H T = none ∧ H' = upd H T (.tup [.int (k + (i : Nat)), x]) ∧ ∀ xs, S H xs → xs[i]? = some x, fun i H => ∃ xs : List V, S H xs ∧ xs.length = i⟩
section
variable {K : PySem.W.Frag} {a : Addr} {S : Hp → List V → Prop} {Ar : Heap → Array Value → Prop} {At : Heap → Addr → Nat → Prop} {ob : Obj}
theorem turn_enumS (sr : Src K a S Ar At ob) {P : Program} {w : World} {elts : List Expr} {kk : Nat} {tpos : Pos} (k : Int) (e it : Addr) (hai : a ≠ it) (hei : e ≠ it) (hea : e ≠ a) :
    Turn P w K (.Tuple elts kk tpos) (ItS S k) [e, it] e (fun i h => (∃ old, IsEnum h e it (k + (i : Nat)) old) ∧ At h it i) where
  mem := List.mem_cons_self
  obj := fun i h ⟨⟨old, he⟩, hi⟩ b hb => by
    rcases List.mem_cons.mp hb with z | z
    · subst z
      exact ⟨_, he, fun v q => nomatch q⟩
    · rw [List.mem_singleton.mp z]
      exact sr.iobj hi
  keep := fun i h h' ⟨⟨old, he⟩, hi⟩ kp => ⟨⟨old, kp e List.mem_cons_self _ he⟩, sr.ikeep hi fun o q => kp it (List.mem_cons_of_mem _ (List.mem_singleton.mpr rfl)) o q⟩
  item := fun X hP hw hK hc i pins s σ H E I hf st hg => by
    subst hP hw
    obtain ⟨xs, x, hS, hx⟩ := hg
    obtain ⟨its, rv, hA⟩ := sr.get hK I hS
    have hlen := rv.length
    have hil : i < its.toArray.size := by
      have := (List.getElem?_eq_some_iff.mp hx).1
      simp only [List.size_toArray]
      omega
    have D := sr.draw X.prog X.w X.A.in1 it its.toArray (I.ok.hd hc) hai
    have hef : e ∉ [it, a] := fun z => by
      rcases List.mem_cons.mp z with q | q
      · exact hei q
      · exact hea (List.mem_singleton.mp q)
    refine (GoesN.enumFrom (elts := elts) (x1 := kk) (pos := tpos) k D e hei hef List.mem_cons_self).goes i s _ E hil ⟨st.1, st.2, hA⟩ fun v h' tk hY st' hk _ => ?_
    obtain ⟨T, t, u, rfl, hT, hu, hTup⟩ := hY
    have hx2 : its[i]? = some u := by simpa using hu
    obtain ⟨u', hu', ru⟩ := rv.get hx
    rw [hx2] at hu'
    cases hu'
    have hk' : ∀ b o, b ∉ [e, it] → s.heap.get? b = some o → h'.get? b = some o := hk
    have new : ObjOk X.prog X.w (upd H T (.tup [.int (k + (i : Nat)), x])) h' T (.tup [.int (k + (i : Nat)), x]) := ⟨by show 2 ≤ sizeLine; decide, _, .cons ⟨_, rfl⟩ (.cons ru .nil), hTup⟩
    refine ⟨.ref T, _, I.turnedNew (t' := tk) hk' hf hT new, rfl, ⟨T, x, rfl, I.hok.fresh hT, rfl, fun ys hy => by rw [sr.inj hK I hy hS]; exact hx⟩, ⟨st'.1, st'.2.1⟩, fun b hb => ?_⟩
    obtain ⟨o, hbo⟩ : ∃ o, s.heap.get? b = some o := by
      rcases List.mem_cons.mp hb with z | z
      · rw [z]
        obtain ⟨old, q⟩ := st.1
        exact ⟨_, q⟩
      · rw [List.mem_singleton.mp z]
        obtain ⟨o, q, _⟩ := sr.iobj st.2
        exact ⟨o, q⟩
    rw [upd_ne (Nat.ne_of_lt (Nat.lt_of_lt_of_le (Heap.lt_size hbo) hT))]
    exact (hf b hb).1
  done := fun X hP hw hK hc i pins s σ H E I hf st hg => by
    subst hP hw
    obtain ⟨xs, hS, hx⟩ := hg
    obtain ⟨its, rv, hA⟩ := sr.get hK I hS
    have hlen := rv.length
    have D := sr.draw X.prog X.w X.A.in1 it its.toArray (I.ok.hd hc) hai
    have ei : i = its.toArray.size := by
      simp only [List.size_toArray]
      omega
    subst ei
    obtain ⟨f0, f1, f2, f3, f4, f5⟩ := hf it (List.mem_cons_of_mem _ (List.mem_singleton.mpr rfl))
    obtain ⟨old, he⟩ := st.1
    exact wpAny_pyNext_enum_endD D he ⟨st.2, hA⟩ fun h' eb => ⟨rfl, I.turned (t' := s.toks) (fun b o hb q => eb b o hb q) f0 f1 f3 f4 f5⟩
  self := fun A i s Q E st h => let ⟨⟨_, he⟩, _⟩ := st; wpAny_pyIter_enum he h
end
/-- enumerate(v, start=k) -/
@[irreducible] def iEnumS (K : PySem.W.Frag) (ta : TA) (tk : TE) : TI := fun σ H R => ta σ H fun vs H1 => tk σ H1 fun z H2 => ∃ a k, vs = [.ref a] ∧ z = .int k ∧ (-9223372036854775808 ≤ k ∧ k < 9223372036854775808) ∧
  ((∃ xs, SqL K H2 a xs ∧ R (ItS (fun H xs => SqL K H a xs) k) H2) ∨ ∃ xs, SqT K H2 a xs ∧ R (ItS (fun H xs => SqT K H a xs) k) H2)
section
variable {X : Cx} {e ke : Expr} {ta : TA} {tk : TE} {p pos kpos tpos : Pos} {elts : List Expr} {kk : Nat}
theorem enumS_go {K : PySem.W.Frag} {a : Addr} {S : Hp → List V → Prop} {Ar : Heap → Array Value → Prop} {At : Heap → Addr → Nat → Prop} {ob : Obj} (hK : X.K = K) (sr : Src K a S Ar At ob) {pins : List (Addr × Obj)} {s : Shared} {σ : L2.St} {H : Hp} {R : It → Hp → Prop} {xs : List V} {k : Int} {t : Tok}
    (I : Inv X pins σ H s) (hS : S H xs) (h0 : -9223372036854775808 ≤ k) (h1 : k < 9223372036854775808) (q : R (ItS S k) H) :
    wpAny (model X.prog X.w) X.A (PySem.call (.type "enumerate") [.ref a] [(Str.ofString "start", .int k t)]) (fun v s1 => wpAny (model X.prog X.w) X.A (pyIter v) (PIE X pins σ (.Tuple elts kk tpos) R) X.xe s1) X.xe s := by
  obtain ⟨its, rv, hA⟩ := sr.get hK I hS
  subst hK
  refine enum_begins_start (sr.begin its.toArray) hA (by omega) (by omega) fun h' he hit hsz hk => wpAny_pyIter_enum he ?_
  have I2 : Inv X pins σ H { s with heap := h' } := I.kept (t' := s.toks) hk
  obtain ⟨o, ho⟩ := sr.lives hA
  have hlt := Heap.lt_size ho
  refine ⟨s.heap.objs.size + 1, [s.heap.objs.size + 1, s.heap.objs.size], _, _, H, rfl, I2, turn_enumS sr k (s.heap.objs.size + 1) s.heap.objs.size (Nat.ne_of_lt hlt) (Nat.succ_ne_self _) (Nat.ne_of_gt (Nat.lt_succ_of_lt hlt)), ⟨⟨.none, ?_⟩, sr.first hit⟩, fun b hb => ?_, q⟩
  · have e0 : k + ((0 : Nat) : Int) = k := by omega
    rw [e0]
    exact he
  · have hle : s.heap.objs.size ≤ b := by
      rcases List.mem_cons.mp hb with z | z
      · rw [z]
        exact Nat.le_succ _
      · rw [List.mem_singleton.mp z]
        exact Nat.le_refl _
    exact I.fpOk hle (I.hok.fresh hle)
/-- a built-in class called with names -/
theorem callTy_kw {M : Model} {A : Around} {E : Value → Shared → Prop} {s : Shared} {env : Env} {T : String} {kws : List Keyword} {Q : Value → Shared → Prop}
    (h : wpAny M A (spliced (backTo pos (starEach [e] env))) (fun vs s1 => wpAny M A (evalAll ((backToKw pos (keywordEach kws env)).map (·.2)))
      (fun ks s2 => wpAny M A (PySem.call (.type T) vs (((backToKw pos (keywordEach kws env)).filterMap (·.1)).zip ks)) Q E s2) E s1) E s)
    (he : backTo pos (starEach [e] env) = (false, eval e env) :: backTo pos (starEach [] env)) (hp : ((backTo pos (starEach [e] env)).any (·.1) || (backToKw pos (keywordEach kws env)).any (·.1.isNone)) = false)
    (ha : (backToKw pos (keywordEach kws env)).all (·.1.isSome) = true) :
    wpAny M A (callWith pos (.type T) [] (backTo pos (starEach [e] env)) (backToKw pos (keywordEach kws env))) Q E s := by
  refine PySem.W.callWith_of (P := fun _ => True) hp (fun _ _ => ⟨.machine, .inr (.inl rfl), .now⟩) ?_
  rw [he] at h ⊢
  exact evalArgs_kwB ha (thn h fun vs s1 h1 => thn h1 fun ks s2 h2 => ⟨trivial, h2⟩)
theorem pi_enumS (hg : Gl X "enumerate") (hm : X.mg "enumerate" = none) (ha : PA X [e] ta) (hk : PE X ke tk)
    (he : backTo pos (starEach [e] X.env) = (false, eval e X.env) :: backTo pos (starEach [] X.env) := by rfl)
    (hp : ((backTo pos (starEach [e] X.env)).any (·.1) || (backToKw pos (keywordEach [⟨some "start", ke, kpos⟩] X.env)).any (·.1.isNone)) = false := by rfl)
    (hall : (backToKw pos (keywordEach [⟨some "start", ke, kpos⟩] X.env)).all (·.1.isSome) = true := by rfl) (hks : (backToKw pos (keywordEach [⟨some "start", ke, kpos⟩] X.env)).filterMap (·.1) = [Str.ofString "start"] := by rfl) :
    PI X (.Tuple elts kk tpos) (.Call (.Name "enumerate" p) [e] [⟨some "start", ke, kpos⟩] pos) (iEnumS X.K ta tk) := by
  unfold iEnumS
  refine ⟨fun pins s σ H R I h => ?_⟩
  refine wpAny_Call_Name_kw (ld_blt I hg hm boot_enumerate ?_ (by decide) (by decide))
  have hkw : PK X [⟨some "start", ke, kpos⟩] (tCons tk tNil) := pk_cons hk pk_nil
  refine callTy_kw (thn (ha.run pos pins s σ H _ I h) fun us s1 hh => ?_) he hp hall
  obtain ⟨vs, H1, I1, r1, q1⟩ := hh
  refine thn (hkw.run pos pins s1 σ H1 (fun zs H2 => match zs with
    | [z] => ∃ a k, vs = [.ref a] ∧ z = .int k ∧ (-9223372036854775808 ≤ k ∧ k < 9223372036854775808) ∧
      ((∃ xs, SqL X.K H2 a xs ∧ R (ItS (fun H xs => SqL X.K H a xs) k) H2) ∨ ∃ xs, SqT X.K H2 a xs ∧ R (ItS (fun H xs => SqT X.K H a xs) k) H2)
    | _ => False) I1 q1) fun ws s2 hh => ?_
  obtain ⟨zs, H2, I2, r2, q2⟩ := hh
  obtain ⟨z, rfl⟩ : ∃ z, zs = [z] := by
    match zs, q2 with
    | [z], _ => exact ⟨z, rfl⟩
  obtain ⟨a, k, rfl, rfl, ⟨h0, h1⟩, q2⟩ := q2
  rw [hks]
  obtain ⟨u, rfl, ru⟩ := vals1 r1
  obtain ⟨v, rfl, rv⟩ := vals1 r2
  cases ru
  obtain ⟨t, rfl⟩ := rv
  rcases q2 with ⟨xs, hS, q⟩ | ⟨xs, hS, q⟩
  · exact enumS_go rfl (src_list X.K a) I2 hS h0 h1 q
  · exact enumS_go rfl (src_tup X.K a) I2 hS h0 h1 q
end
theorem walk_enumS {S : Hp → List V → Prop} {k : Int} {xs : List V} : Walk (ItS S k) xs.length (fun H => S H xs) (fun i H v H' => ∃ T x, v = .ref T ∧ H T = none ∧ H' = upd H T (.tup [.int (k + (i : Nat)), x]) ∧ xs[i]? = some x) :=
  ⟨fun i _ hi q => ⟨xs, xs[i], q, by simp [hi]⟩, fun _ q => ⟨xs, q, rfl⟩, fun _ _ _ _ _ q ⟨T, x, a, b, c, d⟩ => ⟨T, x, a, b, c, d xs q⟩⟩
/-! ### a list or a tuple walked -/
def SqS (K : PySem.W.Frag) (H : Hp) (a : Addr) (xs : List V) : Prop := SqL K H a xs ∨ SqT K H a xs
@[irreducible] def iSeq (K : PySem.W.Frag) (te : TE) : TI := fun σ H R => te σ H fun x H1 => ∃ a, x = .ref a ∧ ((∃ xs, SqL K H1 a xs ∧ R (Itl K a) H1) ∨ ∃ xs, SqT K H1 a xs ∧ R (Itt K a) H1)
theorem pi_seq {X : Cx} {tg e : Expr} {te : TE} (he : PE X e te) : PI X tg e (iSeq X.K te) := by
  unfold iSeq
  refine ⟨fun pins s σ H R I h => ?_⟩
  refine thn (he.run pins s σ H _ I h) fun v s1 hh => ?_
  obtain ⟨x, H1, I1, r1, a, e, q⟩ := hh
  subst e
  cases r1
  rcases q with ⟨xs, hq, q⟩ | ⟨xs, hq, q⟩
  · obtain ⟨its, rv, p, hz⟩ := I1.list hq
    refine wpAny_pyIter_list p.isList ⟨s1.heap.objs.size, [s1.heap.objs.size], _, _, H1, rfl, ?_, turn_list a _, ⟨_, Heap.get?_push_size _ rfl, rfl, rfl⟩, fun b hb => ?_, q⟩
    · exact I1.kept (t' := s1.toks) fun b o e => Heap.get?_push_of_some _ e
    · rw [List.mem_singleton.mp hb]
      exact I1.fpOk (Nat.le_refl _) (I1.hok.fresh (Nat.le_refl _))
  · obtain ⟨its, rv, p, hz⟩ := I1.tuple hq
    refine wpAny_pyIter_tuple (show s1.heap.IsTuple a its.toArray from p) ⟨s1.heap.objs.size, [s1.heap.objs.size], _, _, H1, rfl, ?_, turn_tuple a _, ⟨_, Heap.get?_push_size _ rfl, rfl, rfl⟩, fun b hb => ?_, q⟩
    · exact I1.kept (t' := s1.toks) fun b o e => Heap.get?_push_of_some _ e
    · rw [List.mem_singleton.mp hb]
      exact I1.fpOk (Nat.le_refl _) (I1.hok.fresh (Nat.le_refl _))
end Kb
/-! ### == of lists of ints -/
namespace Kb
open PySem PySem.Spec PyProof.Rows L2
section
variable {K : PySem.W.Frag} {H : Hp} {Q : VK} {a b : Addr} {xs ys : List Int}
theorem eqI_go (hx : SqL K H a (xs.map V.int)) (hy : SqL K H b (ys.map V.int)) (q : Q (.bl (decide (xs = ys))) H) : rEqU K (.ref a) (.ref b) H Q :=
  eqD_go (.lst hx (dp_ints xs)) (.lst hy (dp_ints ys)) (sh_ints.ok (by decide)) (sh_ints.ok (by decide)) (by rw [eqv_ints]; exact q)
theorem neI_go (hx : SqL K H a (xs.map V.int)) (hy : SqL K H b (ys.map V.int)) (q : Q (.bl (!decide (xs = ys))) H) : rNeU K (.ref a) (.ref b) H Q :=
  neD_go (.lst hx (dp_ints xs)) (.lst hy (dp_ints ys)) (sh_ints.ok (by decide)) (sh_ints.ok (by decide)) (by rw [eqv_ints]; exact q)
theorem eqI0_go (hx : SqL K H a (xs.map V.int)) (hy : SqL K H b []) (q : Q (.bl (decide (xs = []))) H) : rEqU K (.ref a) (.ref b) H Q := eqI_go (ys := []) hx hy q
theorem neI0_go (hx : SqL K H a (xs.map V.int)) (hy : SqL K H b []) (q : Q (.bl (!decide (xs = []))) H) : rNeU K (.ref a) (.ref b) H Q := neI_go (ys := []) hx hy q
end
theorem none_of {H H' : Hp} {p : Addr} (k : Kp [] H H') (h : H' p = none) : H p = none := k.none_of List.not_mem_nil h
theorem Kp.new {H H' : Hp} {p : Addr} {o : HO} (k : Kp [] H H') (h : H' p = none) : Kp [] H (upd H' p o) := Kp.upd_new' k h
end Kb
/-! ### a list or a tuple, whichever -/
namespace Kb
open PySem PySem.Spec PyProof.Rows L2
def Inn (H : Hp) (a : Addr) (xs : List V) : Prop := H a = some (.lst xs) ∨ H a = some (.tup xs)
theorem Inn.kp {H H' : Hp} {a : Addr} {xs : List V} (h : Inn H a xs) (k : Kp [] H H') : Inn H' a xs :=
  h.elim (fun e => .inl (k.at_ List.not_mem_nil e)) fun e => .inr (k.at_ List.not_mem_nil e)
theorem Inn.kpX {L : List Addr} {H H' : Hp} {a : Addr} {xs : List V} (h : Inn H a xs) (k : Kp L H H') (n : a ∉ L) : Inn H' a xs :=
  h.elim (fun e => .inl (k.at_ n e)) fun e => .inr (k.at_ n e)
section
variable {K : PySem.W.Frag} {H : Hp} {Q : VK} {a : Addr} {xs : List V}
theorem list_goI (h : Inn H a xs) (q : ∀ p, H p = none → Q (.ref p) (upd H p (.lst xs))) : rListU K [.ref a] H Q :=
  h.elim (fun e => list_goL (SqL.of e) q) fun e => list_goT (SqT.of e) q
theorem tuple_goI (h : Inn H a xs) (q1 : H a = some (.lst xs) → rTupleU K [.ref a] H Q) (q2 : H a = some (.tup xs) → rTupleU K [.ref a] H Q) : rTupleU K [.ref a] H Q := h.elim q1 q2
theorem seq_go {te : TE} {σ : L2.St} {R : It → Hp → Prop} (q : te σ H fun x H1 => ∃ a xs, x = .ref a ∧ Inn H1 a xs ∧ ∀ J G, Walk J xs.length G (YAt xs) → (∀ H', (H1 a = H' a) → G H') → R J H1) (m : ∀ {H} {p q : V → Hp → Prop}, (∀ x H, p x H → q x H) → te σ H p → te σ H q) : iSeq K te σ H R := by
  unfold iSeq
  refine m ?_ q
  rintro x H1 ⟨a, xs, rfl, e | e, k⟩
  · exact ⟨a, rfl, .inl ⟨xs, SqL.of e, k _ _ walk_list fun H' hh => SqL.of (hh ▸ e)⟩⟩
  · exact ⟨a, rfl, .inr ⟨xs, SqT.of e, k _ _ walk_tup fun H' hh => SqT.of (hh ▸ e)⟩⟩
theorem seqV_go {n : Nat} {σ : L2.St} {R : It → Hp → Prop} (e : σ[n]? = some (some (.ref a))) (h : Inn H a xs) (q : ∀ J G, Walk J xs.length G (YAt xs) → (∀ H', (H a = H' a) → G H') → R J H) : iSeq K (tVar n) σ H R :=
  seq_go ⟨_, e, a, xs, rfl, h, q⟩ fun {H p q} hh => fun ⟨x, e, z⟩ => ⟨x, e, hh _ _ z⟩
theorem enSV_go {n : Nat} {σ : L2.St} {k : Int} {R : It → Hp → Prop} (e : σ[n]? = some (some (.ref a))) (hk : -9223372036854775808 ≤ k ∧ k < 9223372036854775808) (h : Inn H a xs)
    (q : ∀ J G, Walk J xs.length G (fun i H v H' => ∃ T x, v = .ref T ∧ H T = none ∧ H' = upd H T (.tup [.int (k + (i : Nat)), x]) ∧ xs[i]? = some x) → (∀ H', (H a = H' a) → G H') → R J H) : iEnumS K (tCons (tVar n) tNil) (tC (.int k)) σ H R := by
  unfold iEnumS
  refine ⟨_, e, a, k, rfl, rfl, hk, ?_⟩
  rcases h with e | e
  · exact .inl ⟨xs, SqL.of e, q _ _ walk_enumS fun H' hh => SqL.of (hh ▸ e)⟩
  · exact .inr ⟨xs, SqT.of e, q _ _ walk_enumS fun H' hh => SqT.of (hh ▸ e)⟩
end
theorem gTup_go {K : PySem.W.Frag} {H : Hp} {a : Addr} {xs : List V} {n : Nat} {t : TGs} {σ : L2.St} {Q : L2.St → Hp → Prop} (h : SqT K H a xs) (hl : xs.length = n) (q : t xs σ H Q) : gTup K n t (.ref a) σ H Q := ⟨a, xs, rfl, h, hl, q⟩
theorem Inn.upd {H : Hp} {a p : Addr} {xs : List V} {o : HO} (h : Inn H a xs) (n : H p = none) : Inn (upd H p o) a xs := h.kp (Kp.refl.new n)
theorem Inn.same {H H' : Hp} {a : Addr} {xs : List V} (h : Inn H a xs) (k : Kp [] H H') : H a = H' a :=
  h.elim (fun e => e.trans (k.at_ List.not_mem_nil e).symm) fun e => e.trans (k.at_ List.not_mem_nil e).symm
theorem Inn.newNe {H : Hp} {a p : Addr} {xs : List V} (h : Inn H a xs) (n : H p = none) : a ≠ p := by
  rintro rfl
  rcases h with e | e <;> rw [e] at n <;> cases n
end Kb
/-! ### lists of lists of ints -/
namespace Kb
open PySem PySem.Spec PyProof.Rows L2
def LL (H : Hp) (us : List V) (pss : List (List Int)) : Prop := us.length = pss.length ∧
  ∀ (i : Nat) (v : V), us[i]? = some v → ∃ a ps, pss[i]? = some ps ∧ v = V.ref a ∧ H a = some (.lst (ps.map V.int))
theorem LL.dp {K : PySem.W.Frag} {H : Hp} : ∀ {us : List V} {pss : List (List Int)}, LL H us pss → DpAll K H us (pss.map fun ps => PyData.list (ps.map PyData.int))
  | [], [], _ => .nil
  | [], p :: pss, h => by cases h.1
  | u :: us, [], h => by cases h.1
  | u :: us, p :: pss, h => by
    obtain ⟨a, ps, h1, rfl, h3⟩ := h.2 0 u rfl
    cases h1
    refine .cons (.lst (SqL.of h3) (dp_ints p)) (LL.dp ⟨by have := h.1; simp at this; exact this, fun i v e => ?_⟩)
    obtain ⟨a, ps, h1, h2, h3⟩ := h.2 (i + 1) v (by simpa using e)
    exact ⟨a, ps, by simpa using h1, h2, h3⟩
theorem sh_ll {pss : List (List Int)} : Sh 2 (.list (pss.map fun ps => PyData.list (ps.map PyData.int))) := sh_lst (n := 1) fun d h => by
  obtain ⟨i, _, rfl⟩ := List.mem_map.mp h
  exact sh_ints
theorem LL.kp {M : List Addr} {H H' : Hp} {us : List V} {pss : List (List Int)} (h : LL H us pss) (k : Kp M H H') (m : ∀ a ∈ M, H a = none) : LL H' us pss := ⟨h.1, fun i v e => by
  obtain ⟨a, ps, h1, h2, h3⟩ := h.2 i v e
  exact ⟨a, ps, h1, h2, k.at_ (fun z => by rw [m a z] at h3; cases h3) h3⟩⟩
theorem LL.kp0 {H H' : Hp} {us : List V} {pss : List (List Int)} (h : LL H us pss) (k : Kp [] H H') : LL H' us pss := h.kp k fun a z => nomatch z
/-- two lists of lists that hold alike are not unlike -/
theorem neLL_go {K : PySem.W.Frag} {H : Hp} {Q : VK} {a b : Addr} {us vs : List V} {pss : List (List Int)} (ha : SqL K H a us) (hb : SqL K H b vs) (hu : LL H us pss) (hv : LL H vs pss) (q : Q (.bl false) H) : rNeU K (.ref a) (.ref b) H Q :=
  neD_go (.lst ha hu.dp) (.lst hb hv.dp) (sh_ll.ok (by decide)) (sh_ll.ok (by decide)) (by rw [SeqAt.eqv_refl _ sh_ll.1]; exact q)
end Kb
/-! ### a comprehension within a comprehension -/
namespace Kb
open PySem PySem.Spec PyProof.Rows L2
theorem lookup_rel {c : Str → NameKind → Bool} : ∀ (l : List (Str × NameKind)) (x : Str), (l.lookup x = some .cell ∨ l.lookup x = some .free) →
    ((l.map fun (n, k) => if c n k then (n, NameKind.cell) else (n, k)).lookup x = some .cell ∨ (l.map fun (n, k) => if c n k then (n, NameKind.cell) else (n, k)).lookup x = some .free)
  | [], x, h => by rcases h with h | h <;> cases h
  | (n, k) :: l, x, h => by
    rw [List.lookup_cons] at h
    rw [List.map_cons]
    by_cases e : (x == n) = true
    · rw [e] at h
      dsimp only at h ⊢
      by_cases hc : c n k = true
      · rw [if_pos hc, List.lookup_cons, e]
        exact .inl rfl
      · rw [if_neg hc, List.lookup_cons, e]
        exact h
    · have e : (x == n) = false := by simpa using e
      rw [e] at h
      have ih := lookup_rel (c := c) l x h
      dsimp only
      by_cases hc : c n k = true
      · rw [if_pos hc, List.lookup_cons, e]
        exact ih
      · rw [if_neg hc, List.lookup_cons, e]
        exact ih
theorem blkOk_in {N : List Str} {scope0 scope : Scope} {env : Env} {own : List (Str × Nat)} (h : blkC N scope0 scope own = true) : BlkOk N (relabel scope0 env) scope own := by
  have b := blkOk_by h
  exact ⟨b.kind, b.uniq, b.ix, fun y hy e => lookup_rel (c := fun n k => k == .free && env.scope.kind == .function && env.kindOf n == some .cell) scope0.names y.1 (b.free y hy e), b.own⟩
end Kb
/-! ### objects of an own class: attributes, methods, making -/
namespace Kb
open PySem PySem.Spec PyProof.Rows L2
@[irreducible] def rFldU (K : PySem.W.Frag) (f : Str) : V → Hp → VK → Prop := fun x H Q => ∃ a C dx fs v, x = .ref a ∧ H a = some (.ins C dx fs) ∧ Cls K C ∧ NoAttr K C f ∧ fs.lookup f = some v ∧ Q v H
@[irreducible] def rPutU (K : PySem.W.Frag) (f : Str) : V → V → Hp → (Hp → Prop) → Prop := fun x y H Q => ∃ a C dx fs, x = .ref a ∧ H a = some (.ins C dx fs) ∧ Cls K C ∧ NoAttr K C f ∧ fs.length < 1000 ∧ Q (upd H a (.ins C dx (putF f y fs)))
@[irreducible] def rAugU (K : PySem.W.Frag) (tv : TE) (rd : V → V → Hp → VK → Prop) (f : Str) : V → L2.St → Hp → (Hp → Prop) → Prop := fun x σ H Q => ∃ a C dx fs v, x = .ref a ∧ H a = some (.ins C dx fs) ∧ Cls K C ∧ NoAttr K C f ∧ fs.lookup f = some v ∧
  tv σ H fun y H2 => rd v y H2 fun z H3 => ∃ dx' fs', H3 a = some (.ins C dx' fs') ∧ fs'.length < 1000 ∧ Q (upd H3 a (.ins C dx' (putF f z fs')))
@[irreducible] def rRcvU (C : Addr) (m : Str) : V → Hp → Prop → Prop := fun x H Z => ∃ a dx fs, x = .ref a ∧ H a = some (.ins C dx fs) ∧ fs.lookup m = none ∧ Z
def sFldU (K : PySem.W.Frag) (ta tv : TE) (f : Str) : TS := fun D σ H => tv σ H fun y H1 => ta σ H1 fun x H2 => rPutU K f x y H2 fun H3 => D.nx σ H3
def sFldAugU (K : PySem.W.Frag) (ta tv : TE) (rd : V → V → Hp → VK → Prop) (f : Str) : TS := fun D σ H => ta σ H fun x H1 => rAugU K tv rd f x σ H1 fun H4 => D.nx σ H4
def tMethU (C : Addr) (m : Str) (sp : Sp) (E : XK) (ta : TE) (t : TA) : TE := fun σ H Q => ta σ H fun x H1 => rRcvU C m x H1 (t σ H1 fun vs H2 => sp (x :: vs) H2 Q E)
section
variable {X : Cx} {o e value : Expr} {f : Str} {pos pos' tpos : Pos} {ta tv : TE}
theorem pe_fldU (he : PE X e ta) (hb : attributeBase e f X.env (eval e X.env) = eval e X.env) : PE X (.Attribute e f pos) (tUn (rFldU X.K f) ta) := by
  unfold tUn rFldU
  exact pe_fld he hb
theorem ps_fldU (ha : PE X o ta) (hv : PE X value tv) (hs : swapsWith value (some (.Attribute o f pos')) pos.line X.env = pure false) : PS X (.Assign [.Attribute o f pos'] value pos) (sFldU X.K ta tv f) := by
  unfold sFldU rPutU
  exact ps_fld ha hv hs
theorem ps_fldaugU {op : Operator} {rd : V → V → Hp → VK → Prop} (ha : PE X o ta) (hv : PE X value tv) (hop : PIp X op rd) : PS X (.AugAssign (.Attribute o f tpos) op value pos) (sFldAugU X.K ta tv rd f) := by
  unfold sFldAugU rAugU
  exact ps_fldaug ha hv hop
end
section
variable {K : PySem.W.Frag} {H : Hp} {Q : VK} {a C dx : Addr} {fs fs' : List (Str × V)} {f m : Str} {v y : V}
theorem fld_go (h : H a = some (.ins C dx fs)) (c : Cls K C) (n : NoAttr K C f) (l : fs.lookup f = some v) (q : Q v H) : rFldU K f (.ref a) H Q := by
  unfold rFldU
  exact ⟨a, C, dx, fs, v, rfl, h, c, n, l, q⟩
theorem put_go {Q : Hp → Prop} (h : H a = some (.ins C dx fs)) (c : Cls K C) (n : NoAttr K C f) (hl : fs.length < 1000) (e : putF f y fs = fs') (q : Q (upd H a (.ins C dx fs'))) : rPutU K f (.ref a) y H Q := by
  subst e
  unfold rPutU
  exact ⟨a, C, dx, fs, rfl, h, c, n, hl, q⟩
theorem aug_go {Q : Hp → Prop} {tv : TE} {rd : V → V → Hp → VK → Prop} {σ : L2.St} (h : H a = some (.ins C dx fs)) (c : Cls K C) (n : NoAttr K C f) (l : fs.lookup f = some v)
    (q : tv σ H fun y H2 => rd v y H2 fun z H3 => ∃ dx' fs', H3 a = some (.ins C dx' fs') ∧ fs'.length < 1000 ∧ Q (upd H3 a (.ins C dx' (putF f z fs')))) : rAugU K tv rd f (.ref a) σ H Q := by
  unfold rAugU
  exact ⟨a, C, dx, fs, v, rfl, h, c, n, l, q⟩
theorem augE_go {Q : Hp → Prop} {z : V} (h : H a = some (.ins C dx fs)) (hl : fs.length < 1000) (e : putF f z fs = fs') (q : Q (upd H a (.ins C dx fs'))) : ∃ dx' fs', H a = some (.ins C dx' fs') ∧ fs'.length < 1000 ∧ Q (upd H a (.ins C dx' (putF f z fs'))) := by
  subst e
  exact ⟨dx, fs, h, hl, q⟩
theorem rcv_go {Z : Prop} (h : H a = some (.ins C dx fs)) (l : fs.lookup m = none) (z : Z) : rRcvU C m (.ref a) H Z := by
  unfold rRcvU
  exact ⟨a, dx, fs, rfl, h, l, z⟩
theorem lk_here {k : Str} {v : V} {r : List (Str × V)} : List.lookup k ((k, v) :: r) = some v := by
  have e : (k == k) = true := beq_self_eq_true k
  simp only [List.lookup, e]
theorem lk_past {k g : Str} {v : V} {r : List (Str × V)} {o : Option V} (h : (k == g) = false) (q : List.lookup k r = o) : List.lookup k ((g, v) :: r) = o := by
  simp only [List.lookup, h]
  exact q
theorem put_here {f : Str} {v x : V} {r : List (Str × V)} : putF f v ((f, x) :: r) = (f, v) :: r := if_pos rfl
theorem put_past {f g : Str} {v x : V} {r r' : List (Str × V)} (h : ¬ g = f) (q : putF f v r = r') : putF f v ((g, x) :: r) = (g, x) :: r' := by
  subst q
  exact if_neg h
theorem put_nil {f : Str} {v : V} : putF f v [] = [(f, v)] := rfl
end
/-- the method m of the class at C -/
def DefM (K : PySem.W.Frag) (C : Addr) (st : Stmt) (m qual : Str) : Prop := ∃ f fd, Meth K C m f ∧ Fun K m qual st f fd
structure CalM (P : Program) (w : World) (K : PySem.W.Frag) (mg : Str → Option Value) (base : Heap) (CX : CXT) (k : Nat) (C : Addr) (m : Str) (ps : List Str) (sp : Sp) : Prop where
  ex : ∃ f fd, Meth K C m f ∧ FnOk P w K mg base CX k f fd ps sp ∧ Binds K fd ps []
section
variable {P : Program} {w : World} {K : PySem.W.Frag} {mg : Str → Option Value} {base : Heap}
theorem CalM.of {C : Addr} {m qual : Str} {st : Stmt} {N ps : List Str} {k : Nat} {sp : Sp} (D : DefM K C st m qual) (S : FnScope N ps (defScope st))
    (hb : ∀ (kV doc pm : Value) (an : Option Addr) (cdv ct : Value) (us : List Value), us.length = ps.length → bindArgs (PySem.W.fnOf m qual (defArgs st) (defBody st) (defScope st) .none kV doc pm an cdv ct) ⟨us, []⟩ = pure (ps.zip us))
    (len : ∀ vs H Q E, sp vs H Q E → vs.length = ps.length)
    (hbody : ∀ (f : Addr) (cdv : Value) (A : Around) (outer : List Env) (s : Shared) (H : Hp) (vs : List V) (Q : VK) (E : XK), Room k (A.deeper (envOfC qual (defScope st) s.heap.objs.size f cdv)) → sp vs H Q E →
      ∃ t, PSs (cxOf CX0 P w K mg base N qual (defScope st) f cdv A outer s H E).nox (defBody st) t ∧ t { nx := fun _ H' => Q .non H', rt := Q } (start N vs) H) : CalM P w K mg base CX0 (k + 1) C m ps sp := by
  obtain ⟨f, fd, hm, F⟩ := D
  refine ⟨f, fd, hm, F.ok S len (hbody f), .all ?_⟩
  obtain ⟨oc, od, kV, doc, pm, an, cdv, ct, osl, rfl, lk, hcd⟩ := F.ex
  exact hb kV doc pm an cdv ct
end
section
variable {X : Cx} {CX : CXT} {k : Nat} {C : Addr} {ps : List Str} {sp : Sp} {E : XK} {x m : Str} {p pos apos : Pos} {e o : Expr} {es : List Expr} {ta : TE} {t : TA}
theorem pe_methM {pl : Sem Bool} (he : PE X o ta) (c : Cls X.K C) (M : CalM X.prog X.w X.K X.mg X.base CX k C m ps sp) (hr : Room k X.A) (hx : Passes CX X E) (ha : PA X (e :: es) t)
    (hst : starEach (e :: es) X.env = (false, eval e X.env) :: starEach es X.env := by rfl) (hpl : (backTo pos (starEach es X.env)).any (·.1) = false := by rfl)
    (ht : eval (.Call (.Attribute o m apos) (e :: es) [] pos) X.env = (do
      let ov ← eval o X.env
      standAt apos.atName
      let (f, first) ← holding [ov] (getMethod ov m pl)
      callWith pos f first (backTo pos (starEach (e :: es) X.env)) (backToKw pos (keywordEach [] X.env))) := by rfl) :
    PE X (.Call (.Attribute o m apos) (e :: es) [] pos) (tMethU C m sp E ta t) := by
  obtain ⟨f, fd, hm, F, hb⟩ := M.ex
  have := pe_meth (pos := pos) (apos := apos) (dvs := []) (E := E) he c hm F hr hb .nil hx ha hst hpl ht
  unfold tMethU rRcvU
  unfold tMeth at this
  simpa only [List.append_nil] using this
theorem pe_methM0 {pl : Sem Bool} (he : PE X o ta) (c : Cls X.K C) (M : CalM X.prog X.w X.K X.mg X.base CX k C m ps sp) (hr : Room k X.A) (hx : Passes CX X E)
    (ht : eval (.Call (.Attribute o m apos) [] [] pos) X.env = (do
      let ov ← eval o X.env
      standAt apos.atName
      let (f, first) ← holding [ov] (getMethod ov m pl)
      callWith pos f first (backTo pos (starEach [] X.env)) (backToKw pos (keywordEach [] X.env))) := by rfl) :
    PE X (.Call (.Attribute o m apos) [] [] pos) (tMethU C m sp E ta tNil) := by
  obtain ⟨f, fd, hm, F, hb⟩ := M.ex
  have := pe_meth0 (pos := pos) (apos := apos) (dvs := []) (E := E) he c hm F hr hb .nil hx ht
  unfold tMethU rRcvU
  unfold tMeth at this
  simpa only [List.append_nil] using this
theorem pe_makeM0 (hmk : PySem.W.makesIn X.K C = true) (hkc : PySem.W.keepIn X.K (.ref C) = true) (M : CalM X.prog X.w X.K X.mg X.base CX k C "__init__" ps sp) (hr : Room (k + 1) X.A) (hg : Gl X x) (hm : X.mg x = some (.ref C)) (hx : Passes CX X E)
    (hdb : (x == ("__debug__" : Str)) = false := by decide) : PE X (.Call (.Name x p) [] [] pos) (tMake C sp [] E tNil) := by
  obtain ⟨f, fd, hme, F, hb⟩ := M.ex
  exact pe_make0 ⟨hmk, hme.at_, hme.fn, hkc⟩ F hr hg hm hb .nil hx hdb
theorem pe_makeM (hmk : PySem.W.makesIn X.K C = true) (hkc : PySem.W.keepIn X.K (.ref C) = true) (M : CalM X.prog X.w X.K X.mg X.base CX k C "__init__" ps sp) (hr : Room (k + 1) X.A) (hg : Gl X x) (hm : X.mg x = some (.ref C)) (hx : Passes CX X E) (ha : PA X (e :: es) t)
    (hdb : (x == ("__debug__" : Str)) = false := by decide) (he : starEach (e :: es) X.env = (false, eval e X.env) :: starEach es X.env := by rfl) (hpl : (backTo pos (starEach es X.env)).any (·.1) = false := by rfl) :
    PE X (.Call (.Name x p) (e :: es) [] pos) (tMake C sp [] E t) := by
  obtain ⟨f, fd, hme, F, hb⟩ := M.ex
  exact pe_make ⟨hmk, hme.at_, hme.fn, hkc⟩ F hr hg hm hb .nil hx ha hdb he hpl
end
end Kb

open L2 Kb PySem
/-! steps by name: "ne" a ≠ b, "h" H a = some o, "c" a side condition, "l" a list that is read, "s" one step of a reading -/
local macro_rules | `(tactic| walk_at "ne") => `(tactic| first
  | assumption
  | (apply Ne.symm; assumption)
  | (refine' ne_of_none ?kh ?kn; (case kn => assumption); (case kh => walk_at "h"))
  | (refine' Ne.symm (ne_of_none ?kh ?kn); (case kn => assumption); (case kh => walk_at "h"))
  | fail)
local macro_rules | `(tactic| walk_at "nm") => `(tactic| first
  | exact List.not_mem_nil
  | (refine' nm_cons ?kn ?km; (case kn => walk_at "ne"); (case km => walk_at "nm"))
  | fail)
local macro_rules | `(tactic| walk_at "h") => `(tactic| first
  | assumption
  | exact upd_same
  | (refine' (upd_ne ?kn).trans ?kh; (case kn => walk_at "ne"); (case kh => walk_at "h"))
  | (refine' Kp.at_ ?kk ?kn ?kh; (case kk => assumption); (case kn => walk_at "nm"); (case kh => walk_at "h"))
  | (refine' Same.at_ ?kk ?kh; (case kk => assumption); (case kh => walk_at "h"))
  | fail)
local macro_rules | `(tactic| walk_at "c") => `(tactic| first
  | assumption
  | rfl
  | omega
  | decide
  | (simp only [List.length_cons, List.length_nil, List.length_map, List.length_append, List.length_range, List.length_replicate]; omega)
  | fail)
local macro_rules | `(tactic| walk_at "l") => `(tactic| first
  | assumption
  | exact SqL.of (by walk_at "h")
  | (refine Kp.sqL (by assumption) ?_ ?_ <;> first | assumption | walk_at "nm" | walk_at "l")
  | fail)
local macro_rules | `(tactic| walk_at "t") => `(tactic| first
  | assumption
  | exact SqT.of (by walk_at "h")
  | (refine Kp.sqT (by assumption) ?_ ?_ <;> first | assumption | walk_at "nm" | walk_at "t")
  | fail)
local macro_rules | `(tactic| walk_at "i") => `(tactic| first
  | assumption
  | exact .inl (by walk_at "h")
  | exact .inr (by walk_at "h")
  | (refine' Inn.kp (H := ?_) ?k1 ?k2; (case k2 => assumption); (case k1 => walk_at "i"))
  | (refine' Inn.upd ?k1 ?k2; (case k2 => assumption); (case k1 => walk_at "i"))
  | fail)
local macro_rules | `(tactic| walk_at "mem") => `(tactic| first
  | exact List.mem_cons_self
  | (refine' List.mem_cons_of_mem _ ?k1; (case k1 => walk_at "mem"))
  | fail)
local macro_rules | `(tactic| walk_at "kp") => `(tactic| first
  | assumption
  | exact Kp.refl
  | (refine' Kp.upd_in ?k1 ?k2; (case k2 => walk_at "mem"); (case k1 => walk_at "kp"))
  | (refine' Kp.upd_new ?k1 ?k2; (case k2 => assumption); (case k1 => walk_at "kp"))
  | (refine' Kp.upd_new' ?k1 ?k2; (case k2 => assumption); (case k1 => walk_at "kp"))
  | (refine' Kp.upd_new ?k1 ?k2; (case k2 => walk_at "no"); (case k1 => walk_at "kp"))
  | fail)
local macro_rules | `(tactic| walk_at "no") => `(tactic| first
  | assumption
  | (refine' none_of ?k1 ?k2; (case k2 => assumption); (case k1 => walk_at "kp"))
  | fail)
local macro_rules | `(tactic| walk_at "ki") => `(tactic| first
  | exact ki_NoneType_str
  | exact ki_NoneType_int
  | exact ki_NoneType_bool
  | exact ki_NoneType_list
  | exact ki_NoneType_tuple
  | exact ki_NoneType_dict
  | exact ki_bool_str
  | exact ki_bool_int
  | exact ki_bool_bool
  | exact ki_bool_list
  | exact ki_bool_tuple
  | exact ki_bool_dict
  | exact ki_int_str
  | exact ki_int_int
  | exact ki_int_bool
  | exact ki_int_list
  | exact ki_int_tuple
  | exact ki_int_dict
  | exact ki_str_str
  | exact ki_str_int
  | exact ki_str_bool
  | exact ki_str_list
  | exact ki_str_tuple
  | exact ki_str_dict
  | exact ki_list_str
  | exact ki_list_int
  | exact ki_list_bool
  | exact ki_list_list
  | exact ki_list_tuple
  | exact ki_list_dict
  | exact ki_tuple_str
  | exact ki_tuple_int
  | exact ki_tuple_bool
  | exact ki_tuple_list
  | exact ki_tuple_tuple
  | exact ki_tuple_dict
  | exact ki_dict_str
  | exact ki_dict_int
  | exact ki_dict_bool
  | exact ki_dict_list
  | exact ki_dict_tuple
  | exact ki_dict_dict
  | fail)
local macro_rules | `(tactic| walk_at "ty") => `(tactic| first
  | assumption
  | exact .base (.int _)
  | exact .base (.str _)
  | exact .base (.bl _)
  | exact .base .non
  | (refine' .base (.lst ?k1); (case k1 => walk_at "h"))
  | (refine' .base (.tup ?k1); (case k1 => walk_at "h"))
  | (refine' .base (.dK ?k1); (case k1 => walk_at "h"))
  | fail)
local macro_rules | `(tactic| walk_at "lk") => `(tactic| first
  | exact lk_here
  | (refine' lk_past ?k1 ?k2; (case k1 => decide +kernel); (case k2 => walk_at "lk"))
  | rfl
  | fail)
local macro_rules | `(tactic| walk_at "pf") => `(tactic| first
  | exact put_here
  | exact put_nil
  | (refine' put_past ?k1 ?k2; (case k1 => decide +kernel); (case k2 => walk_at "pf"))
  | fail)
local macro_rules | `(tactic| walk_at "s1") => `(tactic| first
  | (refine' add_go  ?kq)
  | (refine' sub_go  ?kq)
  | (refine' mul_goL ?k1 ?k2 ?kq; (case k1 => walk_at "c"); (case k2 => walk_at "c"))
  | (refine' mul_goR ?k1 ?k2 ?kq; (case k1 => walk_at "c"); (case k2 => walk_at "c"))
  | (refine' mod_go ?k1 ?kq; (case k1 => walk_at "c"))
  | (refine' div_go ?k1 ?k2 ?kq; (case k1 => walk_at "c"); (case k2 => walk_at "c"))
  | (refine' eq_go  ?kq)
  | (refine' ne_go  ?kq)
  | (refine' lt_go  ?kq)
  | (refine' le_go  ?kq)
  | (refine' gt_go  ?kq)
  | (refine' ge_go  ?kq)
  | (refine' ixL_go ?k1 ?k2 ?kq; (case k1 => walk_at "l"); (case k2 => rfl))
  | (refine' ixT_go ?k1 ?k2 ?kq; (case k1 => walk_at "t"); (case k2 => rfl))
  | (refine' set_go ?k1 ?k2 ?kq; (case k1 => walk_at "h"); (case k2 => rfl))
  | (refine' eqS_go  ?kq)
  | (refine' neS_go  ?kq)
  | (refine' eqB_go  ?kq)
  | (refine' neB_go  ?kq)
  | (refine' eqN_go  ?kq)
  | (refine' neI0_go ?k1 ?k2 ?kq; (case k1 => walk_at "l"); (case k2 => walk_at "l"))
  | (refine' eqI0_go ?k1 ?k2 ?kq; (case k1 => walk_at "l"); (case k2 => walk_at "l"))
  | (refine' neI_go ?k1 ?k2 ?kq; (case k1 => walk_at "l"); (case k2 => walk_at "l"))
  | (refine' eqI_go ?k1 ?k2 ?kq; (case k1 => walk_at "l"); (case k2 => walk_at "l"))
  | (refine' len_str ?k1 ?kq; (case k1 => walk_at "c"))
  | (refine' len_lst ?k1 ?kq; (case k1 => walk_at "l"))
  | (refine' len_tup ?k1 ?kq; (case k1 => walk_at "t"))
  | (refine' len_dK ?k1 ?kq; (case k1 => walk_at "h"))
  | (refine' isi_go ?k1 ?k2 ?kq; (case k1 => walk_at "ty"); (case k2 => walk_at "ki"))
  | (refine' isi2_go ?k1 ?k2 ?k3 ?k4 ?kq; (case k1 => walk_at "h"); (case k2 => walk_at "ty"); (case k3 => walk_at "ki"); (case k4 => walk_at "ki"))
  | (refine' int_go  ?kq)
  | (refine' intB_go  ?kq)
  | (refine' pow_go ?k1 ?k2 ?k3 ?kq; (case k1 => walk_at "c"); (case k2 => walk_at "c"); (case k3 => walk_at "c"))
  | (refine' neg_go  ?kq)
  | (refine' app_go ?k1 ?k2 ?kq; (case k1 => walk_at "h"); (case k2 => walk_at "c"))
  | (refine' addL_go ?k1 ?k2 ?k3 ?kq; (case k1 => walk_at "h"); (case k2 => walk_at "h"); (case k3 => walk_at "c"))
  | (refine' addLS_go ?k1 ?k2 ?k3 ?kq; (case k1 => walk_at "l"); (case k2 => walk_at "l"); (case k3 => walk_at "c"))
  | (refine' addS_go ?k1 ?kq; (case k1 => walk_at "c"))
  | (refine' rep_go ?k1 ?k2 ?k3 ?k4 ?kq; (case k1 => walk_at "h"); (case k2 => walk_at "c"); (case k3 => walk_at "c"); (case k4 => walk_at "c"))
  | (refine' iadd_go  ?kq)
  | (refine' iaddL_go ?k1 ?k2 ?k3 ?kq; (case k1 => walk_at "h"); (case k2 => walk_at "h"); (case k3 => walk_at "c"))
  | (refine' isub_go  ?kq)
  | (refine' imod_go ?k1 ?kq; (case k1 => walk_at "c"))
  | (refine' ltS_go  ?kq)
  | (refine' gtS_go  ?kq)
  | (refine' isN_go  ?kq)
  | (refine' notN_go  ?kq)
  | (refine' inC_go  ?kq)
  | (refine' notInC_go  ?kq)
  | (refine' list_goL ?k1 ?kq; (case k1 => walk_at "l"))
  | (refine' list_goT ?k1 ?kq; (case k1 => walk_at "t"))
  | (refine' tuple_goL ?k1 ?kq; (case k1 => walk_at "l"))
  | (refine' tuple_goT ?k1 ?kq; (case k1 => walk_at "t"))
  | (refine' list_goI ?k1 ?kq; (case k1 => walk_at "i"))
  | (refine' pop0_go ?k1 ?kq; (case k1 => walk_at "h"))
  | (refine' popE_go ?k1 ?kq; (case k1 => walk_at "h"))
  | (refine' slL_go ?k1 ?kq; (case k1 => walk_at "l"))
  | (refine' slS_go ?k1 ?kq; (case k1 => walk_at "c"))
  | (refine' ord_go  ?kq)
  | (refine' abs_go  ?kq)
  | (refine' fld_go ?k1 ?k2 ?k3 ?k4 ?kq; (case k1 => walk_at "h"); (case k2 => assumption); (case k3 => assumption); (case k4 => walk_at "lk"))
  | (refine' put_go ?k1 ?k2 ?k3 ?k4 ?k5 ?kq; (case k1 => walk_at "h"); (case k2 => assumption); (case k3 => assumption); (case k5 => walk_at "pf"); (case k4 => first | decide | (simp only [List.length_cons, List.length_nil]; decide)))
  | (refine' aug_go ?k1 ?k2 ?k3 ?k4 ?kq; (case k1 => walk_at "h"); (case k2 => assumption); (case k3 => assumption); (case k4 => walk_at "lk"))
  | (refine' rcv_go ?k1 ?k2 ?kq; (case k1 => walk_at "h"); (case k2 => walk_at "lk"))
  | fail)
local macro_rules | `(tactic| walk_at "s") => `(tactic| first
  | refine ⟨_, rfl, ?_⟩
  | refine iteD (fun _ => ?_) (fun _ => ?_)
  | refine iteN (fun _ => ?_) (fun _ => ?_)
  | refine iteT ?_
  | refine iteF ?_
  | walk_at "s1"
  | with_reducible refine st_nx ?_
  | (dsimp only; with_reducible refine st_nx ?_)
  | (refine' gTup_go ?k1 ?k2 ?kq; (case k1 => walk_at "t"); (case k2 => rfl))
  | refine And.intro (sz_of' (by walk_at "c")) ?_
  | refine And.intro (by walk_at "c") ?_
  | refine ⟨_, _, rfl, ?_⟩
  | refine ⟨_, _, _, rfl, ?_⟩
  | refine ⟨_, _, _, _, rfl, ?_⟩
  | refine ⟨.inl ⟨rfl, _, by walk_at "l"⟩, ?_⟩
  | refine ⟨⟨_, rfl⟩, ?_⟩
  | (refine fun (p : Addr) (np : _ = none) => ?_)
  | (refine fun (x dx : Addr) (nx : _ = none) (nd : _ = none) (ne : _ ≠ _) => ?_)
  | (refine' augE_go ?k1 ?k2 ?k3 ?kq; (case k1 => walk_at "h"); (case k3 => walk_at "pf"); (case k2 => first | decide | (simp only [List.length_cons, List.length_nil]; decide)))
  | refine iteB (fun _ => ?_) (fun _ => ?_)
  | (refine' seqV_go ?k1 ?k2 (fun J G w hG => ?kq); (case k1 => rfl); (case k2 => walk_at "i"))
  | (refine' enSV_go ?k1 ?k2 ?k3 (fun J G w hG => ?kq); (case k1 => rfl); (case k2 => exact ⟨by decide, by decide⟩); (case k3 => walk_at "i"))
  | fail)
local macro_rules | `(tactic| walk_at "go") => `(tactic| repeat' walk_at "s")
/-! ### own exception classes: made, raised, caught, looked at -/
namespace Kb
open PySem PySem.Spec PyProof.Rows L2
/-- where the top has what it calls x -/
def cAt (K : PySem.W.Frag) (x : Str) : Addr := match PySem.W.nsIn K mainGlobals x with
  | some (some (.ref a)) => a
  | _ => default
theorem cAt_of {K : PySem.W.Frag} {x : Str} {a : Addr} (h : PySem.W.nsIn K mainGlobals x = some (some (.ref a))) : cAt K x = a := by
  unfold cAt
  rw [h]
section
variable {P : Program} {w : World} {K : PySem.W.Frag} {mg : Str → Option Value} {base : Heap}
theorem Cal.ofX {x : Str} {st : Stmt} {N ps : List Str} {k : Nat} {sp : Sp} (D : Def K mg st x) (S : FnScope N ps (defScope st))
    (hb : ∀ (kV doc pm : Value) (an : Option Addr) (cdv ct : Value) (us : List Value), us.length = ps.length → bindArgs (PySem.W.fnOf x x (defArgs st) (defBody st) (defScope st) .none kV doc pm an cdv ct) ⟨us, []⟩ = pure (ps.zip us))
    (len : ∀ vs H Q E, sp vs H Q E → vs.length = ps.length)
    (hbody : ∀ (f : Addr) (cdv : Value) (A : Around) (outer : List Env) (s : Shared) (H : Hp) (vs : List V) (Q : VK) (E : XK), Room k (A.deeper (envOfC x (defScope st) s.heap.objs.size f cdv)) → sp vs H Q E →
      ∃ t, PSs (cxOf (L2.CX P w) P w K mg base N x (defScope st) f cdv A outer s H E) (defBody st) t ∧ t { nx := fun _ H' => Q .non H', rt := Q } (start N vs) H) : Cal P w K mg base (L2.CX P w) (k + 1) x ps sp := by
  obtain ⟨f, fd, hm, F⟩ := D
  refine ⟨f, fd, hm, F.okX S len (hbody f), F.kp, ?_, Fun.at_ F⟩
  obtain ⟨oc, od, kV, doc, pm, an, cdv, ct, osl, rfl, lk, hcd⟩ := F.ex
  exact hb kV doc pm an cdv ct
theorem CalM.ofX {C : Addr} {m qual : Str} {st : Stmt} {N ps : List Str} {k : Nat} {sp : Sp} (D : DefM K C st m qual) (S : FnScope N ps (defScope st))
    (hb : ∀ (kV doc pm : Value) (an : Option Addr) (cdv ct : Value) (us : List Value), us.length = ps.length → bindArgs (PySem.W.fnOf m qual (defArgs st) (defBody st) (defScope st) .none kV doc pm an cdv ct) ⟨us, []⟩ = pure (ps.zip us))
    (len : ∀ vs H Q E, sp vs H Q E → vs.length = ps.length)
    (hbody : ∀ (f : Addr) (cdv : Value) (A : Around) (outer : List Env) (s : Shared) (H : Hp) (vs : List V) (Q : VK) (E : XK), Room k (A.deeper (envOfC qual (defScope st) s.heap.objs.size f cdv)) → sp vs H Q E →
      ∃ t, PSs (cxOf (L2.CX P w) P w K mg base N qual (defScope st) f cdv A outer s H E) (defBody st) t ∧ t { nx := fun _ H' => Q .non H', rt := Q } (start N vs) H) : CalM P w K mg base (L2.CX P w) (k + 1) C m ps sp := by
  obtain ⟨f, fd, hm, F⟩ := D
  refine ⟨f, fd, hm, F.okX S len (hbody f), .all ?_⟩
  obtain ⟨oc, od, kV, doc, pm, an, cdv, ct, osl, rfl, lk, hcd⟩ := F.ex
  exact hb kV doc pm an cdv ct
/-- the __init__ of an exception's class -/
def DefI (K : PySem.W.Frag) (C : Addr) (st : Stmt) (qual : Str) : Prop := ∃ f fd, PySem.W.findIn K (.ref C) "__init__" = some (some (.ref f)) ∧ PySem.W.typeIn K (.ref f) = some (.type "function") ∧ Fun K "__init__" qual st f fd
structure CalI (P : Program) (w : World) (K : PySem.W.Frag) (mg : Str → Option Value) (base : Heap) (k : Nat) (C : Addr) (ps : List Str) (sp : Sp) : Prop where
  ex : ∃ f fd, PySem.W.findIn K (.ref C) "__init__" = some (some (.ref f)) ∧ PySem.W.typeIn K (.ref f) = some (.type "function") ∧ FnOk P w K mg base CX0 k f fd ps sp ∧ Binds K fd ps []
theorem CalI.of {C : Addr} {qual : Str} {st : Stmt} {N ps : List Str} {k : Nat} {sp : Sp} (D : DefI K C st qual) (S : FnScope N ps (defScope st))
    (hb : ∀ (kV doc pm : Value) (an : Option Addr) (cdv ct : Value) (us : List Value), us.length = ps.length → bindArgs (PySem.W.fnOf "__init__" qual (defArgs st) (defBody st) (defScope st) .none kV doc pm an cdv ct) ⟨us, []⟩ = pure (ps.zip us))
    (len : ∀ vs H Q E, sp vs H Q E → vs.length = ps.length)
    (hbody : ∀ (f : Addr) (cdv : Value) (A : Around) (outer : List Env) (s : Shared) (H : Hp) (vs : List V) (Q : VK) (E : XK), Room k (A.deeper (envOfC qual (defScope st) s.heap.objs.size f cdv)) → sp vs H Q E →
      ∃ t, PSs (cxOf CX0 P w K mg base N qual (defScope st) f cdv A outer s H E).nox (defBody st) t ∧ t { nx := fun _ H' => Q .non H', rt := Q } (start N vs) H) : CalI P w K mg base (k + 1) C ps sp := by
  obtain ⟨f, fd, h1, h2, F⟩ := D
  refine ⟨f, fd, h1, h2, F.ok S len (hbody f), .all ?_⟩
  obtain ⟨oc, od, kV, doc, pm, an, cdv, ct, osl, rfl, lk, hcd⟩ := F.ex
  exact hb kV doc pm an cdv ct
end
/-- what the written part says of an own exception's class -/
structure XCls (K : PySem.W.Frag) (C : Addr) : Prop where
  o : OexC K C
  xf : XfC K C
  cl : (PySem.W.clsIn K C).isSome = true
  ha : PySem.W.findIn K (.ref C) "__class__" = some (some (.builtin "object.__class__"))
  hn : PySem.W.specialIn K (.builtin "object.__class__") "__get__" = some (some (.builtin "getset_descriptor.__get__"))
  ht : PySem.W.takesIn K (.builtin "object.__class__") = some true
  hm : PySem.W.mroIn K C (.type "object") = some true
/-- an exception's __init__ whose fields are told by its arguments -/
@[irreducible] def spInit (C : Addr) (n : Nat) (fs : List V → List (Str × V)) : Sp := fun vs H Q _ => ∃ a ws, vs = .ref a :: ws ∧ ws.length = n ∧ H a = some (exo a C none) ∧ ∀ d, H d = none → d ≠ a → Q .non (upd (upd H d (exd d (fs ws))) a (exo a C (some d)))
theorem spInit_len {C : Addr} {n : Nat} {fs : List V → List (Str × V)} (vs : List V) (H : Hp) (Q : VK) (E : XK) (h : spInit C n fs vs H Q E) : vs.length = n + 1 := by
  unfold spInit at h
  obtain ⟨a, ws, rfl, h, _⟩ := h
  rw [List.length_cons, h]
theorem mkO_go {C : Addr} {n : Nat} {fs : List V → List (Str × V)} {vs : List V} {H : Hp} {Z : XK} (hn : vs.length = n) (hl : n ≤ 1000) (h : ∀ d, H d = none → Z (.ref C) (some d) (upd H d (.xd (fs vs)))) :
    vs.length ≤ 1000 ∧ ∀ a, H a = none → spInit C n fs (.ref a :: (vs ++ [])) (upd H a (exo a C none))
      (fun v H2 => v = .non ∧ ∃ (d : Addr) (fs : List (Str × V)), H2 a = some (exo a C (some d)) ∧ H2 d = some (exd d fs) ∧ H d = none ∧ Z (.ref C) (some d) (upd (del H2 a) d (.xd fs))) (fun _ _ _ => False) := by
  refine ⟨by omega, fun a ha => ?_⟩
  unfold spInit
  refine ⟨a, vs, by rw [List.append_nil], hn, upd_same, fun d hd da => ⟨rfl, d, fs vs, upd_same, (upd_ne da).trans upd_same, (upd_ne da).symm.trans hd, ?_⟩⟩
  have hd0 : H d = none := (upd_ne da).symm.trans hd
  have e : upd (del (upd (upd (upd H a (exo a C none)) d (exd d (fs vs))) a (exo a C (some d))) a) d (.xd (fs vs)) = upd H d (.xd (fs vs)) := by
    funext b
    by_cases hb : b = d
    · rw [hb, upd_same, upd_same]
    · rw [upd_ne hb, upd_ne hb]
      by_cases hba : b = a
      · rw [hba, del_same, ha]
      · rw [del_ne hba, upd_ne hba, upd_ne hb, upd_ne hba]
  rw [e]
  exact h d hd0
/-- raise x(e, ..) -/
def tRaiseI (C : Addr) (sp : Sp) (W : WX) (ta : TA) : TS := fun _ σ H => tMkO C sp [] ta σ H fun cls d H' => W cls d σ H'
section
variable {X : Cx} {C : Addr} {x : Str} {k : Nat} {ps : List Str} {sp : Sp} {W : WX} {e : Expr} {es : List Expr} {ta : TA} {p pos pos2 : Pos}
theorem ps_raiseI (hc : X.calm = true) (T : XCls X.K C) (M : CalI X.prog X.w X.K X.mg X.base k C ps sp) (hr : Room (k + 1) X.A) (tk : Takes X W) (hg : Gl X x) (hm : X.mg x = some (.ref C)) (ha : PA X (e :: es) ta)
    (hdb : (x == ("__debug__" : Str)) = false := by decide) (he : starEach (e :: es) X.env = (false, eval e X.env) :: starEach es X.env := by rfl) (hpl : (backTo pos (starEach es X.env)).any (·.1) = false := by rfl) :
    PS X (.Raise (some (.Call (.Name x p) (e :: es) [] pos)) none pos2) (tRaiseI C sp W ta) := by
  obtain ⟨f, fd, h1, h2, F, hb⟩ := M.ex
  exact ps_raise hc tk (pmk_oex T.o h1 h2 F hr hb .nil (fun _ _ _ _ _ _ _ h => h.elim) hg hm ha hdb he hpl)
end
/-- o.m(e, ..), what it raises wished for at the slots as they stand -/
def tMethUS (C : Addr) (m : Str) (sp : Sp) (E : L2.St → XK) (ta : TE) (t : TA) : TE := fun σ H Q => tMethU C m sp (E σ) ta t σ H Q
section
variable {X : Cx} {CX : CXT} {k : Nat} {C : Addr} {ps : List Str} {sp : Sp} {E : L2.St → XK} {x m : Str} {p pos apos : Pos} {e o : Expr} {es : List Expr} {ta : TE} {t : TA}
theorem pe_methMS {pl : Sem Bool} (he : PE X o ta) (c : Cls X.K C) (M : CalM X.prog X.w X.K X.mg X.base CX k C m ps sp) (hr : Room k X.A) (hx : ∀ σ, PassesAt CX X σ (E σ)) (ha : PA X (e :: es) t)
    (hst : starEach (e :: es) X.env = (false, eval e X.env) :: starEach es X.env := by rfl) (hpl : (backTo pos (starEach es X.env)).any (·.1) = false := by rfl)
    (ht : eval (.Call (.Attribute o m apos) (e :: es) [] pos) X.env = (do
      let ov ← eval o X.env
      standAt apos.atName
      let (f, first) ← holding [ov] (getMethod ov m pl)
      callWith pos f first (backTo pos (starEach (e :: es) X.env)) (backToKw pos (keywordEach [] X.env))) := by rfl) :
    PE X (.Call (.Attribute o m apos) (e :: es) [] pos) (tMethUS C m sp E ta t) := by
  obtain ⟨f, fd, hm, F, hb⟩ := M.ex
  refine ⟨fun pins s σ H Q I h => ?_⟩
  unfold tMethUS tMethU rRcvU at h
  refine PySem.W.methodCall_KW (pl := pl) (thn (he.run pins s σ H _ I h) fun u s1 ⟨x, H1, I1, rx, a, dx, fs, ex, ea, l, q⟩ => ?_) ht
  subst ex
  obtain rfl : u = Value.ref a := rx
  refine getmeth_ok I1 ea c hm l ?_
  refine PySem.W.callWith_K (first := [.ref a]) (h₀ := X.base) I.ok.mod.kin hm.kp (thn (ha.run pos pins s1 σ H1 _ I1 q) fun us s2 ⟨vs, H2, I2, r, q2⟩ => ⟨I2.kIn, ?_⟩) hst hpl
  exact run_fnS (us := .ref a :: us) (vs := .ref a :: vs) F hr hb (hx σ) I2 (.cons rfl r) q2
theorem pe_callCS (C : Cal X.prog X.w X.K X.mg X.base CX k x ps sp) (hr : Room k X.A) (hg : Gl X x) (hx : ∀ σ, PassesAt CX X σ (E σ))
    (ha : PA X (e :: es) t) (hdb : (x == ("__debug__" : Str)) = false := by decide) (he : starEach (e :: es) X.env = (false, eval e X.env) :: starEach es X.env := by rfl) (hpl : (backTo pos (starEach es X.env)).any (·.1) = false := by rfl) :
    PE X (.Call (.Name x p) (e :: es) [] pos) (tCallS sp E t) := by
  obtain ⟨f, fd, hm, F, hk, hb⟩ := C.bound
  exact pe_callS F hr hg hm hk hb hx ha hdb he hpl
end
/-- try: .. except c as n: .. -/
def tTryAs (K : PySem.W.Frag) (c : Value) (i : Nat) (tb : WX → TS) (ts : Addr → Value → Option Addr → TS) : TS := fun D σ H => tb (wAs K c i ts (fun _ _ _ _ => False) D) D σ H
theorem takes_none {X : Cx} : Takes X (fun _ _ _ _ => False) := fun _ _ h => by
  obtain ⟨_, _, _, _, _, _, _, _, _, _, _, _, _, _, _, _, z⟩ := h
  exact z.elim
/-- isinstance(e, c), e the caught exception with its dict -/
def rIsXd (K : PySem.W.Frag) (a : Addr) (cls : Value) (d : Option Addr) : List V → Hp → VK → Prop := fun xs H Q => ∃ (C : Addr) (c : V) (cv : Value) (b : Bool) (dd : Addr) (fs : List (Str × V)),
  xs = [.ref a, c] ∧ cls = .ref C ∧ d = some dd ∧ H dd = some (.xd fs) ∧ XCls K C ∧ (∀ u, RelV c u → u = cv) ∧ PySem.W.kitOne K (.ref C) cv = some b ∧ Q (.bl b) H
theorem call_isXd {X : Cx} {a : Addr} {oe : Obj} {cls : Value} {d : Option Addr} {pn : List (Addr × Obj)} (hz : Zc cls d oe) (hf : ∃ vs, oe.data = .fields vs) : CallR (X.suite a ((a, oe) :: pn)) (.builtin "isinstance") (rIsXd X.K a cls d) := by
  intro pins s σ H xs us Q I r h
  obtain ⟨C, c, cv, b, dd, fs, rfl, rfl, rfl, ea, T, hcv, e, q⟩ := h
  cases r with
  | cons rx rr =>
    cases rr with
    | cons rt rr =>
      cases rr
      cases rx
      have ec := hcv _ rt
      subst ec
      obtain ⟨hget, _⟩ := I.pin (a, oe) (List.mem_append.mpr (.inl List.mem_cons_self))
      obtain ⟨vs, hv⟩ := hf
      have hx : ObjOk X.prog X.w H s.heap dd (.xd fs) := I.hok dd _ ea
      obtain ⟨mA, hns, hr⟩ := hx
      obtain ⟨od, ho, hl⟩ := lookIn_ns hns
      have J : PySem.W.InstAt s.heap a oe C (some od) := ⟨hget, hz.1, by unfold PySem.W.notCls; rw [hv] <;> rfl, by rw [hz.2]; exact ho⟩
      exact PySem.W.kia_one (PySem.W.kitx_exc T.cl T.xf.ga T.xf.gg T.xf.exC T.ha T.hn T.ht T.hm) I.kIn J e (fun z => nomatch z) fun tk => ⟨.bl b, H, I.kept (t' := tk) fun _ _ z => z, rfl, q⟩
theorem pe_gref {X : Cx} {x : Str} {a : Addr} {pos : Pos} (hg : Gl X x) (hm : X.mg x = some (.ref a)) (hd : (x == ("__debug__" : Str)) = false := by decide) : PE X (.Name x pos) (tC (.ref a)) := pe_glob hg hm rfl hd
end Kb

/-! ### several clauses that don't fit, ahead of one that does and names what it caught -/
namespace Kb
open PySem PySem.Spec PyProof.Rows L2
section
variable {X : Cx} {pins : List (Addr × Obj)} {σ : L2.St} {H : Hp} {cls c : Value} {d : Option Addr} {a : Addr} {s : Shared}
/-- back on the ground, what was caught beside it -/
structure Lnd (X : Cx) (pins : List (Addr × Obj)) (σ : L2.St) (H : Hp) (cls : Value) (d : Option Addr) (a : Addr) (s : Shared) : Prop where
  fr : X.env.frame = some X.env.locals
  na : H a = none
  ex : ∃ (G : Heap) (s0 : Shared), Inv X pins σ H s0 ∧ (∀ b o, s0.heap.get? b = some o → b ∉ frs X.stack → G.get? b = some o) ∧ s0.heap.UpToSlots s.heap ∧ PySem.HandSPX.FlyingZ G (X.env :: X.outer) a (Zc cls d) s.heap ∧ s.os = s0.os ∧ AllBare s.gens
theorem Lnd.inv (l : Lnd X pins σ H cls d a s) : Inv X pins σ H s := by
  obtain ⟨G, s0, J, g, u, f, o, b⟩ := l.ex
  exact J.landed g f.1 u o b
theorem Lnd.obj (l : Lnd X pins σ H cls d a s) : ∃ oe vs, s.heap.get? a = some oe ∧ Zc cls d oe ∧ oe.data = .fields vs ∧ Inv (X.suite a ((a, oe) :: (X.pn ++ pins))) [] σ H s := by
  obtain ⟨G, s0, J, g, u, f, o, b⟩ := id l.ex
  obtain ⟨oe, vs, he, hz, hd⟩ := f.there
  have off : a ∉ frs (X.env :: X.outer) := fun z => by
    obtain ⟨_, ob, e, n⟩ := f.2.2.1.mem z
    rw [he] at e
    cases e
    exact n _ hd
  refine ⟨oe, vs, he, hz, hd, l.inv.suite he hd l.na (fun z => off ?_) fun z => off ?_⟩
  · exact List.mem_filterMap.mpr ⟨X.env, List.mem_cons_self, by rw [l.fr, z]⟩
  · obtain ⟨e, m, q⟩ := List.mem_filterMap.mp z
    exact List.mem_filterMap.mpr ⟨e, List.mem_cons_of_mem _ m, q⟩
/-- a clause is looked at -/
theorem Lnd.look {x : Str} {np tp : Pos} {b : Bool} {R : Result → Shared → Prop} (l : Lnd X pins σ H cls d a s) (n : Names X x c) (e : PySem.W.exmOne X.K cls c = some b) (q : R (.ok (if b then .brk else .next)) s) :
    codeAny (model X.prog X.w) (X.A.mark (some (.ref a))) (.handlers (.ref a) [.ExceptHandler (some (.Name x np)) none [] tp] X.env) R s := by
  obtain ⟨oe, vs, he, hz, hd, S⟩ := l.obj
  refine codeAny_handlers_test ?_
  have ty : PySem.W.Looks (model X.prog X.w) s.heap (typeOf (.ref a)) cls := fun _ _ _ _ k z => wpAny_typeOf_ref (k _ _ he) (by rw [hz.1]; exact z)
  have m := (PySem.W.exm_one (M := model X.prog X.w) l.inv.kIn ty e).here (A := X.A.mark (some (.ref a))) (E := notedBy (model X.prog X.w) (X.A.mark (some (.ref a))) X.env fun x s₂ => R (.error x) s₂) (Q := fun b s₂ => R (.ok (if b then .brk else .next)) s₂) q
  obtain ⟨g, db, h | ⟨h, v, nn⟩⟩ := n
  · exact ld_glob (X := X.suite a ((a, oe) :: (X.pn ++ pins))) S g h m db
  · exact ld_blt (X := X.suite a ((a, oe) :: (X.pn ++ pins))) S g h v m nn db
theorem Lnd.skip {x : Str} {np tp : Pos} {n? : Option Str} {b₀ : Stmt} {su : List Stmt} {r : List ExceptHandler} {Q : Flow → Shared → Prop} (l : Lnd X pins σ H cls d a s) (n : Names X x c) (e : PySem.W.exmOne X.K cls c = some false) (q : wpAny (model X.prog X.w) X.A (handleBy (.ref a) X.env r) Q X.xe s) :
    wpAny (model X.prog X.w) X.A (handleBy (.ref a) X.env (.ExceptHandler (some (.Name x np)) n? (b₀ :: su) tp :: r)) Q X.xe s :=
  wpAny_handleBy_cons (l.look n e q) fun z => nomatch z
theorem Lnd.take {x n : Str} {np tp : Pos} {b₀ : Stmt} {su : List Stmt} {r : List ExceptHandler} {D : Ends} {i : Nat} {ts : Addr → Value → Option Addr → TS} (l : Lnd X pins σ H cls d a s) (nm : Names X x c) (e : PySem.W.exmOne X.K cls c = some true) (hN : X.N.Nodup) (hi : X.N[i]? = some n) (hk : X.env.kindOf n = some .local)
    (hsu : ∀ (a : Addr) (oe : Obj) (cls : Value) (d : Option Addr) (pn : List (Addr × Obj)), Zc cls d oe → (∃ vs, oe.data = .fields vs) → PSs (X.suite a ((a, oe) :: pn)) (b₀ :: su) (ts a cls d))
    (q : ts a cls d { nx := fun σ' H' => D.nx (σ'.set i none) H', rt := D.rt, bk := fun σ' H' => D.bk (σ'.set i none) H', ct := fun σ' H' => D.ct (σ'.set i none) H' } (σ.set i (some (.ref a))) H) :
    wpAny (model X.prog X.w) X.A (handleBy (.ref a) X.env (.ExceptHandler (some (.Name x np)) (some n) (b₀ :: su) tp :: r)) (SP X pins D) X.xe s := by
  have ok := l.inv.ok
  refine wpAny_handleBy_cons (l.look nm e ?_) fun z => nomatch z
  refine codeAny_handlers_suite_as ?_
  obtain ⟨G, s0, J, g, u, f, o, b⟩ := id l.ex
  refine PySem.HandSPX.lands_againZ f fun h2 f2 u2 => ?_
  have l2 : Lnd X pins σ H cls d a { s with heap := h2 } := ⟨l.fr, l.na, G, s0, J, g, u.trans u2, f2, o, b⟩
  obtain ⟨oe, vs, he, hz, hd, S⟩ := l2.obj
  refine store_ok (X := X.suite a ((a, oe) :: (X.pn ++ pins))) (v := .ref a) S hN hi (.inl hk) rfl (fun s5 S5 => ?_) (.inr hk)
  refine wpAny_mono ((hsu a oe cls d (X.pn ++ pins) hz ⟨_, hd⟩).run [] s5 _ H _ S5 q) (fun f s6 h6 => ?_) fun _ _ z => z.elim
  have out : ∀ {σ6 : L2.St} {H6 : Hp} {Q : Shared → Prop}, Inv (X.suite a ((a, oe) :: (X.pn ++ pins))) [] σ6 H6 s6 → (∀ s7, Inv X pins (σ6.set i none) H6 s7 → Q s7) → wpAny (model X.prog X.w) X.A (do bindName X.env n .none; unbindBehindTheSuite X.env n tp) (fun _ s7 => Q s7) X.xe s6 :=
    fun S6 k => gone_ok (S6.unsuite ok) hN hi hk k
  cases f with
  | ret u =>
    obtain ⟨_, _, _, S6, r6, q6⟩ := h6
    exact out S6 fun _ z => ⟨_, _, _, z, r6, q6⟩
  | next =>
    obtain ⟨_, _, S6, q6⟩ := h6
    exact out S6 fun _ z => ⟨_, _, z, q6⟩
  | brk =>
    obtain ⟨_, _, S6, q6⟩ := h6
    exact out S6 fun _ z => ⟨_, _, z, q6⟩
  | cont =>
    obtain ⟨_, _, S6, q6⟩ := h6
    exact out S6 fun _ z => ⟨_, _, z, q6⟩
/-- clauses that the last one's catch passes -/
inductive Skips (X : Cx) : List ExceptHandler → List Value → Prop
  | nil : Skips X [] []
  | cons {x : Str} {c : Value} {np tp : Pos} {n? : Option Str} {b₀ : Stmt} {su : List Stmt} {r : List ExceptHandler} {l : List Value} (n : Names X x c) (t : Skips X r l) : Skips X (.ExceptHandler (some (.Name x np)) n? (b₀ :: su) tp :: r) (c :: l)
theorem Lnd.skips {hs r : List ExceptHandler} {l : List Value} {Q : Flow → Shared → Prop} (k : Skips X hs l) (m : ∀ c ∈ l, PySem.W.exmOne X.K cls c = some false) (g : Lnd X pins σ H cls d a s) (q : wpAny (model X.prog X.w) X.A (handleBy (.ref a) X.env r) Q X.xe s) :
    wpAny (model X.prog X.w) X.A (handleBy (.ref a) X.env (hs ++ r)) Q X.xe s := by
  induction k with
  | nil => exact q
  | cons n t ih => exact g.skip n (m _ List.mem_cons_self) (ih fun c h => m c (List.mem_cons_of_mem _ h))
end
/-- what the clauses wish of an exception of the body: it passes those ahead, the last one takes it -/
def wLast (K : PySem.W.Frag) (l : List Value) (c : Value) (i : Nat) (ts : Addr → Value → Option Addr → TS) (D : Ends) : WX := fun cls d σ H =>
  (∀ c ∈ l, PySem.W.exmOne K cls c = some false) ∧ PySem.W.exmOne K cls c = some true ∧ ∀ a, H a = none → ts a cls d { nx := fun σ' H' => D.nx (σ'.set i none) H', rt := D.rt, bk := fun σ' H' => D.bk (σ'.set i none) H', ct := fun σ' H' => D.ct (σ'.set i none) H' } (σ.set i (some (.ref a))) H
def tTryLast (K : PySem.W.Frag) (l : List Value) (c : Value) (i : Nat) (tb : WX → TS) (ts : Addr → Value → Option Addr → TS) : TS := fun D σ H => tb (wLast K l c i ts D) D σ H
section
variable {X : Cx} {x n : Str} {c : Value} {i : Nat} {body su : List Stmt} {h0 : ExceptHandler} {hs : List ExceptHandler} {l : List Value} {b₀ : Stmt} {np pos tp : Pos} {tb : WX → TS} {ts : Addr → Value → Option Addr → TS}
theorem ps_try_last (st : X.stack = X.env :: X.outer) (fr : X.env.frame = some X.env.locals) (hN : X.N.Nodup) (hi : X.N[i]? = some n) (hk : X.env.kindOf n = some .local) (k : Skips X (h0 :: hs) l) (hc : Names X x c)
    (hb : ∀ (W : WX) (pn : List (Addr × Obj)) (xe : Value → Shared → Prop), Takes (X.tr pn xe) W → PassesOwn (model X.prog X.w) X.A X.env xe → PSs (X.tr pn xe) body (tb W))
    (hsu : ∀ (a : Addr) (oe : Obj) (cls : Value) (d : Option Addr) (pn : List (Addr × Obj)), Zc cls d oe → (∃ vs, oe.data = .fields vs) → PSs (X.suite a ((a, oe) :: pn)) (b₀ :: su) (ts a cls d)) :
    PS X (.Try body (h0 :: (hs ++ [.ExceptHandler (some (.Name x np)) (some n) (b₀ :: su) tp])) [] [] pos) (tTryLast X.K l c i tb ts) := by
  refine ⟨fun pins s σ H D I h => ?_⟩
  have ok := I.ok
  have fs : X.A.frames = some (X.env :: X.outer) := by rw [ok.frames, st]
  refine wpAny_Try_except ?_
  refine wpAny_mono ((hb (wLast X.K l c i ts D) (X.pn ++ pins) _ (fun u s' z => ?_) PassesOwn.looking).run [] s σ H D (I.toTry _) h) (fun f s1 z => ?_) fun _ _ z => z
  · obtain ⟨a, G, s0, _, σ', H', cls, d, rfl, J', g, u, sky, na, o, b, w1, w2, w3⟩ := z
    have J : Inv X pins σ' H' s0 := J'.ofTry ok
    rw [show (X.tr (X.pn ++ pins) _).stack = X.env :: X.outer from st] at sky
    show wpAny _ X.A (noteFrame (.ref a) X.env) _ _ _
    refine Sky.land Zc.steady fs fr sky fun h3 f3 u3 => ?_
    have ln : Lnd X pins σ' H' cls d a { s' with heap := h3 } := ⟨fr, na, G, s0, J, g, u.trans u3, f3, o, b⟩
    exact ln.skips k w1 (ln.take hc w2 hN hi hk hsu (w3 a na))
  · cases f with
    | ret u =>
      obtain ⟨_, _, _, J, r, q⟩ := z
      exact ⟨_, _, _, J.ofTry ok, r, q⟩
    | next =>
      obtain ⟨_, _, J, q⟩ := z
      exact wpAny_execs_nil ⟨_, _, J.ofTry ok, q⟩
    | brk =>
      obtain ⟨_, _, J, q⟩ := z
      exact ⟨_, _, J.ofTry ok, q⟩
    | cont =>
      obtain ⟨_, _, J, q⟩ := z
      exact ⟨_, _, J.ofTry ok, q⟩
theorem ps_try_last3 {x1 x2 x3 : Str} {c1 c2 c3 : Value} {np1 np2 np3 tp1 tp2 tp3 : Pos} {a1 a2 a3 : Option Str} {b1 b2 b3 : Stmt} {s1 s2 s3 : List Stmt} (st : X.stack = X.env :: X.outer) (fr : X.env.frame = some X.env.locals) (hN : X.N.Nodup) (hi : X.N[i]? = some n) (hk : X.env.kindOf n = some .local)
    (n1 : Names X x1 c1) (n2 : Names X x2 c2) (n3 : Names X x3 c3) (hc : Names X x c)
    (hb : ∀ (W : WX) (pn : List (Addr × Obj)) (xe : Value → Shared → Prop), Takes (X.tr pn xe) W → PassesOwn (model X.prog X.w) X.A X.env xe → PSs (X.tr pn xe) body (tb W))
    (hsu : ∀ (a : Addr) (oe : Obj) (cls : Value) (d : Option Addr) (pn : List (Addr × Obj)), Zc cls d oe → (∃ vs, oe.data = .fields vs) → PSs (X.suite a ((a, oe) :: pn)) (b₀ :: su) (ts a cls d)) :
    PS X (.Try body [.ExceptHandler (some (.Name x1 np1)) a1 (b1 :: s1) tp1, .ExceptHandler (some (.Name x2 np2)) a2 (b2 :: s2) tp2, .ExceptHandler (some (.Name x3 np3)) a3 (b3 :: s3) tp3, .ExceptHandler (some (.Name x np)) (some n) (b₀ :: su) tp] [] [] pos) (tTryLast X.K [c1, c2, c3] c i tb ts) :=
  ps_try_last st fr hN hi hk (.cons n1 (.cons n2 (.cons n3 .nil))) hc hb hsu
end
end Kb

/-! ### a lambda of one thing that captures names, handed to a def of two -/
namespace Kb
open PySem PySem.Spec PyProof.Rows L2
open LamX (CodeO Tabs ExtN TabB lam_make2)
open NdefX (NF NScope CellsAt Caps startF envF ncx slotAt cells_of inv_startN)
section
variable {X : Cx} {pins : List (Addr × Obj)} {σ : L2.St} {H HZ : Hp} {s s1 : Shared}
/-- a slot's name is read, the state stays -/
theorem ld_slot {E : Value → Shared → Prop} {Q : Value → Shared → Prop} {i : Nat} {x : Str} {v : V} {pos : Pos} (I : Inv X pins σ H s) (hN : X.N[i]? = some x) (hv : Vis X.env.scope x) (e : σ[i]? = some (some v)) (h : ∀ u, RelV v u → Q u s)
    (d1 : (x == ("__debug__" : Str)) = false) (d2 : (x == ("__classdict__" : Str)) = false) : wpAny (model X.prog X.w) X.A (eval (.Name x pos) X.env) Q E s := by
  obtain ⟨_, ns, at_⟩ := I.loc
  obtain ⟨u, r, l⟩ := at_ i x v hN e hv
  have q := h u r
  rcases l with ⟨k, m⟩ | ⟨k | k, c, hc, cell⟩
  · exact wpAny_Name (wpAny_loadName_local I.ok.kind k ns m q) d1
  · exact wpAny_Name (wpAny_loadName_cell I.ok.kind k hc cell q) d1
  · exact wpAny_Name (wpAny_loadName_free I.ok.kind k hc cell q d2) d1
theorem cells_move {cl : List (Str × Addr)} {fr : List Str} {ws : List (Option V)} {fs : List Addr} {h h' : Heap} {G G' : Hp} (C : CellsAt cl fr ws h G) (un : Un fs [] G G' h h') : CellsAt cl fr ws h' G' := by
  have kp : ∀ c v, G c = none → h.IsCell c v → h'.IsCell c v := fun c v n ⟨o, ho, hd⟩ => by
    obtain ⟨sl, q⟩ := un.any ho n (by simp)
    exact ⟨_, q, hd⟩
  refine ⟨C.len, fun y c e => ?_, C.inj, fun i y e => ?_⟩
  · obtain ⟨n, v, o, ho, hd⟩ := C.all y c e
    exact ⟨un.free c o ho n (by simp), v, kp c v n ⟨o, ho, hd⟩⟩
  · obtain ⟨c, hc, g⟩ := C.has i y e
    refine ⟨c, hc, fun v ev => ?_⟩
    obtain ⟨u, r, z⟩ := g v ev
    exact ⟨u, r, kp c _ (C.all y c hc).1 z⟩
abbrev lamF (X : Cx) (params : Arguments) (scope : Scope) (c' : Addr) : NF := ⟨"<lambda>", X.env.qual ++ "<lambda>", params, [], scope, cloFrom X.env.cells scope.names [], c'⟩
/-- a(b) in the def that got the lambda a and b -/
theorem pe_act1 {CXg : CXT} {Eg : XK} {Ng N fr : List Str} {js : List Nat} {qg pa : Str} {sg : Scope} {g f c' : Addr} {cdg pm ctv : Value} {params : Arguments} {body : Expr} {scope : Scope} {k : Nat} {a b : Str} {pn : List (Addr × Obj)} {xe : Value → Shared → Prop} {E : L2.St → XK} {tb : XK → TE} {p1 p2 p3 : Pos}
    (I : Inv X pins σ H s) (hf : s.heap.get? f = some (PySem.W.kla_obj "<lambda>" (X.env.qual ++ "<lambda>") params body scope (cloFrom X.env.cells scope.names []) pm c' ctv)) (hfn : H f = none) (hfr : f ∉ frs X.stack)
    (S : NScope N [pa] fr scope) (cp : Caps X (cloFrom X.env.cells scope.names []) fr js) (hb : ∀ u, bindArgs (PySem.W.kla_fn "<lambda>" (X.env.qual ++ "<lambda>") params body scope (cloFrom X.env.cells scope.names []) pm (.ref c') ctv) ⟨[u], []⟩ = pure [(pa, u)])
    (hx : ∀ σ, PassesAt (L2.CX X.prog X.w) ((cxOf CXg X.prog X.w X.K X.mg X.base Ng qg sg g cdg X.A X.stack s H Eg).tr pn xe) σ (E σ)) (hr : Room (k + 1) (X.A.deeper (envOfC qg sg s.heap.objs.size g cdg)))
    (hbody : ∀ (A : Around) (outer : List Env) (s : Shared) (H : Hp) (E : XK), Room k (A.deeper (envF (lamF X params scope c') f s.heap.objs.size)) → PE (ncx (L2.CX X.prog X.w) X.prog X.w X.K X.mg X.base N (lamF X params scope c') f A outer s H E) body (tb E))
    (na : Ng[0]? = some a) (va : Vis sg a) (nb : Ng[1]? = some b) (vb : Vis sg b) (da : (a == ("__debug__" : Str)) = false) (ca : (a == ("__classdict__" : Str)) = false) (db : (b == ("__debug__" : Str)) = false) (cb : (b == ("__classdict__" : Str)) = false) :
    PE ((cxOf CXg X.prog X.w X.K X.mg X.base Ng qg sg g cdg X.A X.stack s H Eg).tr pn xe) (.Call (.Name a p1) [.Name b p3] [] p2)
      (fun σZ HZ Q => σZ[0]? = some (some (.ref f)) ∧ ∃ v, σZ[1]? = some (some v) ∧ HZ c' = some (CodeO c' (X.env.qual ++ "<lambda>")) ∧ tb (E σZ) (startF N [v] (js.map (slotAt σ))) HZ Q) := by
  refine ⟨fun pinsZ sZ σZ HZ Q IZ h => ?_⟩
  obtain ⟨h0, v, h1, hc, ht⟩ := h
  refine wpAny_Call_Name_kw (ld_slot IZ na va h0 (fun u ru => ?_) da ca)
  obtain rfl : u = Value.ref f := ru
  have of : sZ.heap.get? f = some (PySem.W.kla_obj "<lambda>" (X.env.qual ++ "<lambda>") params body scope (cloFrom X.env.cells scope.names []) pm c' ctv) := IZ.base.keep f _ hf hfn hfr (fun z => nomatch (show f ∈ ([] : List Addr) from z))
  refine PySem.W.callWith_F (first := []) ⟨_, _, _, _, of⟩ ?_ (by rfl) (by rfl)
  refine Calls.spliced_cons (ld_slot IZ nb vb h1 (fun u ru => Calls.spliced_nil ⟨⟨_, _, _, _, of⟩, ?_⟩) db cb)
  show wpAny _ _ (call (.ref f) [u]) _ _ _
  have un : Un (frs X.stack) [] H HZ s.heap sZ.heap := IZ.base
  obtain ⟨⟨oc, cs, t, hoc, hdc, hvc⟩, _, _⟩ := IZ.hok c' _ hc
  have C := cells_move (cells_of I cp) un
  have rc : codeAny (model X.prog X.w) (X.A.deeper (envOfC qg sg s.heap.objs.size g cdg)) (.call (.ref f) ⟨[u], []⟩) (CR (L2.CX X.prog X.w) (envOfC qg sg s.heap.objs.size g cdg :: X.stack) X.prog X.w HZ sZ Q (E σZ)) sZ := by
    refine PySem.W.kla_callFunE hr.depth of rfl S.co S.gen rfl ⟨c', oc, cs, t, rfl, hoc, hdc, hvc⟩ ?_
    rw [hb u]
    refine wpAny_pure (wpAny_newFunctionEnv S.nocell (fun y hy => ?_) (fun h₁ hns hsb => ⟨IZ.nolimit.fresh _ hsb, ?_⟩) S.kind)
    · rw [List.mem_singleton.mp hy]
      exact S.par pa List.mem_cons_self
    · show codeAny _ _ (.expr body (envF (lamF X params scope c') f sZ.heap.objs.size)) _ _
      have kp : ∀ b o, sZ.heap.get? b = some o → h₁.get? b = some o := fun b o e => hsb.extBut b o (Nat.ne_of_lt (Heap.lt_size e)) (Heap.get?_push_of_some _ e)
      have J := inv_startN (CX := L2.CX X.prog X.w) (F := lamF X params scope c') (fr := fr) (N := N) (ws := js.map (slotAt σ)) (f := f) (E := E σZ) (tk := sZ.toks + [(pa, u)].length) S hr.hd IZ.env0 (show [v].length = [pa].length from rfl) (.cons ru .nil) C hns kp
      refine PySem.W.kla_codeExpr (wpAny_mono ((hbody _ _ sZ HZ (E σZ) (hr.deeper _)).run [] _ _ HZ Q J ht) (fun w s' z => ?_) fun _ _ z => z)
      obtain ⟨w', H', J', rw', q⟩ := z
      exact ⟨w', H', J'.os, J'.bare, J'.base, J'.hok, rw', q⟩
  refine wpAny_call (codeAny_mono rc fun r s' z => ?_)
  cases r with
  | error e => exact hx σZ pinsZ HZ sZ e s' IZ z
  | ok fl =>
    cases fl with
    | ret w => exact IZ.after z
    | next => exact z.elim
    | brk => exact z.elim
    | cont => exact z.elim
end
/-- the def g that calls what it got, of what it got; TT: what it makes of the lambda's reading -/
def Gives2 (X : Cx) (Ng : List Str) (x : Str) (sg : Scope) (g : Addr) (cdg : Value) (bg : List Stmt) (a b : Str) (q : Str) (TT : (XK → V → Hp → VK → Prop) → V → Hp → VK → Prop) : Prop :=
  ∀ (f c' : Addr) (s : Shared) (H : Hp) (Q : VK) (v : V) (tl : XK → V → Hp → VK → Prop), (∃ k, Room k (X.A.deeper (envOfC x sg s.heap.objs.size g cdg))) →
    (∀ (pn : List (Addr × Obj)) (xe : Value → Shared → Prop) (E : L2.St → XK) (p1 p2 p3 : Pos), (∀ σ, PassesAt (L2.CX X.prog X.w) ((cxOf CX0 X.prog X.w X.K X.mg X.base Ng x sg g cdg X.A X.stack s H E0).tr pn xe) σ (E σ)) →
      PE ((cxOf CX0 X.prog X.w X.K X.mg X.base Ng x sg g cdg X.A X.stack s H E0).tr pn xe) (.Call (.Name a p1) [.Name b p3] [] p2) (fun σZ HZ Q => σZ[0]? = some (some (.ref f)) ∧ ∃ v, σZ[1]? = some (some v) ∧ HZ c' = some (CodeO c' q) ∧ tl (E σZ) v HZ Q)) →
    H c' = some (CodeO c' q) → TT tl v H Q → ∃ t, PSs (cxOf CX0 X.prog X.w X.K X.mg X.base Ng x sg g cdg X.A X.stack s H E0).nox bg t ∧ t { nx := fun _ H' => Q .non H', rt := Q } (L2.start Ng [.ref f, v]) H
def tLam2 (T : List (Addr × Str)) (TT : (XK → V → Hp → VK → Prop) → V → Hp → VK → Prop) (iy : Nat) (N : List Str) (js : List Nat) (t : XK → TE) : TE := fun σ H Q =>
  Tabs T H ∧ ∃ v, σ[iy]? = some (some v) ∧ ∀ H1, ExtN H H1 → Tabs T H1 → TT (fun E w H' Q' => t E (startF N [w] (js.map (slotAt σ))) H' Q') v H1 Q
section
variable {X : Cx}
theorem pe_lamcall2 {T : List (Addr × Str)} {TT : (XK → V → Hp → VK → Prop) → V → Hp → VK → Prop} {x a b y pa : Str} {g c P : Addr} {k iy : Nat} {pg : Arguments} {bg : List Stmt} {sg : Scope} {dV kV doc pm cdv ct oc : Value} {an od : Option Addr} {osl : Array (Option Value)} {Ng N fr : List Str} {js : List Nat}
    {params : Arguments} {body : Expr} {scope : Scope} {t : XK → TE} {p lpos yp pos : Pos} (hg : Gl X x) (hm : X.mg x = some (.ref g)) (hk : PySem.W.keepIn X.K (.ref g) = true)
    (lk : X.K.lookup g = some ⟨oc, od, .func (PySem.W.fnOf x x pg bg sg dV kV doc pm an cdv ct), osl⟩) (hcg : PySem.W.codeIn X.K cdv x = true) (hb : L2.Binds X.K (PySem.W.fnOf x x pg bg sg dV kV doc pm an cdv ct) [a, b] []) (Sg : FnScope Ng [a, b] sg)
    (na : Ng[0]? = some a) (va : Vis sg a) (nb : Ng[1]? = some b) (vb : Vis sg b) (da : (a == ("__debug__" : Str)) = false) (ca : (a == ("__classdict__" : Str)) = false) (db : (b == ("__debug__" : Str)) = false) (cb : (b == ("__classdict__" : Str)) = false)
    (hG : Gives2 X Ng x sg g cdv bg a b (X.env.qual ++ "<lambda>") TT) (TB : TabB X.base X.mg c P) (hcode : X.env.code = .ref c) (hmT : (P, X.env.qual ++ "<lambda>") ∈ T) (hu : ∀ p ∈ T, p.1 = P → p.2 = X.env.qual ++ "<lambda>") (hr : Room (k + 2) X.A)
    (S : NScope N [pa] fr scope) (hfree : ∀ y ∈ scope.names, y.2 = .free → X.env.scope.names.lookup y.1 = some .cell ∨ X.env.scope.names.lookup y.1 = some .free) (hfr : ∀ y ∈ fr, (y, NameKind.free) ∈ scope.names) (hjs : js.map (fun j => X.N[j]?) = fr.map some)
    (hdef : defaultsOf params X.env = ([], [])) (hbind : ∀ (q : Str) (cl : List (Str × Addr)) (pm cv ctv u : Value), bindArgs (PySem.W.kla_fn "<lambda>" q params body scope cl pm cv ctv) ⟨[u], []⟩ = pure [(pa, u)])
    (hny : X.N[iy]? = some y) (hvy : Vis X.env.scope y) (dy : (y == ("__debug__" : Str)) = false) (cy : (y == ("__classdict__" : Str)) = false)
    (hbody : ∀ (A : Around) (outer : List Env) (s : Shared) (H : Hp) (E : XK) (f c' : Addr), Room k (A.deeper (envF (lamF X params scope c') f s.heap.objs.size)) → PE (ncx (L2.CX X.prog X.w) X.prog X.w X.K X.mg X.base N (lamF X params scope c') f A outer s H E) body (t E))
    (hdb : (x == ("__debug__" : Str)) = false := by decide) :
    PE X (.Call (.Name x p) [.Lambda params body scope lpos, .Name y yp] [] pos) (tLam2 T TT iy N js t) := by
  refine ⟨fun pins s σ H Q I h => ?_⟩
  obtain ⟨hT, v, hy, h⟩ := h
  have has : ∀ y ∈ scope.names, y.2 = .free → ∃ c, X.env.cells.lookup y.1 = some c := fun y m e => (hfree y m e).elim (fun z => I.ok.has _ (.inl z)) fun z => I.ok.has _ (.inr z)
  refine wpAny_Call_Name_kw (ld_glob I hg hm ?_ hdb)
  refine PySem.W.callWith_K (h₀ := X.base) I.ok.mod.kin hk ?_ (by rfl) (by rfl)
  refine Calls.spliced_cons (lam_make2 I TB hcode hmT hu hT hdef has fun f c' pm' ctv H1 s' I1 eN T1 hf hfn hfr' hco => ?_)
  refine Calls.spliced_cons (ld_slot I1 hny hvy hy (fun u ru => Calls.spliced_nil ⟨I1.kIn, ?_⟩) dy cy)
  have cp := Caps.made (X := X) (fr := fr) (js := js) (scope := scope) I.ok hfree hfr hjs
  have rc : codeAny (model X.prog X.w) X.A (.call (.ref g) ⟨[.ref f, u], []⟩) (CR CX0 X.stack X.prog X.w H1 s' Q E0) s' := by
    refine LamX.run_ofS (N := Ng) (ps := [a, b]) (us := [.ref f, u]) (vs := [.ref f, v]) lk hcg Sg hr I1.env0 (hb s' [.ref f, u] I1.kIn rfl) (.cons rfl (.cons ru .nil)) rfl fun hr' => ?_
    obtain ⟨t', ht', hq'⟩ := hG f c' s' H1 Q v (fun E w H' Q' => t E (startF N [w] (js.map (slotAt σ))) H' Q') ⟨_, hr'⟩
      (fun pn xe E p1 p2 p3 hx => pe_act1 I1 hf hfn hfr' S cp (hbind _ _ _ _ _) hx hr' (fun A outer s H E hr2 => hbody A outer s H E f c' hr2) na va nb vb da ca db cb) hco (h H1 eN T1)
    exact ⟨t', ht'.nox, hq'⟩
  refine wpAny_call (codeAny_mono rc fun r s2 z => ?_)
  cases r with
  | error e => exact (show False from z).elim
  | ok fl =>
    cases fl with
    | ret w => exact I1.after z
    | next => exact z.elim
    | brk => exact z.elim
    | cont => exact z.elim
end
section
variable {P : Program} {w : World} {K : PySem.W.Frag} {mg : Str → Option Value} {base : Heap} {CX : CXT} {k : Nat}
/-- a def of the text whose code object stands at c -/
def DefC (K : PySem.W.Frag) (mg : Str → Option Value) (st : Stmt) (x : Str) (c : Addr) : Prop := ∃ f fd, mg x = some (.ref f) ∧ Fun K x x st f fd ∧ fd.code = .ref c
theorem DefC.def_ {st : Stmt} {x : Str} {c : Addr} (D : DefC K mg st x c) : Def K mg st x := by
  obtain ⟨f, fd, a, b, _⟩ := D
  exact ⟨f, fd, a, b⟩
theorem Cal.ofC {x : Str} {st : Stmt} {N ps : List Str} {c : Addr} {sp : Sp} (D : DefC K mg st x c) (S : FnScope N ps (defScope st))
    (hb : ∀ (kV doc pm : Value) (an : Option Addr) (cdv ct : Value) (us : List Value), us.length = ps.length → bindArgs (PySem.W.fnOf x x (defArgs st) (defBody st) (defScope st) .none kV doc pm an cdv ct) ⟨us, []⟩ = pure (ps.zip us))
    (len : ∀ vs H Q E, sp vs H Q E → vs.length = ps.length)
    (hbody : ∀ (f : Addr) (A : Around) (outer : List Env) (s : Shared) (H : Hp) (vs : List V) (Q : VK) (E : XK), Room k (A.deeper (envOfC x (defScope st) s.heap.objs.size f (.ref c))) → sp vs H Q E →
      ∃ t, PSs (cxOf CX0 P w K mg base N x (defScope st) f (.ref c) A outer s H E).nox (defBody st) t ∧ t { nx := fun _ H' => Q .non H', rt := Q } (start N vs) H) : Cal P w K mg base CX0 (k + 1) x ps sp := by
  obtain ⟨f, fd, hm, F, e⟩ := D
  have at_ := Fun.at_ F
  have kp := F.kp
  obtain ⟨oc, od, kV, doc, pm, an, cdv, ct, osl, rfl, lk, hcd⟩ := F.ex
  obtain rfl : cdv = .ref c := e
  refine ⟨f, _, hm, fn_of lk hcd S len fun A outer s H vs Q E hr h => ?_, kp, hb kV doc pm an _ ct, at_⟩
  obtain ⟨t, h1, h2⟩ := hbody f A outer s H vs Q E hr h
  exact ⟨t, h1.nox, h2⟩
/-- a def that a slot may hold -/
structure HeldX (P : Program) (w : World) (K : PySem.W.Frag) (mg : Str → Option Value) (base : Heap) (CX : CXT) (k : Nat) (f : Addr) (sp : Sp) : Prop where
  ex : ∃ (fd : FuncData) (ps : List Str), FnOk P w K mg base CX k f fd ps sp ∧ PySem.W.keepIn K (.ref f) = true ∧ L2.Binds K fd ps []
theorem Cal.held {x : Str} {ps : List Str} {sp : Sp} {f : Addr} (C : Cal P w K mg base CX k x ps sp) (e : mg x = some (.ref f)) : HeldX P w K mg base CX k f sp := by
  obtain ⟨g, fd, hm, F, hk, hb⟩ := C.bound
  cases e.symm.trans hm
  exact ⟨fd, ps, F, hk, hb⟩
theorem HeldX.mono {j : Nat} {f : Addr} {sp : Sp} (h : HeldX P w K mg base CX j f sp) (l : j ≤ k) : HeldX P w K mg base CX k f sp := by
  obtain ⟨fd, ps, F, hk, hb⟩ := h.ex
  exact ⟨fd, ps, F.mono l, hk, hb⟩
end
theorem u_divW {X : Cx} : OpR X (binaryOp .FloorDiv) rDivW := by unfold rDivW; exact op_fdivW
/-- the i-th slot holds a def, S tells which promise -/
def tCallV (i : Nat) (S : Addr → Sp → Prop) (E : L2.St → XK) (t : TA) : TE := fun σ H Q => ∃ f sp, σ[i]? = some (some (.ref f)) ∧ S f sp ∧ t σ H fun vs H1 => sp vs H1 Q (E σ)
section
variable {X : Cx} {CX : CXT} {k i : Nat} {S : Addr → Sp → Prop} {E : L2.St → XK} {x : Str} {p pos : Pos} {e : Expr} {es : List Expr} {t : TA}
theorem pe_callV (A : ∀ f sp, S f sp → HeldX X.prog X.w X.K X.mg X.base CX k f sp) (hr : Room k X.A) (hN : X.N[i]? = some x) (hv : Vis X.env.scope x) (hx : ∀ σ, PassesAt CX X σ (E σ)) (ha : PA X (e :: es) t)
    (d1 : (x == ("__debug__" : Str)) = false := by decide) (d2 : (x == ("__classdict__" : Str)) = false := by decide) (he : starEach (e :: es) X.env = (false, eval e X.env) :: starEach es X.env := by rfl) (hpl : (backTo pos (starEach es X.env)).any (·.1) = false := by rfl) :
    PE X (.Call (.Name x p) (e :: es) [] pos) (tCallV i S E t) := by
  refine ⟨fun pins s σ H Q I h => ?_⟩
  obtain ⟨f, sp, h0, hS, ht⟩ := h
  obtain ⟨fd, ps, F, hk, hb⟩ := (A f sp hS).ex
  refine wpAny_Call_Name_kw (ld_slot I hN hv h0 (fun u r => ?_) d1 d2)
  obtain rfl : u = Value.ref f := r
  refine PySem.W.callWith_K (h₀ := X.base) I.ok.mod.kin hk (thn (ha.run pos pins s σ _ _ I ht) fun us s2 ⟨vs, H2, I2, r, q⟩ => ⟨I2.kIn, ?_⟩) he hpl
  exact run_fnS F hr hb (hx σ) I2 r q
/-- the lambda handed to a def of the text -/
theorem pe_lamD {st : Stmt} {T : List (Addr × Str)} {TT : (XK → V → Hp → VK → Prop) → V → Hp → VK → Prop} {a b y pa : Str} {c P : Addr} {iy : Nat} {Ng N fr : List Str} {js : List Nat} {params : Arguments} {body : Expr} {scope : Scope} {tb : XK → TE} {lpos yp : Pos}
    (D : Def X.K X.mg st x) (hb : ∀ (kV doc pm : Value) (an : Option Addr) (cdv ct : Value) (us : List Value), us.length = 2 → bindArgs (PySem.W.fnOf x x (defArgs st) (defBody st) (defScope st) .none kV doc pm an cdv ct) ⟨us, []⟩ = pure ([a, b].zip us)) (Sg : FnScope Ng [a, b] (defScope st))
    (hg : Gl X x) (na : Ng[0]? = some a) (va : Vis (defScope st) a) (nb : Ng[1]? = some b) (vb : Vis (defScope st) b)
    (hG : ∀ (g : Addr) (cdv : Value), Gives2 X Ng x (defScope st) g cdv (defBody st) a b (X.env.qual ++ "<lambda>") TT) (TB : TabB X.base X.mg c P) (hcode : X.env.code = .ref c) (eT : T = [(P, X.env.qual ++ "<lambda>")]) (hr : Room (k + 2) X.A)
    (S : NScope N [pa] fr scope) (hn : NdefX.ndefB X.env.scope scope fr = true) (hjs : js.map (fun j => X.N[j]?) = fr.map some)
    (hdef : defaultsOf params X.env = ([], [])) (hbind : ∀ (q : Str) (cl : List (Str × Addr)) (pm cv ctv u : Value), bindArgs (PySem.W.kla_fn "<lambda>" q params body scope cl pm cv ctv) ⟨[u], []⟩ = pure [(pa, u)])
    (hny : X.N[iy]? = some y) (hvy : Vis X.env.scope y)
    (hbody : ∀ (A : Around) (outer : List Env) (s : Shared) (H : Hp) (E : XK) (f c' : Addr), Room k (A.deeper (envF (lamF X params scope c') f s.heap.objs.size)) → PE (ncx (L2.CX X.prog X.w) X.prog X.w X.K X.mg X.base N (lamF X params scope c') f A outer s H E) body (tb E))
    (da : (a == ("__debug__" : Str)) = false := by decide) (ca : (a == ("__classdict__" : Str)) = false := by decide) (db : (b == ("__debug__" : Str)) = false := by decide) (cb : (b == ("__classdict__" : Str)) = false := by decide)
    (dy : (y == ("__debug__" : Str)) = false := by decide) (cy : (y == ("__classdict__" : Str)) = false := by decide) (hdb : (x == ("__debug__" : Str)) = false := by decide) :
    PE X (.Call (.Name x p) [.Lambda params body scope lpos, .Name y yp] [] pos) (tLam2 T TT iy N js tb) := by
  obtain ⟨g, fd, hm, F⟩ := D
  have kp := F.kp
  obtain ⟨oc, od, kV, doc, pm, an, cdv, ct, osl, rfl, lk, hcd⟩ := F.ex
  subst eT
  exact pe_lamcall2 hg hm kp lk hcd (.all (hb kV doc pm an cdv ct)) Sg na va nb vb da ca db cb (hG g cdv) TB hcode List.mem_cons_self (fun p hp _ => by rw [List.mem_singleton.mp hp]) hr S (NdefX.ndef_free hn) (NdefX.ndef_fr hn) hjs hdef hbind hny hvy dy cy hbody hdb
end
/-- try: .. except c: .. -/
def tTryC (K : PySem.W.Frag) (c : Value) (tb : WX → TS) (ts : Addr → Value → Option Addr → TS) : TS := fun D σ H => tb (wOnly K c ts (fun _ _ _ _ => False) D) D σ H
end Kb

/-! ## streams: what the defs promise -/
namespace Stm
open PySem PySem.Spec PyProof.Rows L2 Kb
/-- the kinds of things that are met -/
def Kd (t : String) : Prop := t = "NoneType" ∨ t = "bool" ∨ t = "int" ∨ t = "str" ∨ t = "list" ∨ t = "tuple" ∨ t = "dict"
def isB : V → Bool
  | .int i => decide (0 ≤ i ∧ i ≤ 255)
  | _ => false
def Knw (K : PySem.W.Frag) (H : Hp) (v : V) : Prop := ∃ t, TyX K H v (.type t) ∧ Kd t
/-- b is whether x is a row of bytes -/
def BA (K : PySem.W.Frag) (H : Hp) (x : V) (b : Bool) : Prop :=
  (∃ a vs, x = .ref a ∧ Inn H a vs ∧ (∀ v ∈ vs, Knw K H v) ∧ b = vs.all isB) ∨
  (∃ t, TyX K H x (.type t) ∧ (t = "NoneType" ∨ t = "bool" ∨ t = "int" ∨ t = "str" ∨ t = "dict") ∧ b = false)
def sp_is_bytes (K : PySem.W.Frag) : Sp := fun vs H Q _ => ∃ x b, vs = [x] ∧ BA K H x b ∧ ∀ H', Kp [] H H' → Q (.bl b) H'
/-- a list or a tuple of ints -/
@[reducible] def Ints (H : Hp) (a : Addr) (ns : List Int) : Prop := Inn H a (ns.map V.int)
/-- a new list of ints is told -/
def NewI (H : Hp) (Q : VK) (ns : List Int) : Prop := ∀ H' p, H p = none → Kp [] H H' → H' p = some (.lst (ns.map V.int)) → Q (.ref p) H'
def wsum : Int → List Int → Int
  | _, [] => 0
  | k, b :: bs => k * b + wsum (k + 1) bs
def chk (bs : List Int) : List Int := bs ++ [bs.sum % 65521 / 256, bs.sum % 65521 % 256, wsum 1 bs % 65521 / 256, wsum 1 bs % 65521 % 256]
def sp_checked (K : PySem.W.Frag) : Sp := fun vs H Q _ => ∃ a bs, vs = [.ref a] ∧ Ints H a bs ∧ bs.length ≤ 2000000 ∧ NewI H Q (chk bs)
def rstep (s : List Int × List Int) (b : Int) : List Int × List Int :=
  if b = 0 then (s.1 ++ ([(s.2.length : Int) + 1] ++ s.2), [])
  else if s.2.length + 1 = 254 then (s.1 ++ ([((s.2 ++ [b]).length : Int) + 1] ++ (s.2 ++ [b])), []) else (s.1, s.2 ++ [b])
def rst (bs : List Int) : List Int × List Int := bs.foldl rstep ([], [])
def inRuns (bs : List Int) : List Int :=
  if (rst bs).2 ≠ [] ∨ bs = [] ∨ bs.getLast? = some 0 then (rst bs).1 ++ ([((rst bs).2.length : Int) + 1] ++ (rst bs).2) else (rst bs).1
def sp_in_runs (K : PySem.W.Frag) : Sp := fun vs H Q _ => ∃ a bs, vs = [.ref a] ∧ H a = some (.lst (bs.map V.int)) ∧ bs.length ≤ 1000000 ∧ NewI H Q (inRuns bs)
def strm (pss : List (List Int)) : List Int := pss.flatMap fun p => inRuns (chk p) ++ [0]
def Okb (bs : List Int) : Prop := ∀ b ∈ bs, 0 ≤ b ∧ b ≤ 255
/-- parts at hand: rows of bytes -/
def Parts (H : Hp) (us : List V) (pss : List (List Int)) : Prop := us.length = pss.length ∧ ∀ (i : Nat) (v : V), us[i]? = some v → ∃ a ps, pss[i]? = some ps ∧ v = V.ref a ∧ Ints H a ps ∧ Okb ps ∧ ps.length ≤ 100000
/-- fields of an exception with one -/
def fs1 (f : Str) : List V → List (Str × V)
  | [w] => [(f, w)]
  | _ => []
def sp_NoBytes___init__ (K : PySem.W.Frag) : Sp := spInit (cAt K "NoBytes") 1 (fs1 "why")
def goodStreamed (vs : List V) (H : Hp) (Q : VK) : Prop := ∃ a us pss, vs = [.ref a] ∧ Inn H a us ∧ Parts H us pss ∧ (strm pss).length ≤ 8000000 ∧ NewI H Q (strm pss)
/-- streamed: of parts; or of rows among which one is none of bytes -/
def sp_streamed (K : PySem.W.Frag) : Sp := fun vs H Q E => goodStreamed vs H Q ∨ ∃ (a : Addr) (us rest : List V) (pss : List (List Int)) (x : V), vs = [.ref a] ∧ Inn H a (us ++ x :: rest) ∧ Parts H us pss ∧ (strm pss).length ≤ 8000000 ∧ BA K H x false ∧ ∀ H' d, Kp [] H H' → H' d = none → E (.ref (cAt K "NoBytes")) (some d) (upd H' d (.xd [("why", .str (PySem.Str.ofString "wire"))]))
end Stm

/-! ## the laws' own defs that several laws share: promises -/
namespace Stm
open PySem PySem.Spec PyProof.Rows L2 Kb
/-- the state of the draws: a list S of the cells' list C and three numbers -/
def St (H : Hp) (S C : Addr) : Prop := S ≠ C ∧ ∃ (cs : List Int) (w x n : Int), H S = some (.lst [.ref C, .int w, .int x, .int n]) ∧ H C = some (.lst (cs.map V.int)) ∧ cs.length ≤ 1000
@[irreducible] def sp_law_take (K : PySem.W.Frag) : Sp := fun vs H Q _ => ∃ S C m, vs = [.ref S, .int m] ∧ St H S C ∧ 0 < m ∧ m ≤ 100000000000000000000 ∧ ∀ H' r, Kp [S, C] H H' → St H' S C → 0 ≤ r → r < m → Q (.int r) H'
/-- a new list of bytes, at most n long, is told -/
def NewB (H : Hp) (Q : VK) (S C : Addr) (n : Nat) : Prop := ∀ H' p bs, H p = none → Kp [S, C] H H' → St H' S C → H' p = some (.lst (bs.map V.int)) → Okb bs → bs.length ≤ n → Q (.ref p) H'
@[irreducible] def sp_law_stretch (K : PySem.W.Frag) : Sp := fun vs H Q _ => ∃ S C, vs = [.ref S] ∧ St H S C ∧ NewB H Q S C 600
@[irreducible] def sp_law_part (K : PySem.W.Frag) : Sp := fun vs H Q _ => ∃ S C, vs = [.ref S] ∧ St H S C ∧ NewB H Q S C 2000
end Stm
namespace Stm
open PySem PySem.Spec PyProof.Rows L2 Kb
/-- drawing since H0: all that stood there stands but the state -/
def SC (H0 : Hp) (S C : Addr) (H : Hp) : Prop := Kp [S, C] H0 H ∧ St H S C
end Stm

/-! ## streams: what the runs are -/
namespace Stm
def enc (cs : List (List Int)) : List Int := cs.flatMap fun c => ((c.length : Int) + 1) :: c
def dec : List (List Int) → List Int
  | [] => []
  | c :: cs => c ++ (if c.length < 254 ∧ cs ≠ [] then [0] else []) ++ dec cs
/-- chunks as a row of runs has them; ahead is the size that was read last -/
def good : Int → List (List Int) → Prop
  | _, [] => True
  | ah, c :: cs => c.length ≤ 254 ∧ (∀ b ∈ c, b ≠ 0) ∧ ¬ (c = [] ∧ ah = 255 ∧ cs = []) ∧ good (c.length + 1) cs
def decF (cs : List (List Int)) : List Int := cs.flatMap fun c => c ++ (if c.length < 254 then [0] else [])
def cstep (s : List (List Int) × List Int) (b : Int) : List (List Int) × List Int :=
  if b = 0 then (s.1 ++ [s.2], []) else if s.2.length + 1 = 254 then (s.1 ++ [s.2 ++ [b]], []) else (s.1, s.2 ++ [b])
theorem enc_snoc (cs : List (List Int)) (c : List Int) : enc (cs ++ [c]) = enc cs ++ ([(c.length : Int) + 1] ++ c) := by
  unfold enc
  rw [List.flatMap_append, List.flatMap_singleton]
  rfl
theorem decF_snoc (cs : List (List Int)) (c : List Int) : decF (cs ++ [c]) = decF cs ++ (c ++ (if c.length < 254 then [0] else [])) := by
  unfold decF
  rw [List.flatMap_append, List.flatMap_singleton]
theorem dec_snoc : ∀ (cs : List (List Int)) (c : List Int), dec (cs ++ [c]) = decF cs ++ c
  | [], c => by simp [dec, decF]
  | d :: cs, c => by
    rw [List.cons_append]
    unfold dec
    rw [dec_snoc cs c]
    have e : decF (d :: cs) = d ++ (if d.length < 254 then [0] else []) ++ decF cs := by simp [decF]
    rw [e]
    have : cs ++ [c] ≠ [] := by simp
    simp [this]
theorem good_snoc : ∀ (cs : List (List Int)) (ah : Int) (c : List Int), (∀ d ∈ cs, d.length ≤ 254 ∧ ∀ b ∈ d, b ≠ 0) → c.length ≤ 254 → (∀ b ∈ c, b ≠ 0) →
    (c = [] → (cs = [] → ah ≠ 255) ∧ ∀ ds d, cs = ds ++ [d] → d.length ≠ 254) → good ah (cs ++ [c])
  | [], ah, c, h, hl, hn, hc => ⟨hl, hn, fun ⟨a, b, _⟩ => (hc a).1 rfl b, trivial⟩
  | d :: cs, ah, c, h, hl, hn, hc => by
    refine ⟨(h d List.mem_cons_self).1, (h d List.mem_cons_self).2, fun ⟨_, _, z⟩ => by simp at z, ?_⟩
    refine good_snoc cs _ c (fun e he => h e (List.mem_cons_of_mem _ he)) hl hn fun z => ⟨fun e => ?_, fun ds x e => (hc z).2 (d :: ds) x (by rw [e]; rfl)⟩
    have := (hc z).2 [] d (by rw [e]; rfl)
    omega
/-- the fold that makes the runs, with its chunks -/
def cst (bs : List Int) : List (List Int) × List Int := bs.foldl cstep ([], [])
theorem cst_snoc (xs : List Int) (b : Int) : cst (xs ++ [b]) = cstep (cst xs) b := by
  unfold cst
  rw [List.foldl_append]
  rfl
structure CI (xs : List Int) (s : List (List Int) × List Int) : Prop where
  r : rst xs = (enc s.1, s.2)
  d : xs = decF s.1 ++ s.2
  n : ∀ c ∈ s.1, c.length ≤ 254 ∧ ∀ b ∈ c, b ≠ 0
  l : s.2.length ≤ 253
  z : ∀ b ∈ s.2, b ≠ 0
  e : s.2 = [] → xs = [] ∨ ∃ ds d, s.1 = ds ++ [d] ∧ ((d.length = 254 ∧ xs.getLast? ≠ some 0) ∨ (d.length ≤ 253 ∧ xs.getLast? = some 0))
theorem rst_snoc' (xs : List Int) (b : Int) : rst (xs ++ [b]) = rstep (rst xs) b := by
  unfold rst
  rw [List.foldl_append]
  rfl
theorem CI.step {xs : List Int} {s : List (List Int) × List Int} (h : CI xs s) (b : Int) : CI (xs ++ [b]) (cstep s b) := by
  obtain ⟨s1, s2⟩ := s
  obtain ⟨r, d, n, l, z, e⟩ := h
  dsimp only at *
  unfold cstep
  by_cases h0 : b = 0
  · rw [if_pos h0]
    refine ⟨?_, ?_, ?_, Nat.zero_le _, (fun _ h => nomatch h), fun _ => .inr ⟨s1, s2, rfl, .inr ⟨l, by rw [List.getLast?_concat, h0]⟩⟩⟩
    · rw [rst_snoc', r]
      unfold rstep
      rw [if_pos h0]
      dsimp only
      rw [enc_snoc]
    · dsimp only
      rw [decF_snoc, if_pos (show s2.length < 254 by omega), d, h0]
      simp
    · intro c hc
      rcases List.mem_append.mp hc with hc | hc
      · exact n c hc
      · cases List.mem_singleton.mp hc
        exact ⟨Nat.le_trans l (by decide), z⟩
  · rw [if_neg h0]
    have zb : ∀ c ∈ s2 ++ [b], c ≠ 0 := fun c hc => by
      rcases List.mem_append.mp hc with hc | hc
      · exact z c hc
      · cases List.mem_singleton.mp hc
        exact h0
    by_cases h1 : s2.length + 1 = 254
    · rw [if_pos h1]
      refine ⟨?_, ?_, ?_, Nat.zero_le _, (fun _ h => nomatch h), fun _ => .inr ⟨s1, s2 ++ [b], rfl, .inl ⟨by simp; omega, by rw [List.getLast?_concat]; exact fun e => h0 (Option.some.inj e)⟩⟩⟩
      · rw [rst_snoc', r]
        unfold rstep
        rw [if_neg h0, if_pos h1]
        dsimp only
        rw [enc_snoc]
      · dsimp only
        rw [decF_snoc, if_neg (by simp; omega), d]
        simp
      · intro c hc
        rcases List.mem_append.mp hc with hc | hc
        · exact n c hc
        · cases List.mem_singleton.mp hc
          exact ⟨by simp; omega, zb⟩
    · rw [if_neg h1]
      refine ⟨?_, ?_, n, by simp; omega, zb, fun h => by simp at h⟩
      · rw [rst_snoc', r]
        unfold rstep
        rw [if_neg h0, if_neg h1]
      · dsimp only
        rw [d]
        simp
theorem ci_fold : ∀ (ys xs : List Int) (s : List (List Int) × List Int), CI xs s → ∃ t, CI (xs ++ ys) t
  | [], xs, s, h => ⟨s, by rw [List.append_nil]; exact h⟩
  | y :: ys, xs, s, h => by
    have := ci_fold ys (xs ++ [y]) _ (h.step y)
    rw [List.append_assoc] at this
    exact this
/-- a row in runs: chunks that are read back as the row -/
theorem runs_ex (bs : List Int) : ∃ cs, inRuns bs = enc cs ∧ dec cs = bs ∧ good 0 cs ∧ cs ≠ [] := by
  obtain ⟨⟨s1, s2⟩, r, d, n, l, z, e⟩ := ci_fold bs [] ([], []) ⟨rfl, rfl, (fun _ h => nomatch h), Nat.zero_le _, (fun _ h => nomatch h), fun _ => .inl rfl⟩
  rw [List.nil_append] at *
  dsimp only at *
  by_cases hc : s2 ≠ [] ∨ bs = [] ∨ bs.getLast? = some 0
  · refine ⟨s1 ++ [s2], ?_, ?_, good_snoc s1 0 s2 n (by omega) z fun h0 => ⟨fun _ => by decide, fun ds x hx hl => ?_⟩, by simp⟩
    · unfold inRuns
      rw [r, if_pos hc, enc_snoc]
    · rw [dec_snoc, ← d]
    · rcases e h0 with rfl | ⟨ds', x', h1, h2⟩
      · rw [hx, decF_snoc] at d
        have := congrArg List.length d
        simp at this
        omega
      · rw [hx] at h1
        obtain ⟨_, e2⟩ := List.append_inj' h1 rfl
        have e3 := (List.cons.inj e2).1
        subst e3
        rcases h2 with ⟨_, h2⟩ | ⟨h2, _⟩
        · rcases hc with h | rfl | h
          · exact h h0
          · rw [hx, decF_snoc] at d
            have := congrArg List.length d
            simp at this
            omega
          · exact h2 h
        · omega
  · have h0 : s2 = [] := Classical.byContradiction fun h => hc (.inl h)
    have h1 : bs ≠ [] := fun h => hc (.inr (.inl h))
    have h2 : bs.getLast? ≠ some 0 := fun h => hc (.inr (.inr h))
    rcases e h0 with h | ⟨ds, x, rfl, h⟩
    · exact absurd h h1
    · rcases h with ⟨hl, _⟩ | ⟨_, h⟩
      · refine ⟨ds ++ [x], ?_, ?_, good_snoc ds 0 x (fun c hc => n c (List.mem_append_left _ hc)) (by omega) (n x (List.mem_append_right _ List.mem_cons_self)).2 (fun h => by rw [h] at hl; cases hl), by simp⟩
        · unfold inRuns
          rw [r, if_neg hc]
        · rw [decF_snoc, if_neg (by omega), h0] at d
          rw [dec_snoc, d]
          simp
      · exact absurd h h2
end Stm
namespace Stm
theorem dec_mem {b : Int} : ∀ {cs : List (List Int)} {c : List Int}, c ∈ cs → b ∈ c → b ∈ dec cs
  | d :: cs, c, hc, hb => by
    unfold dec
    rcases List.mem_cons.mp hc with rfl | hc
    · exact List.mem_append_left _ (List.mem_append_left _ hb)
    · exact List.mem_append_right _ (dec_mem hc hb)
theorem good_mem : ∀ {cs : List (List Int)} {ah : Int} {c : List Int}, good ah cs → c ∈ cs → c.length ≤ 254 ∧ ∀ b ∈ c, b ≠ 0
  | d :: cs, ah, c, g, hc => by
    rcases List.mem_cons.mp hc with rfl | hc
    · exact ⟨g.1, g.2.1⟩
    · exact good_mem g.2.2.2 hc
theorem enc_bytes {cs : List (List Int)} {ah : Int} (g : good ah cs) (ok : ∀ b ∈ dec cs, 0 ≤ b ∧ b ≤ 255) : ∀ b ∈ enc cs, 1 ≤ b ∧ b ≤ 255 := by
  intro b hb
  unfold enc at hb
  obtain ⟨c, hc, hb⟩ := List.mem_flatMap.mp hb
  have := good_mem g hc
  rcases List.mem_cons.mp hb with rfl | hb
  · omega
  · have h1 := ok b (dec_mem hc hb)
    have h2 := this.2 b hb
    omega
theorem chk_okb {ps : List Int} (h : Okb ps) : Okb (chk ps) := by
  intro b hb
  unfold chk at hb
  rcases List.mem_append.mp hb with hb | hb
  · exact h b hb
  · have e1 := Int.emod_nonneg ps.sum (show (65521 : Int) ≠ 0 by decide)
    have e2 := Int.emod_lt_of_pos ps.sum (show (0 : Int) < 65521 by decide)
    have e3 := Int.emod_nonneg (wsum 1 ps) (show (65521 : Int) ≠ 0 by decide)
    have e4 := Int.emod_lt_of_pos (wsum 1 ps) (show (0 : Int) < 65521 by decide)
    simp only [List.mem_cons, List.not_mem_nil, or_false] at hb
    generalize ps.sum % 65521 = u at *
    generalize wsum 1 ps % 65521 = v at *
    rcases hb with rfl | rfl | rfl | rfl <;> omega
theorem runs_bytes {bs : List Int} (h : Okb bs) : ∀ b ∈ inRuns bs, 1 ≤ b ∧ b ≤ 255 := by
  obtain ⟨cs, e1, e2, g, _⟩ := runs_ex bs
  rw [e1]
  exact enc_bytes g (by rw [e2]; exact h)
theorem runs_ne (bs : List Int) : inRuns bs ≠ [] := by
  obtain ⟨cs, e1, e2, g, n⟩ := runs_ex bs
  rw [e1]
  match cs, n with
  | c :: cs, _ => intro h; cases h
theorem rstep_lenM {s : List Int × List Int} {b : Int} {n : Nat} (h : s.1.length + s.2.length ≤ 2 * n ∧ s.2.length ≤ 253) : (rstep s b).1.length + (rstep s b).2.length ≤ 2 * (n + 1) ∧ (rstep s b).2.length ≤ 253 := by
  unfold rstep
  split
  · simp only [List.length_append, List.length_cons, List.length_nil]
    omega
  · split
    · simp only [List.length_append, List.length_cons, List.length_nil]
      omega
    · simp only [List.length_append, List.length_cons, List.length_nil]
      omega
theorem rst_lenM : ∀ (ys : List Int) (s : List Int × List Int) (n : Nat), s.1.length + s.2.length ≤ 2 * n ∧ s.2.length ≤ 253 → (ys.foldl rstep s).1.length + (ys.foldl rstep s).2.length ≤ 2 * (n + ys.length)
  | [], s, n, h => h.1
  | y :: ys, s, n, h => by
    have := rst_lenM ys (rstep s y) (n + 1) (rstep_lenM h)
    rw [List.foldl_cons, List.length_cons]
    exact Nat.le_trans this (by omega)
theorem runs_len (bs : List Int) : (inRuns bs).length ≤ 2 * bs.length + 1 := by
  have := rst_lenM bs ([], []) 0 ⟨Nat.le_refl _, Nat.zero_le _⟩
  rw [Nat.zero_add] at this
  have : (rst bs).1.length + (rst bs).2.length ≤ 2 * bs.length := this
  unfold inRuns
  split
  · simp only [List.length_append, List.length_cons, List.length_nil]
    omega
  · omega
theorem strm_cons (p : List Int) (pss : List (List Int)) : strm (p :: pss) = inRuns (chk p) ++ [0] ++ strm pss := by simp [strm]
theorem strm_bytes : ∀ {pss : List (List Int)}, (∀ p ∈ pss, Okb p) → Okb (strm pss)
  | [], _ => fun _ h => nomatch h
  | p :: pss, h => by
    rw [strm_cons]
    intro b hb
    rcases List.mem_append.mp hb with hb | hb
    · rcases List.mem_append.mp hb with hb | hb
      · have := runs_bytes (chk_okb (h p List.mem_cons_self)) b hb
        omega
      · cases List.mem_singleton.mp hb
        decide
    · exact strm_bytes (fun q hq => h q (List.mem_cons_of_mem _ hq)) b hb
theorem strm_le : ∀ {pss : List (List Int)} {n : Nat}, (∀ p ∈ pss, p.length ≤ n) → (strm pss).length ≤ pss.length * (2 * n + 10)
  | [], n, _ => Nat.zero_le _
  | p :: pss, n, h => by
    rw [strm_cons, List.length_append, List.length_append]
    have h1 := runs_len (chk p)
    have h2 : (chk p).length = p.length + 4 := by simp [chk]
    have h3 := h p List.mem_cons_self
    have h4 := strm_le (pss := pss) (n := n) fun q hq => h q (List.mem_cons_of_mem _ hq)
    have h5 : (p :: pss).length * (2 * n + 10) = pss.length * (2 * n + 10) + (2 * n + 10) := by rw [List.length_cons, Nat.add_mul, Nat.one_mul]
    rw [h5]
    simp only [List.length_cons, List.length_nil]
    omega
end Stm
namespace Stm
open PySem PySem.Spec PyProof.Rows L2 Kb
theorem atI_app (pre : List Int) (x : Int) (ys : List Int) : atI ((pre ++ x :: ys).map V.int) (pre.length : Int) = some (.int x) :=
  atI_nat (by simp)
theorem sIx_nat (n d : Nat) (k : Nat) (h : k ≤ n) : HT.sIx n d (some (k : Int)) = k := by
  rw [HT.sIx_nat]
  omega
theorem cutI_mid {α : Type} (pre : List α) (x : α) (c ys : List α) : cutI (pre ++ x :: (c ++ ys)) (some ((pre.length : Int) + 1)) (some ((pre.length : Int) + ((c.length : Int) + 1))) = c := by
  have e1 : ((pre.length : Int) + 1) = ((pre.length + 1 : Nat) : Int) := by omega
  have e2 : ((pre.length : Int) + ((c.length : Int) + 1)) = ((pre.length + (c.length + 1) : Nat) : Int) := by omega
  unfold cutI
  rw [e1, e2, sIx_nat _ _ _ (by simp), sIx_nat _ _ _ (by simp)]
  have e3 : pre ++ x :: (c ++ ys) = (pre ++ [x]) ++ (c ++ ys) := by simp
  rw [e3, List.drop_left' (by simp), List.take_left' (by omega)]
theorem dec_cons (c : List Int) (cs : List (List Int)) : dec (c :: cs) = c ++ (if c.length < 254 ∧ cs ≠ [] then [0] else []) ++ dec cs := rfl
theorem enc_cons (c : List Int) (cs : List (List Int)) : enc (c :: cs) = ((c.length : Int) + 1) :: (c ++ enc cs) := rfl
theorem enc_len0 {cs : List (List Int)} (h : (enc cs).length = 0) : cs = [] := by
  match cs, h with
  | [], _ => rfl
  | c :: cs, h => rw [enc_cons] at h; simp at h
end Stm

namespace Stm
open PySem PySem.Spec PyProof.Rows L2 Kb
def t_NoBytes___init__ (K : PySem.W.Frag) : TS :=
 (tOst K "why" (tVar 0) (tVar 1))

def t_is_bytes (K : PySem.W.Frag) : TS :=
 (tSeq (tIfS (tNot (tTru K (tCB (rIsiU K) (tCons (tVar 0) (tCons (tTup (tCons (tC (.ty "list")) (tCons (tC (.ty "tuple")) tNil))) tNil)))))
 (tRet (tC (.bl false)))
 tNext)
 (tSeq (tFor (iSeq K (tVar 0)) (gName 1)
 (tIfS (tOr (tNot (tTru K (tCB (rIsiU K) (tCons (tVar 1) (tCons (tC (.ty "int")) tNil))))) (tOr (tTru K (tCB (rIsiU K) (tCons (tVar 1) (tCons (tC (.ty "bool")) tNil)))) (tOr (tTest (tOp rLtU (tVar 1) (tC (.int 0)))) (tTest (tOp rGtU (tVar 1) (tC (.int 255)))))))
 (tRet (tC (.bl false)))
 tNext))
 (tRet (tC (.bl true)))))

def t_checked (K : PySem.W.Frag) : TS :=
 (tSeq (tAsg2 (tC (.int 0)) (gName 1) (gName 2))
 (tSeq (tFor (iEnumS K (tCons (tVar 0) tNil) (tC (.int 1))) (gTup K 2 (gCons (gName 3) (gCons (gName 4) gNil)))
 (tSeq (tAug 1 (tVar 4) rIAddU)
 (tAug 2 (tOp (rMulU K) (tVar 3) (tVar 4)) rIAddU)))
 (tSeq (tAug 1 (tC (.int 65521)) rIModU)
 (tSeq (tAug 2 (tC (.int 65521)) rIModU)
 (tRet (tOp (rAddU K) (tCB (rListU K) (tCons (tVar 0) tNil)) (tLst (tCons (tOp rDivU (tVar 1) (tC (.int 256))) (tCons (tOp rModU (tVar 1) (tC (.int 256))) (tCons (tOp rDivU (tVar 2) (tC (.int 256))) (tCons (tOp rModU (tVar 2) (tC (.int 256))) tNil)))))))))))

def t_in_runs (K : PySem.W.Frag) : TS :=
 (tSeq (tAsg (tLst tNil) (gName 1))
 (tSeq (tAsg (tLst tNil) (gName 2))
 (tSeq (tFor (iList K (tVar 0)) (gName 3)
 (tSeq (tIfS (tTest (tOp (rNeU K) (tVar 3) (tC (.int 0))))
 (tDrop (tBM K "list" rAppU (tVar 2) (tCons (tVar 3) tNil)))
 tNext)
 (tIfS (tOr (tTest (tOp (rEqU K) (tVar 3) (tC (.int 0)))) (tTest (tOp (rEqU K) (tCB (rLenU K) (tCons (tVar 2) tNil)) (tC (.int 254)))))
 (tSeq (tAug 1 (tOp (rAddU K) (tLst (tCons (tOp (rAddU K) (tCB (rLenU K) (tCons (tVar 2) tNil)) (tC (.int 1))) tNil)) (tVar 2)) rIAddU)
 (tAsg (tLst tNil) (gName 2)))
 tNext)))
 (tSeq (tIfS (tOr (tTest (tOp (rNeU K) (tVar 2) (tLst tNil))) (tOr (tTest (tOp (rEqU K) (tVar 0) (tLst tNil))) (tTest (tOp (rEqU K) (tOp (rIxU K) (tVar 0) (tUn rNegU (tC (.int 1)))) (tC (.int 0))))))
 (tAug 1 (tOp (rAddU K) (tLst (tCons (tOp (rAddU K) (tCB (rLenU K) (tCons (tVar 2) tNil)) (tC (.int 1))) tNil)) (tVar 2)) rIAddU)
 tNext)
 (tRet (tVar 1))))))

def t_streamed (K : PySem.W.Frag) (E : XK) : TS :=
 (tSeq (tAsg (tLst tNil) (gName 1))
 (tSeq (tFor (iSeq K (tVar 0)) (gName 2)
 (tSeq (tIfS (tNot (tTru K (tCall (sp_is_bytes K) [] E0 (tCons (tVar 2) tNil))))
 (tRaiseI (cAt K "NoBytes") (sp_NoBytes___init__ K) (fun cls d _ H => E cls d H) (tCons (tC (.str (PySem.Str.ofString "wire"))) tNil))
 tNext)
 (tAug 1 (tOp (rAddU K) (tCall (sp_in_runs K) [] E0 (tCons (tCall (sp_checked K) [] E0 (tCons (tVar 2) tNil)) tNil)) (tLst (tCons (tC (.int 0)) tNil))) rIAddU)))
 (tRet (tVar 1))))

end Stm

/-! ## streams: the readings -/
namespace Stm
open PySem PySem.Spec PyProof.Rows L2 Kb
theorem len_is_bytes (K : PySem.W.Frag) : ∀ vs H Q E, sp_is_bytes K vs H Q E → vs.length = ["data"].length := by
  rintro _ _ _ _ ⟨_, _, rfl, _⟩; rfl
theorem len_checked (K : PySem.W.Frag) : ∀ vs H Q E, sp_checked K vs H Q E → vs.length = ["part"].length := by
  rintro _ _ _ _ ⟨_, _, rfl, _⟩; rfl
theorem len_in_runs (K : PySem.W.Frag) : ∀ vs H Q E, sp_in_runs K vs H Q E → vs.length = ["data"].length := by
  rintro _ _ _ _ ⟨_, _, rfl, _⟩; rfl
theorem len_streamed (K : PySem.W.Frag) : ∀ vs H Q E, sp_streamed K vs H Q E → vs.length = ["parts"].length := by
  rintro _ _ _ _ (⟨_, _, _, rfl, _⟩ | ⟨_, _, _, _, _, rfl, _⟩) <;> rfl
theorem kd_int {K : PySem.W.Frag} {t : String} (h : Kd t) : PySem.W.kitOne K (.type t) (.type "int") = some (t == "int" || t == "bool") := by
  rcases h with rfl | rfl | rfl | rfl | rfl | rfl | rfl <;> exact kit_ty (by decide +kernel)
theorem kd_bool {K : PySem.W.Frag} {t : String} (h : Kd t) : PySem.W.kitOne K (.type t) (.type "bool") = some (t == "bool") := by
  rcases h with rfl | rfl | rfl | rfl | rfl | rfl | rfl <;> exact kit_ty (by decide +kernel)
theorem ty_int_of' {K : PySem.W.Frag} {H : Hp} {v : V} {t : Value} (h : TyX K H v t) (e : t = .type "int") : ∃ i, v = .int i := by
  cases h with
  | base b =>
    cases b with
    | int i => exact ⟨i, rfl⟩
    | _ => exact absurd e (by first | (intro z; cases z; done) | (intro z; injection z with z; revert z; decide))
  | _ => exact absurd e (by first | (intro z; cases z; done) | (intro z; injection z with z; revert z; decide))
theorem ty_int_of {K : PySem.W.Frag} {H : Hp} {v : V} (h : TyX K H v (.type "int")) : ∃ i, v = .int i := ty_int_of' h rfl
theorem ty_not' {K : PySem.W.Frag} {H : Hp} {v : V} {t : Value} (h : TyX K H v t) (n : t ≠ .type "int") : isB v = false := by
  cases h with
  | base b =>
    cases b <;> first | rfl | exact absurd rfl n
  | _ => rfl
theorem ty_not {K : PySem.W.Frag} {H : Hp} {v : V} {t : String} (h : TyX K H v (.type t)) (n : t ≠ "int") : isB v = false := ty_not' h fun e => n (by injection e)
theorem p_is_bytes (K : PySem.W.Frag) (vs : List V) (H : Hp) (Q : VK) (E : XK) (h : sp_is_bytes K vs H Q E) : t_is_bytes K { nx := fun _ H' => Q .non H', rt := Q } (start ["data", "byte"] vs) H := by
  obtain ⟨x, b, rfl, hx, q⟩ := h
  rcases hx with ⟨a, vs, rfl, hs, hk, rfl⟩ | ⟨t, ht, hkd, rfl⟩
  · have key : ∀ T : String, (T = "list" ∨ T = "tuple") → TyX K H (.ref a) (.type T) → t_is_bytes K { nx := fun _ H' => Q .non H', rt := Q } (start ["data", "byte"] [V.ref a]) H := by
      intro T hT hty
      walk_at "go"
      rename_i p np
      refine isi2_go upd_same (tyX_same (Kp.refl.new np).same hty) (b := T == "list") (c := T == "tuple") ?_ ?_ ?_
      · rcases hT with rfl | rfl <;> exact kit_ty (by decide +kernel)
      · rcases hT with rfl | rfl <;> exact kit_ty (by decide +kernel)
      have e : (T == "list" || T == "tuple") = true := by rcases hT with rfl | rfl <;> decide
      rw [e]
      walk_at "go"
      rename_i J G w hG
      refine for_it w (fun i σ H' => (∃ u, σ = [some (.ref a), u]) ∧ Kp [] H H' ∧ ∀ v ∈ vs.take i, isB v = true) ⟨⟨_, rfl⟩, Kp.refl.new np, by simp⟩ (fun i σ H' _ h => hG H' ((upd_ne (hs.newNe np)).trans (hs.same h.2.1))) ?_ (fun σ H' h => ?_)
      · rintro i x σ H1 H2 hi ⟨⟨u, rfl⟩, hk1, hall⟩ ⟨rfl, hx⟩
        obtain ⟨t, ty, hkd⟩ := hk x (List.mem_of_getElem? hx)
        have ty := tyX_same hk1.same ty
        have no : t ≠ "int" → Q (.bl false) H2 := fun n => by
          have e : vs.all isB = false := by
            rw [List.all_eq_false]
            exact ⟨x, List.mem_of_getElem? hx, by rw [ty_not ty n]; decide⟩
          rw [← e]
          exact q _ hk1
        rcases hkd with rfl | rfl | rfl | rfl | rfl | rfl | rfl
        case inr.inr.inl =>
          obtain ⟨n, rfl⟩ := ty_int_of ty
          have bad : ¬ (0 ≤ n ∧ n ≤ 255) → Q (.bl false) H2 := fun hn => by
            have e : vs.all isB = false := by
              rw [List.all_eq_false]
              exact ⟨_, List.mem_of_getElem? hx, by simp [isB]; omega⟩
            rw [← e]
            exact q _ hk1
          walk_at "go"
          · exact bad (by omega)
          · exact bad (by omega)
          · intro v hv
            rw [List.take_add_one, hx] at hv
            rcases List.mem_append.mp hv with hv | hv
            · exact hall v hv
            · cases List.mem_singleton.mp hv
              simp only [isB]
              exact decide_eq_true (by omega)
        all_goals
          walk_at "go"
          exact no (by decide)
      · obtain ⟨⟨u, rfl⟩, hk1, hall⟩ := h
        walk_at "go"
        have e : vs.all isB = true := by
          rw [List.all_eq_true]
          intro v hv
          exact hall v (by rw [List.take_length]; exact hv)
        rw [← e]
        exact q _ hk1
    rcases hs with hs | hs
    · exact key "list" (.inl rfl) (.base (.lst hs))
    · exact key "tuple" (.inr rfl) (.base (.tup hs))
  · walk_at "go"
    rename_i p np
    refine isi2_go upd_same (tyX_same (Kp.refl.new np).same ht) (b := false) (c := false) ?_ ?_ ?_
    · rcases hkd with rfl | rfl | rfl | rfl | rfl <;> exact kit_ty (by decide +kernel)
    · rcases hkd with rfl | rfl | rfl | rfl | rfl <;> exact kit_ty (by decide +kernel)
    walk_at "go"
    exact q _ (Kp.refl.new np)
theorem sum_snoc (xs : List Int) (b : Int) : (xs ++ [b]).sum = xs.sum + b := by simp
theorem wsum_snoc : ∀ (xs : List Int) (k b : Int), wsum k (xs ++ [b]) = wsum k xs + (k + xs.length) * b
  | [], k, b => by simp [wsum]
  | x :: xs, k, b => by
    rw [List.cons_append]
    unfold wsum
    rw [wsum_snoc xs]
    simp only [List.length_cons]
    have e : k + 1 + (xs.length : Int) = k + ((xs.length + 1 : Nat) : Int) := by omega
    rw [e]
    omega
theorem map_get {xs : List Int} {i : Nat} {x : V} (h : (xs.map V.int)[i]? = some x) : ∃ b, xs[i]? = some b ∧ x = .int b := by
  rw [List.getElem?_map] at h
  obtain ⟨b, h1, h2⟩ := Option.map_eq_some_iff.mp h
  exact ⟨b, h1, h2.symm⟩
theorem p_checked (K : PySem.W.Frag) (vs : List V) (H : Hp) (Q : VK) (E : XK) (h : sp_checked K vs H Q E) : t_checked K { nx := fun _ H' => Q .non H', rt := Q } (start ["part", "total", "weighed", "number", "byte"] vs) H := by
  obtain ⟨a, bs, rfl, ha, hl, q⟩ := h
  walk_at "go"
  rename_i J G w hG
  refine for_it w (fun i σ H' => (∃ u v, σ = [some (.ref a), some (.int (bs.take i).sum), some (.int (wsum 1 (bs.take i))), u, v]) ∧ Kp [] H H') ⟨⟨_, _, rfl⟩, Kp.refl⟩ (fun i σ H' _ h => hG H' (ha.same h.2)) ?_ (fun σ H' h => ?_)
  · rintro i x σ H1 H2 hi ⟨⟨u, v, rfl⟩, hk1⟩ ⟨T, y, rfl, hT, rfl, hx⟩
    obtain ⟨b, hb, rfl⟩ := map_get hx
    rw [List.length_map] at hi
    walk_at "go"
    have e : bs.take (i + 1) = bs.take i ++ [b] := by rw [List.take_add_one, hb]; rfl
    have el : (bs.take i).length = i := by rw [List.length_take]; omega
    rw [e, sum_snoc, wsum_snoc, el]
    exact ⟨⟨_, _, rfl⟩, hk1.new hT⟩
  · obtain ⟨⟨u, v, rfl⟩, hk1⟩ := h
    rw [List.length_map, List.take_length]
    walk_at "go"
    rename_i p1 n1 p2 n2 p3 n3
    exact q _ p3 (none_of ((hk1.new n1).new n2) n3) (((hk1.new n1).new n2).new n3) (by rw [upd_same, chk, List.map_append]; rfl)
theorem rst_snoc (xs : List Int) (b : Int) : rst (xs ++ [b]) = rstep (rst xs) b := by
  unfold rst
  rw [List.foldl_append]
  rfl
theorem rstep_len {s : List Int × List Int} {b : Int} {n : Nat} (h : s.1.length + s.2.length ≤ 2 * n ∧ s.2.length ≤ 253) : (rstep s b).1.length + (rstep s b).2.length ≤ 2 * (n + 1) ∧ (rstep s b).2.length ≤ 253 := by
  unfold rstep
  split
  · simp only [List.length_append, List.length_cons, List.length_nil]
    omega
  · split
    · simp only [List.length_append, List.length_cons, List.length_nil]
      omega
    · simp only [List.length_append, List.length_cons, List.length_nil]
      omega
theorem rst_lenG : ∀ (ys : List Int) (s : List Int × List Int) (n : Nat), s.1.length + s.2.length ≤ 2 * n ∧ s.2.length ≤ 253 → (ys.foldl rstep s).1.length + (ys.foldl rstep s).2.length ≤ 2 * (n + ys.length) ∧ (ys.foldl rstep s).2.length ≤ 253
  | [], s, n, h => h
  | y :: ys, s, n, h => by
    have := rst_lenG ys (rstep s y) (n + 1) (rstep_len h)
    rw [List.foldl_cons, List.length_cons]
    refine ⟨Nat.le_trans this.1 (by omega), this.2⟩
theorem rst_len (xs : List Int) : (rst xs).1.length + (rst xs).2.length ≤ 2 * xs.length ∧ (rst xs).2.length ≤ 253 := by
  have := rst_lenG xs ([], []) 0 ⟨Nat.le_refl _, Nat.zero_le _⟩
  rw [Nat.zero_add] at this
  exact this
theorem rstep0 {s : List Int × List Int} {b : Int} (h : b = 0) : rstep s b = (s.1 ++ ([(s.2.length : Int) + 1] ++ s.2), []) := by unfold rstep; rw [if_pos h]
theorem rstepF {s : List Int × List Int} {b : Int} (h : ¬ b = 0) (h2 : s.2.length + 1 = 254) : rstep s b = (s.1 ++ ([((s.2 ++ [b]).length : Int) + 1] ++ (s.2 ++ [b])), []) := by unfold rstep; rw [if_neg h, if_pos h2]
theorem rstepN {s : List Int × List Int} {b : Int} (h : ¬ b = 0) (h2 : ¬ s.2.length + 1 = 254) : rstep s b = (s.1, s.2 ++ [b]) := by unfold rstep; rw [if_neg h, if_neg h2]
theorem p_in_runs (K : PySem.W.Frag) (vs : List V) (H : Hp) (Q : VK) (E : XK) (h : sp_in_runs K vs H Q E) : t_in_runs K { nx := fun _ H' => Q .non H', rt := Q } (start ["data", "found", "run", "byte"] vs) H := by
  obtain ⟨a, bs, rfl, ha, hl, q⟩ := h
  walk_at "go"
  rename_i f nf r nr
  have nf' : f ≠ r := by
    rintro rfl
    rw [upd_same] at nr
    cases nr
  have nr0 : H r = none := by rwa [upd_ne nf'.symm] at nr
  refine ⟨⟨_, by walk_at "l"⟩, ?_⟩
  refine for_it (walk_list (xs := bs.map V.int)) (fun i σ H' => ∃ r u, σ = [some (.ref a), some (.ref f), some (.ref r), u] ∧ Kp [] H H' ∧ H' f = some (.lst ((rst (bs.take i)).1.map V.int)) ∧ H' r = some (.lst ((rst (bs.take i)).2.map V.int)) ∧ H r = none ∧ f ≠ r) ⟨r, _, rfl, (Kp.refl.new nf).new nr, by walk_at "h", by walk_at "h", nr0, nf'⟩ (fun i σ H' _ h => ?_) ?_ (fun σ H' h => ?_)
  · obtain ⟨r, u, _, k, _⟩ := h
    exact SqL.of (by walk_at "h")
  · rintro i x σ H1 H2 hi ⟨r, u, rfl, hk1, hf, hr, hr0, hne⟩ ⟨rfl, hx⟩
    obtain ⟨b, hb, rfl⟩ := map_get hx
    rw [List.length_map] at hi
    have e : bs.take (i + 1) = bs.take i ++ [b] := by rw [List.take_add_one, hb]; rfl
    have el : (bs.take i).length = i := by rw [List.length_take]; omega
    have hlen := rst_len (bs.take i)
    rw [el] at hlen
    rw [e, rst_snoc]
    generalize rst (bs.take i) = s at *
    obtain ⟨s1, s2⟩ := s
    dsimp only at hf hr hlen
    walk_at "go"
    all_goals try (exfalso; omega)
    · rename_i h1 _ h2 p3 n3 p2 n2 p1 n1
      have h2 : s2.length + 1 = 254 := by
        rw [List.length_append, List.length_map, List.length_singleton] at h2
        omega
      rw [rstepF h1 h2]
      refine ⟨by walk_at "kp", (show _ = some _ from by walk_at "h").trans (by simp), upd_same, by walk_at "no", by walk_at "ne"⟩
    · rename_i h1 _ h2
      have h2 : ¬ s2.length + 1 = 254 := by
        rw [List.length_append, List.length_map, List.length_singleton] at h2
        omega
      rw [rstepN h1 h2]
      refine ⟨by walk_at "kp", by walk_at "h", upd_same.trans (by simp), hr0, hne⟩
    · rename_i h1 _ p3 n3 p2 n2 p1 n1
      rw [rstep0 h1]
      refine ⟨by walk_at "kp", (show _ = some _ from by walk_at "h").trans (by simp), upd_same, by walk_at "no", by walk_at "ne"⟩
  · obtain ⟨r, u, rfl, hk1, hf, hr, hr0, hne⟩ := h
    rw [List.length_map, List.take_length] at hf hr
    have hlen := rst_len bs
    walk_at "go"
    · rename_i p4 n4 h1 p2 n2 p1 n1
      refine q _ f nf (by walk_at "kp") ?_
      rw [upd_same, inRuns, if_pos (.inl h1)]
      simp
    · rename_i p4 n4 _ p3 n3 h1 p2 n2 p1 n1
      refine q _ f nf (by walk_at "kp") ?_
      rw [upd_same, inRuns, if_pos (.inr (.inl h1))]
      simp
    · rename_i p4 n4 h1 p3 n3 h2
      obtain ⟨ys, z, rfl⟩ : ∃ ys z, bs = ys ++ [z] := ⟨bs.dropLast, bs.getLast h2, (List.dropLast_concat_getLast h2).symm⟩
      have ea : (ys ++ [z]).map V.int = ys.map V.int ++ [V.int z] := by simp
      rw [ea] at ha
      refine ixL_go (SqL.of (by walk_at "h")) (atI_last _ _) ?_
      walk_at "go"
      · rename_i h3 p2 n2 p1 n1
        refine q _ f nf (by walk_at "kp") ?_
        rw [upd_same, inRuns, if_pos (.inr (.inr (by rw [List.getLast?_concat, h3])))]
        simp
      · rename_i h3
        refine q _ f nf (by walk_at "kp") ?_
        have n : ¬ ((rst (ys ++ [z])).2 ≠ [] ∨ ys ++ [z] = [] ∨ (ys ++ [z]).getLast? = some 0) := by
          rintro (h | h | h)
          · exact h h1
          · exact h2 h
          · rw [List.getLast?_concat] at h
            exact h3 (Option.some.inj h)
        rw [inRuns, if_neg n]
        walk_at "h"
theorem strm_len (pss : List (List Int)) (i : Nat) : (strm (pss.take i)).length ≤ (strm pss).length := by
  have e : strm pss = strm (pss.take i) ++ strm (pss.drop i) := by
    unfold strm
    rw [← List.flatMap_append, List.take_append_drop]
  rw [e, List.length_append]
  omega
theorem strm_snoc (pss : List (List Int)) (p : List Int) : strm (pss ++ [p]) = strm pss ++ (inRuns (chk p) ++ [0]) := by
  unfold strm
  rw [List.flatMap_append, List.flatMap_singleton]
theorem Parts.kp {H H' : Hp} {us : List V} {pss : List (List Int)} (h : Parts H us pss) (k : Kp [] H H') : Parts H' us pss := ⟨h.1, fun i v e => by
  obtain ⟨a, ps, h1, h2, h3, h4, h5⟩ := h.2 i v e
  exact ⟨a, ps, h1, h2, h3.kp k, h4, h5⟩⟩
theorem ba_ok {K : PySem.W.Frag} {H : Hp} {a : Addr} {ps : List Int} (h : Ints H a ps) (ok : Okb ps) : BA K H (.ref a) true := by
  refine .inl ⟨a, _, rfl, h, fun v hv => ?_, ?_⟩
  · obtain ⟨i, _, rfl⟩ := List.mem_map.mp hv
    exact ⟨"int", .base (.int i), .inr (.inr (.inl rfl))⟩
  · symm
    rw [List.all_eq_true]
    intro v hv
    obtain ⟨i, hi, rfl⟩ := List.mem_map.mp hv
    exact decide_eq_true (ok i hi)
theorem chk_len (ps : List Int) : (chk ps).length = ps.length + 4 := by simp [chk]
theorem len_NoBytes___init__ (K : PySem.W.Frag) : ∀ vs H Q E, sp_NoBytes___init__ K vs H Q E → vs.length = ["self", "why"].length := fun vs H Q E h => spInit_len vs H Q E h
theorem p_NoBytes___init__ (K : PySem.W.Frag) (T : XCls K (cAt K "NoBytes")) (n : PySem.W.findIn K (.ref (cAt K "NoBytes")) "why" = some none) (vs : List V) (H : Hp) (Q : VK) (E : XK) (h : sp_NoBytes___init__ K vs H Q E) : t_NoBytes___init__ K { nx := fun _ H' => Q .non H', rt := Q } (start ["self", "why"] vs) H := by
  unfold sp_NoBytes___init__ spInit at h
  obtain ⟨a, ws, rfl, hw, hH, q⟩ := h
  rcases ws with _ | ⟨w, _ | ⟨y, ws⟩⟩
  · cases hw
  · exact ⟨_, rfl, _, rfl, a, _, rfl, T.o, n, .inl ⟨hH, fun dx hd hne => q dx hd hne⟩⟩
  · cases hw
theorem BA.kp0 {K : PySem.W.Frag} {H H' : Hp} {x : V} {b : Bool} (h : BA K H x b) (k : Kp [] H H') : BA K H' x b := by
  rcases h with ⟨a, vs, rfl, h1, h2, h3⟩ | ⟨t, h1, h2, h3⟩
  · refine .inl ⟨a, vs, rfl, h1.kp k, fun v hv => ?_, h3⟩
    obtain ⟨t, ty, hk⟩ := h2 v hv
    exact ⟨t, tyX_same k.same ty, hk⟩
  · exact .inr ⟨t, tyX_same k.same h1, h2, h3⟩
theorem p_streamed0 (K : PySem.W.Frag) (vs : List V) (H : Hp) (Q : VK) (E : XK) (h : goodStreamed vs H Q) : t_streamed K E { nx := fun _ H' => Q .non H', rt := Q } (start ["parts", "found", "part"] vs) H := by
  obtain ⟨a, us, pss, rfl, ha, hp, hl, q⟩ := h
  walk_at "go"
  rename_i f nf J G w hG
  refine for_it w (fun i σ H' => (∃ u, σ = [some (.ref a), some (.ref f), u]) ∧ Kp [] H H' ∧ H' f = some (.lst ((strm (pss.take i)).map V.int))) ⟨⟨_, rfl⟩, Kp.refl.new nf, upd_same⟩ (fun i σ H' _ h => hG H' ?_) ?_ (fun σ H' h => ?_)
  · exact (upd_ne (ha.newNe nf)).trans (ha.same h.2.1)
  · rintro i x σ H1 H2 hi ⟨⟨u, rfl⟩, hk1, hf⟩ ⟨rfl, hx⟩
    obtain ⟨b, ps, hps, rfl, hb, hok, hpl⟩ := (hp.kp hk1).2 i x hx
    have e : pss.take (i + 1) = pss.take i ++ [ps] := by rw [List.take_add_one, hps]; rfl
    have hl1 := strm_len pss (i + 1)
    rw [e, strm_snoc, List.length_append, List.length_append] at hl1
    rw [e, strm_snoc]
    walk_at "go"
    refine ⟨.ref b, true, rfl, ba_ok hb hok, fun H3 k3 => ?_⟩
    walk_at "go"
    refine ⟨b, ps, rfl, hb.kp k3, by omega, fun H4 p np k4 hp4 => ?_⟩
    walk_at "go"
    refine ⟨p, chk ps, rfl, hp4, by rw [chk_len]; omega, fun H5 p2 np2 k5 hp5 => ?_⟩
    have hf5 := k5.at_ List.not_mem_nil (k4.at_ List.not_mem_nil (k3.at_ List.not_mem_nil hf))
    walk_at "go"
    have k := ((hk1.trans k3).trans k4).trans k5
    exact ⟨by walk_at "kp", upd_same.trans (by simp)⟩
  · obtain ⟨⟨u, rfl⟩, hk1, hf⟩ := h
    rw [hp.1, List.take_length] at hf
    walk_at "go"
    exact q _ f nf hk1 hf

theorem p_streamed (K : PySem.W.Frag) (vs : List V) (H : Hp) (Q : VK) (E : XK) (h : sp_streamed K vs H Q E) : t_streamed K E { nx := fun _ H' => Q .non H', rt := Q } (start ["parts", "found", "part"] vs) H := by
  rcases h with h | ⟨a, us, rest, pss, y, rfl, ha, hp, hl, hb, q⟩
  · exact p_streamed0 K vs H Q E h
  walk_at "go"
  rename_i f nf J G w hG
  refine for_it w (fun i σ H' => (∃ u, σ = [some (.ref a), some (.ref f), u]) ∧ Kp [] H H' ∧ i ≤ us.length ∧ H' f = some (.lst ((strm (pss.take i)).map V.int))) ⟨⟨_, rfl⟩, Kp.refl.new nf, Nat.zero_le _, upd_same⟩ (fun i σ H' _ h => hG H' ?_) ?_ (fun σ H' h => ?_)
  · exact (upd_ne (ha.newNe nf)).trans (ha.same h.2.1)
  · rintro i x σ H1 H2 hi ⟨⟨u, rfl⟩, hk1, hin, hf⟩ ⟨rfl, hx⟩
    by_cases hlt : i < us.length
    · rw [List.getElem?_append_left hlt] at hx
      obtain ⟨b, ps, hps, rfl, hb, hok, hpl⟩ := (hp.kp hk1).2 i x hx
      have e : pss.take (i + 1) = pss.take i ++ [ps] := by rw [List.take_add_one, hps]; rfl
      have hl1 := strm_len pss (i + 1)
      rw [e, strm_snoc, List.length_append, List.length_append] at hl1
      rw [e, strm_snoc]
      walk_at "go"
      refine ⟨.ref b, true, rfl, ba_ok hb hok, fun H3 k3 => ?_⟩
      walk_at "go"
      refine ⟨b, ps, rfl, hb.kp k3, by omega, fun H4 p np k4 hp4 => ?_⟩
      walk_at "go"
      refine ⟨p, chk ps, rfl, hp4, by rw [chk_len]; omega, fun H5 p2 np2 k5 hp5 => ?_⟩
      have hf5 := k5.at_ List.not_mem_nil (k4.at_ List.not_mem_nil (k3.at_ List.not_mem_nil hf))
      walk_at "go"
      have k := ((hk1.trans k3).trans k4).trans k5
      exact ⟨by walk_at "kp", by omega, upd_same.trans (by simp)⟩
    · obtain rfl : i = us.length := by omega
      rw [List.getElem?_append_right (Nat.le_refl _), Nat.sub_self] at hx
      cases hx
      walk_at "go"
      refine ⟨_, false, rfl, hb.kp0 hk1, fun H3 k3 => ?_⟩
      walk_at "go"
      exact (mkO_go (C := cAt K "NoBytes") (n := 1) (fs := fs1 "why") (vs := [.str (PySem.Str.ofString "wire")]) (H := H3) (Z := E) rfl (by decide) fun d hd => q H3 d (hk1.trans k3) hd).2 _ (by assumption)
  · obtain ⟨_, _, hin, _⟩ := h
    rw [List.length_append, List.length_cons] at hin
    omega
end Stm

namespace Stm
open PySem PySem.Spec PyProof.Rows L2 Kb
def t_law_take (K : PySem.W.Frag) : TS :=
 (tSeq (tIfS (tAnd (tTest (tOp (rEqU K) (tOp (rIxU K) (tVar 0) (tC (.int 1))) (tC (.int 0)))) (tAnd (tTest (tOp (rEqU K) (tOp rModU (tOp (rIxU K) (tVar 0) (tC (.int 3))) (tC (.int 5))) (tC (.int 0)))) (tTest (tOp (rNeU K) (tOp (rIxU K) (tVar 0) (tC (.int 0))) (tLst tNil)))))
 (tSeq (tAsg (tBM K "list" rPopU (tOp (rIxU K) (tVar 0) (tC (.int 0))) (tCons (tC (.int 0)) tNil)) (gName 2))
 (tSeq (tIfS (tTest (tOp rLtU (tVar 2) (tC (.int 0))))
 (tAsg (tOp rSubU (tC (.int 0)) (tOp (rMulU K) (tC (.int 3)) (tVar 2))) (gName 2))
 tNext)
 (tIfS (tTest (tOp rGeU (tVar 2) (tOp rPowU (tC (.int 10)) (tC (.int 18)))))
 (tAsg (tVar 2) (gSub (tVar 0) (tC (.int 1)) rSetU))
 (tAsg (tOp rModU (tOp (rAddU K) (tOp (rMulU K) (tOp (rIxU K) (tVar 0) (tC (.int 2))) (tC (.int 31))) (tVar 2)) (tC (.int 2147483647))) (gSub (tVar 0) (tC (.int 2)) rSetU)))))
 tNext)
 (tSeq (tIfS (tTest (tOp rGtU (tOp (rIxU K) (tVar 0) (tC (.int 1))) (tC (.int 0))))
 (tSeq (tAsg (tOp rModU (tOp (rIxU K) (tVar 0) (tC (.int 1))) (tVar 1)) (gName 3))
 (tSeq (tAsg (tOp rDivW (tOp (rIxU K) (tVar 0) (tC (.int 1))) (tVar 1)) (gSub (tVar 0) (tC (.int 1)) rSetU))
 (tRet (tVar 3))))
 tNext)
 (tSeq (tAsg (tOp (rAddU K) (tOp (rIxU K) (tVar 0) (tC (.int 3))) (tC (.int 1))) (gSub (tVar 0) (tC (.int 3)) rSetU))
 (tSeq (tAsg (tOp rModU (tOp (rAddU K) (tOp (rIxU K) (tVar 0) (tC (.int 2))) (tOp (rMulU K) (tC (.int 104729)) (tOp (rIxU K) (tVar 0) (tC (.int 3))))) (tC (.int 2147483647))) (gName 4))
 (tSeq (tAsg (tOp rModU (tOp rPowU (tVar 4) (tC (.int 5))) (tC (.int 2147483647))) (gName 4))
 (tSeq (tAsg (tOp rModU (tOp (rMulU K) (tVar 4) (tOp (rAddU K) (tOp rDivW (tVar 4) (tC (.int 1009))) (tC (.int 69621)))) (tC (.int 2147483399))) (gName 4))
 (tRet (tOp rModU (tOp rDivW (tVar 4) (tC (.int 16))) (tVar 1)))))))))

end Stm

namespace Stm
open PySem PySem.Spec PyProof.Rows L2 Kb
theorem divW20_go {i j : Int} {H : Hp} {Q : VK} (a : 0 < j) (b : j ≤ 100000000000000000000) (q : Q (.int (i / j)) H) : rDivW (.int i) (.int j) H Q := by
  refine divW_go (wide_div (b := 70) a ?_ (by decide) (by decide)) q
  have : (2 : Nat) ^ 70 = 1180591620717411303424 := by decide
  omega
end Stm
local macro_rules | `(tactic| walk_at "s1") => `(tactic| first
  | (refine' Stm.divW20_go ?k1 ?k2 ?kq; (case k1 => walk_at "c"); (case k2 => walk_at "c"))
  | fail)
/-! ## the laws' own defs that several laws share: readings -/
namespace Stm
open PySem PySem.Spec PyProof.Rows L2 Kb
theorem len_law_take (K : PySem.W.Frag) : ∀ vs H Q E, sp_law_take K vs H Q E → vs.length = ["_law_state", "_law_many"].length := by
  intro _ _ _ _ h
  unfold sp_law_take at h
  obtain ⟨_, _, _, rfl, _⟩ := h
  rfl
theorem p_law_take (K : PySem.W.Frag) (vs : List V) (H : Hp) (Q : VK) (E : XK) (h : sp_law_take K vs H Q E) : t_law_take K { nx := fun _ H' => Q .non H', rt := Q } (start ["_law_state", "_law_many", "_law_cell", "_law_digit", "_law_one"] vs) H := by
  unfold sp_law_take at h
  obtain ⟨S, C, m, rfl, ⟨hne, cs, w, x, n, hS, hC, hcl⟩, hm0, hm1, q⟩ := h
  have hne' := hne.symm
  have fin : ∀ H' c' w' x' n' r, Kp [S, C] H H' → H' S = some (.lst [.ref C, .int w', .int x', .int n']) → H' C = some (.lst (List.map V.int c')) → c'.length ≤ 1000 → Q (.int (r % m)) H' := fun H' c' w' x' n' r k h1 h2 h3 =>
    q H' _ k ⟨hne, c', w', x', n', h1, h2, h3⟩ (Int.emod_nonneg _ (by omega)) (Int.emod_lt_of_pos _ hm0)
  rcases cs with _ | ⟨c, cs⟩
  · walk_at "go"
    all_goals try (exfalso; simp at *; omega)
    all_goals exact fin _ [] _ _ _ _ (by walk_at "kp") (by walk_at "h") (by walk_at "h") (by decide)
  · have hcl' : cs.length ≤ 1000 := by simp at hcl; omega
    walk_at "go"
    all_goals try (exfalso; simp at *; done)
    all_goals first
      | exact fin _ cs _ _ _ _ (by walk_at "kp") (by walk_at "h") (by walk_at "h") hcl'
      | exact fin _ (c :: cs) _ _ _ _ (by walk_at "kp") (by walk_at "h") (by walk_at "h") hcl
section
variable {K : PySem.W.Frag} {Q : VK} {E : XK} {H0 H : Hp} {S C : Addr}
theorem SC.new {p : Addr} {o : HO} (sc : SC H0 S C H) (n : H p = none) : SC H0 S C (upd H p o) := by
  obtain ⟨k, hne, cs, w, x, m, hS, hC, hl⟩ := sc
  exact ⟨k.upd_new' n, hne, cs, w, x, m, (upd_ne (ne_of_none hS n)).trans hS, (upd_ne (ne_of_none hC n)).trans hC, hl⟩
theorem SC.nm {p : Addr} (sc : SC H0 S C H) (n : H p = none) : p ∉ [S, C] := by
  obtain ⟨k, hne, cs, w, x, m, hS, hC, hl⟩ := sc
  intro h
  rcases List.mem_cons.mp h with rfl | h
  · rw [hS] at n; cases n
  · cases List.mem_singleton.mp h
    rw [hC] at n; cases n
theorem SC.was {p : Addr} (sc : SC H0 S C H) (n : H p = none) : H0 p = none := sc.1.none_of (sc.nm n) n
theorem SC.upd {p : Addr} {o : HO} (sc : SC H0 S C H) (n : H0 p = none) (m : p ∉ [S, C]) : SC H0 S C (upd H p o) := by
  obtain ⟨k, hne, cs, w, x, z, hS, hC, hl⟩ := sc
  have h1 : S ≠ p := fun e => m (by rw [e]; exact List.mem_cons_self)
  have h2 : C ≠ p := fun e => m (by rw [e]; exact List.mem_cons_of_mem _ List.mem_cons_self)
  exact ⟨k.upd_new n, hne, cs, w, x, z, (upd_ne h1).trans hS, (upd_ne h2).trans hC, hl⟩
theorem take_go {m : Int} (sc : SC H0 S C H) (h0 : 0 < m) (h1 : m ≤ 100000000000000000000) (q : ∀ H' r, SC H0 S C H' → Kp [S, C] H H' → 0 ≤ r → r < m → Q (.int r) H') : sp_law_take K [.ref S, .int m] H Q E := by
  unfold sp_law_take
  exact ⟨S, C, m, rfl, sc.2, h0, h1, fun H' r k st a b => q H' r ⟨sc.1.trans k, st⟩ k a b⟩
theorem stretch_go (sc : SC H0 S C H) (q : ∀ H' p bs, H p = none → SC H0 S C H' → Kp [S, C] H H' → H' p = some (.lst (bs.map V.int)) → Okb bs → bs.length ≤ 600 → Q (.ref p) H') : sp_law_stretch K [.ref S] H Q E := by
  unfold sp_law_stretch
  exact ⟨S, C, rfl, sc.2, fun H' p bs n k st h o l => q H' p bs n ⟨sc.1.trans k, st⟩ k h o l⟩
theorem part_go (sc : SC H0 S C H) (q : ∀ H' p bs, H p = none → SC H0 S C H' → Kp [S, C] H H' → H' p = some (.lst (bs.map V.int)) → Okb bs → bs.length ≤ 2000 → Q (.ref p) H') : sp_law_part K [.ref S] H Q E := by
  unfold sp_law_part
  exact ⟨S, C, rfl, sc.2, fun H' p bs n k st h o l => q H' p bs n ⟨sc.1.trans k, st⟩ k h o l⟩
end
theorem ix_mem {α : Type} {xs : List α} {i : Int} (h0 : 0 ≤ i) (h1 : i < xs.length) : ∃ x, x ∈ xs ∧ atI xs i = some x := by
  have h : i.toNat < xs.length := by omega
  refine ⟨xs[i.toNat], List.getElem_mem h, ?_⟩
  have e : (i.toNat : Int) = i := by omega
  have := atI_nat (List.getElem?_eq_getElem h)
  rw [e] at this
  exact this
theorem ix_int {xs : List Int} {i : Int} (h0 : 0 ≤ i) (h1 : i < xs.length) : ∃ x, x ∈ xs ∧ atI (xs.map V.int) i = some (.int x) := by
  obtain ⟨x, hx, e⟩ := ix_mem (xs := xs.map V.int) (i := i) h0 (by rw [List.length_map]; exact h1)
  obtain ⟨y, hy, rfl⟩ := List.mem_map.mp hx
  exact ⟨y, hy, e⟩
theorem ixB_go {K : PySem.W.Frag} {H : Hp} {Q : VK} {a : Addr} {xs : List Int} {i : Int} (h : H a = some (.lst (xs.map V.int))) (h0 : 0 ≤ i) (h1 : i < xs.length) (q : ∀ x, x ∈ xs → Q (.int x) H) : rIxU K (.ref a) (.int i) H Q := by
  obtain ⟨x, hx, e⟩ := ix_int h0 h1
  exact ixL_go (SqL.of h) e (q x hx)
theorem okb_app {xs ys : List Int} (h : Okb xs) (g : Okb ys) : Okb (xs ++ ys) := fun b hb => (List.mem_append.mp hb).elim (h b) (g b)
theorem okb_nil : Okb [] := fun _ h => by cases h
theorem okb_one {b : Int} (h0 : 0 ≤ b) (h1 : b ≤ 255) : Okb [b] := fun c h => by cases List.mem_singleton.mp h; exact ⟨h0, h1⟩
theorem rep_ints (n : Nat) (b : Int) : (List.replicate n [V.int b]).flatten = (List.replicate n b).map V.int := by
  induction n with
  | zero => rfl
  | succ n ih => rw [List.replicate_succ, List.flatten_cons, ih]; rfl
theorem okb_rep {n : Nat} {b : Int} (h0 : 0 ≤ b) (h1 : b ≤ 255) : Okb (List.replicate n b) := fun c h => by rw [(List.mem_replicate.mp h).2]; exact ⟨h0, h1⟩
end Stm

/-! steps of the streams' laws: draws -/
local macro_rules | `(tactic| walk_at "sc") => `(tactic| first
  | assumption
  | (refine' Stm.SC.new ?k1 ?k2; (case k2 => assumption); (case k1 => walk_at "sc"))
  | (refine' Stm.SC.upd ?k1 ?k2 ?k3; (case k2 => assumption); (case k3 => assumption); (case k1 => walk_at "sc"))
  | fail)
local macro_rules | `(tactic| walk_at "tk") => `(tactic| first
  | (refine' Stm.take_go ?k1 ?k2 ?k3 (fun H1 r1 sc1 k1 h0 h1 => ?kq); (case k1 => walk_at "sc"); (case k2 => walk_at "c"); (case k3 => walk_at "c"))
  | (refine' Stm.stretch_go ?k1 (fun H1 p1 b1 n1 sc1 k1 h1 o1 l1 => ?kq); (case k1 => walk_at "sc"))
  | (refine' Stm.part_go ?k1 (fun H1 p1 b1 n1 sc1 k1 h1 o1 l1 => ?kq); (case k1 => walk_at "sc"))
  | fail)
local macro_rules | `(tactic| walk_at "nm") => `(tactic| first
  | assumption
  | exact List.not_mem_nil
  | (refine' Stm.SC.nm ?k1 ?k2; (case k2 => assumption); (case k1 => walk_at "sc"))
  | (refine' nm_cons ?kn ?km; (case kn => walk_at "ne"); (case km => walk_at "nm"))
  | fail)
local macro_rules | `(tactic| walk_at "go") => `(tactic| repeat' first | walk_at "tk" | walk_at "s")

/-! ## streams read: promises -/
namespace Stm
open PySem PySem.Spec PyProof.Rows L2 Kb
/-- runs read: fuel n, none where they are torn -/
def outF : Nat → List Int → Option (List Int)
  | 0, _ => some []
  | _, [] => some []
  | n + 1, s :: rest => if (rest.length : Int) + 1 < s then none else
      (outF n (rest.drop (s.toNat - 1))).map fun d => rest.take (s.toNat - 1) ++ (if s ≤ 254 ∧ rest.drop (s.toNat - 1) ≠ [] then [0] else []) ++ d
def outR (bs : List Int) : Option (List Int) := outF bs.length bs
def Pos1 (bs : List Int) : Prop := ∀ b ∈ bs, 1 ≤ b ∧ b ≤ 255
def sp_out_of_runs (K : PySem.W.Frag) : Sp := fun vs H Q _ => ∃ a bs, vs = [.ref a] ∧ H a = some (.lst (bs.map V.int)) ∧ Pos1 bs ∧ bs.length ≤ 1000000 ∧
  (outR bs = none → ∀ H', Kp [] H H' → Q .non H') ∧ ∀ ds, outR bs = some ds → NewI H Q ds
/-- what a piece tells: its part, or that it is torn -/
def told (bs : List Int) : Option (List Int) := match outR bs with
  | none => none
  | some ds => if 4 ≤ ds.length ∧ chk (ds.take (ds.length - 4)) = ds then some (ds.take (ds.length - 4)) else none
/-- a part or a torn piece at hand: place, part or none, length of the piece -/
structure Tl where
  place : Int
  part : Option (List Int)
  size : Nat
def tlAt (H : Hp) (v : V) (t : Tl) : Prop := ∃ T, v = .ref T ∧ match t.part with
  | some ps => ∃ l, H T = some (.tup [.str (PySem.Str.ofString "part"), .int t.place, .ref l]) ∧ H l = some (.lst (ps.map V.int))
  | none => H T = some (.tup [.str (PySem.Str.ofString "torn"), .int t.place, .int (t.size : Nat)])
/-- the addresses of what is told are new since H -/
def tlNew (H H' : Hp) (v : V) : Prop := ∀ T, v = .ref T → H T = none ∧ ∀ xs l, H' T = some (.tup xs) → V.ref l ∈ xs → H l = none
def tell (bs : List Int) (place : Int) : Tl := ⟨place, told bs, bs.length⟩
def sp_piece_told (K : PySem.W.Frag) : Sp := fun vs H Q _ => ∃ a bs place, vs = [.ref a, .int place] ∧ H a = some (.lst (bs.map V.int)) ∧ Pos1 bs ∧ bs.length ≤ 1000000 ∧
  ∀ H' v, Kp [] H H' → tlAt H' v (tell bs place) → tlNew H H' v → Q v H'
/-- a feeder at F: what it holds, where it stands -/
def Fdr (C : Addr) (H : Hp) (F h : Addr) (held : List Int) (place : Int) : Prop := F ≠ h ∧ ∃ dx, H F = some (.ins C dx [("held", .ref h), ("place", .int place)]) ∧ H h = some (.lst (held.map V.int))
def sp_Feeder___init__ (K : PySem.W.Frag) (C : Addr) : Sp := fun vs H Q _ => ∃ F dx, vs = [.ref F] ∧ H F = some (.ins C dx []) ∧ ∀ H' h, H h = none → Kp [F] H H' → Fdr C H' F h [] 0 → Q .non H'
def fstep (s : List Tl × List Int × Int) (b : Int) : List Tl × List Int × Int :=
  if b ≠ 0 then (s.1, s.2.1 ++ [b], s.2.2) else (if s.2.1 ≠ [] then s.1 ++ [tell s.2.1 s.2.2] else s.1, [], s.2.2 + (s.2.1.length + 1))
def fst (held : List Int) (place : Int) (bs : List Int) : List Tl × List Int × Int := bs.foldl fstep ([], held, place)
def Tls (H H' : Hp) (us : List V) (ts : List Tl) : Prop := us.length = ts.length ∧ ∀ (i : Nat) (v : V), us[i]? = some v → ∃ t, ts[i]? = some t ∧ tlAt H' v t ∧ tlNew H H' v
/-- what is told stands outside of M -/
def tlOut (M : List Addr) (H' : Hp) (v : V) : Prop := ∀ T, v = .ref T → T ∉ M ∧ ∀ xs l, H' T = some (.tup xs) → V.ref l ∈ xs → l ∉ M
def TlsM (M : List Addr) (H H' : Hp) (us : List V) (ts : List Tl) : Prop := us.length = ts.length ∧ ∀ (i : Nat) (v : V), us[i]? = some v → ∃ t, ts[i]? = some t ∧ tlAt H' v t ∧ tlNew H H' v ∧ tlOut M H' v
def feedGood (K : PySem.W.Frag) (C : Addr) : Sp := fun vs H Q _ => ∃ F h held place x bs, vs = [.ref F, .ref x] ∧ Fdr C H F h held place ∧ Inn H x (bs.map V.int) ∧ x ≠ F ∧ x ≠ h ∧ Okb bs ∧ Pos1 held ∧ bs.length + held.length ≤ 1000000 ∧
  ∀ H' p us h', H p = none → Kp [F, h] H H' → H' p = some (.lst us) → TlsM [h', p, F] H H' us (fst held place bs).1 → (h' = h ∨ H h' = none) → p ≠ h' → Pos1 (fst held place bs).2.1 → Fdr C H' F h' (fst held place bs).2.1 (fst held place bs).2.2 → Q (.ref p) H'
/-- feed: of bytes; or of what is none, which is refused -/
def sp_Feeder_feed (K : PySem.W.Frag) (C : Addr) : Sp := fun vs H Q E => feedGood K C vs H Q E ∨ ∃ f x, vs = [f, x] ∧ BA K H x false ∧ ∀ H' d, Kp [] H H' → H' d = none → E (.ref (cAt K "NoBytes")) (some d) (upd H' d (.xd [("why", .str (PySem.Str.ofString "wire"))]))
def sp_Feeder_done (K : PySem.W.Frag) (C : Addr) : Sp := fun vs H Q _ => ∃ F h held place, vs = [.ref F] ∧ Fdr C H F h held place ∧ held.length ≤ 1000000 ∧
  ∀ H' p us h', H p = none → Kp [F] H H' → H' p = some (.lst us) → Tls H H' us (if held ≠ [] then [⟨place, none, held.length⟩] else []) → H h' = none → Fdr C H' F h' [] 0 → Q (.ref p) H'
/-- all that a whole stream tells -/
def unst (bs : List Int) : List Tl := let s := fst [] 0 bs; s.1 ++ (if s.2.1 ≠ [] then [⟨s.2.2, none, s.2.1.length⟩] else [])
def goodUn (vs : List V) (H : Hp) (Q : VK) : Prop := ∃ x bs, vs = [.ref x] ∧ Inn H x (bs.map V.int) ∧ Okb bs ∧ bs.length ≤ 1000000 ∧
  ∀ H' p us, H p = none → Kp [] H H' → H' p = some (.lst us) → Tls H H' us (unst bs) → Q (.ref p) H'
def sp_unstreamed (K : PySem.W.Frag) : Sp := fun vs H Q E => goodUn vs H Q ∨ ∃ x, vs = [x] ∧ BA K H x false ∧ ∀ H' d, Kp [] H H' → H' d = none → E (.ref (cAt K "NoBytes")) (some d) (upd H' d (.xd [("why", .str (PySem.Str.ofString "wire"))]))
end Stm

namespace Stm
open PySem PySem.Spec PyProof.Rows L2 Kb
structure Own (K : PySem.W.Frag) (C : Addr) : Prop where
  cl : Cls K C
  n_held : NoAttr K C "held"
  n_place : NoAttr K C "place"
def t_out_of_runs (K : PySem.W.Frag) : TS :=
 (tSeq (tAsg (tLst tNil) (gName 1))
 (tSeq (tAsg (tC (.int 0)) (gName 2))
 (tSeq (tWhile (tTest (tOp rLtU (tVar 2) (tCB (rLenU K) (tCons (tVar 0) tNil))))
 (tSeq (tAsg (tOp (rIxU K) (tVar 0) (tVar 2)) (gName 3))
 (tSeq (tIfS (tTest (tOp rGtU (tOp (rAddU K) (tVar 2) (tVar 3)) (tCB (rLenU K) (tCons (tVar 0) tNil))))
 (tRet (tC .non))
 tNext)
 (tSeq (tAug 1 (tSl (rSlLU K) (tVar 0) (tPart (tOp (rAddU K) (tVar 2) (tC (.int 1)))) (tPart (tOp (rAddU K) (tVar 2) (tVar 3)))) rIAddU)
 (tSeq (tAug 2 (tVar 3) rIAddU)
 (tIfS (tAnd (tTest (tOp rLeU (tVar 3) (tC (.int 254)))) (tTest (tOp rLtU (tVar 2) (tCB (rLenU K) (tCons (tVar 0) tNil)))))
 (tDrop (tBM K "list" rAppU (tVar 1) (tCons (tC (.int 0)) tNil)))
 tNext))))))
 (tRet (tVar 1)))))

def t_piece_told (K : PySem.W.Frag) : TS :=
 (tSeq (tAsg (tCall (sp_out_of_runs K) [] E0 (tCons (tVar 0) tNil)) (gName 2))
 (tSeq (tIfS (tOr (tTest (tOp rIsNU (tVar 2) (tC .non))) (tOr (tTest (tOp rLtU (tCB (rLenU K) (tCons (tVar 2) tNil)) (tC (.int 4)))) (tTest (tOp (rNeU K) (tCall (sp_checked K) [] E0 (tCons (tSl (rSlLU K) (tVar 2) tNoPart (tPart (tUn rNegU (tC (.int 4))))) tNil)) (tVar 2)))))
 (tRet (tTup (tCons (tC (.str (PySem.Str.ofString "torn"))) (tCons (tVar 1) (tCons (tCB (rLenU K) (tCons (tVar 0) tNil)) tNil)))))
 tNext)
 (tRet (tTup (tCons (tC (.str (PySem.Str.ofString "part"))) (tCons (tVar 1) (tCons (tSl (rSlLU K) (tVar 2) tNoPart (tPart (tUn rNegU (tC (.int 4))))) tNil)))))))

def t_Feeder___init__ (K : PySem.W.Frag) (C : Addr) : TS :=
 (tSeq (sFldU K (tVar 0) (tLst tNil) "held")
 (sFldU K (tVar 0) (tC (.int 0)) "place"))

def t_Feeder_feed (K : PySem.W.Frag) (C : Addr) (E : XK) : TS :=
 (tSeq (tIfS (tNot (tTru K (tCall (sp_is_bytes K) [] E0 (tCons (tVar 1) tNil))))
 (tRaiseI (cAt K "NoBytes") (sp_NoBytes___init__ K) (fun cls d _ H => E cls d H) (tCons (tC (.str (PySem.Str.ofString "wire"))) tNil))
 tNext)
 (tSeq (tAsg (tLst tNil) (gName 2))
 (tSeq (tFor (iSeq K (tVar 1)) (gName 3)
 (tSeq (tIfS (tTest (tOp (rNeU K) (tVar 3) (tC (.int 0))))
 (tSeq (tDrop (tBM K "list" rAppU (tUn (rFldU K "held") (tVar 0)) (tCons (tVar 3) tNil)))
 tCont)
 tNext)
 (tSeq (tIfS (tTest (tOp (rNeU K) (tUn (rFldU K "held") (tVar 0)) (tLst tNil)))
 (tDrop (tBM K "list" rAppU (tVar 2) (tCons (tCall (sp_piece_told K) [] E0 (tCons (tUn (rFldU K "held") (tVar 0)) (tCons (tUn (rFldU K "place") (tVar 0)) tNil))) tNil)))
 tNext)
 (tSeq (sFldAugU K (tVar 0) (tOp (rAddU K) (tCB (rLenU K) (tCons (tUn (rFldU K "held") (tVar 0)) tNil)) (tC (.int 1))) rIAddU "place")
 (sFldU K (tVar 0) (tLst tNil) "held")))))
 (tRet (tVar 2)))))

def t_Feeder_done (K : PySem.W.Frag) (C : Addr) : TS :=
 (tSeq (tAsg (tLst tNil) (gName 1))
 (tSeq (tIfS (tTest (tOp (rNeU K) (tUn (rFldU K "held") (tVar 0)) (tLst tNil)))
 (tDrop (tBM K "list" rAppU (tVar 1) (tCons (tTup (tCons (tC (.str (PySem.Str.ofString "torn"))) (tCons (tUn (rFldU K "place") (tVar 0)) (tCons (tCB (rLenU K) (tCons (tUn (rFldU K "held") (tVar 0)) tNil)) tNil)))) tNil)))
 tNext)
 (tSeq (sFldU K (tVar 0) (tLst tNil) "held")
 (tSeq (sFldU K (tVar 0) (tC (.int 0)) "place")
 (tRet (tVar 1))))))

def t_unstreamed (K : PySem.W.Frag) (C : Addr) (E : XK) : TS :=
 (tSeq (tAsg (tMake C (sp_Feeder___init__ K C) [] E0 tNil) (gName 1))
 (tRet (tOp (rAddU K) (tMethUS C "feed" (sp_Feeder_feed K C) (WE (fun cls d _ H => E cls d H)) (tVar 1) (tCons (tVar 0) tNil)) (tMethU C "done" (sp_Feeder_done K C) E0 (tVar 1) tNil))))

end Stm

/-! ## streams read: readings -/
namespace Stm
open PySem PySem.Spec PyProof.Rows L2 Kb
theorem len_out_of_runs (K : PySem.W.Frag) : ∀ vs H Q E, sp_out_of_runs K vs H Q E → vs.length = ["piece"].length := by
  rintro _ _ _ _ ⟨_, _, rfl, _⟩; rfl
theorem outF_mono : ∀ (n : Nat) (xs : List Int), xs.length ≤ n → outF n xs = outF xs.length xs
  | 0, [], _ => rfl
  | n + 1, [], _ => rfl
  | n + 1, s :: rest, h => by
    have h1 : rest.length ≤ n := by simpa using h
    have hd : (rest.drop (s.toNat - 1)).length ≤ rest.length := by rw [List.length_drop]; omega
    show outF (n + 1) (s :: rest) = outF (rest.length + 1) (s :: rest)
    unfold outF
    rw [outF_mono n _ (Nat.le_trans hd h1), outF_mono rest.length _ hd]
theorem outR_cons (s : Int) (rest : List Int) : outR (s :: rest) = if (rest.length : Int) + 1 < s then none else
      (outR (rest.drop (s.toNat - 1))).map fun d => rest.take (s.toNat - 1) ++ (if s ≤ 254 ∧ rest.drop (s.toNat - 1) ≠ [] then [0] else []) ++ d := by
  have hd : (rest.drop (s.toNat - 1)).length ≤ rest.length := by rw [List.length_drop]; omega
  show outF (rest.length + 1) (s :: rest) = _
  unfold outF
  rw [outF_mono rest.length _ hd]
  rfl
theorem cutI_mid2 (pre rest : List Int) (x s : Int) (h1 : 1 ≤ s) (h2 : s ≤ rest.length + 1) : cutI (pre ++ x :: rest) (some ((pre.length : Int) + 1)) (some ((pre.length : Int) + s)) = rest.take (s.toNat - 1) := by
  have hl : (rest.take (s.toNat - 1)).length = s.toNat - 1 := by rw [List.length_take]; omega
  have := cutI_mid pre x (rest.take (s.toNat - 1)) (rest.drop (s.toNat - 1))
  rw [List.take_append_drop, hl] at this
  have e : (((s.toNat - 1 : Nat) : Int) + 1) = s := by omega
  rw [e] at this
  exact this
theorem p_out_of_runs (K : PySem.W.Frag) (vs : List V) (H : Hp) (Q : VK) (E : XK) (h : sp_out_of_runs K vs H Q E) : t_out_of_runs K { nx := fun _ H' => Q .non H', rt := Q } (start ["piece", "found", "at", "size"] vs) H := by
  obtain ⟨a, bs, rfl, ha, hpos, hl, qn, qs⟩ := h
  walk_at "go"
  rename_i L nL
  -- pre is read, rest is to be read; fnd is what was found
  obtain ⟨W, hW⟩ : ∃ W : Nat → L2.St → Hp → Prop, W = fun m σ H' => ∃ pre rest fnd u, m = List.length rest ∧ bs = pre ++ rest ∧ σ = [some (.ref a), some (.ref L), some (.int ((pre.length : Nat) : Int)), u] ∧ H' L = some (.lst (fnd.map V.int)) ∧ (outR rest).map (fnd ++ ·) = outR bs ∧ Kp [] H H' ∧ fnd.length ≤ 2 * pre.length := ⟨_, rfl⟩
  refine ⟨W, ⟨_, by rw [hW]; exact ⟨[], bs, [], none, rfl, rfl, rfl, upd_same, by cases outR bs <;> rfl, Kp.refl.new nL, Nat.zero_le _⟩⟩, ?_⟩
  intro m σ Ha hw
  rw [hW] at hw
  obtain ⟨pre, rest, fnd, u, rfl, hX, rfl, hL, hd, hk, hfl⟩ := hw
  have haa := hk.at_ List.not_mem_nil ha
  rcases rest with _ | ⟨s, rest⟩
  · rw [List.append_nil] at hX
    walk_at "go"
    · rename_i h1
      rw [List.length_map, hX] at h1
      omega
    · exact qs fnd (by rw [← hd]; simp [outR, outF]) _ L nL hk hL
  · have hs := hpos s (by rw [hX]; simp)
    have hix := atI_app pre s rest
    rw [← hX] at hix
    have hXl : bs.length = pre.length + (1 + rest.length) := by rw [hX]; simp; omega
    rw [outR_cons] at hd
    walk_at "go"
    · refine ⟨fun σ' H' => ∃ m', m' < List.length (s :: rest) ∧ W m' σ' H', fun _ _ h => h, ?_⟩
      walk_at "go"
      refine ixL_go (SqL.of haa) hix ?_
      walk_at "go"
      · rename_i h1
        rw [List.length_map] at h1
        rw [if_pos (by omega)] at hd
        exact qn hd.symm _ hk
      have hle : s ≤ rest.length + 1 := by
        have h1 : ¬ ((List.map V.int bs).length : Int) < (pre.length : Int) + s := by assumption
        rw [List.length_map] at h1
        omega
      have hcl : (rest.take (s.toNat - 1)).length = s.toNat - 1 := by rw [List.length_take]; omega
      have hdl : (rest.drop (s.toNat - 1)).length = rest.length - (s.toNat - 1) := List.length_drop
      have hcut := cutI_mid2 pre rest s s hs.1 hle
      rw [← hX] at hcut
      rw [cutV_map, hcut]
      rw [if_neg (by omega)] at hd
      have hX2 : bs = (pre ++ s :: rest.take (s.toNat - 1)) ++ rest.drop (s.toNat - 1) := by
        rw [hX, List.append_assoc, List.cons_append, List.take_append_drop]
      have hne : rest.drop (s.toNat - 1) ≠ [] ↔ s < rest.length + 1 := by
        constructor
        · intro h
          have := List.length_pos_iff.mpr h
          omega
        · intro h e
          rw [e] at hdl
          simp at hdl
          omega
      have fin : ∀ f' Hx, Kp [] H Hx → Hx L = some (.lst (f'.map V.int)) → f' = fnd ++ rest.take (s.toNat - 1) ++ (if s ≤ 254 ∧ rest.drop (s.toNat - 1) ≠ [] then [0] else []) → ∃ m', m' < (s :: rest).length ∧ W m' [some (.ref a), some (.ref L), some (.int ((pre.length : Int) + s)), some (.int s)] Hx := by
        intro f' Hx z1 z2 z3
        refine ⟨(rest.drop (s.toNat - 1)).length, by rw [hdl, List.length_cons]; omega, ?_⟩
        rw [hW]
        have el : (((pre ++ s :: rest.take (s.toNat - 1)).length : Nat) : Int) = (pre.length : Int) + s := by
          rw [List.length_append, List.length_cons, hcl]
          omega
        refine ⟨pre ++ s :: rest.take (s.toNat - 1), rest.drop (s.toNat - 1), f', _, rfl, hX2, by rw [el], z2, ?_, z1, ?_⟩
        · rw [← hd, Option.map_map]
          congr 1
          funext d
          rw [z3]
          simp
        · rw [z3]
          simp only [List.length_append, List.length_cons, hcl]
          split <;> simp <;> omega
      have hp' : (fnd ++ rest.take (s.toNat - 1)).length ≤ 4000000 := by rw [List.length_append, hcl]; omega
      have hml : (List.map V.int bs).length = bs.length := List.length_map ..
      generalize hct : rest.take (s.toNat - 1) = ct at *
      walk_at "go"
      all_goals
        rcases Decidable.em (s ≤ 254 ∧ s < rest.length + 1) with hh | hh
        · first
            | (exfalso; omega)
            | exact fin (fnd ++ ct ++ [0]) _ (by walk_at "kp") (upd_same.trans (by simp)) (by rw [if_pos ⟨hh.1, hne.mpr hh.2⟩])
        · first
            | (exfalso; omega)
            | exact fin (fnd ++ ct) _ (by walk_at "kp") (upd_same.trans (by simp)) (by rw [if_neg fun z => hh ⟨z.1, hne.mp z.2⟩]; simp)
    · rename_i h1
      rw [List.length_map] at h1
      omega
theorem len_piece_told (K : PySem.W.Frag) : ∀ vs H Q E, sp_piece_told K vs H Q E → vs.length = ["piece", "place"].length := by
  rintro _ _ _ _ ⟨_, _, _, rfl, _⟩; rfl
theorem outR_len : ∀ (n : Nat) (bs ds : List Int), bs.length ≤ n → outR bs = some ds → ds.length ≤ 2 * bs.length
  | _, [], ds, _, h => by cases h; exact Nat.zero_le _
  | n + 1, s :: rest, ds, hl, h => by
    rw [outR_cons] at h
    split at h
    · cases h
    · obtain ⟨d, h1, rfl⟩ := Option.map_eq_some_iff.mp h
      have hd : (rest.drop (s.toNat - 1)).length = rest.length - (s.toNat - 1) := List.length_drop
      have ht : (rest.take (s.toNat - 1)).length = min (s.toNat - 1) rest.length := List.length_take
      have hl2 : rest.length ≤ n := by simpa using hl
      have := outR_len n _ d (by rw [hd]; omega) h1
      simp only [List.length_append, List.length_cons, ht]
      rw [hd] at this
      split <;> simp <;> omega
theorem cut_end (ds : List Int) : cutI ds none (some (-4)) = ds.take (ds.length - 4) := by
  unfold cutI
  have e1 : HT.sIx ds.length 0 none = 0 := rfl
  have e2 : HT.sIx ds.length ds.length (some (-4)) = ds.length - 4 := by
    show (if (-4 : Int) < 0 then ((-4 : Int) + (ds.length : Int)).toNat else min (-4 : Int).toNat ds.length) = _
    rw [if_pos (by decide)]
    omega
  rw [e1, e2]
  simp
theorem p_piece_told (K : PySem.W.Frag) (vs : List V) (H : Hp) (Q : VK) (E : XK) (h : sp_piece_told K vs H Q E) : t_piece_told K { nx := fun _ H' => Q .non H', rt := Q } (start ["piece", "place", "data"] vs) H := by
  obtain ⟨a, bs, place, rfl, ha, hpos, hl, q⟩ := h
  have torn : ∀ H' p, H' p = none → Kp [] H H' → told bs = none → Q (.ref p) (upd H' p (.tup [.str (PySem.Str.ofString "torn"), .int place, .int (bs.length : Nat)])) := fun H' p np k ht => by
    refine q _ _ (k.new np) ⟨p, rfl, ?_⟩ fun T e => ?_
    · rw [show (tell bs place).part = none from ht]
      exact upd_same
    · cases e
      refine ⟨none_of k np, fun xs l hx hm => ?_⟩
      rw [upd_same] at hx
      cases hx
      simp at hm
  walk_at "go"
  refine ⟨a, bs, rfl, ha, hpos, hl, fun hn H1 k1 => ?_, fun ds hds H1 p1 n1 k1 h1 => ?_⟩
  · walk_at "go"
    rename_i p np
    rw [List.length_map]
    exact torn _ p np k1 (by unfold told; rw [hn])
  · have hdl := outR_len _ _ _ (Nat.le_refl _) hds
    have hml : (List.map V.int ds).length = ds.length := List.length_map ..
    walk_at "go"
    · rename_i h4 p np
      rw [List.length_map] at h4 ⊢
      exact torn _ p np k1 (by unfold told; rw [hds]; exact if_neg fun z => by omega)
    · rename_i h4 p2 n2
      rw [cutV_map, cut_end] at *
      refine ⟨p2, ds.take (ds.length - 4), rfl, .inl upd_same, by rw [List.length_take]; omega, fun H2 p3 n3 k3 h3 => ?_⟩
      have h12 : H2 p1 = some (.lst (ds.map V.int)) := by walk_at "h"
      walk_at "go"
      · rename_i hne p4 n4
        rw [List.length_map]
        exact torn _ p4 n4 ((k1.new n2).trans k3) (by unfold told; rw [hds]; exact if_neg fun z => hne z.2)
      · rename_i heq p4 n4 p5 n5
        have hp1 : told bs = some (ds.take (ds.length - 4)) := by unfold told; rw [hds]; exact if_pos ⟨by omega, heq⟩
        have k2 := (k1.new n2).trans k3
        refine q _ _ ((k2.new n4).new n5) ⟨p5, rfl, ?_⟩ fun T e => ?_
        · rw [show (tell bs place).part = some (ds.take (ds.length - 4)) from hp1]
          exact ⟨p4, upd_same, (upd_ne (ne_of_none upd_same n5)).trans (upd_same.trans (by rw [cutV_map, cut_end]))⟩
        · cases e
          refine ⟨none_of (k2.new n4) n5, fun xs l hx hm => ?_⟩
          rw [upd_same] at hx
          cases hx
          simp at hm
          rw [hm]
          exact none_of k2 n4
theorem len_Feeder___init__ (K : PySem.W.Frag) (C : Addr) : ∀ vs H Q E, sp_Feeder___init__ K C vs H Q E → vs.length = ["self"].length := by
  rintro _ _ _ _ ⟨_, _, rfl, _⟩; rfl
theorem p_Feeder___init__ (K : PySem.W.Frag) (C : Addr) (O : Own K C) (vs : List V) (H : Hp) (Q : VK) (E : XK) (h : sp_Feeder___init__ K C vs H Q E) : t_Feeder___init__ K C { nx := fun _ H' => Q .non H', rt := Q } (start ["self"] vs) H := by
  obtain ⟨F, dx, rfl, hF, q⟩ := h
  obtain ⟨cl, nh, np⟩ := O
  walk_at "go"
  rename_i p n0
  exact q _ p n0 (by walk_at "kp") ⟨ne_of_none hF n0, dx, upd_same, by walk_at "h"⟩
theorem tls_nil {H H' : Hp} : Tls H H' [] [] := ⟨rfl, fun i v e => nomatch e⟩
theorem tls_snoc {H H' : Hp} {us : List V} {ts : List Tl} {v : V} {t : Tl} (h : Tls H H' us ts) (a : tlAt H' v t) (n : tlNew H H' v) : Tls H H' (us ++ [v]) (ts ++ [t]) := by
  refine ⟨by rw [List.length_append, List.length_append, h.1]; rfl, fun i w e => ?_⟩
  by_cases hi : i < us.length
  · rw [List.getElem?_append_left hi] at e
    obtain ⟨u, h1, h2, h3⟩ := h.2 i w e
    exact ⟨u, by rw [List.getElem?_append_left (by rw [← h.1]; exact hi)]; exact h1, h2, h3⟩
  · rw [List.getElem?_append_right (by omega)] at e
    have e0 : i - us.length = 0 := by
      have := (List.getElem?_eq_some_iff.mp e).1
      simp at this
      omega
    rw [e0] at e
    cases e
    exact ⟨t, by rw [List.getElem?_append_right (by rw [← h.1]; omega), ← h.1, e0]; rfl, a, n⟩
theorem tls_one {H H' : Hp} {v : V} {t : Tl} (a : tlAt H' v t) (n : tlNew H H' v) : Tls H H' [v] [t] := tls_snoc tls_nil a n
theorem len_Feeder_done (K : PySem.W.Frag) (C : Addr) : ∀ vs H Q E, sp_Feeder_done K C vs H Q E → vs.length = ["self"].length := by
  rintro _ _ _ _ ⟨_, _, _, _, rfl, _⟩; rfl
theorem p_Feeder_done (K : PySem.W.Frag) (C : Addr) (O : Own K C) (vs : List V) (H : Hp) (Q : VK) (E : XK) (h : sp_Feeder_done K C vs H Q E) : t_Feeder_done K C { nx := fun _ H' => Q .non H', rt := Q } (start ["self", "found"] vs) H := by
  obtain ⟨F, h, held, place, rfl, ⟨hne, dx, hF, hh⟩, hl, q⟩ := h
  obtain ⟨cl, nh, np⟩ := O
  walk_at "go"
  · rename_i p3 n3 p2 n2 hn p1 n1 p0 n0
    rw [List.length_map] at *
    rw [if_pos hn] at q
    have n1' : H p1 = none := by walk_at "no"
    have z : ∀ x : Addr, H x = none → x ≠ F := fun x hx e => by rw [e, hF] at hx; cases hx
    have n0' : H p0 = none := by walk_at "no"
    have p13 : p1 ≠ p3 := (ne_of_none (by walk_at "h" : upd (upd H p3 (.lst [])) p2 (.lst []) p3 = some (.lst [])) n1).symm
    have p03 : p0 ≠ p3 := fun e => by rw [e, upd_same] at n0; cases n0
    have p01 : p0 ≠ p1 := fun e => by rw [e, upd_ne p13, upd_same] at n0; cases n0
    refine q _ p3 [V.ref p1] p0 n3 (by walk_at "kp") ?_ (tls_one ⟨p1, rfl, ?_⟩ fun T e => ?_) n0' ⟨(z _ n0').symm, dx, upd_same, ?_⟩
    · rw [upd_ne (z _ n3), upd_ne (z _ n3), upd_ne p03.symm]
      exact upd_same
    · show _ = _
      rw [upd_ne (z _ n1'), upd_ne (z _ n1'), upd_ne p01.symm, upd_ne p13]
      exact upd_same
    · cases e
      refine ⟨n1', fun xs l hx hm => ?_⟩
      rw [upd_ne (z _ n1'), upd_ne (z _ n1'), upd_ne p01.symm, upd_ne p13, upd_same] at hx
      cases hx
      simp at hm
    · rw [upd_ne (z _ n0'), upd_ne (z _ n0')]
      exact upd_same
  · rename_i p3 n3 p2 n2 hn p0 n0
    rw [if_neg (fun h => h hn)] at q
    have z : ∀ x : Addr, H x = none → x ≠ F := fun x hx e => by rw [e, hF] at hx; cases hx
    have n0' : H p0 = none := by walk_at "no"
    have p03 : p0 ≠ p3 := (ne_of_none (by walk_at "h" : upd (upd H p3 (.lst [])) p2 (.lst []) p3 = some (.lst [])) n0).symm
    refine q _ p3 [] p0 n3 (by walk_at "kp") ?_ tls_nil n0' ⟨(z _ n0').symm, dx, upd_same, ?_⟩
    · rw [upd_ne (z _ n3), upd_ne (z _ n3), upd_ne p03.symm]
      walk_at "h"
    · rw [upd_ne (z _ n0'), upd_ne (z _ n0')]
      exact upd_same
theorem upd_some {H : Hp} {a x : Addr} {o : HO} (h : H x ≠ none) : upd H a o x ≠ none := by
  by_cases e : x = a
  · rw [e, upd_same]
    exact fun z => nomatch z
  · rw [upd_ne e]
    exact h
theorem kp_some {M : List Addr} {H H' : Hp} {x : Addr} (k : Kp M H H') (n : x ∉ M) (h : H x ≠ none) : H' x ≠ none := by
  cases e : H x with
  | none => exact absurd e h
  | some o =>
    rw [k.at_ n e]
    exact fun z => nomatch z
theorem len_Feeder_feed (K : PySem.W.Frag) (C : Addr) : ∀ vs H Q E, sp_Feeder_feed K C vs H Q E → vs.length = ["self", "data"].length := by
  rintro _ _ _ _ (⟨_, _, _, _, _, _, rfl, _⟩ | ⟨_, _, rfl, _⟩) <;> rfl
theorem fst_snoc (held : List Int) (place : Int) (xs : List Int) (b : Int) : fst held place (xs ++ [b]) = fstep (fst held place xs) b := by
  unfold fst
  rw [List.foldl_append]
  rfl
theorem tl_same {M : List Addr} {H' H2 : Hp} {T : Addr} {t : Tl} (k : Kp M H' H2) (h : tlAt H' (.ref T) t) (hT : T ∉ M) : ∀ xs, H2 T = some (.tup xs) → H' T = some (.tup xs) := fun xs hx => by
  obtain ⟨T', e, h⟩ := h
  cases e
  split at h
  · obtain ⟨l, h1, h2⟩ := h
    rw [k.at_ hT h1] at hx
    rw [h1, hx]
  · rw [k.at_ hT h] at hx
    rw [h, hx]
theorem tl_kp {M : List Addr} {H H' H2 : Hp} {v : V} {t : Tl} (k : Kp M H' H2) (h : tlAt H' v t) (n : tlNew H H' v) (o : tlOut M H' v) : tlAt H2 v t ∧ tlNew H H2 v ∧ tlOut M H2 v := by
  have h0 := h
  obtain ⟨T, rfl, h⟩ := h
  obtain ⟨hT, hl⟩ := o T rfl
  have same := tl_same k h0 hT
  refine ⟨⟨T, rfl, ?_⟩, fun T' e => ?_, fun T' e => ?_⟩
  · split at h
    · rename_i ps hp
      obtain ⟨l, h1, h2⟩ := h
      exact ⟨l, k.at_ hT h1, k.at_ (hl _ l h1 (by simp)) h2⟩
    · exact k.at_ hT h
  · cases e
    exact ⟨(n T rfl).1, fun xs l hx hm => (n T rfl).2 xs l (same xs hx) hm⟩
  · cases e
    exact ⟨hT, fun xs l hx hm => hl xs l (same xs hx) hm⟩
theorem tl_add {M : List Addr} {H' : Hp} {v : V} {t : Tl} {p : Addr} (h : tlAt H' v t) (o : tlOut M H' v) (np : H' p = none) : tlOut (p :: M) H' v := fun T e => by
  subst e
  obtain ⟨T', e, h⟩ := h
  cases e
  obtain ⟨hT, hl⟩ := o T rfl
  split at h
  · obtain ⟨l0, h1, h2⟩ := h
    refine ⟨nm_cons (ne_of_none h1 np) hT, fun xs l hx hm => nm_cons ?_ (hl xs l hx hm)⟩
    rw [h1] at hx
    cases hx
    simp at hm
    rw [hm]
    exact ne_of_none h2 np
  · refine ⟨nm_cons (ne_of_none h np) hT, fun xs l hx hm => ?_⟩
    rw [h] at hx
    cases hx
    simp at hm
theorem tl_out {M : List Addr} {H H' : Hp} {v : V} (n : tlNew H H' v) (m : ∀ a ∈ M, H a ≠ none) : tlOut M H' v := fun T e => ⟨fun z => m T z (n T e).1, fun xs l hx hm z => m l z ((n T e).2 xs l hx hm)⟩
theorem TlsM.nil {M : List Addr} {H H' : Hp} : TlsM M H H' [] [] := ⟨rfl, fun i v e => nomatch e⟩
theorem TlsM.tls {M : List Addr} {H H' : Hp} {us : List V} {ts : List Tl} (h : TlsM M H H' us ts) : Tls H H' us ts := ⟨h.1, fun i v e => by
  obtain ⟨t, h1, h2, h3, _⟩ := h.2 i v e
  exact ⟨t, h1, h2, h3⟩⟩
theorem TlsM.kp {M : List Addr} {H H' H2 : Hp} {us : List V} {ts : List Tl} (h : TlsM M H H' us ts) (k : Kp M H' H2) : TlsM M H H2 us ts := ⟨h.1, fun i v e => by
  obtain ⟨t, h1, h2, h3, h4⟩ := h.2 i v e
  exact ⟨t, h1, tl_kp k h2 h3 h4⟩⟩
theorem TlsM.add {M : List Addr} {H H' : Hp} {us : List V} {ts : List Tl} {p : Addr} (h : TlsM M H H' us ts) (n : H' p = none) : TlsM (p :: M) H H' us ts := ⟨h.1, fun i v e => by
  obtain ⟨t, h1, h2, h3, h4⟩ := h.2 i v e
  exact ⟨t, h1, h2, h3, tl_add h2 h4 n⟩⟩
theorem TlsM.mono {M N : List Addr} {H H' : Hp} {us : List V} {ts : List Tl} (h : TlsM M H H' us ts) (m : ∀ a, a ∈ N → a ∈ M) : TlsM N H H' us ts := ⟨h.1, fun i v e => by
  obtain ⟨t, h1, h2, h3, h4⟩ := h.2 i v e
  exact ⟨t, h1, h2, h3, fun T e => ⟨fun z => (h4 T e).1 (m _ z), fun xs l hx hm z => (h4 T e).2 xs l hx hm (m _ z)⟩⟩⟩
theorem TlsM.snoc {M : List Addr} {H H' : Hp} {us : List V} {ts : List Tl} {v : V} {t : Tl} (h : TlsM M H H' us ts) (a : tlAt H' v t) (n : tlNew H H' v) (o : tlOut M H' v) : TlsM M H H' (us ++ [v]) (ts ++ [t]) := by
  refine ⟨by rw [List.length_append, List.length_append, h.1]; rfl, fun i w e => ?_⟩
  by_cases hi : i < us.length
  · rw [List.getElem?_append_left hi] at e
    obtain ⟨u, h1, h2, h3⟩ := h.2 i w e
    exact ⟨u, by rw [List.getElem?_append_left (by rw [← h.1]; exact hi)]; exact h1, h2, h3⟩
  · rw [List.getElem?_append_right (by omega)] at e
    have e0 : i - us.length = 0 := by
      have := (List.getElem?_eq_some_iff.mp e).1
      simp at this
      omega
    rw [e0] at e
    cases e
    exact ⟨t, by rw [List.getElem?_append_right (by rw [← h.1]; omega), ← h.1, e0]; rfl, a, n, o⟩
/-- newness since an earlier heap -/
theorem tlNew_since {M : List Addr} {H0 H H' : Hp} {v : V} (n : tlNew H H' v) (k : Kp M H0 H) (o : tlOut M H' v) : tlNew H0 H' v := fun T e => by
  obtain ⟨h1, h2⟩ := n T e
  exact ⟨k.none_of (o T e).1 h1, fun xs l hx hm => k.none_of ((o T e).2 xs l hx hm) (h2 xs l hx hm)⟩
theorem p_Feeder_feed (K : PySem.W.Frag) (C : Addr) (O : Own K C) (vs : List V) (H : Hp) (Q : VK) (E : XK) (h : sp_Feeder_feed K C vs H Q E) : t_Feeder_feed K C E { nx := fun _ H' => Q .non H', rt := Q } (start ["self", "data", "found", "byte"] vs) H := by
  rcases h with h | ⟨f, x, rfl, hb, q⟩
  rotate_left
  · walk_at "go"
    refine ⟨x, false, rfl, hb, fun H1 k1 => ?_⟩
    walk_at "go"
    exact (mkO_go (C := cAt K "NoBytes") (n := 1) (fs := fs1 "why") (vs := [.str (PySem.Str.ofString "wire")]) (H := H1) (Z := E) rfl (by decide) fun d hd => q H1 d k1 hd).2 _ (by assumption)
  obtain ⟨F, h, held, place, x, bs, rfl, ⟨hFh, dx, hF, hh⟩, hx, xF, xh, ok, hpos, hl, q⟩ := h
  obtain ⟨cl, nh, np⟩ := O
  walk_at "go"
  refine ⟨.ref x, true, rfl, ba_ok hx ok, fun H1 k1 => ?_⟩
  have hF1 := k1.at_ List.not_mem_nil hF
  have hh1 := k1.at_ List.not_mem_nil hh
  have hx1 : Inn H1 x (bs.map V.int) := hx.kp k1
  walk_at "go"
  rename_i p n1 J G w hG
  have n0 : H p = none := none_of k1 n1
  have pF : p ≠ F := (ne_of_none hF n0).symm
  have ph : p ≠ h := (ne_of_none hh n0).symm
  obtain ⟨PV, hPV⟩ : ∃ PV : Nat → L2.St → Hp → Prop, PV = fun i σ H' => ∃ u h' us dx', σ = [some (.ref F), some (.ref x), some (.ref p), u] ∧ Kp [F, h] H H' ∧ H' p = some (.lst us) ∧ TlsM [h', p, F] H H' us (fst held place (bs.take i)).1 ∧ (h' = h ∨ H h' = none) ∧ p ≠ h' ∧ F ≠ h' ∧
      H' F = some (.ins C dx' [("held", .ref h'), ("place", .int (fst held place (bs.take i)).2.2)]) ∧ H' h' = some (.lst ((fst held place (bs.take i)).2.1.map V.int)) ∧ Pos1 (fst held place (bs.take i)).2.1 ∧ (fst held place (bs.take i)).2.1.length ≤ held.length + i ∧ us.length ≤ i ∧ H' h ≠ none := ⟨_, rfl⟩
  refine for_it w PV (by rw [hPV]; exact ⟨_, h, [], dx, rfl, (k1.mono fun a z => nomatch z).upd_new n0, upd_same, .nil, .inl rfl, ph, hFh, (upd_ne pF.symm).trans hF1, (upd_ne ph.symm).trans hh1, hpos, Nat.le_refl _, Nat.le_refl _, upd_some (by rw [hh1]; exact fun z => nomatch z)⟩) (fun i σ H' _ z => hG H' ?_) ?_ (fun σ H' z => ?_)
  · rw [hPV] at z
    obtain ⟨u, h', us, dx', _, k, _⟩ := z
    have xp : x ≠ p := hx.newNe n0
    have e1 : Inn H' x (bs.map V.int) := hx.kpX k (nm_cons xF (nm_cons xh List.not_mem_nil))
    rw [upd_ne xp]
    rcases hx with e | e
    · rw [k1.at_ List.not_mem_nil e, k.at_ (nm_cons xF (nm_cons xh List.not_mem_nil)) e]
    · rw [k1.at_ List.not_mem_nil e, k.at_ (nm_cons xF (nm_cons xh List.not_mem_nil)) e]
  · rintro i y σ Ha Hb hi z0 ⟨eHb, hy⟩
    rw [hPV] at z0
    rw [eHb]
    obtain ⟨u, h', us, dx', rfl, k, hp, ht, hh', ph', Fh', hFa, hha, hps, hhl, hul, hhn⟩ := z0
    obtain ⟨b, hb, rfl⟩ := map_get hy
    rw [List.length_map] at hi
    have e : bs.take (i + 1) = bs.take i ++ [b] := by rw [List.take_add_one, hb]; rfl
    have hb2 := ok b (List.mem_of_getElem? hb)
    have fin : ∀ u h' us dx' H' t, t = fstep (fst held place (bs.take i)) b → Kp [F, h] H H' → H' p = some (.lst us) → TlsM [h', p, F] H H' us t.1 → (h' = h ∨ H h' = none) → p ≠ h' → F ≠ h' →
        H' F = some (.ins C dx' [("held", .ref h'), ("place", .int t.2.2)]) → H' h' = some (.lst (t.2.1.map V.int)) → Pos1 t.2.1 → t.2.1.length ≤ held.length + (i + 1) → us.length ≤ i + 1 → H' h ≠ none → PV (i + 1) [some (.ref F), some (.ref x), some (.ref p), u] H' := by
      intro u h' us dx' H' t et z1 z2 z3 z4 z5 z6 z7 z8 z9 z10 z11 z12
      rw [hPV]
      rw [← fst_snoc, ← e] at et
      subst et
      exact ⟨u, h', us, dx', rfl, z1, z2, z3, z4, z5, z6, z7, z8, z9, z10, z11, z12⟩
    clear hPV
    generalize fst held place (bs.take i) = s at *
    obtain ⟨s1, s2, s3⟩ := s
    dsimp only at hFa hha hps hhl ht
    walk_at "go"
    · rename_i h0
      have kp' : ∀ o, Kp [F, h] H (upd Ha h' o) := fun o => by
        rcases hh' with z | z
        · rw [z]
          exact k.upd_in (List.mem_cons_of_mem _ List.mem_cons_self)
        · exact k.upd_new z
      exact fin _ h' us dx' _ (s1, s2 ++ [b], s3) (if_pos h0).symm (kp' _) ((upd_ne ph').trans hp) (ht.kp (Kp.refl.upd_in List.mem_cons_self)) hh' ph' Fh' ((upd_ne Fh').trans hFa) (upd_same.trans (by simp)) (fun c hc => by
        rcases List.mem_append.mp hc with hc | hc
        · exact hps c hc
        · cases List.mem_singleton.mp hc
          omega) (by simp; omega) (by omega) (upd_some hhn)
    · rename_i h0 e0 ne0 h2
      have hpn : Ha p ≠ none := by rw [hp]; exact fun z => nomatch z
      have hFn : Ha F ≠ none := by rw [hFa]; exact fun z => nomatch z
      have hhn' : Ha h' ≠ none := by rw [hha]; exact fun z => nomatch z
      refine ⟨h', s2, s3, rfl, by walk_at "h", hps, by omega, fun H4 v k4 a4 n4 => ?_⟩
      have k5 : Kp [F, h] H H4 := (k.upd_new' ne0).trans (k4.mono fun a z => nomatch z)
      have o4 : tlOut [h', p, F] H4 v := tl_out n4 fun a z => by
        simp at z
        rcases z with rfl | rfl | rfl <;> exact upd_some (by assumption)
      have o5 : tlOut [F, h] H4 v := tl_out n4 fun a z => by
        simp at z
        rcases z with rfl | rfl <;> exact upd_some (by assumption)
      have t4 := ((ht.kp (Kp.refl.upd_new' (o := .lst []) ne0)).kp (k4.mono fun a z => nomatch z)).snoc a4 (tlNew_since n4 (k.upd_new' ne0) o5) o4
      have hF4 : H4 F = _ := k4.at_ List.not_mem_nil ((upd_ne (ne_of_none hFa ne0)).trans hFa)
      have hp4 : H4 p = _ := k4.at_ List.not_mem_nil ((upd_ne (ne_of_none hp ne0)).trans hp)
      have hh4 : H4 h' = _ := k4.at_ List.not_mem_nil ((upd_ne (ne_of_none hha ne0)).trans hha)
      have hn4 : H4 h ≠ none := kp_some k4 List.not_mem_nil (upd_some hhn)
      walk_at "go"
      rename_i p0 np0
      rw [List.length_map] at *
      have pF0 : p0 ≠ F := fun e => by rw [e, upd_same] at np0; cases np0
      rw [upd_ne pF0] at np0
      have pp0 : p0 ≠ p := fun e => by rw [e, upd_same] at np0; cases np0
      rw [upd_ne pp0] at np0
      have ph0 : p0 ≠ h := fun e => hn4 (e ▸ np0)
      have n0' : H p0 = none := k5.none_of (nm_cons pF0 (nm_cons ph0 List.not_mem_nil)) np0
      have et : fstep (s1, s2, s3) b = (s1 ++ [tell s2 s3], [], s3 + ((s2.length : Int) + 1)) := by
        unfold fstep
        rw [if_neg fun z => z h0, if_pos h2]
      refine fin _ p0 (us ++ [v]) dx' _ _ et.symm (by walk_at "kp") ?_ ?_ (.inr n0') pp0.symm pF0.symm upd_same ((upd_ne pF0).trans upd_same) (fun c hc => nomatch hc) (Nat.zero_le _) (by rw [List.length_append]; simp; omega) (upd_some (upd_some (upd_some (upd_some hn4))))
      · rw [upd_ne pF, upd_ne pp0.symm, upd_ne pF]
        exact upd_same
      · have m1 : p ∈ [h', p, F] := by simp
        have m2 : F ∈ [h', p, F] := by simp
        have t5 := ((t4.kp (Kp.refl.upd_in (o := .lst (us ++ [v])) m1)).kp (Kp.refl.upd_in (o := .ins C dx' [("held", V.ref h'), ("place", V.int (s3 + ((s2.length : Int) + 1)))]) m2)).add (p := p0) (by rw [upd_ne pF0, upd_ne pp0]; exact np0)
        exact ((t5.kp (Kp.refl.upd_in List.mem_cons_self)).kp (Kp.refl.upd_in (List.mem_cons_of_mem _ m2))).mono fun a z => by
          simp at z
          rcases z with rfl | rfl | rfl <;> simp
    · rename_i h0 e0 ne0 h2 p0 np0
      rw [List.length_map] at *
      have pF0 : p0 ≠ F := fun e => by rw [e, upd_same] at np0; cases np0
      rw [upd_ne pF0] at np0
      have np1 : Ha p0 = none := by
        by_cases z : p0 = e0
        · rw [z]; exact ne0
        · rwa [upd_ne z] at np0
      have pp0 : p0 ≠ p := (ne_of_none hp np1).symm
      have ph0 : p0 ≠ h := fun e => hhn (e ▸ np1)
      have n0' : H p0 = none := k.none_of (nm_cons pF0 (nm_cons ph0 List.not_mem_nil)) np1
      have ne0' : H e0 = none := k.none_of (nm_cons (ne_of_none hFa ne0).symm (nm_cons (fun e => hhn (e ▸ ne0)) List.not_mem_nil)) ne0
      have et : fstep (s1, s2, s3) b = (s1, [], s3 + ((s2.length : Int) + 1)) := by
        unfold fstep
        rw [if_neg fun z => z h0, if_neg fun z => z h2]
      refine fin _ p0 us dx' _ _ et.symm (by walk_at "kp") ?_ ?_ (.inr n0') pp0.symm pF0.symm upd_same ((upd_ne pF0).trans upd_same) (fun c hc => nomatch hc) (Nat.zero_le _) (by omega) (upd_some (upd_some (upd_some (upd_some hhn))))
      · rw [upd_ne pF, upd_ne pp0.symm, upd_ne pF, upd_ne (ne_of_none hp ne0)]
        exact hp
      · have m2 : F ∈ [h', p, F] := by simp
        have t5 := ((ht.kp (Kp.refl.upd_new' (o := .lst []) ne0)).kp (Kp.refl.upd_in (o := .ins C dx' [("held", V.ref h'), ("place", V.int (s3 + ((s2.length : Int) + 1)))]) m2)).add (p := p0) (by rw [upd_ne pF0]; exact np0)
        exact ((t5.kp (Kp.refl.upd_in List.mem_cons_self)).kp (Kp.refl.upd_in (List.mem_cons_of_mem _ m2))).mono fun a z => by
          simp at z
          rcases z with rfl | rfl | rfl <;> simp
  · rw [hPV] at z
    obtain ⟨u, h', us, dx', rfl, k, hp, ht, hh', ph', Fh', hFa, hha, hps', _⟩ := z
    rw [List.length_map, List.take_length] at *
    walk_at "go"
    exact q _ p us h' n0 k hp ht hh' ph' hps' ⟨Fh', dx', hFa, hha⟩
theorem len_unstreamed (K : PySem.W.Frag) : ∀ vs H Q E, sp_unstreamed K vs H Q E → vs.length = ["data"].length := by
  rintro _ _ _ _ (⟨_, _, rfl, _⟩ | ⟨_, rfl, _⟩) <;> rfl
theorem tls_move {M : List Addr} {H0 Hb H' H2 : Hp} {us : List V} {ts : List Tl} (h : Tls Hb H' us ts) (k : Kp M H' H2) (m : ∀ a ∈ M, Hb a ≠ none) (k0 : Kp [] H0 Hb) : Tls H0 H2 us ts := ⟨h.1, fun i v e => by
  obtain ⟨t, h1, h2, h3⟩ := h.2 i v e
  obtain ⟨a, b, c⟩ := tl_kp k h2 h3 (tl_out h3 m)
  exact ⟨t, h1, a, tlNew_since b k0 fun T e => ⟨List.not_mem_nil, fun _ _ _ _ => List.not_mem_nil⟩⟩⟩
theorem tls_app {H H' : Hp} {us vs : List V} {ts rs : List Tl} (h : Tls H H' us ts) (g : Tls H H' vs rs) : Tls H H' (us ++ vs) (ts ++ rs) := by
  refine ⟨by rw [List.length_append, List.length_append, h.1, g.1], fun i w e => ?_⟩
  by_cases hi : i < us.length
  · rw [List.getElem?_append_left hi] at e
    obtain ⟨u, h1, h2, h3⟩ := h.2 i w e
    exact ⟨u, by rw [List.getElem?_append_left (by rw [← h.1]; exact hi)]; exact h1, h2, h3⟩
  · rw [List.getElem?_append_right (by omega)] at e
    obtain ⟨u, h1, h2, h3⟩ := g.2 _ w e
    exact ⟨u, by rw [List.getElem?_append_right (by rw [← h.1]; omega), ← h.1]; exact h1, h2, h3⟩
theorem fst_lens : ∀ (bs : List Int) (s : List Tl × List Int × Int), (bs.foldl fstep s).1.length ≤ s.1.length + bs.length ∧ (bs.foldl fstep s).2.1.length ≤ s.2.1.length + bs.length
  | [], s => ⟨Nat.le_refl _, Nat.le_refl _⟩
  | b :: bs, s => by
    have h := fst_lens bs (fstep s b)
    have h2 : (fstep s b).1.length ≤ s.1.length + 1 ∧ (fstep s b).2.1.length ≤ s.2.1.length + 1 := by
      unfold fstep
      split
      · exact ⟨Nat.le_succ _, by simp⟩
      · dsimp only
        split <;> exact ⟨by simp, Nat.zero_le _⟩
    rw [List.foldl_cons, List.length_cons]
    omega
theorem p_unstreamed0 (K : PySem.W.Frag) (C : Addr) (O : Own K C) (vs : List V) (H : Hp) (Q : VK) (E : XK) (h : goodUn vs H Q) : t_unstreamed K C E { nx := fun _ H' => Q .non H', rt := Q } (start ["data", "feeder"] vs) H := by
  obtain ⟨x, bs, rfl, hx, ok, hl, q⟩ := h
  obtain ⟨cl, nh, np⟩ := O
  unfold t_unstreamed tMethUS
  walk_at "go"
  rename_i F dx nF nd ne
  have k0 : Kp [] H (upd (upd H dx (.own F)) F (.ins C dx [])) := (Kp.refl.upd_new' nd).upd_new nF
  refine ⟨F, dx, rfl, upd_same, fun H1 h1 nh1 k1 ⟨hne, dx1, hF1, hh1⟩ => ?_⟩
  have k01 : Kp [] H H1 := k0.drop k1 fun a z => by
    rw [List.mem_singleton.mp z]
    exact .inr nF
  have nh0 : H h1 = none := none_of k0 nh1
  walk_at "go"
  refine .inl ⟨F, h1, [], 0, x, bs, rfl, ⟨hne, dx1, hF1, hh1⟩, hx.kp k01, hx.newNe nF, hx.newNe nh0, ok, (fun _ z => nomatch z), by simp; exact hl, fun H2 p us h2 np2 k2 hp2 ht2m hh2 ph2 _ ⟨hne2, dx2, hF2, hh2'⟩ => ?_⟩
  have ht2 := ht2m.tls
  have hlen := fst_lens bs ([], [], 0)
  have k02 : Kp [] H H2 := k01.drop k2 fun a z => by
    simp at z
    rcases z with rfl | rfl
    · exact .inr nF
    · exact .inr nh0
  walk_at "go"
  refine ⟨F, h2, _, _, rfl, ⟨hne2, dx2, hF2, hh2'⟩, ?_, fun H3 p3 us3 h3 np3 k3 hp3 ht3 nh3 _ => ?_⟩
  · have : (fst [] 0 bs).2.1.length ≤ 0 + bs.length := hlen.2
    omega
  have pF : p ≠ F := fun e => by rw [e, hF1] at np2; cases np2
  have k03 : Kp [] H H3 := k02.drop k3 fun a z => by
    rw [List.mem_singleton.mp z]
    exact .inr nF
  have hp3' : H3 p = some (.lst us) := k3.at_ (nm_cons pF List.not_mem_nil) hp2
  have hul : us.length ≤ 1000000 := by
    rw [ht2.1]
    have : (fst [] 0 bs).1.length ≤ 0 + bs.length := hlen.1
    omega
  have hul3 : us3.length ≤ 1 := by
    rw [ht3.1]
    split <;> simp
  walk_at "go"
  rename_i p4 n4
  refine q _ p4 (us ++ us3) (none_of k03 n4) (k03.new n4) upd_same ?_
  unfold unst
  have a1 := tls_move (M := [F]) (H0 := H) ht2 k3 (fun a z => by rw [List.mem_singleton.mp z, hF1]; exact fun z => nomatch z) k01
  exact tls_app (tls_move (M := []) a1 (Kp.refl.upd_new' n4) (fun a z => absurd z List.not_mem_nil) Kp.refl) (tls_move (M := []) ht3 (Kp.refl.upd_new' n4) (fun a z => absurd z List.not_mem_nil) k02)
theorem p_unstreamed (K : PySem.W.Frag) (C : Addr) (O : Own K C) (vs : List V) (H : Hp) (Q : VK) (E : XK) (h : sp_unstreamed K vs H Q E) : t_unstreamed K C E { nx := fun _ H' => Q .non H', rt := Q } (start ["data", "feeder"] vs) H := by
  rcases h with h | ⟨x, rfl, hb, q⟩
  · exact p_unstreamed0 K C O vs H Q E h
  obtain ⟨cl, nh, np⟩ := id O
  unfold t_unstreamed tMethUS
  walk_at "go"
  rename_i F dx nF nd ne
  have k0 : Kp [] H (upd (upd H dx (.own F)) F (.ins C dx [])) := (Kp.refl.upd_new' nd).upd_new nF
  refine ⟨F, dx, rfl, upd_same, fun H1 h1 nh1 k1 ⟨hne, dx1, hF1, hh1⟩ => ?_⟩
  have k01 : Kp [] H H1 := k0.drop k1 fun a z => by
    rw [List.mem_singleton.mp z]
    exact .inr nF
  walk_at "go"
  exact .inr ⟨_, x, rfl, hb.kp0 k01, fun H2 d k2 hd => q H2 d (k01.trans k2) hd⟩
end Stm

/-! ## streams read: the law -/
namespace Stm
open PySem PySem.Spec PyProof.Rows L2 Kb
theorem outR_enc : ∀ (cs : List (List Int)) (ah : Int), good ah cs → outR (enc cs) = some (dec cs)
  | [], _, _ => rfl
  | c :: cs, ah, g => by
    have ih := outR_enc cs _ g.2.2.2
    rw [enc_cons, outR_cons]
    have e1 : (((c.length : Int) + 1).toNat - 1) = c.length := by omega
    rw [if_neg (by simp; omega), e1, List.drop_left' rfl, List.take_left' rfl, ih, dec_cons]
    have e2 : ((c.length : Int) + 1 ≤ 254 ∧ enc cs ≠ []) ↔ (c.length < 254 ∧ cs ≠ []) := by
      constructor
      · rintro ⟨h1, h2⟩
        exact ⟨by omega, fun z => h2 (by rw [z]; rfl)⟩
      · rintro ⟨h1, h2⟩
        exact ⟨by omega, fun z => h2 (enc_len0 (by rw [z]; rfl))⟩
    simp only [Option.map_some, e2]
theorem told_runs (ps : List Int) : told (inRuns (chk ps)) = some ps := by
  obtain ⟨cs, e1, e2, g, _⟩ := runs_ex (chk ps)
  unfold told
  rw [e1, outR_enc cs 0 g, e2]
  have hl : (chk ps).length = ps.length + 4 := by simp [chk]
  have ht : (chk ps).take ((chk ps).length - 4) = ps := by
    rw [hl]
    unfold chk
    rw [List.take_left' (by omega)]
  dsimp only
  rw [ht, if_pos ⟨by omega, rfl⟩]
theorem fst_zeros : ∀ (z : Nat) (t : List Tl) (k : Int), (List.replicate z (0 : Int)).foldl fstep (t, [], k) = (t, [], k + z)
  | 0, t, k => by simp
  | z + 1, t, k => by
    rw [List.replicate_succ, List.foldl_cons, show fstep (t, [], k) 0 = (t, [], k + 1) from rfl, fst_zeros z]
    congr 2
    omega
theorem fst_run : ∀ (xs : List Int) (t : List Tl) (h : List Int) (k : Int), (∀ b ∈ xs, b ≠ 0) → xs.foldl fstep (t, h, k) = (t, h ++ xs, k)
  | [], t, h, k, _ => by simp
  | x :: xs, t, h, k, n => by
    rw [List.foldl_cons, show fstep (t, h, k) x = (t, h ++ [x], k) from if_pos (n x List.mem_cons_self), fst_run xs _ _ _ fun b hb => n b (List.mem_cons_of_mem _ hb)]
    simp
def dat (js : List (Nat × List Int)) : List Int := js.flatMap fun j => List.replicate j.1 0 ++ (inRuns (chk j.2) ++ [0])
def dues : Int → List (Nat × List Int) → List (Int × List Int)
  | _, [] => []
  | k, j :: js => (k + j.1, j.2) :: dues (k + j.1 + ((inRuns (chk j.2)).length + 1)) js
def mkT (d : Int × List Int) : Tl := ⟨d.1, some d.2, (inRuns (chk d.2)).length⟩
theorem dat_cons (j : Nat × List Int) (js : List (Nat × List Int)) : dat (j :: js) = List.replicate j.1 0 ++ (inRuns (chk j.2) ++ [0]) ++ dat js := rfl
theorem dat_snoc (js : List (Nat × List Int)) (j : Nat × List Int) : dat (js ++ [j]) = dat js ++ (List.replicate j.1 0 ++ (inRuns (chk j.2) ++ [0])) := by
  unfold dat
  rw [List.flatMap_append, List.flatMap_singleton]
theorem dues_snoc : ∀ (js : List (Nat × List Int)) (k : Int) (j : Nat × List Int), dues k (js ++ [j]) = dues k js ++ [(k + (dat js).length + j.1, j.2)]
  | [], k, j => by simp [dues, dat]
  | i :: js, k, j => by
    rw [List.cons_append]
    unfold dues
    rw [dues_snoc js, List.cons_append]
    have e : k + i.1 + ((inRuns (chk i.2)).length + 1) + ((dat js).length : Int) + j.1 = k + ((dat (i :: js)).length : Int) + j.1 := by
      rw [dat_cons]
      simp only [List.length_append, List.length_replicate, List.length_cons, List.length_nil]
      omega
    rw [e]
theorem dues_len : ∀ (js : List (Nat × List Int)) (k : Int), (dues k js).length = js.length
  | [], _ => rfl
  | j :: js, k => by
    unfold dues
    rw [List.length_cons, List.length_cons, dues_len js]
theorem fst_dat : ∀ (js : List (Nat × List Int)) (t : List Tl) (k : Int), (∀ j ∈ js, Okb j.2) → (dat js).foldl fstep (t, [], k) = (t ++ (dues k js).map mkT, [], k + (dat js).length)
  | [], t, k, _ => by simp [dat, dues]
  | j :: js, t, k, ok => by
    have hb := runs_bytes (chk_okb (ok j List.mem_cons_self))
    have hne := runs_ne (chk j.2)
    rw [dat_cons, List.foldl_append, List.foldl_append, fst_zeros, List.foldl_append, fst_run (inRuns (chk j.2)) t [] _ fun b z => by have := hb b z; omega]
    have e : List.foldl fstep (t, [] ++ inRuns (chk j.2), k + j.1) [0] = (t ++ [mkT (k + j.1, j.2)], [], k + j.1 + ((inRuns (chk j.2)).length + 1)) := by
      show fstep _ 0 = _
      unfold fstep
      rw [if_neg fun z => z rfl, List.nil_append, if_pos hne]
      unfold tell mkT
      rw [told_runs]
    rw [e, fst_dat js _ _ fun i hi => ok i (List.mem_cons_of_mem _ hi)]
    have e2 : dues k (j :: js) = (k + j.1, j.2) :: dues (k + j.1 + ((inRuns (chk j.2)).length + 1)) js := rfl
    rw [e2]
    refine Prod.ext (by simp) (Prod.ext rfl ?_)
    simp only [List.length_append, List.length_replicate, List.length_cons, List.length_nil]
    omega
theorem unst_dat (js : List (Nat × List Int)) (z : Nat) (ok : ∀ j ∈ js, Okb j.2) : unst (dat js ++ List.replicate z 0) = (dues 0 js).map mkT := by
  have e : fst [] 0 (dat js ++ List.replicate z 0) = ((dues 0 js).map mkT, [], 0 + ((dat js).length : Int) + (z : Int)) := by
    unfold fst
    rw [List.foldl_append, fst_dat js [] 0 ok, fst_zeros]
    simp
  unfold unst
  rw [e]
  simp
end Stm

/-! slices of int lists, by their length -/
namespace Stm
open PySem PySem.Spec PyProof.Rows L2 Kb
theorem slI_go {K : PySem.W.Frag} {H : Hp} {Q : VK} {a : Addr} {xs : List Int} {lo hi : Option Int} (h : SqL K H a (xs.map V.int)) (q : ∀ p ys, ys = cutI xs lo hi → ys.length ≤ xs.length → (∀ b ∈ ys, b ∈ xs) → H p = none → Q (.ref p) (upd H p (.lst (ys.map V.int)))) : rSlLU K (.ref a) lo hi H Q :=
  slL_go h fun p np => by
    rw [cutV_map]
    exact q p _ rfl (cutI_len _ _ _) (fun b hb => cutI_mem hb) np
theorem okb_sub {xs ys : List Int} (h : Okb xs) (s : ∀ b ∈ ys, b ∈ xs) : Okb ys := fun b hb => h b (s b hb)
theorem cutI_to {α : Type} (xs : List α) (k : Nat) : cutI xs none (some (k : Int)) = xs.take k := by
  unfold cutI
  have e1 : HT.sIx xs.length 0 none = 0 := rfl
  have e2 : HT.sIx xs.length xs.length (some (k : Int)) = min k xs.length := by
    show (if (k : Int) < 0 then ((k : Int) + (xs.length : Int)).toNat else min (k : Int).toNat xs.length) = _
    rw [if_neg (by omega)]
    rfl
  rw [e1, e2, Nat.sub_zero, List.drop_zero]
  by_cases h : k ≤ xs.length
  · rw [Nat.min_eq_left h]
  · rw [Nat.min_eq_right (by omega), List.take_length, List.take_of_length_le (by omega)]
theorem cutI_from {α : Type} (xs : List α) (k : Nat) : cutI xs (some (k : Int)) none = xs.drop k := by
  unfold cutI
  have e1 : HT.sIx xs.length xs.length none = xs.length := rfl
  have e2 : HT.sIx xs.length 0 (some (k : Int)) = min k xs.length := by
    show (if (k : Int) < 0 then ((k : Int) + (xs.length : Int)).toNat else min (k : Int).toNat xs.length) = _
    rw [if_neg (by omega)]
    rfl
  rw [e1, e2]
  by_cases h : k ≤ xs.length
  · rw [Nat.min_eq_left h, List.take_of_length_le (by rw [List.length_drop]; omega)]
  · rw [Nat.min_eq_right (by omega), Nat.sub_self, List.take_zero, List.drop_eq_nil_of_le (by omega)]
theorem setB_go {a : Addr} {H : Hp} {i x : Int} {xs : List Int} {Q : Hp → Prop} (h : H a = some (.lst (xs.map V.int))) (h0 : 0 ≤ i) (h1 : i < xs.length) (q : ∀ ys : List Int, ys = xs.set i.toNat x → ys.length = xs.length → (∀ b ∈ ys, b ∈ xs ∨ b = x) → Q (upd H a (.lst (ys.map V.int)))) : rSetU (.ref a) (.int i) (.int x) H Q := by
  refine set_go (k := i.toNat) h (by unfold ixN; rw [List.length_map, if_pos h0, if_pos h1]) ?_
  have := q (xs.set i.toNat x) rfl (List.length_set ..) fun b hb => List.mem_or_eq_of_mem_set hb
  rwa [List.map_set] at this
def dTl (t : Tl) : PyData := match t.part with
  | some ps => .tuple [.str (PySem.Str.ofString "part"), .int t.place, .list (ps.map PyData.int)]
  | none => .tuple [.str (PySem.Str.ofString "torn"), .int t.place, .int (t.size : Nat)]
theorem dp_tl {K : PySem.W.Frag} {H : Hp} {v : V} {t : Tl} (h : tlAt H v t) : Dp K H v (dTl t) := by
  obtain ⟨T, rfl, h⟩ := h
  obtain ⟨pl, pt, sz⟩ := t
  cases pt with
  | some ps =>
    obtain ⟨l, h1, h2⟩ := h
    exact .tup (SqT.of h1) (.cons (.str _) (.cons (.int _) (.cons (.lst (SqL.of h2) (dp_ints ps)) .nil)))
  | none => exact .tup (SqT.of h) (.cons (.str _) (.cons (.int _) (.cons (.int _) .nil)))
theorem sh_tl (t : Tl) : Sh 2 (dTl t) := by
  obtain ⟨pl, pt, sz⟩ := t
  cases pt with
  | some ps =>
    refine sh_tup (n := 1) fun d h => ?_
    simp at h
    rcases h with rfl | rfl | rfl
    · exact sh_str (by decide)
    · exact sh_int
    · exact sh_ints
  | none =>
    refine sh_tup (n := 1) fun d h => ?_
    simp at h
    rcases h with rfl | rfl | rfl
    · exact sh_str (by decide)
    · exact sh_int
    · exact sh_int
theorem Tls.dp {K : PySem.W.Frag} {Hn H : Hp} : ∀ {us : List V} {ts : List Tl}, Tls Hn H us ts → DpAll K H us (ts.map dTl)
  | [], [], _ => .nil
  | [], p :: pss, h => by cases h.1
  | u :: us, [], h => by cases h.1
  | u :: us, t :: ts, h => by
    obtain ⟨t', h1, h2, h3⟩ := h.2 0 u rfl
    cases h1
    refine .cons (dp_tl h2) (Tls.dp (Hn := Hn) ⟨by have := h.1; simp at this; exact this, fun i v e => ?_⟩)
    obtain ⟨t2, h4, h5, h6⟩ := h.2 (i + 1) v (by simpa using e)
    exact ⟨t2, by simpa using h4, h5, h6⟩
theorem sh_tls (ts : List Tl) : Sh 3 (.list (ts.map dTl)) := sh_lst (n := 2) fun d h => by
  obtain ⟨t, _, rfl⟩ := List.mem_map.mp h
  exact sh_tl t
/-- what is told twice alike is equal -/
theorem eqTls_go {K : PySem.W.Frag} {H Hn Hm : Hp} {Q : VK} {a b : Addr} {us vs : List V} {ts : List Tl} (ha : H a = some (.lst us)) (hb : H b = some (.lst vs)) (hu : Tls Hn H us ts) (hv : Tls Hm H vs ts) (q : Q (.bl true) H) : rEqU K (.ref a) (.ref b) H Q :=
  eqD_go (.lst (SqL.of ha) hu.dp) (.lst (SqL.of hb) hv.dp) ((sh_tls ts).ok (by decide)) ((sh_tls ts).ok (by decide)) (by rw [SeqAt.eqv_refl _ (sh_tls ts).1]; exact q)
end Stm

/-! lists whose things hold one by one -/
namespace Stm
open PySem PySem.Spec PyProof.Rows L2 Kb
def A2 {α : Type} (R : V → α → Prop) (us : List V) (cs : List α) : Prop := us.length = cs.length ∧ ∀ (i : Nat) (v : V), us[i]? = some v → ∃ c, cs[i]? = some c ∧ R v c
section
variable {α : Type} {R S : V → α → Prop} {us vs : List V} {cs ds : List α}
theorem A2.nil : A2 R [] [] := ⟨rfl, fun i v h => nomatch h⟩
theorem A2.mono (h : A2 R us cs) (m : ∀ v c, v ∈ us → c ∈ cs → R v c → S v c) : A2 S us cs := ⟨h.1, fun i v e => by
  obtain ⟨c, h1, h2⟩ := h.2 i v e
  exact ⟨c, h1, m v c (List.mem_of_getElem? e) (List.mem_of_getElem? h1) h2⟩⟩
theorem A2.app (h : A2 R us cs) (g : A2 R vs ds) : A2 R (us ++ vs) (cs ++ ds) := by
  refine ⟨by rw [List.length_append, List.length_append, h.1, g.1], fun i w e => ?_⟩
  by_cases hi : i < us.length
  · rw [List.getElem?_append_left hi] at e
    obtain ⟨c, h1, h2⟩ := h.2 i w e
    exact ⟨c, by rw [List.getElem?_append_left (by rw [← h.1]; exact hi)]; exact h1, h2⟩
  · rw [List.getElem?_append_right (by omega)] at e
    obtain ⟨c, h1, h2⟩ := g.2 _ w e
    exact ⟨c, by rw [List.getElem?_append_right (by rw [← h.1]; omega), ← h.1]; exact h1, h2⟩
theorem A2.one {v : V} {c : α} (h : R v c) : A2 R [v] [c] := ⟨rfl, fun i w e => by
  rcases i with _ | i
  · cases e
    exact ⟨c, rfl, h⟩
  · cases e⟩
theorem A2.snoc {v : V} {c : α} (h : A2 R us cs) (r : R v c) : A2 R (us ++ [v]) (cs ++ [c]) := h.app (.one r)
theorem A2.take (h : A2 R us cs) (n : Nat) : A2 R (us.take n) (cs.take n) := ⟨by rw [List.length_take, List.length_take, h.1], fun i v e => by
  rw [List.getElem?_take] at e ⊢
  split at e
  · rename_i hi
    obtain ⟨c, h1, h2⟩ := h.2 i v e
    exact ⟨c, by rw [if_pos hi]; exact h1, h2⟩
  · cases e⟩
theorem A2.drop (h : A2 R us cs) (n : Nat) : A2 R (us.drop n) (cs.drop n) := ⟨by rw [List.length_drop, List.length_drop, h.1], fun i v e => by
  rw [List.getElem?_drop] at e ⊢
  exact h.2 _ v e⟩
theorem A2.at_ {i : Nat} {c : α} (h : A2 R us cs) (e : cs[i]? = some c) : ∃ v, us[i]? = some v ∧ R v c := by
  have hi : i < us.length := by rw [h.1]; exact (List.getElem?_eq_some_iff.mp e).1
  obtain ⟨c', h1, h2⟩ := h.2 i us[i] (List.getElem?_eq_getElem hi)
  rw [e] at h1
  cases h1
  exact ⟨us[i], List.getElem?_eq_getElem hi, h2⟩
end
/-- v is at an address out of M, where f tells c -/
def rObj {α : Type} (f : α → HO) (M : List Addr) (H : Hp) (v : V) (c : α) : Prop := ∃ a, v = .ref a ∧ H a = some (f c) ∧ a ∉ M
section
variable {α : Type} {f : α → HO} {M N : List Addr} {H H' : Hp} {us : List V} {cs : List α}
theorem A2.kp (h : A2 (rObj f M H) us cs) (k : Kp M H H') : A2 (rObj f M H') us cs := h.mono fun v c _ _ ⟨a, e, ha, m⟩ => ⟨a, e, k.at_ m ha, m⟩
theorem A2.kp0 (h : A2 (rObj f M H) us cs) (k : Kp [] H H') : A2 (rObj f M H') us cs := h.kp (k.mono fun a z => absurd z List.not_mem_nil)
theorem A2.addM {p : Addr} (h : A2 (rObj f M H) us cs) (n : H p = none) : A2 (rObj f (p :: M) H) us cs := h.mono fun v c _ _ ⟨a, e, ha, m⟩ => ⟨a, e, ha, nm_cons (ne_of_none ha n) m⟩
theorem A2.subM (h : A2 (rObj f M H) us cs) (m : ∀ a ∈ N, a ∈ M) : A2 (rObj f N H) us cs := h.mono fun v c _ _ ⟨a, e, ha, z⟩ => ⟨a, e, ha, fun y => z (m a y)⟩
theorem A2.sub0 (h : A2 (rObj f M H) us cs) : A2 (rObj f [] H) us cs := h.subM fun a z => absurd z List.not_mem_nil
theorem A2.new {p : Addr} {o : HO} (h : A2 (rObj f M H) us cs) (n : H p = none) : A2 (rObj f M (upd H p o)) us cs := h.kp0 (Kp.refl.new n)
end
/-! slices of any list by a number that is not below 0 -/
theorem cut_to {α : Type} (xs : List α) {r : Int} (h : 0 ≤ r) : cutI xs none (some r) = xs.take r.toNat := by
  have := cutI_to xs r.toNat
  rwa [show ((r.toNat : Nat) : Int) = r by omega] at this
theorem cut_from {α : Type} (xs : List α) {r : Int} (h : 0 ≤ r) : cutI xs (some r) none = xs.drop r.toNat := by
  have := cutI_from xs r.toNat
  rwa [show ((r.toNat : Nat) : Int) = r by omega] at this
theorem slTo_go {K : PySem.W.Frag} {H : Hp} {Q : VK} {a : Addr} {xs : List V} {r : Int} (h : SqL K H a xs) (h0 : 0 ≤ r) (q : ∀ p, H p = none → Q (.ref p) (upd H p (.lst (xs.take r.toNat)))) : rSlLU K (.ref a) none (some r) H Q :=
  slL_go h fun p np => by
    rw [show cutV xs none (some r) = xs.take r.toNat from cut_to xs h0]
    exact q p np
theorem slFrom_go {K : PySem.W.Frag} {H : Hp} {Q : VK} {a : Addr} {xs : List V} {r : Int} (h : SqL K H a xs) (h0 : 0 ≤ r) (q : ∀ p, H p = none → Q (.ref p) (upd H p (.lst (xs.drop r.toNat)))) : rSlLU K (.ref a) (some r) none H Q :=
  slL_go h fun p np => by
    rw [show cutV xs (some r) none = xs.drop r.toNat from cut_from xs h0]
    exact q p np
theorem slT1_go {K : PySem.W.Frag} {H : Hp} {Q : VK} {a : Addr} {x : V} {xs : List V} (h : SqT K H a (x :: xs)) (q : ∀ p, H p = none → Q (.ref p) (upd H p (.tup xs))) : rSlTU K (.ref a) (some 1) none H Q := by
  unfold rSlTU
  refine ⟨a, x :: xs, rfl, h, fun z => ?_, fun p np => ?_⟩
  · have e2 : HT.sIx (x :: xs).length 0 (some (1 : Int)) = min 1 (x :: xs).length := by
      show (if (1 : Int) < 0 then ((1 : Int) + ((x :: xs).length : Int)).toNat else min (1 : Int).toNat (x :: xs).length) = _
      rw [if_neg (by omega)]
      rfl
    rw [e2, List.length_cons] at z
    omega
  · rw [show cutV (x :: xs) (some 1) none = xs from cut_from (x :: xs) (r := 1) (by decide)]
    exact q p np
theorem eqv_tints (xs ys : List Int) : PyData.eqv (.tuple (xs.map PyData.int)) (.tuple (ys.map PyData.int)) = decide (xs = ys) := by
  simp only [PyData.eqv]
  exact eqvAll_ints xs ys
theorem sh_tints {ns : List Int} : Sh 1 (.tuple (ns.map PyData.int)) := sh_tup (n := 0) fun d h => by
  obtain ⟨i, _, rfl⟩ := List.mem_map.mp h
  exact sh_int
/-- two tuples of ints -/
theorem neTI_go {K : PySem.W.Frag} {H : Hp} {Q : VK} {a b : Addr} {xs ys : List Int} (hx : H a = some (.tup (xs.map V.int))) (hy : H b = some (.tup (ys.map V.int))) (q : Q (.bl (!decide (xs = ys))) H) : rNeU K (.ref a) (.ref b) H Q :=
  neD_go (.tup (SqT.of hx) (dp_ints xs)) (.tup (SqT.of hy) (dp_ints ys)) (sh_tints.ok (by decide)) (sh_tints.ok (by decide)) (by rw [eqv_tints]; exact q)
def rNotT : V → V → Hp → VK → Prop := fun x y H Q => ∃ i, x = .int i ∧ y = .bl true ∧ Q (.bl true) H
theorem u_notT {X : Cx} : OpR X (compareOp .IsNot) rNotT := by
  intro pins s σ H x y v u Q I rx ry h
  obtain ⟨i, rfl, rfl, q⟩ := h
  obtain ⟨t, rfl⟩ := (show ∃ t, v = Value.int i t from rx)
  cases (show u = Value.bool true from ry)
  exact wpAny_isNot_other rfl (fun z => nomatch z) ⟨.bl true, H, I, rfl, q⟩
theorem tlAt.kp0 {H H' : Hp} {v : V} {t : Tl} (h : tlAt H v t) (k : Kp [] H H') : tlAt H' v t := by
  obtain ⟨T, rfl, h⟩ := h
  obtain ⟨pl, pt, sz⟩ := t
  cases pt with
  | some ps =>
    obtain ⟨l, h1, h2⟩ := h
    exact ⟨T, rfl, l, k.at_ List.not_mem_nil h1, k.at_ List.not_mem_nil h2⟩
  | none => exact ⟨T, rfl, k.at_ List.not_mem_nil h⟩
end Stm

/-! ## k55: promises -/
namespace K55
open PySem PySem.Spec PyProof.Rows L2 Kb Stm
structure XK2 (K : PySem.W.Frag) : Prop where
  x : XCls K (cAt K "NoBytes")
  why : PySem.W.findIn K (.ref (cAt K "NoBytes")) "why" = some none
  kw : PySem.W.kitOne K (.ref (cAt K "NoBytes")) (.ref (cAt K "WireError")) = some true
  kv : PySem.W.kitOne K (.ref (cAt K "NoBytes")) (.type "ValueError") = some true
  et : PySem.W.exmOne K (.ref (cAt K "NoBytes")) (.ref (cAt K "NoText")) = some false
  eh : PySem.W.exmOne K (.ref (cAt K "NoBytes")) (.ref (cAt K "NoThing")) = some false
  er : PySem.W.exmOne K (.ref (cAt K "NoBytes")) (.ref (cAt K "NoTurn")) = some false
  em : PySem.W.exmOne K (.ref (cAt K "NoBytes")) (.ref (cAt K "NoBytes")) = some true
  ew : PySem.W.exmOne K (.ref (cAt K "NoBytes")) (.ref (cAt K "WireError")) = some true
/-- a thing in a row: a number, a truth, None, a text, or a list of numbers out of M -/
def It (M : List Addr) (H : Hp) (v : V) : Prop := (∃ i, v = .int i) ∨ (∃ b, v = .bl b) ∨ v = .non ∨ (∃ z, v = .str z ∧ ∀ c ∈ z.cps.toList, c < 1114112) ∨ ∃ b xs, v = .ref b ∧ b ∉ M ∧ H b = some (.lst (List.map V.int xs))
/-- a row in which one is no byte -/
def Row (M : List Addr) (H : Hp) (vs : List V) : Prop := (∀ v ∈ vs, It M H v) ∧ vs.all isB = false ∧ vs.length ≤ 10
/-- what stands in the place of a row -/
def NoRow (x : V) : Prop := x = .non ∨ x = .str (PySem.Str.ofString "") ∨ x = .str (PySem.Str.ofString "12") ∨ x = .int 0 ∨ x = .bl true
def Wr (M : List Addr) (H : Hp) (x : V) : Prop := (∃ a vs, x = .ref a ∧ a ∉ M ∧ H a = some (.lst vs) ∧ Row M H vs) ∨ NoRow x
def Wt (M : List Addr) (H : Hp) (x : V) : Prop := (∃ a vs, x = .ref a ∧ a ∉ M ∧ Inn H a vs ∧ Row M H vs) ∨ NoRow x
def sp_law_wrong (K : PySem.W.Frag) : Sp := fun vs H Q _ => ∃ S C A bs, vs = [.ref S, .ref A] ∧ St H S C ∧ H A = some (.lst (List.map V.int bs)) ∧ A ∉ [S, C] ∧ bs.length ≤ 9 ∧ ∀ H' x, Kp [S, C] H H' → St H' S C → Wr [S, C] H' x → Q x H'
/-- the defs that are handed about -/
def deeds (K : PySem.W.Frag) (f : Addr) (sp : Sp) : Prop := (f = cAt K "streamed" ∧ sp = sp_streamed K) ∨ (f = cAt K "unstreamed" ∧ sp = sp_unstreamed K)
/-- NoBytes("wire") was raised -/
def Wire (K : PySem.W.Frag) (R : Hp → Prop) : XK := fun cls d H => cls = .ref (cAt K "NoBytes") ∧ ∃ dd, d = some dd ∧ H dd = some (.xd [("why", .str (PySem.Str.ofString "wire"))]) ∧ ∀ H', Kp [] H H' → R H'
/-- whatever it is asked for, it lets out NoBytes("wire"), behind which Q has true -/
def Tells (K : PySem.W.Frag) (Q : VK) (r : VK → XK → Prop) : Prop := ∀ (Qx : VK) (Ex : XK), (∀ cls d H', Wire K (Q (.bl true)) cls d H' → Ex cls d H') → r Qx Ex
def sp_law_refused (K : PySem.W.Frag) : Sp := fun vs H Q _ => ∃ f x sp, vs = [.ref f, x] ∧ deeds K f sp ∧ Tells K Q fun Qx Ex => sp [x] H Qx Ex
def sp_law_any_refusal (K : PySem.W.Frag) : Sp := fun vs H Q _ => ∃ f x sp, vs = [.ref f, x] ∧ deeds K f sp ∧ Tells K Q fun Qx Ex => sp [x] H Qx Ex
def TTlaw_refused (K : PySem.W.Frag) : (XK → V → Hp → VK → Prop) → V → Hp → VK → Prop := fun tl v H Q => Tells K Q fun Qx Ex => tl Ex v H Qx
/-- the lambda's name -/
def lamQ : Str := (envOfC "law" default 0 0 .none).qual ++ "<lambda>"
def sp_law (K : PySem.W.Frag) (P : Addr) : Sp := fun vs H Q _ => ∃ (a : Addr) (ns : List Int), vs = [.ref a] ∧ SqL K H a (ns.map V.int) ∧ ns.length ≤ 63 ∧ H P = some (.tbl #[]) ∧ ∀ H', Q (.bl true) H'
end K55

namespace K55
open PySem PySem.Spec PyProof.Rows L2 Kb Stm
def t_law_wrong (K : PySem.W.Frag) : TS :=
 (tSeq (tAsg (tCall (sp_law_take K) [] E0 (tCons (tVar 0) (tCons (tC (.int 12)) tNil))) (gName 2))
 (tSeq (tAsg (tCall (sp_law_take K) [] E0 (tCons (tVar 0) (tCons (tOp rPowU (tC (.int 10)) (tC (.int 20))) tNil))) (gName 3))
 (tSeq (tIfS (tTest (tOp (rEqU K) (tVar 2) (tC (.int 0))))
 (tRet (tOp (rIxU K) (tLst (tCons (tC .non) (tCons (tC (.str (PySem.Str.ofString ""))) (tCons (tC (.str (PySem.Str.ofString "12"))) (tCons (tC (.int 0)) (tCons (tC (.bl true)) tNil)))))) (tCall (sp_law_take K) [] E0 (tCons (tVar 0) (tCons (tC (.int 5)) tNil)))))
 tNext)
 (tSeq (tAsg (tOp (rIxU K) (tLst (tCons (tC (.int 256)) (tCons (tOp (rAddU K) (tC (.int 256)) (tVar 3)) (tCons (tUn rNegU (tC (.int 1))) (tCons (tOp rSubU (tUn rNegU (tC (.int 1))) (tVar 3)) (tCons (tC (.bl true)) (tCons (tC (.bl false)) (tCons (tC .non) (tCons (tC (.str (PySem.Str.ofString ""))) (tCons (tC (.str (PySem.Str.ofString "1"))) (tCons (tLst tNil) (tCons (tLst (tCons (tC (.int 1)) tNil)) (tCons (tC (.int 256)) tNil))))))))))))) (tVar 2)) (gName 4))
 (tSeq (tAsg (tCall (sp_law_take K) [] E0 (tCons (tVar 0) (tCons (tOp (rAddU K) (tCB (rLenU K) (tCons (tVar 1) tNil)) (tC (.int 1))) tNil))) (gName 5))
 (tRet (tOp (rAddU K) (tOp (rAddU K) (tSl (rSlLU K) (tVar 1) tNoPart (tPart (tVar 5))) (tLst (tCons (tVar 4) tNil))) (tSl (rSlLU K) (tVar 1) (tPart (tVar 5)) tNoPart))))))))

def t_law_refused (K : PySem.W.Frag) (tc : WX → TE) : TS :=
 (tSeq (tTryLast K [.ref (cAt K "NoText"), .ref (cAt K "NoThing"), .ref (cAt K "NoTurn")] (.ref (cAt K "NoBytes")) 2 (fun W => (tDrop (tc W))) (fun a cls d =>
 (tRet (tAndV (tOp (rEqU K) (tXf a cls d (cAt K "NoBytes") "why" (tVar 2)) (tC (.str (PySem.Str.ofString "wire")))) (tAndV (tCB (rIsXd K a cls d) (tCons (tVar 2) (tCons (tC (.ref (cAt K "WireError"))) tNil))) (tCB (rIsXd K a cls d) (tCons (tVar 2) (tCons (tC (.ty "ValueError")) tNil))))))))
 (tRet (tC (.bl false))))

def t_law_any_refusal (K : PySem.W.Frag) : TS :=
 (tSeq (tTryC K (.ref (cAt K "WireError")) (fun W => (tDrop (tCallV 0 (deeds K) (WE W) (tCons (tVar 1) tNil)))) (fun a cls d =>
 (tRet (tC (.bl true)))))
 (tRet (tC (.bl false))))

def t_law (K : PySem.W.Frag) (C : Addr) (P : Addr) : TS :=
 (tSeq (tAsg (tLst (tCons (tCB (rListU K) (tCons (tSl (rSlLU K) (tVar 0) tNoPart (tPart (tC (.int 63)))) tNil)) (tCons (tC (.int 0)) (tCons (tC (.int 0)) (tCons (tC (.int 0)) tNil))))) (gName 1))
 (tSeq (tAsg (tLc (iRng1 (tCons (tCall (sp_law_take K) [] E0 (tCons (tVar 1) (tCons (tC (.int 10)) tNil))) tNil)) (gName 10) tYes (tCall (sp_law_take K) [] E0 (tCons (tVar 1) (tCons (tC (.int 256)) tNil))) [10]) (gName 2))
 (tSeq (tAsg (tCall (sp_law_wrong K) [] E0 (tCons (tVar 1) (tCons (tVar 2) tNil))) (gName 3))
 (tSeq (tIfS (tAnd (tTru K (tCB (rIsiU K) (tCons (tVar 3) (tCons (tC (.ty "list")) tNil)))) (tTest (tOp (rEqU K) (tCall (sp_law_take K) [] E0 (tCons (tVar 1) (tCons (tC (.int 2)) tNil))) (tC (.int 0)))))
 (tAsg (tCB (rTupleU K) (tCons (tVar 3) tNil)) (gName 3))
 tNext)
 (tSeq (tAsg (tLc (iRng1 (tCons (tCall (sp_law_take K) [] E0 (tCons (tVar 1) (tCons (tC (.int 4)) tNil))) tNil)) (gName 10) tYes (tSl (rSlLU K) (tVar 2) tNoPart (tPart (tVar 10))) [10]) (gName 4))
 (tSeq (tAsg (tCall (sp_law_take K) [] E0 (tCons (tVar 1) (tCons (tOp (rAddU K) (tCB (rLenU K) (tCons (tVar 4) tNil)) (tC (.int 1))) tNil))) (gName 5))
 (tSeq (tAsg (tOp (rAddU K) (tOp (rAddU K) (tSl (rSlLU K) (tVar 4) tNoPart (tPart (tVar 5))) (tLst (tCons (tVar 3) tNil))) (tSl (rSlLU K) (tVar 4) (tPart (tVar 5)) tNoPart)) (gName 6))
 (tSeq (tIfS (tOr (tNot (tTru K (tCall (sp_law_refused K) [] E0 (tCons (tC (.ref (cAt K "streamed"))) (tCons (tVar 6) tNil))))) (tTest (tOp (rNeU K) (tVar 6) (tOp (rAddU K) (tOp (rAddU K) (tSl (rSlLU K) (tVar 4) tNoPart (tPart (tVar 5))) (tLst (tCons (tVar 3) tNil))) (tSl (rSlLU K) (tVar 4) (tPart (tVar 5)) tNoPart)))))
 (tRet (tC (.bl false)))
 tNext)
 (tSeq (tIfS (tOr (tNot (tTru K (tCall (sp_law_refused K) [] E0 (tCons (tC (.ref (cAt K "unstreamed"))) (tCons (tVar 3) tNil))))) (tNot (tTru K (tCall (sp_law_any_refusal K) [] E0 (tCons (tC (.ref (cAt K "unstreamed"))) (tCons (tVar 3) tNil))))))
 (tRet (tC (.bl false)))
 tNext)
 (tSeq (tAsg (tLc (iRng1 (tCons (tCall (sp_law_take K) [] E0 (tCons (tVar 1) (tCons (tC (.int 7)) tNil))) tNil)) (gName 10) tYes (tOp (rAddU K) (tC (.int 1)) (tCall (sp_law_take K) [] E0 (tCons (tVar 1) (tCons (tC (.int 255)) tNil)))) [10]) (gName 7))
 (tSeq (tAsg (tMake C (sp_Feeder___init__ K C) [] E0 tNil) (gName 8))
 (tSeq (tIfS (tTest (tOp (rNeU K) (tMethU C "feed" (sp_Feeder_feed K C) E0 (tVar 8) (tCons (tVar 7) tNil)) (tLst tNil)))
 (tRet (tC (.bl false)))
 tNext)
 (tSeq (tIfS (tNot (tTru K (tLam2 [(P, lamQ)] (TTlaw_refused K) 3 ["_law_piece", "_law_feeder"] [8] (fun E => (tMethUS C "feed" (sp_Feeder_feed K C) (WE (fun cls d _ H => E cls d H)) (tVar 1) (tCons (tVar 0) tNil))))))
 (tRet (tC (.bl false)))
 tNext)
 (tSeq (tAsg (tOp (rMulU K) (tLst (tCons (tTup (tCons (tC (.str (PySem.Str.ofString "torn"))) (tCons (tC (.int 0)) (tCons (tCB (rLenU K) (tCons (tVar 7) tNil)) tNil)))) tNil)) (tCB rIntU (tCons (tOp (rNeU K) (tVar 7) (tLst tNil)) tNil))) (gName 9))
 (tSeq (tIfS (tOr (tTest (tOp (rNeU K) (tMethU C "done" (sp_Feeder_done K C) E0 (tVar 8) tNil) (tVar 9))) (tOr (tTest (tOp (rNeU K) (tCall (sp_streamed K) [] E0 (tCons (tLst tNil) tNil)) (tLst tNil))) (tTest (tOp (rNeU K) (tCall (sp_unstreamed K) [] E0 (tCons (tLst tNil) tNil)) (tLst tNil)))))
 (tRet (tC (.bl false)))
 tNext)
 (tRet (tAndV (tOp (rEqU K) (tCall (sp_streamed K) [] E0 (tCons (tLst (tCons (tVar 2) tNil)) tNil)) (tCall (sp_streamed K) [] E0 (tCons (tLst (tCons (tCB (rTupleU K) (tCons (tVar 2) tNil)) tNil)) tNil))) (tOp (rEqU K) (tCall (sp_unstreamed K) [] E0 (tCons (tVar 2) tNil)) (tCall (sp_unstreamed K) [] E0 (tCons (tCB (rTupleU K) (tCons (tVar 2) tNil)) tNil))))))))))))))))))))
end K55

/-! ## k55: readings -/
namespace K55
open PySem PySem.Spec PyProof.Rows L2 Kb Stm
theorem refused_read (K : PySem.W.Frag) (B : XK2 K) {tc : WX → TE} {f : Addr} {x : V} {H : Hp} {Q : VK}
    (h : ∀ (W : WX) (Qx : VK), (∀ cls d H', Wire K (Q (.bl true)) cls d H' → W cls d (start ["_law_deed", "_law_handed", "e"] [.ref f, x]) H') → tc W (start ["_law_deed", "_law_handed", "e"] [.ref f, x]) H Qx) :
    t_law_refused K tc { nx := fun _ H' => Q .non H', rt := Q } (start ["_law_deed", "_law_handed", "e"] [.ref f, x]) H := by
  unfold t_law_refused tTryLast
  walk_at "go"
  refine h _ _ fun cls d H' ⟨e, dd, ed, hd, q⟩ => ?_
  subst e
  subst ed
  refine ⟨fun c hc => ?_, B.em, fun a na => ?_⟩
  · simp only [List.mem_cons, List.not_mem_nil, or_false] at hc
    rcases hc with rfl | rfl | rfl
    · exact B.et
    · exact B.eh
    · exact B.er
  walk_at "go"
  refine ⟨dd, _, _, rfl, hd, lk_here, ?_⟩
  walk_at "go"
  · refine ⟨_, .ref (cAt K "WireError"), _, true, dd, _, rfl, rfl, rfl, hd, B.x, fun u r => r, B.kw, ?_⟩
    walk_at "go"
    refine ⟨_, .ty "ValueError", _, true, dd, _, rfl, rfl, rfl, hd, B.x, fun u r => r, B.kv, ?_⟩
    walk_at "go"
    exact q _ Kp.refl
theorem len_law_refused (K : PySem.W.Frag) : ∀ vs H Q E, sp_law_refused K vs H Q E → vs.length = ["_law_deed", "_law_handed"].length := by
  rintro _ _ _ _ ⟨_, _, _, rfl, _⟩; rfl
theorem p_law_refused (K : PySem.W.Frag) (B : XK2 K) (vs : List V) (H : Hp) (Q : VK) (E : XK) (h : sp_law_refused K vs H Q E) : t_law_refused K (fun W => tCallV 0 (deeds K) (WE W) (tCons (tVar 1) tNil)) { nx := fun _ H' => Q .non H', rt := Q } (start ["_law_deed", "_law_handed", "e"] vs) H := by
  obtain ⟨f, x, sp, rfl, hd, h⟩ := h
  exact refused_read K B fun W Qx hW => ⟨f, sp, rfl, hd, _, rfl, h Qx _ hW⟩
theorem g_law_refused (K : PySem.W.Frag) (B : XK2 K) {f c : Addr} {q : Str} {H : Hp} {Q : VK} {v : V} {tl : XK → V → Hp → VK → Prop} (hc : H c = some (LamX.CodeO c q)) (h : TTlaw_refused K tl v H Q) :
    t_law_refused K (fun W σ H Q => σ[0]? = some (some (.ref f)) ∧ ∃ v, σ[1]? = some (some v) ∧ H c = some (LamX.CodeO c q) ∧ tl (WE W σ) v H Q) { nx := fun _ H' => Q .non H', rt := Q } (start ["_law_deed", "_law_handed", "e"] [.ref f, v]) H :=
  refused_read K B fun W Qx hW => ⟨rfl, v, rfl, hc, h Qx _ hW⟩
theorem len_law_any_refusal (K : PySem.W.Frag) : ∀ vs H Q E, sp_law_any_refusal K vs H Q E → vs.length = ["_law_deed", "_law_handed"].length := by
  rintro _ _ _ _ ⟨_, _, _, rfl, _⟩; rfl
theorem p_law_any_refusal (K : PySem.W.Frag) (B : XK2 K) (vs : List V) (H : Hp) (Q : VK) (E : XK) (h : sp_law_any_refusal K vs H Q E) : t_law_any_refusal K { nx := fun _ H' => Q .non H', rt := Q } (start ["_law_deed", "_law_handed"] vs) H := by
  obtain ⟨f, x, sp, rfl, hd, h⟩ := h
  unfold t_law_any_refusal tTryC
  walk_at "go"
  refine ⟨f, sp, rfl, hd, _, rfl, h _ _ fun cls d H' ⟨e, dd, ed, hdd, q⟩ => ?_⟩
  subst e
  refine ⟨true, B.ew, fun _ a na => ?_, fun z => nomatch z⟩
  walk_at "go"
  exact q _ Kp.refl
end K55

/-! slices by a number, of lists and tuples (over Ext2) -/
local macro_rules | `(tactic| walk_at "s1") => `(tactic| first
  | (refine' Stm.slTo_go ?k1 ?k2 (fun p np => ?kq); (case k1 => walk_at "l"); (case k2 => omega))
  | (refine' Stm.slFrom_go ?k1 ?k2 (fun p np => ?kq); (case k1 => walk_at "l"); (case k2 => omega))
  | (refine' Stm.slT1_go ?k1 (fun p np => ?kq); (case k1 => walk_at "t"))
  | fail)
local macro_rules | `(tactic| walk_at "c") => `(tactic| first
  | omega
  | (simp only [List.length_cons, List.length_nil, List.length_map, List.length_append, List.length_range, List.length_replicate, List.length_take, List.length_drop]; omega)
  | fail)

/-! slices of int lists told by their length (over Ext) -/
local macro_rules | `(tactic| walk_at "s1") => `(tactic| first
  | (refine' Stm.slI_go ?k1 (fun p ys ey ly sy np => ?kq); (case k1 => walk_at "l"))
  | fail)

/-! ## k55: the wrong thing -/
namespace K55
open PySem PySem.Spec PyProof.Rows L2 Kb Stm
theorem ixV_go {K : PySem.W.Frag} {H : Hp} {Q : VK} {a : Addr} {xs : List V} {i : Int} (h : H a = some (.lst xs)) (h0 : 0 ≤ i) (h1 : i < xs.length) (q : ∀ x, x ∈ xs → Q x H) : rIxU K (.ref a) (.int i) H Q := by
  obtain ⟨x, hx, e⟩ := ix_mem h0 h1
  exact ixL_go (SqL.of h) e (q x hx)
theorem it_int {M : List Addr} {H : Hp} {i : Int} : It M H (.int i) := .inl ⟨i, rfl⟩
theorem It.kp {M : List Addr} {H H' : Hp} {v : V} (h : It M H v) (k : Kp M H H') : It M H' v := by
  rcases h with h | h | h | h | ⟨b, xs, e, m, hb⟩
  · exact .inl h
  · exact .inr (.inl h)
  · exact .inr (.inr (.inl h))
  · exact .inr (.inr (.inr (.inl h)))
  · exact .inr (.inr (.inr (.inr ⟨b, xs, e, m, k.at_ m hb⟩)))
theorem It.kp0 {M : List Addr} {H H' : Hp} {v : V} (h : It M H v) (k : Kp [] H H') : It M H' v := h.kp (k.mono fun a z => absurd z List.not_mem_nil)
theorem len_law_wrong (K : PySem.W.Frag) : ∀ vs H Q E, sp_law_wrong K vs H Q E → vs.length = ["_law_state", "_law_good"].length := by
  rintro _ _ _ _ ⟨_, _, _, _, rfl, _⟩; rfl
theorem p_law_wrong (K : PySem.W.Frag) (vs : List V) (H : Hp) (Q : VK) (E : XK) (h : sp_law_wrong K vs H Q E) : t_law_wrong K { nx := fun _ H' => Q .non H', rt := Q } (start ["_law_state", "_law_good", "_law_way", "_law_far", "_law_wrong_here", "_law_at"] vs) H := by
  obtain ⟨S, C, A, bs, rfl, st, hA, mA, hl, q⟩ := h
  have sc : SC H S C H := ⟨Kp.refl, st⟩
  have hml : (List.map V.int bs).length = bs.length := List.length_map ..
  walk_at "go"
  · rename_i H1 r1 sc1 k1 h01 h11 H2 r2 sc2 k2 h02 h12 h0 p1 n1 H3 r3 sc3 k3 h03 h13
    refine ixV_go (k3.at_ (sc2.nm n1) upd_same) h03 (by simpa using h13) fun y hy => ?_
    simp only [List.mem_cons, List.not_mem_nil, or_false] at hy
    exact q _ y sc3.1 sc3.2 (.inr hy)
  · rename_i H1 r1 sc1 k1 h01 h11 H2 r2 sc2 k2 h02 h12 h0 p1 n1 p2 n2 p3 n3
    have s2 := (sc2.new (o := .lst []) n1)
    have s3 := s2.new (o := .lst [.int 1]) n2
    have m1 := sc2.nm n1
    have m2 := s2.nm n2
    have k23 : Kp [S, C] H2 (upd (upd (upd H2 p1 (.lst [])) p2 (.lst [.int 1])) p3 (.lst [.int 256, .int (256 + r2), .int (-1), .int (-1 - r2), .bl true, .bl false, .non, .str (PySem.Str.ofString ""), .str (PySem.Str.ofString "1"), .ref p1, .ref p2, .int 256])) := (((Kp.refl.new n1).new n2).new n3).mono fun a z => absurd z List.not_mem_nil
    have h1 : (upd (upd (upd H2 p1 (.lst [])) p2 (.lst [.int 1])) p3 (.lst [.int 256, .int (256 + r2), .int (-1), .int (-1 - r2), .bl true, .bl false, .non, .str (PySem.Str.ofString ""), .str (PySem.Str.ofString "1"), .ref p1, .ref p2, .int 256])) p1 = some (.lst (List.map V.int [])) := by walk_at "h"
    have h2 : (upd (upd (upd H2 p1 (.lst [])) p2 (.lst [.int 1])) p3 (.lst [.int 256, .int (256 + r2), .int (-1), .int (-1 - r2), .bl true, .bl false, .non, .str (PySem.Str.ofString ""), .str (PySem.Str.ofString "1"), .ref p1, .ref p2, .int 256])) p2 = some (.lst (List.map V.int [1])) := by walk_at "h"
    have hA2 := (k1.trans (k2.trans k23)).at_ mA hA
    have s4 := s3.new (o := .lst [.int 256, .int (256 + r2), .int (-1), .int (-1 - r2), .bl true, .bl false, .non, .str (PySem.Str.ofString ""), .str (PySem.Str.ofString "1"), .ref p1, .ref p2, .int 256]) n3
    refine ixV_go upd_same h01 (by simpa using h11) fun x hx => ?_
    generalize upd (upd (upd H2 p1 (.lst [])) p2 (.lst [.int 1])) p3 (.lst [.int 256, .int (256 + r2), .int (-1), .int (-1 - r2), .bl true, .bl false, .non, .str (PySem.Str.ofString ""), .str (PySem.Str.ofString "1"), .ref p1, .ref p2, .int 256]) = G at *
    have hxk : It [S, C] G x ∧ isB x = false := by
      simp only [List.mem_cons, List.not_mem_nil, or_false] at hx
      rcases hx with rfl | rfl | rfl | rfl | rfl | rfl | rfl | rfl | rfl | rfl | rfl | rfl
      · exact ⟨it_int, by decide⟩
      · exact ⟨it_int, decide_eq_false (by omega)⟩
      · exact ⟨it_int, by decide⟩
      · exact ⟨it_int, decide_eq_false (by omega)⟩
      · exact ⟨.inr (.inl ⟨_, rfl⟩), rfl⟩
      · exact ⟨.inr (.inl ⟨_, rfl⟩), rfl⟩
      · exact ⟨.inr (.inr (.inl rfl)), rfl⟩
      · exact ⟨.inr (.inr (.inr (.inl ⟨_, rfl, by decide⟩))), rfl⟩
      · exact ⟨.inr (.inr (.inr (.inl ⟨_, rfl, by decide⟩))), rfl⟩
      · exact ⟨.inr (.inr (.inr (.inr ⟨p1, _, rfl, m1, h1⟩))), rfl⟩
      · exact ⟨.inr (.inr (.inr (.inr ⟨p2, _, rfl, m2, h2⟩))), rfl⟩
      · exact ⟨it_int, by decide⟩
    clear hx h1 h2 m1 m2 n1 n2 n3 s2 s3
    walk_at "go"
    rename_i H5 r5 sc5 k5 h05 h15 p6 ys ey ly sy n6 p7 n7 p8 n8 p9 zs ez lz sz n9 p10 n10
    have m10 := ((((sc5.new n6).new n7).new n8).new n9).nm n10
    have s10 := ((((sc5.new n6).new n7).new n8).new n9).new (o := .lst (List.map V.int ys ++ [x] ++ List.map V.int zs)) n10
    have kk : Kp [S, C] G _ := k5.trans ((((((Kp.refl.new n6).new n7).new n8).new n9).new (o := .lst (List.map V.int ys ++ [x] ++ List.map V.int zs)) n10).mono fun a z => absurd z List.not_mem_nil)
    rw [cut_to _ h05] at ey
    rw [cut_from _ h05] at ez
    have hlen : ys.length + zs.length ≤ 9 := by
      rw [ey, ez, List.length_take, List.length_drop]
      omega
    refine q _ _ s10.1 s10.2 (.inl ⟨p10, _, rfl, m10, upd_same, fun v hv => ?_, ?_, ?_⟩)
    · rcases List.mem_append.mp hv with hv | hv
      · rcases List.mem_append.mp hv with hv | hv
        · obtain ⟨i, _, rfl⟩ := List.mem_map.mp hv
          exact it_int
        · rw [List.mem_singleton.mp hv]
          exact hxk.1.kp kk
      · obtain ⟨i, _, rfl⟩ := List.mem_map.mp hv
        exact it_int
    · rw [List.all_eq_false]
      exact ⟨x, List.mem_append_left _ (List.mem_append_right _ List.mem_cons_self), by rw [hxk.2]; decide⟩
    · simp only [List.length_append, List.length_map, List.length_cons, List.length_nil]
      omega
end K55

/-! the law, cut in three -/
namespace K55
open PySem PySem.Spec PyProof.Rows L2 Kb Stm
/-- from what is held on -/
@[irreducible] def b_t2 (K : PySem.W.Frag) (C : Addr) (P : Addr) : TS :=
 (tSeq (tAsg (tLc (iRng1 (tCons (tCall (sp_law_take K) [] E0 (tCons (tVar 1) (tCons (tC (.int 7)) tNil))) tNil)) (gName 10) tYes (tOp (rAddU K) (tC (.int 1)) (tCall (sp_law_take K) [] E0 (tCons (tVar 1) (tCons (tC (.int 255)) tNil)))) [10]) (gName 7))
 (tSeq (tAsg (tMake C (sp_Feeder___init__ K C) [] E0 tNil) (gName 8))
 (tSeq (tIfS (tTest (tOp (rNeU K) (tMethU C "feed" (sp_Feeder_feed K C) E0 (tVar 8) (tCons (tVar 7) tNil)) (tLst tNil)))
 (tRet (tC (.bl false)))
 tNext)
 (tSeq (tIfS (tNot (tTru K (tLam2 [(P, lamQ)] (TTlaw_refused K) 3 ["_law_piece", "_law_feeder"] [8] (fun E => (tMethUS C "feed" (sp_Feeder_feed K C) (WE (fun cls d _ H => E cls d H)) (tVar 1) (tCons (tVar 0) tNil))))))
 (tRet (tC (.bl false)))
 tNext)
 (tSeq (tAsg (tOp (rMulU K) (tLst (tCons (tTup (tCons (tC (.str (PySem.Str.ofString "torn"))) (tCons (tC (.int 0)) (tCons (tCB (rLenU K) (tCons (tVar 7) tNil)) tNil)))) tNil)) (tCB rIntU (tCons (tOp (rNeU K) (tVar 7) (tLst tNil)) tNil))) (gName 9))
 (tSeq (tIfS (tOr (tTest (tOp (rNeU K) (tMethU C "done" (sp_Feeder_done K C) E0 (tVar 8) tNil) (tVar 9))) (tOr (tTest (tOp (rNeU K) (tCall (sp_streamed K) [] E0 (tCons (tLst tNil) tNil)) (tLst tNil))) (tTest (tOp (rNeU K) (tCall (sp_unstreamed K) [] E0 (tCons (tLst tNil) tNil)) (tLst tNil)))))
 (tRet (tC (.bl false)))
 tNext)
 (tRet (tAndV (tOp (rEqU K) (tCall (sp_streamed K) [] E0 (tCons (tLst (tCons (tVar 2) tNil)) tNil)) (tCall (sp_streamed K) [] E0 (tCons (tLst (tCons (tCB (rTupleU K) (tCons (tVar 2) tNil)) tNil)) tNil))) (tOp (rEqU K) (tCall (sp_unstreamed K) [] E0 (tCons (tVar 2) tNil)) (tCall (sp_unstreamed K) [] E0 (tCons (tCB (rTupleU K) (tCons (tVar 2) tNil)) tNil)))))))))))
/-- from the parts on -/
@[irreducible] def b_t1 (K : PySem.W.Frag) (C : Addr) (P : Addr) : TS :=
 (tSeq (tAsg (tLc (iRng1 (tCons (tCall (sp_law_take K) [] E0 (tCons (tVar 1) (tCons (tC (.int 4)) tNil))) tNil)) (gName 10) tYes (tSl (rSlLU K) (tVar 2) tNoPart (tPart (tVar 10))) [10]) (gName 4))
 (tSeq (tAsg (tCall (sp_law_take K) [] E0 (tCons (tVar 1) (tCons (tOp (rAddU K) (tCB (rLenU K) (tCons (tVar 4) tNil)) (tC (.int 1))) tNil))) (gName 5))
 (tSeq (tAsg (tOp (rAddU K) (tOp (rAddU K) (tSl (rSlLU K) (tVar 4) tNoPart (tPart (tVar 5))) (tLst (tCons (tVar 3) tNil))) (tSl (rSlLU K) (tVar 4) (tPart (tVar 5)) tNoPart)) (gName 6))
 (tSeq (tIfS (tOr (tNot (tTru K (tCall (sp_law_refused K) [] E0 (tCons (tC (.ref (cAt K "streamed"))) (tCons (tVar 6) tNil))))) (tTest (tOp (rNeU K) (tVar 6) (tOp (rAddU K) (tOp (rAddU K) (tSl (rSlLU K) (tVar 4) tNoPart (tPart (tVar 5))) (tLst (tCons (tVar 3) tNil))) (tSl (rSlLU K) (tVar 4) (tPart (tVar 5)) tNoPart)))))
 (tRet (tC (.bl false)))
 tNext)
 (tSeq (tIfS (tOr (tNot (tTru K (tCall (sp_law_refused K) [] E0 (tCons (tC (.ref (cAt K "unstreamed"))) (tCons (tVar 3) tNil))))) (tNot (tTru K (tCall (sp_law_any_refusal K) [] E0 (tCons (tC (.ref (cAt K "unstreamed"))) (tCons (tVar 3) tNil))))))
 (tRet (tC (.bl false)))
 tNext)
 (b_t2 K C P))))))
theorem law_eq (K : PySem.W.Frag) (C P : Addr) : t_law K C P =
 (tSeq (tAsg (tLst (tCons (tCB (rListU K) (tCons (tSl (rSlLU K) (tVar 0) tNoPart (tPart (tC (.int 63)))) tNil)) (tCons (tC (.int 0)) (tCons (tC (.int 0)) (tCons (tC (.int 0)) tNil))))) (gName 1))
 (tSeq (tAsg (tLc (iRng1 (tCons (tCall (sp_law_take K) [] E0 (tCons (tVar 1) (tCons (tC (.int 10)) tNil))) tNil)) (gName 10) tYes (tCall (sp_law_take K) [] E0 (tCons (tVar 1) (tCons (tC (.int 256)) tNil))) [10]) (gName 2))
 (tSeq (tAsg (tCall (sp_law_wrong K) [] E0 (tCons (tVar 1) (tCons (tVar 2) tNil))) (gName 3))
 (tSeq (tIfS (tAnd (tTru K (tCB (rIsiU K) (tCons (tVar 3) (tCons (tC (.ty "list")) tNil)))) (tTest (tOp (rEqU K) (tCall (sp_law_take K) [] E0 (tCons (tVar 1) (tCons (tC (.int 2)) tNil))) (tC (.int 0)))))
 (tAsg (tCB (rTupleU K) (tCons (tVar 3) tNil)) (gName 3))
 tNext)
 (b_t1 K C P))))) := by
  unfold t_law b_t1 b_t2
  rfl
theorem t1_eq (K : PySem.W.Frag) (C P : Addr) : b_t1 K C P =
 (tSeq (tAsg (tLc (iRng1 (tCons (tCall (sp_law_take K) [] E0 (tCons (tVar 1) (tCons (tC (.int 4)) tNil))) tNil)) (gName 10) tYes (tSl (rSlLU K) (tVar 2) tNoPart (tPart (tVar 10))) [10]) (gName 4))
 (tSeq (tAsg (tCall (sp_law_take K) [] E0 (tCons (tVar 1) (tCons (tOp (rAddU K) (tCB (rLenU K) (tCons (tVar 4) tNil)) (tC (.int 1))) tNil))) (gName 5))
 (tSeq (tAsg (tOp (rAddU K) (tOp (rAddU K) (tSl (rSlLU K) (tVar 4) tNoPart (tPart (tVar 5))) (tLst (tCons (tVar 3) tNil))) (tSl (rSlLU K) (tVar 4) (tPart (tVar 5)) tNoPart)) (gName 6))
 (tSeq (tIfS (tOr (tNot (tTru K (tCall (sp_law_refused K) [] E0 (tCons (tC (.ref (cAt K "streamed"))) (tCons (tVar 6) tNil))))) (tTest (tOp (rNeU K) (tVar 6) (tOp (rAddU K) (tOp (rAddU K) (tSl (rSlLU K) (tVar 4) tNoPart (tPart (tVar 5))) (tLst (tCons (tVar 3) tNil))) (tSl (rSlLU K) (tVar 4) (tPart (tVar 5)) tNoPart)))))
 (tRet (tC (.bl false)))
 tNext)
 (tSeq (tIfS (tOr (tNot (tTru K (tCall (sp_law_refused K) [] E0 (tCons (tC (.ref (cAt K "unstreamed"))) (tCons (tVar 3) tNil))))) (tNot (tTru K (tCall (sp_law_any_refusal K) [] E0 (tCons (tC (.ref (cAt K "unstreamed"))) (tCons (tVar 3) tNil))))))
 (tRet (tC (.bl false)))
 tNext)
 (b_t2 K C P)))))) := by
  unfold b_t1
  rfl
theorem t2_eq (K : PySem.W.Frag) (C P : Addr) : b_t2 K C P =
 (tSeq (tAsg (tLc (iRng1 (tCons (tCall (sp_law_take K) [] E0 (tCons (tVar 1) (tCons (tC (.int 7)) tNil))) tNil)) (gName 10) tYes (tOp (rAddU K) (tC (.int 1)) (tCall (sp_law_take K) [] E0 (tCons (tVar 1) (tCons (tC (.int 255)) tNil)))) [10]) (gName 7))
 (tSeq (tAsg (tMake C (sp_Feeder___init__ K C) [] E0 tNil) (gName 8))
 (tSeq (tIfS (tTest (tOp (rNeU K) (tMethU C "feed" (sp_Feeder_feed K C) E0 (tVar 8) (tCons (tVar 7) tNil)) (tLst tNil)))
 (tRet (tC (.bl false)))
 tNext)
 (tSeq (tIfS (tNot (tTru K (tLam2 [(P, lamQ)] (TTlaw_refused K) 3 ["_law_piece", "_law_feeder"] [8] (fun E => (tMethUS C "feed" (sp_Feeder_feed K C) (WE (fun cls d _ H => E cls d H)) (tVar 1) (tCons (tVar 0) tNil))))))
 (tRet (tC (.bl false)))
 tNext)
 (tSeq (tAsg (tOp (rMulU K) (tLst (tCons (tTup (tCons (tC (.str (PySem.Str.ofString "torn"))) (tCons (tC (.int 0)) (tCons (tCB (rLenU K) (tCons (tVar 7) tNil)) tNil)))) tNil)) (tCB rIntU (tCons (tOp (rNeU K) (tVar 7) (tLst tNil)) tNil))) (gName 9))
 (tSeq (tIfS (tOr (tTest (tOp (rNeU K) (tMethU C "done" (sp_Feeder_done K C) E0 (tVar 8) tNil) (tVar 9))) (tOr (tTest (tOp (rNeU K) (tCall (sp_streamed K) [] E0 (tCons (tLst tNil) tNil)) (tLst tNil))) (tTest (tOp (rNeU K) (tCall (sp_unstreamed K) [] E0 (tCons (tLst tNil) tNil)) (tLst tNil)))))
 (tRet (tC (.bl false)))
 tNext)
 (tRet (tAndV (tOp (rEqU K) (tCall (sp_streamed K) [] E0 (tCons (tLst (tCons (tVar 2) tNil)) tNil)) (tCall (sp_streamed K) [] E0 (tCons (tLst (tCons (tCB (rTupleU K) (tCons (tVar 2) tNil)) tNil)) tNil))) (tOp (rEqU K) (tCall (sp_unstreamed K) [] E0 (tCons (tVar 2) tNil)) (tCall (sp_unstreamed K) [] E0 (tCons (tCB (rTupleU K) (tCons (tVar 2) tNil)) tNil))))))))))) := by
  unfold b_t2
  rfl
end K55

/-! ## k55: the law read -/
namespace K55
open PySem PySem.Spec PyProof.Rows L2 Kb Stm
theorem len_law (K : PySem.W.Frag) (P : Addr) : ∀ vs H Q E, sp_law K P vs H Q E → vs.length = ["_law_script"].length := by
  rintro _ _ _ _ ⟨_, _, rfl, _⟩; rfl
theorem It.kn {K : PySem.W.Frag} {M : List Addr} {H : Hp} {v : V} (h : It M H v) : Knw K H v := by
  rcases h with ⟨i, rfl⟩ | ⟨b, rfl⟩ | rfl | ⟨z, rfl, _⟩ | ⟨b, xs, rfl, m, hb⟩
  · exact ⟨"int", .base (.int _), .inr (.inr (.inl rfl))⟩
  · exact ⟨"bool", .base (.bl _), .inr (.inl rfl)⟩
  · exact ⟨"NoneType", .base .non, .inl rfl⟩
  · exact ⟨"str", .base (.str _), .inr (.inr (.inr (.inl rfl)))⟩
  · exact ⟨"list", .base (.lst hb), .inr (.inr (.inr (.inr (.inl rfl))))⟩
theorem It.dp {K : PySem.W.Frag} {M : List Addr} {H : Hp} {v : V} (h : It M H v) : ∃ d, Dp K H v d ∧ Sh 1 d := by
  rcases h with ⟨i, rfl⟩ | ⟨b, rfl⟩ | rfl | ⟨z, rfl, hz⟩ | ⟨b, xs, rfl, m, hb⟩
  · exact ⟨_, .int _, sh_int⟩
  · exact ⟨_, .bl _, sh_bl⟩
  · exact ⟨_, .non, sh_non⟩
  · exact ⟨_, .str _, sh_str hz⟩
  · exact ⟨_, .lst (SqL.of hb) (dp_ints xs), sh_ints⟩
theorem its_dp {K : PySem.W.Frag} {M : List Addr} {H : Hp} : ∀ {vs : List V}, (∀ v ∈ vs, It M H v) → ∃ ds, DpAll K H vs ds ∧ ∀ d ∈ ds, Sh 1 d
  | [], _ => ⟨[], .nil, fun _ h => nomatch h⟩
  | v :: vs, h => by
    obtain ⟨d, h1, h2⟩ := (h v List.mem_cons_self).dp (K := K)
    obtain ⟨ds, h3, h4⟩ := its_dp (K := K) fun w hw => h w (List.mem_cons_of_mem _ hw)
    exact ⟨d :: ds, .cons h1 h3, fun e he => (List.mem_cons.mp he).elim (fun z => by rw [z]; exact h2) (h4 e)⟩
theorem Row.kp {M : List Addr} {H H' : Hp} {vs : List V} (h : Row M H vs) (k : Kp M H H') : Row M H' vs := ⟨fun v hv => (h.1 v hv).kp k, h.2⟩
theorem Wt.kp {M : List Addr} {H H' : Hp} {x : V} (h : Wt M H x) (k : Kp M H H') : Wt M H' x := by
  rcases h with ⟨a, vs, e, m, hi, r⟩ | h
  · exact .inl ⟨a, vs, e, m, hi.elim (fun z => .inl (k.at_ m z)) (fun z => .inr (k.at_ m z)), r.kp k⟩
  · exact .inr h
theorem Wt.kp0 {M : List Addr} {H H' : Hp} {x : V} (h : Wt M H x) (k : Kp [] H H') : Wt M H' x := h.kp (k.mono fun a z => absurd z List.not_mem_nil)
theorem Wt.ba {K : PySem.W.Frag} {M : List Addr} {H : Hp} {x : V} (h : Wt M H x) : BA K H x false := by
  rcases h with ⟨a, vs, rfl, m, hi, r⟩ | h
  · exact .inl ⟨a, vs, rfl, hi, fun v hv => (r.1 v hv).kn, r.2.1.symm⟩
  · rcases h with rfl | rfl | rfl | rfl | rfl
    · exact .inr ⟨"NoneType", .base .non, .inl rfl, rfl⟩
    · exact .inr ⟨"str", .base (.str _), .inr (.inr (.inr (.inl rfl))), rfl⟩
    · exact .inr ⟨"str", .base (.str _), .inr (.inr (.inr (.inl rfl))), rfl⟩
    · exact .inr ⟨"int", .base (.int _), .inr (.inr (.inl rfl)), rfl⟩
    · exact .inr ⟨"bool", .base (.bl _), .inr (.inl rfl), rfl⟩
theorem Wt.dp {K : PySem.W.Frag} {M : List Addr} {H : Hp} {x : V} (h : Wt M H x) : ∃ d, Dp K H x d ∧ Sh 2 d := by
  rcases h with ⟨a, vs, rfl, m, hi, r⟩ | h
  · obtain ⟨ds, h1, h2⟩ := its_dp (K := K) r.1
    rcases hi with hi | hi
    · exact ⟨_, .lst (SqL.of hi) h1, sh_lst h2⟩
    · exact ⟨_, .tup (SqT.of hi) h1, sh_tup h2⟩
  · rcases h with rfl | rfl | rfl | rfl | rfl
    · exact ⟨_, .non, sh_non⟩
    · exact ⟨_, .str _, sh_str (by decide)⟩
    · exact ⟨_, .str _, sh_str (by decide)⟩
    · exact ⟨_, .int _, sh_int⟩
    · exact ⟨_, .bl _, sh_bl⟩
theorem Wr.wt {M : List Addr} {H : Hp} {x : V} (h : Wr M H x) : Wt M H x := by
  rcases h with ⟨a, vs, e, m, hi, r⟩ | h
  · exact .inl ⟨a, vs, e, m, .inl hi, r⟩
  · exact .inr h
end K55

/-! ## k55: from what is held on -/
namespace K55
open PySem PySem.Spec PyProof.Rows L2 Kb Stm
theorem Tls.a2 {Hn H : Hp} {us : List V} {ts : List Tl} (h : Tls Hn H us ts) : A2 (fun v t => tlAt H v t) us ts := ⟨h.1, fun i v e => by
  obtain ⟨t, h1, h2, _⟩ := h.2 i v e
  exact ⟨t, h1, h2⟩⟩
theorem a2_none {H : Hp} {us : List V} {ts : List Tl} (h : A2 (fun v t => tlAt H v t) us ts) : Tls (fun _ => none) H us ts := ⟨h.1, fun i v e => by
  obtain ⟨t, h1, h2⟩ := h.2 i v e
  exact ⟨t, h1, h2, fun T _ => ⟨rfl, fun _ _ _ _ => rfl⟩⟩⟩
theorem neTls_go {K : PySem.W.Frag} {H : Hp} {Q : VK} {a b : Addr} {us vs : List V} {ts : List Tl} (ha : H a = some (.lst us)) (hb : H b = some (.lst vs)) (hu : A2 (fun v t => tlAt H v t) us ts) (hv : A2 (fun v t => tlAt H v t) vs ts) (q : Q (.bl false) H) : rNeU K (.ref a) (.ref b) H Q :=
  neD_go (.lst (SqL.of ha) (a2_none hu).dp) (.lst (SqL.of hb) (a2_none hv).dp) ((sh_tls ts).ok (by decide)) ((sh_tls ts).ok (by decide)) (by rw [SeqAt.eqv_refl _ (sh_tls ts).1]; exact q)
theorem t2_read (K : PySem.W.Frag) (C : Addr) (O : Own K C) (B : XK2 K) {a S Cc A P : Addr} {x : V} {u4 u5 u6 : Option V} {bs : List Int} {H : Hp} {Q : VK} (st : St H S Cc) (hA : H A = some (.lst (List.map V.int bs))) (mA : A ∉ [S, Cc]) (ok : Okb bs) (hl : bs.length ≤ 9) (wx : Wt [S, Cc] H x)
    (hP : H P = some (.tbl #[])) (mP : P ∉ [S, Cc]) (q : ∀ H', Q (.bl true) H') : b_t2 K C P { nx := fun _ H' => Q .non H', rt := Q } [some (.ref a), some (.ref S), some (.ref A), some x, u4, u5, u6, none, none, none, none] H := by
  obtain ⟨cl, nh, np⟩ := id O
  have sc : SC H S Cc H := ⟨Kp.refl, st⟩
  rw [t2_eq]
  walk_at "go"
  rename_i H1 r1 sc1 k1 h01 h11 D nD
  have nDm := sc1.nm nD
  have nD0 := sc1.was nD
  refine lc_acc walk_range (fun i acc H' => SC H S Cc H' ∧ ∃ cs : List Int, acc = cs.map V.int ∧ cs.length = i ∧ ∀ c ∈ cs, 1 ≤ c ∧ c ≤ 255) ⟨sc1.new nD, [], rfl, rfl, fun _ h => nomatch h⟩ (fun _ _ _ _ _ => trivial) (fun i y acc Hc Hd hi hl2 hD hP' hY => ?_) (fun acc Hc hl2 hD hP' => ?_)
  · obtain ⟨scb, cs, rfl, cl', hcs⟩ := hP'
    obtain ⟨rfl, rfl⟩ := hY
    refine ⟨rfl, ?_⟩
    walk_at "go"
    rename_i H4 r4 sc4 k4 h04 h14
    refine acc_go hl2 (by omega) (k4.at_ nDm hD) ⟨sc4.upd nD0 nDm, cs ++ [1 + r4], by rw [List.map_append]; rfl, by rw [List.length_append, cl']; rfl, fun c hc => ?_⟩
    rcases List.mem_append.mp hc with hc | hc
    · exact hcs c hc
    · rw [List.mem_singleton.mp hc]
      omega
  obtain ⟨scb, cs, rfl, cl', hcs⟩ := hP'
  have hcl : cs.length ≤ 7 := by omega
  have hA1 := scb.1.at_ mA hA
  have hP1 := scb.1.at_ mP hP
  have wx1 := wx.kp scb.1
  clear hl2 sc1 k1 nD nDm nD0 hA hP wx sc h01 h11
  walk_at "go"
  rename_i F dx nF nd ne
  have k0 : Kp [] Hc (upd (upd Hc dx (.own F)) F (.ins C dx [])) := (Kp.refl.upd_new' nd).upd_new nF
  refine ⟨F, dx, rfl, upd_same, fun H1 h1 nh1 k1 ⟨hne, dx1, hF1, hh1⟩ => ?_⟩
  have k01 : Kp [] Hc H1 := k0.drop k1 fun a z => by
    rw [List.mem_singleton.mp z]
    exact .inr nF
  have nh0 : Hc h1 = none := none_of k0 nh1
  have efs : fst [] 0 cs = ([], cs, 0) := by
    unfold fst
    rw [fst_run cs [] [] 0 fun b hb => by have := hcs b hb; omega]
    rfl
  walk_at "go"
  refine .inl ⟨F, h1, [], 0, D, cs, rfl, ⟨hne, dx1, hF1, hh1⟩, .inl (k01.at_ List.not_mem_nil hD), ne_of_none hD nF, ne_of_none hD nh0, fun b hb => by have := hcs b hb; omega, (fun _ z => nomatch z), by simp; omega, fun H2 p us h2 np2 k2 hp2 ht2 hh2 ph2 _ fd2 => ?_⟩
  rw [efs] at ht2 fd2
  obtain rfl : us = [] := List.length_eq_zero_iff.mp ht2.1
  have k02 : Kp [] Hc H2 := k01.drop k2 fun a z => by
    simp at z
    rcases z with rfl | rfl
    · exact .inr nF
    · exact .inr nh0
  obtain ⟨hne2, dx2, hF2, hh2'⟩ := fd2
  walk_at "go"
  rename_i p3 n3
  have k3 : Kp [] H2 (upd H2 p3 (.lst [])) := Kp.refl.new n3
  refine neLL_go (pss := []) (SqL.of (k3.at_ List.not_mem_nil hp2)) (SqL.of upd_same) ⟨rfl, fun i v e => nomatch e⟩ ⟨rfl, fun i v e => nomatch e⟩ ?_
  have k03 := k02.trans k3
  have hF3 := k3.at_ List.not_mem_nil hF2
  have hh3 := k3.at_ List.not_mem_nil hh2'
  have hD3 := k03.at_ List.not_mem_nil hD
  have hA3 := k03.at_ List.not_mem_nil hA1
  have hP3 := k03.at_ List.not_mem_nil hP1
  have wx3 := wx1.kp0 k03
  clear nF nd ne k0 nh1 k1 k01 nh0 np2 k2 hp2 ht2 hh2 ph2 hF1 hh1 k02 hF2 hh2' n3 k3 k03 hA1 hP1 wx1 scb hD
  generalize upd H2 p3 (.lst []) = H3 at *
  walk_at "go"
  refine ⟨fun p hp => by rw [List.mem_singleton.mp hp]; exact LamX.TabS.nil hP3, x, rfl, fun H4 eN T4 => ?_⟩
  have hF4 := eN _ _ hF3 fun _ z => nomatch z
  have hh4 := eN _ _ hh3 fun _ z => nomatch z
  have hD4 := eN _ _ hD3 fun _ z => nomatch z
  have hA4 := eN _ _ hA3 fun _ z => nomatch z
  have wx4 : Wt [S, Cc] H4 x := by
    rcases wx3 with ⟨a, vs, e, m, hi, r1, r2⟩ | h
    · refine .inl ⟨a, vs, e, m, hi.elim (fun z => .inl (eN _ _ z fun _ z => nomatch z)) (fun z => .inr (eN _ _ z fun _ z => nomatch z)), fun v hv => ?_, r2⟩
      rcases r1 v hv with h | h | h | h | ⟨b, xs, e, m, hb⟩
      · exact .inl h
      · exact .inr (.inl h)
      · exact .inr (.inr (.inl h))
      · exact .inr (.inr (.inr (.inl h)))
      · exact .inr (.inr (.inr (.inr ⟨b, xs, e, m, eN _ _ hb fun _ z => nomatch z⟩)))
    · exact .inr h
  intro Qx Ex hE
  show tMethUS C "feed" (sp_Feeder_feed K C) (WE (fun cls d _ H => Ex cls d H)) (tVar 1) (tCons (tVar 0) tNil) [some x, some (.ref F)] H4 Qx
  unfold tMethUS
  walk_at "go"
  refine .inr ⟨_, _, rfl, wx4.ba, fun H5 d k5 hd => hE _ _ _ ⟨rfl, d, rfl, upd_same, fun H6 k6 => ?_⟩⟩
  have k46 : Kp [] H4 H6 := (k5.new hd).trans k6
  have hF6 := k46.at_ List.not_mem_nil hF4
  have hh6 := k46.at_ List.not_mem_nil hh4
  have hD6 := k46.at_ List.not_mem_nil hD4
  have hA6 := k46.at_ List.not_mem_nil hA4
  clear hF3 hh3 hD3 hA3 hP3 wx3 eN T4 hF4 hh4 hD4 hA4 wx4 hE k5 hd k6 k46
  walk_at "go"
  rename_i p7 n7 p8 n8 p9 n9 p10 n10
  generalize hrl : (List.replicate _ [V.ref p7]).flatten = rl at *
  have el : rl = if cs ≠ [] then [V.ref p7] else [] := by
    rw [← hrl]
    by_cases e : cs = []
    · simp [e]
    · simp [e]
  rw [el]
  rw [List.length_map] at *
  have k7 := ((((Kp.refl (M := []) (H := H6)).new (o := .tup [.str (PySem.Str.ofString "torn"), .int 0, .int (cs.length : Nat)]) n7).new (o := .lst [.ref p7]) n8).new (o := .lst []) n9).new (o := .lst (if cs ≠ [] then [V.ref p7] else [])) n10
  have h10 : upd (upd (upd (upd H6 p7 (.tup [.str (PySem.Str.ofString "torn"), .int 0, .int (cs.length : Nat)])) p8 (.lst [.ref p7])) p9 (.lst [])) p10 (.lst (if cs ≠ [] then [V.ref p7] else [])) p10 = some (.lst (if cs ≠ [] then [V.ref p7] else [])) := upd_same
  have h7 : upd (upd (upd (upd H6 p7 (.tup [.str (PySem.Str.ofString "torn"), .int 0, .int (cs.length : Nat)])) p8 (.lst [.ref p7])) p9 (.lst [])) p10 (.lst (if cs ≠ [] then [V.ref p7] else [])) p7 = some (.tup [.str (PySem.Str.ofString "torn"), .int 0, .int (cs.length : Nat)]) := by walk_at "h"
  generalize upd (upd (upd (upd H6 p7 (.tup [.str (PySem.Str.ofString "torn"), .int 0, .int (cs.length : Nat)])) p8 (.lst [.ref p7])) p9 (.lst [])) p10 (.lst (if cs ≠ [] then [V.ref p7] else [])) = H7 at *
  have hF7 := k7.at_ List.not_mem_nil hF6
  have hh7 := k7.at_ List.not_mem_nil hh6
  have hA7 := k7.at_ List.not_mem_nil hA6
  clear n7 n8 n9 n10 k7 hF6 hh6 hA6 hD6 el hrl
  have n7F : p7 ≠ F := fun z => by rw [z, hF7] at h7; cases h7
  have n10F : p10 ≠ F := fun z => by rw [z, hF7] at h10; cases h10
  have AF : A ≠ F := fun z => by rw [z, hF7] at hA7; cases hA7
  walk_at "go"
  refine ⟨F, h2, cs, 0, rfl, ⟨hne2, dx2, hF7, hh7⟩, by omega, fun H8 p us h8 np8 k8 hp8 ht8 nh8 fd8 => ?_⟩
  have h108 := k8.at_ (nm_cons n10F List.not_mem_nil) h10
  have h78 := k8.at_ (nm_cons n7F List.not_mem_nil) h7
  have hA8 := k8.at_ (nm_cons AF List.not_mem_nil) hA7
  walk_at "go"
  refine neTls_go (ts := if cs ≠ [] then [⟨0, none, cs.length⟩] else []) hp8 h108 (K55.Tls.a2 ht8) ?_ ?_
  · by_cases e : cs ≠ []
    · rw [if_pos e, if_pos e]
      exact .one ⟨p7, rfl, h78⟩
    · rw [if_neg e, if_neg e]
      exact .nil
  clear h10 h7 hF7 hh7 hA7 k8 hp8 ht8 nh8 fd8 h108 h78
  walk_at "go"
  unfold tNil
  rename_i p11 n11
  have k11 : Kp [] H8 (upd H8 p11 (.lst [])) := Kp.refl.new n11
  refine .inl ⟨p11, [], [], rfl, .inl upd_same, ⟨rfl, fun i v e => nomatch e⟩, by decide, fun H12 r12 n12 k12 h12 => ?_⟩
  have hA12 := (k11.trans k12).at_ List.not_mem_nil hA8
  have e12 : H12 r12 = some (.lst []) := h12
  clear n11 k11 k12 h12 hA8 n12
  walk_at "go"
  rename_i p13 n13
  have k13 : Kp [] H12 (upd H12 p13 (.lst [])) := Kp.refl.new n13
  refine neLL_go (pss := []) (SqL.of (k13.at_ List.not_mem_nil e12)) (SqL.of upd_same) ⟨rfl, fun i v e => nomatch e⟩ ⟨rfl, fun i v e => nomatch e⟩ ?_
  have hA13 := k13.at_ List.not_mem_nil hA12
  clear n13 k13 e12 hA12
  generalize upd H12 p13 (.lst []) = H13 at *
  walk_at "go"
  rename_i p14 n14
  have k14 : Kp [] H13 (upd H13 p14 (.lst [])) := Kp.refl.new n14
  refine .inl ⟨p14, [], rfl, .inl upd_same, okb_nil, by decide, fun H15 r15 us n15 k15 h15 t15 => ?_⟩
  obtain rfl : us = [] := List.length_eq_zero_iff.mp t15.1
  have hA15 := (k14.trans k15).at_ List.not_mem_nil hA13
  clear n14 k14 k15 n15 t15 hA13
  walk_at "go"
  rename_i p16 n16
  have k16 : Kp [] H15 (upd H15 p16 (.lst [])) := Kp.refl.new n16
  refine neLL_go (pss := []) (SqL.of (k16.at_ List.not_mem_nil h15)) (SqL.of upd_same) ⟨rfl, fun i v e => nomatch e⟩ ⟨rfl, fun i v e => nomatch e⟩ ?_
  have hA16 := k16.at_ List.not_mem_nil hA15
  clear n16 k16 h15 hA15
  generalize upd H15 p16 (.lst []) = H16 at *
  walk_at "go"
  rename_i p17 n17
  have k17 : Kp [] H16 (upd H16 p17 (.lst [.ref A])) := Kp.refl.new n17
  have hb : (strm [bs]).length ≤ 8000000 := by
    have := strm_le (pss := [bs]) (n := 9) fun p hp => by rw [List.mem_singleton.mp hp]; exact hl
    have e : [bs].length * (2 * 9 + 10) = 28 := rfl
    omega
  have prt : ∀ {Hx : Hp} {b : Addr}, Inn Hx b (List.map V.int bs) → Parts Hx [.ref b] [bs] := fun {Hx b} hb => ⟨rfl, fun i v e => by
    rcases i with _ | i
    · cases e
      exact ⟨b, bs, rfl, rfl, hb, ok, by omega⟩
    · cases e⟩
  refine .inl ⟨p17, [.ref A], [bs], rfl, .inl upd_same, prt (.inl (k17.at_ List.not_mem_nil hA16)), hb, fun H18 r18 n18 k18 h18 => ?_⟩
  have hA18 := (k17.trans k18).at_ List.not_mem_nil hA16
  clear n17 k17 k18 n18 hA16
  walk_at "go"
  rename_i p19 n19 p20 n20
  have k20 := ((Kp.refl (M := []) (H := H18)).new (o := .tup (List.map V.int bs)) n19).new (o := .lst [.ref p19]) n20
  have h19 : upd (upd H18 p19 (.tup (List.map V.int bs))) p20 (.lst [.ref p19]) p19 = some (.tup (List.map V.int bs)) := by walk_at "h"
  refine .inl ⟨p20, [.ref p19], [bs], rfl, .inl upd_same, prt (.inr h19), hb, fun H21 r21 n21 k21 h21 => ?_⟩
  have kk := k20.trans k21
  have hA21 := kk.at_ List.not_mem_nil hA18
  have h1821 := kk.at_ List.not_mem_nil h18
  clear n19 n20 k20 h19 k21 n21 kk hA18 h18
  walk_at "go"
  · refine .inl ⟨A, bs, rfl, .inl hA21, ok, by omega, fun H22 r22 us n22 k22 h22 t22 => ?_⟩
    have hA22 := k22.at_ List.not_mem_nil hA21
    clear n22 k22 h1821 h21 hA21
    walk_at "go"
    rename_i p23 n23
    have k23 : Kp [] H22 (upd H22 p23 (.tup (List.map V.int bs))) := Kp.refl.new n23
    refine .inl ⟨p23, bs, rfl, .inr upd_same, ok, by omega, fun H24 r24 vs n24 k24 h24 t24 => ?_⟩
    walk_at "go"
    have kk := k23.trans k24
    exact eqTls_go (kk.at_ List.not_mem_nil h22) h24 (tls_move (M := []) t22 kk (fun a z => absurd z List.not_mem_nil) Kp.refl) t24 (q _)
  · rename_i h
    exact absurd rfl h
end K55

/-! ## k55: from the parts on -/
namespace K55
open PySem PySem.Spec PyProof.Rows L2 Kb Stm
theorem dpAll_app {K : PySem.W.Frag} {H : Hp} : ∀ {xs ys : List V} {ds es : List PyData}, DpAll K H xs ds → DpAll K H ys es → DpAll K H (xs ++ ys) (ds ++ es)
  | _, _, _, _, .nil, h => h
  | _, _, _, _, .cons a b, h => .cons a (dpAll_app b h)
theorem llOf {M : List Addr} {H : Hp} {us : List V} {pss : List (List Int)} (h : A2 (rObj (fun ps : List Int => HO.lst (List.map V.int ps)) M H) us pss) : LL H us pss := ⟨h.1, fun i v e => by
  obtain ⟨ps, h1, a, rfl, h2, _⟩ := h.2 i v e
  exact ⟨a, ps, h1, rfl, h2⟩⟩
/-- rows, with a wrong thing among them -/
theorem mix_dp {K : PySem.W.Frag} {H : Hp} {us vs : List V} {x : V} {pss qss : List (List Int)} (h : LL H us pss) (g : LL H vs qss) {d : PyData} (hd : Dp K H x d) (sd : Sh 2 d) :
    ∃ ds, DpAll K H (us ++ [x] ++ vs) ds ∧ Sh 3 (.list ds) ∧ ds = (pss.map fun ps => PyData.list (ps.map PyData.int)) ++ [d] ++ qss.map fun ps => PyData.list (ps.map PyData.int) := by
  have s1 : ∀ ps : List Int, Sh 2 (.list (ps.map PyData.int)) := fun ps => sh_lst fun d h => by
    obtain ⟨i, _, rfl⟩ := List.mem_map.mp h
    exact sh_int
  refine ⟨_, dpAll_app (dpAll_app h.dp (.cons hd .nil)) g.dp, sh_lst fun e he => ?_, rfl⟩
  rcases List.mem_append.mp he with he | he
  · rcases List.mem_append.mp he with he | he
    · obtain ⟨ps, _, rfl⟩ := List.mem_map.mp he
      exact s1 ps
    · rw [List.mem_singleton.mp he]
      exact sd
  · obtain ⟨ps, _, rfl⟩ := List.mem_map.mp he
    exact s1 ps
theorem sc_kp {H0 H H' : Hp} {S C : Addr} (sc : SC H0 S C H) (k : Kp [] H H') : SC H0 S C H' := by
  obtain ⟨k0, hne, cs, w, x, m, hS, hC, hl⟩ := sc
  exact ⟨k0.trans (k.mono fun a z => absurd z List.not_mem_nil), hne, cs, w, x, m, k.at_ List.not_mem_nil hS, k.at_ List.not_mem_nil hC, hl⟩
theorem t1_read (K : PySem.W.Frag) (C : Addr) (O : Own K C) (B : XK2 K) {a S Cc A P : Addr} {x : V} {bs : List Int} {H : Hp} {Q : VK} (st : St H S Cc) (hA : H A = some (.lst (List.map V.int bs))) (mA : A ∉ [S, Cc]) (ok : Okb bs) (hl : bs.length ≤ 9) (wx : Wt [S, Cc] H x)
    (hP : H P = some (.tbl #[])) (mP : P ∉ [S, Cc]) (q : ∀ H', Q (.bl true) H') : b_t1 K C P { nx := fun _ H' => Q .non H', rt := Q } [some (.ref a), some (.ref S), some (.ref A), some x, none, none, none, none, none, none, none] H := by
  have sc : SC H S Cc H := ⟨Kp.refl, st⟩
  rw [t1_eq]
  walk_at "go"
  rename_i H1 r1 sc1 k1 h01 h11 D nD
  have nDm := sc1.nm nD
  have hA1 := sc1.1.at_ mA hA
  have hP1 := sc1.1.at_ mP hP
  have wx1 := wx.kp sc1.1
  refine lc_acc walk_range (fun i acc H' => Kp [] H1 H' ∧ ∃ pss : List (List Int), A2 (rObj (fun ps : List Int => HO.lst (List.map V.int ps)) [D, S, Cc] H') acc pss ∧ pss.length = i ∧ ∀ ps ∈ pss, Okb ps ∧ ps.length ≤ 9) ⟨Kp.refl.new nD, [], .nil, rfl, fun _ h => nomatch h⟩ (fun _ _ _ _ _ => trivial) (fun i y acc Hc Hd hi hl2 hD hP' hY => ?_) (fun us Hc hl2 hD hP' => ?_)
  · obtain ⟨kb, pss, hps, pl, hok⟩ := hP'
    obtain ⟨rfl, rfl⟩ := hY
    have hAc := kb.at_ List.not_mem_nil hA1
    refine ⟨rfl, ?_⟩
    walk_at "go"
    rename_i p ys ey ly sy np
    have nm : p ∉ [D, S, Cc] := nm_cons (ne_of_none hD np).symm (sc1.nm (kb.none_of List.not_mem_nil np))
    refine acc_go hl2 (by omega) ((upd_ne (ne_of_none hD np)).trans hD) ⟨(kb.new np).upd_new nD, pss ++ [ys], ((hps.new np).kp (Kp.refl.upd_in List.mem_cons_self)).snoc ⟨p, rfl, (upd_ne (ne_of_none hD np).symm).trans upd_same, nm⟩, by rw [List.length_append, pl]; rfl, fun ps h => (List.mem_append.mp h).elim (hok ps) fun z => ?_⟩
    rw [List.mem_singleton.mp z]
    exact ⟨okb_sub ok sy, by omega⟩
  obtain ⟨kb, pss, hps, pl, hok⟩ := hP'
  have hpl : pss.length ≤ 3 := by omega
  have hul : us.length ≤ 3 := by rw [hps.1]; exact hpl
  have scc := sc_kp sc1 kb
  have hAc := kb.at_ List.not_mem_nil hA1
  have hPc := kb.at_ List.not_mem_nil hP1
  have wxc := wx1.kp0 kb
  have hps' := hps.subM (N := [S, Cc]) fun a z => List.mem_cons_of_mem _ z
  clear hps kb wx1 hP1 hA1 nD sc1 k1 h01 h11 hl2
  walk_at "go"
  unfold tNil
  rename_i H4 r4 sc4 k4 h04 h14 p5 n5 p6 n6 p7 n7 p8 n8 p9 n9
  have kG : Kp [] H4 (upd (upd (upd (upd (upd H4 p5 (.lst (List.take r4.toNat us))) p6 (.lst [x])) p7 (.lst (List.take r4.toNat us ++ [x]))) p8 (.lst (List.drop r4.toNat us))) p9 (.lst (List.take r4.toNat us ++ [x] ++ List.drop r4.toNat us))) := ((((Kp.refl.new n5).new n6).new n7).new n8).new n9
  have sG := sc_kp sc4 kG
  have hG9 : (upd (upd (upd (upd (upd H4 p5 (.lst (List.take r4.toNat us))) p6 (.lst [x])) p7 (.lst (List.take r4.toNat us ++ [x]))) p8 (.lst (List.drop r4.toNat us))) p9 (.lst (List.take r4.toNat us ++ [x] ++ List.drop r4.toNat us))) p9 = some (.lst (List.take r4.toNat us ++ [x] ++ List.drop r4.toNat us)) := upd_same
  generalize (upd (upd (upd (upd (upd H4 p5 (.lst (List.take r4.toNat us))) p6 (.lst [x])) p7 (.lst (List.take r4.toNat us ++ [x]))) p8 (.lst (List.drop r4.toNat us))) p9 (.lst (List.take r4.toNat us ++ [x] ++ List.drop r4.toNat us))) = G at *
  have k4G : Kp [S, Cc] Hc G := k4.trans (kG.mono fun a z => absurd z List.not_mem_nil)
  have hAG := k4G.at_ mA hAc
  have hPG := k4G.at_ mP hPc
  have hDG := k4G.at_ nDm hD
  have wxG := wxc.kp k4G
  have hpsG := hps'.kp k4G
  clear n5 n6 n7 n8 n9 kG k4G sc4 k4 hAc hPc wxc hps' scc hD
  have prt : ∀ {Hx : Hp} {vs : List V} {qss : List (List Int)}, A2 (rObj (fun ps : List Int => HO.lst (List.map V.int ps)) [S, Cc] Hx) vs qss → (∀ ps ∈ qss, Okb ps ∧ ps.length ≤ 9) → Parts Hx vs qss := fun h hk => ⟨h.1, fun i v e => by
    obtain ⟨ps, h1, a, rfl, h2, _⟩ := h.2 i v e
    have := hk ps (List.mem_of_getElem? h1)
    exact ⟨a, ps, h1, rfl, .inl h2, this.1, by omega⟩⟩
  have tk := hpsG.take r4.toNat
  have okt : ∀ ps ∈ pss.take r4.toNat, Okb ps ∧ ps.length ≤ 9 := fun ps h => hok ps (List.mem_of_mem_take h)
  have hb : (strm (pss.take r4.toNat)).length ≤ 8000000 := by
    have h1 := strm_le (pss := pss.take r4.toNat) (n := 9) fun p hp => (okt p hp).2
    have h2 : (pss.take r4.toNat).length ≤ 3 := by rw [List.length_take]; omega
    have h3 : (pss.take r4.toNat).length * (2 * 9 + 10) ≤ 3 * (2 * 9 + 10) := Nat.mul_le_mul_right _ h2
    omega
  have hG9' : G p9 = some (.lst (List.take r4.toNat us ++ x :: List.drop r4.toNat us)) := by rw [hG9, List.append_assoc]; rfl
  refine ⟨_, _, _, rfl, .inl ⟨rfl, rfl⟩, fun Qx Ex hE => .inr ⟨p9, _, _, pss.take r4.toNat, x, rfl, .inl hG9', prt tk okt, hb, wxG.ba, fun H5 d k5 hd => hE _ _ _ ⟨rfl, d, rfl, upd_same, fun H6 k6 => ?_⟩⟩⟩
  have k56 : Kp [] G H6 := (k5.new hd).trans k6
  have s6 := sc_kp sG k56
  have hA6 := k56.at_ List.not_mem_nil hAG
  have hP6 := k56.at_ List.not_mem_nil hPG
  have hD6 := k56.at_ List.not_mem_nil hDG
  have h96 := k56.at_ List.not_mem_nil hG9
  have wx6 := wxG.kp0 k56
  have hps6 := hpsG.kp0 k56
  clear hE k5 hd k6 k56 hG9 hG9' hAG hPG hDG wxG hpsG tk sG
  walk_at "go"
  rename_i p10 n10 p11 n11 p12 n12 p13 n13 p14 n14
  have kG : Kp [] H6 (upd (upd (upd (upd (upd H6 p10 (.lst (List.take r4.toNat us))) p11 (.lst [x])) p12 (.lst (List.take r4.toNat us ++ [x]))) p13 (.lst (List.drop r4.toNat us))) p14 (.lst (List.take r4.toNat us ++ [x] ++ List.drop r4.toNat us))) := ((((Kp.refl.new n10).new n11).new n12).new n13).new n14
  have h14 : (upd (upd (upd (upd (upd H6 p10 (.lst (List.take r4.toNat us))) p11 (.lst [x])) p12 (.lst (List.take r4.toNat us ++ [x]))) p13 (.lst (List.drop r4.toNat us))) p14 (.lst (List.take r4.toNat us ++ [x] ++ List.drop r4.toNat us))) p14 = some (.lst (List.take r4.toNat us ++ [x] ++ List.drop r4.toNat us)) := upd_same
  generalize (upd (upd (upd (upd (upd H6 p10 (.lst (List.take r4.toNat us))) p11 (.lst [x])) p12 (.lst (List.take r4.toNat us ++ [x]))) p13 (.lst (List.drop r4.toNat us))) p14 (.lst (List.take r4.toNat us ++ [x] ++ List.drop r4.toNat us))) = G7 at *
  have s7 := sc_kp s6 kG
  have hA7 := kG.at_ List.not_mem_nil hA6
  have hP7 := kG.at_ List.not_mem_nil hP6
  have wx7 := wx6.kp0 kG
  have hps7 := hps6.kp0 kG
  obtain ⟨d, hd, sd⟩ := wx7.dp (K := K)
  obtain ⟨ds, dd, ss, _⟩ := mix_dp (llOf (hps7.take r4.toNat)) (llOf (hps7.drop r4.toNat)) hd sd
  refine neD_go (.lst (SqL.of (kG.at_ List.not_mem_nil h96)) dd) (.lst (SqL.of h14) dd) (ss.ok (by decide)) (ss.ok (by decide)) ?_
  rw [SeqAt.eqv_refl _ ss.1]
  clear n10 n11 n12 n13 n14 kG h14 s6 hA6 hP6 wx6 hps6 hps7 hd sd dd ss h96 hD6
  walk_at "go"
  refine ⟨_, _, _, rfl, .inr ⟨rfl, rfl⟩, fun Qx Ex hE => .inr ⟨x, rfl, wx7.ba, fun H5 d k5 hd => hE _ _ _ ⟨rfl, d, rfl, upd_same, fun H8 k8 => ?_⟩⟩⟩
  have k78 : Kp [] G7 H8 := (k5.new hd).trans k8
  have s8 := sc_kp s7 k78
  have hA8 := k78.at_ List.not_mem_nil hA7
  have hP8 := k78.at_ List.not_mem_nil hP7
  have wx8 := wx7.kp0 k78
  clear hE k5 hd k8 k78 s7 hA7 hP7 wx7
  walk_at "go"
  refine ⟨_, _, _, rfl, .inr ⟨rfl, rfl⟩, fun Qx Ex hE => .inr ⟨x, rfl, wx8.ba, fun H5 d k5 hd => hE _ _ _ ⟨rfl, d, rfl, upd_same, fun H9 k9 => ?_⟩⟩⟩
  have k89 : Kp [] H8 H9 := (k5.new hd).trans k9
  walk_at "go"
  exact t2_read K C O B (sc_kp s8 k89).2 (k89.at_ List.not_mem_nil hA8) mA ok hl (wx8.kp0 k89) (k89.at_ List.not_mem_nil hP8) mP q
end K55

/-! ## k55: the whole law -/
namespace K55
open PySem PySem.Spec PyProof.Rows L2 Kb Stm
theorem p_law (K : PySem.W.Frag) (C : Addr) (O : Own K C) (P : Addr) (B : XK2 K) (vs : List V) (H : Hp) (Q : VK) (E : XK) (h : sp_law K P vs H Q E) : t_law K C P { nx := fun _ H' => Q .non H', rt := Q } (start ["_law_script", "_law_state", "_law_good", "_law_wrong_here", "_law_parts", "_law_at", "_law_handed", "_law_held", "_law_feeder", "_law_rest", "_law_k"] vs) H := by
  obtain ⟨a, ns, rfl, hS, hn, hP, q⟩ := h
  rw [law_eq]
  walk_at "go"
  rename_i p1 y1 ey ly sy n1 p2 n2 p3 n3
  obtain ⟨G, hG⟩ : ∃ G, G = upd (upd (upd H p1 (.lst (y1.map V.int))) p2 (.lst (y1.map V.int))) p3 (.lst [.ref p2, .int 0, .int 0, .int 0]) := ⟨_, rfl⟩
  have st : St G p3 p2 := by
    rw [hG]
    exact ⟨(fun e => by rw [e] at n3; rw [upd_same] at n3; cases n3), y1, 0, 0, 0, upd_same, by walk_at "h", by omega⟩
  have kG : Kp [] H G := by
    rw [hG]
    exact ((Kp.refl.new n1).new n2).new n3
  have hPG := kG.at_ List.not_mem_nil hP
  rw [← hG]
  have sc : SC G p3 p2 G := ⟨Kp.refl, st⟩
  have mP : P ∉ [p3, p2] := fun z => by
    obtain ⟨_, cs, w, x, m, h1, h2, _⟩ := st
    simp at z
    rcases z with z | z
    · rw [z, h1] at hPG
      cases hPG
    · rw [z, h2] at hPG
      cases hPG
  clear n1 n2 n3 hG hS kG hP
  walk_at "go"
  rename_i H1 r1 sc1 k1 h01 h11 D nD
  have nDm := sc1.nm nD
  have nD0 := sc1.was nD
  refine lc_acc walk_range (fun i acc H' => SC G p3 p2 H' ∧ ∃ cs : List Int, acc = cs.map V.int ∧ cs.length = i ∧ Okb cs) ⟨sc1.new nD, [], rfl, rfl, okb_nil⟩ (fun _ _ _ _ _ => trivial) (fun i y acc Hc Hd hi hl2 hD hP' hY => ?_) (fun acc Hc hl2 hD hP' => ?_)
  · obtain ⟨scb, cs, rfl, cl', hcs⟩ := hP'
    obtain ⟨rfl, rfl⟩ := hY
    refine ⟨rfl, ?_⟩
    walk_at "go"
    rename_i H4 r4 sc4 k4 h04 h14
    exact acc_go hl2 (by omega) (k4.at_ nDm hD) ⟨sc4.upd nD0 nDm, cs ++ [r4], by rw [List.map_append]; rfl, by rw [List.length_append, cl']; rfl, okb_app hcs (okb_one h04 (by omega))⟩
  obtain ⟨scb, bs, rfl, cl', ok⟩ := hP'
  have hbl : bs.length ≤ 9 := by omega
  have hPc := scb.1.at_ mP hPG
  clear sc1 k1 h01 h11 nD nD0 hl2 cl' hPG sc
  walk_at "go"
  refine ⟨p3, p2, D, bs, rfl, scb.2, hD, nDm, hbl, fun H2 x k2 st2 wr => ?_⟩
  have hD2 := k2.at_ nDm hD
  have hP2 := k2.at_ mP hPc
  have sc2 : SC H2 p3 p2 H2 := ⟨Kp.refl, st2⟩
  have fin : ∀ {x : V} {H' : Hp}, SC H2 p3 p2 H' → Wt [p3, p2] H' x → b_t1 K C P { nx := fun _ H' => Q .non H', rt := Q } [some (.ref a), some (.ref p3), some (.ref D), some x, none, none, none, none, none, none, none] H' := fun s w =>
    t1_read K C O B s.2 (s.1.at_ nDm hD2) nDm ok hbl w (s.1.at_ mP hP2) mP q
  clear scb hD hPc st
  rcases wr with ⟨b, vs, rfl, m, hb, row⟩ | h
  · walk_at "go"
    · rename_i H3 r3 sc3 k3 h03 h13 hz p5 n5
      have k5 : Kp [] H3 (upd H3 p5 (.tup vs)) := Kp.refl.new n5
      exact fin (sc3.new n5) (.inl ⟨p5, vs, rfl, sc3.nm n5, .inr upd_same, (row.kp k3).kp (k5.mono fun a z => absurd z List.not_mem_nil)⟩)
    · rename_i H3 r3 sc3 k3 h03 h13 hz
      exact fin sc3 (.inl ⟨b, vs, rfl, m, .inl (k3.at_ m hb), row.kp k3⟩)
  · have hw : Wt [p3, p2] H2 x := .inr h
    rcases h with rfl | rfl | rfl | rfl | rfl
    · walk_at "go"
      exact fin sc2 hw
    · walk_at "go"
      exact fin sc2 hw
    · walk_at "go"
      exact fin sc2 hw
    · walk_at "go"
      exact fin sc2 hw
    · walk_at "go"
      exact fin sc2 hw
end K55
namespace K55
open PySem PySem.Spec PyProof.Rows L2 Kb Stm
theorem law_end (K : PySem.W.Frag) (P : Addr) (H : Hp) (a : Addr) (ns : List Int) (hl : ns.length ≤ 63) (hb : ∀ z ∈ ns, Builtin.Int.intBits z ≤ 1048576) (hP : H P = some (.tbl #[])) (hS : SqL K H a (ns.map V.int)) : sp_law K P [.ref a] H (fun v _ => v = .bl true) fun _ _ _ => False :=
  ⟨a, ns, rfl, hS, hl, hP, fun _ => rfl⟩
end K55

namespace K55
open PySem PySem.Spec PyProof.Rows L2 Kb Stm
def topS (i : Nat) : Stmt := PySem.Challenge.pw_thingwires_k55_what_is_no_bytes.main.body.getD i (.Pass ⟨0, 0, 0, 0⟩)
abbrev s_NoBytes___init__ : Stmt := inClass (topS 5) 0
abbrev s_is_bytes : Stmt := topS 7
abbrev s_checked : Stmt := topS 11
abbrev s_in_runs : Stmt := topS 12
abbrev s_out_of_runs : Stmt := topS 13
abbrev s_piece_told : Stmt := topS 14
abbrev s_streamed : Stmt := topS 15
abbrev s_Feeder___init__ : Stmt := inClass (topS 16) 0
abbrev s_Feeder_feed : Stmt := inClass (topS 16) 1
abbrev s_Feeder_done : Stmt := inClass (topS 16) 2
abbrev s_unstreamed : Stmt := topS 17
abbrev s_law_take : Stmt := topS 19
abbrev s_law_wrong : Stmt := topS 20
abbrev s_law_refused : Stmt := topS 21
abbrev s_law_any_refusal : Stmt := topS 22
abbrev s_law : Stmt := topS 23
structure Txt (K : PySem.W.Frag) (mg : Str → Option Value) (C : Addr) : Prop where
  m_ValueError : mg "ValueError" = none
  m_bool : mg "bool" = none
  m_enumerate : mg "enumerate" = none
  m_int : mg "int" = none
  m_isinstance : mg "isinstance" = none
  m_len : mg "len" = none
  m_list : mg "list" = none
  m_range : mg "range" = none
  m_tuple : mg "tuple" = none
  c_PRIME : ∃ t, mg "PRIME" = some (.int 65521 t)
  c_LONGEST : ∃ t, mg "LONGEST" = some (.int 254 t)
  g_WireError : mg "WireError" = some (.ref (cAt K "WireError"))
  g_NoText : mg "NoText" = some (.ref (cAt K "NoText"))
  g_NoThing : mg "NoThing" = some (.ref (cAt K "NoThing"))
  g_NoTurn : mg "NoTurn" = some (.ref (cAt K "NoTurn"))
  g_NoBytes : mg "NoBytes" = some (.ref (cAt K "NoBytes"))
  x_NoBytes : XCls K (cAt K "NoBytes")
  xn_NoBytes_why : PySem.W.findIn K (.ref (cAt K "NoBytes")) "why" = some none
  kit_NoBytes_WireError : PySem.W.kitOne K (.ref (cAt K "NoBytes")) (.ref (cAt K "WireError")) = some true
  kit_NoBytes_ValueError : PySem.W.kitOne K (.ref (cAt K "NoBytes")) (.type "ValueError") = some true
  exm_NoBytes_NoText : PySem.W.exmOne K (.ref (cAt K "NoBytes")) (.ref (cAt K "NoText")) = some false
  exm_NoBytes_NoThing : PySem.W.exmOne K (.ref (cAt K "NoBytes")) (.ref (cAt K "NoThing")) = some false
  exm_NoBytes_NoTurn : PySem.W.exmOne K (.ref (cAt K "NoBytes")) (.ref (cAt K "NoTurn")) = some false
  exm_NoBytes_NoBytes : PySem.W.exmOne K (.ref (cAt K "NoBytes")) (.ref (cAt K "NoBytes")) = some true
  exm_NoBytes_WireError : PySem.W.exmOne K (.ref (cAt K "NoBytes")) (.ref (cAt K "WireError")) = some true
  xk : XK2 K
  gf_streamed : mg "streamed" = some (.ref (cAt K "streamed"))
  gf_unstreamed : mg "unstreamed" = some (.ref (cAt K "unstreamed"))
  own : Own K C
  g_Feeder : mg "Feeder" = some (.ref C)
  mk_Feeder : PySem.W.makesIn K C = true
  kc_Feeder : PySem.W.keepIn K (.ref C) = true
  d_NoBytes___init__ : DefI K (cAt K "NoBytes") s_NoBytes___init__ "NoBytes.__init__"
  d_is_bytes : Def K mg s_is_bytes "is_bytes"
  d_checked : Def K mg s_checked "checked"
  d_in_runs : Def K mg s_in_runs "in_runs"
  d_out_of_runs : Def K mg s_out_of_runs "out_of_runs"
  d_piece_told : Def K mg s_piece_told "piece_told"
  d_streamed : Def K mg s_streamed "streamed"
  d_Feeder___init__ : DefM K C s_Feeder___init__ "__init__" "Feeder.__init__"
  d_Feeder_feed : DefM K C s_Feeder_feed "feed" "Feeder.feed"
  d_Feeder_done : DefM K C s_Feeder_done "done" "Feeder.done"
  d_unstreamed : Def K mg s_unstreamed "unstreamed"
  d_law_take : Def K mg s_law_take "_law_take"
  d_law_wrong : Def K mg s_law_wrong "_law_wrong"
  d_law_refused : Def K mg s_law_refused "_law_refused"
  d_law_any_refusal : Def K mg s_law_any_refusal "_law_any_refusal"
  d_law : Def K mg s_law "law"
theorem sc_NoBytes___init__ : FnScope ["self", "why"] ["self", "why"] (defScope s_NoBytes___init__) := ⟨rfl, rfl, rfl, by decide +kernel, rfl, by decide +kernel, by decide +kernel⟩
theorem ok_NoBytes___init__ {P : Program} {w : World} {K : PySem.W.Frag} {mg : Str → Option Value} {base : Heap} {C : Addr} (T : Txt K mg C) : CalI P w K mg base 1 (cAt K "NoBytes") ["self", "why"] (sp_NoBytes___init__ K) := by
  refine CalI.of (st := s_NoBytes___init__) T.d_NoBytes___init__ sc_NoBytes___init__ (fun _ _ _ _ _ _ us hl => match us, hl with | [_, _], _ => rfl) (len_NoBytes___init__ K) fun f cdv A outer s H vs Q E hr h => ⟨t_NoBytes___init__ K, ?_, p_NoBytes___init__ K T.x_NoBytes T.xn_NoBytes_why vs H Q E h⟩
  exact (pss_one (ps_ost (pv 0) (pv 1) rfl))

theorem sc_is_bytes : FnScope ["data", "byte"] ["data"] (defScope s_is_bytes) := ⟨rfl, rfl, rfl, by decide +kernel, rfl, by decide +kernel, by decide +kernel⟩
theorem ok_is_bytes {P : Program} {w : World} {K : PySem.W.Frag} {mg : Str → Option Value} {base : Heap} {C : Addr} (T : Txt K mg C) : Cal P w K mg base CX0 1 "is_bytes" ["data"] (sp_is_bytes K) := by
  refine Cal.of (st := s_is_bytes) T.d_is_bytes sc_is_bytes (fun _ _ _ _ _ _ us hl => match us, hl with | [_], _ => rfl) (len_is_bytes K) fun f cdv A outer s H vs Q E hr h => ⟨t_is_bytes K, ?_, p_is_bytes K vs H Q E h⟩
  exact (pss_cons (ps_if (pt_not (pt_truth (pe_callB u_isi (by rfl) T.m_isinstance (by decide +kernel) (pa_cons (pv 0) (pa_cons (pe_tup (pa_cons (pe_bltn (v := .ty "list") (by rfl) T.m_list (by decide +kernel) rfl) (pa_cons (pe_bltn (v := .ty "tuple") (by rfl) T.m_tuple (by decide +kernel) rfl) pa_nil))) pa_nil))) (by intro _; rfl)))
 (pss_one (ps_ret pe_bl))
 pss_nil)
 (pss_cons (ps_for PassesOwn.never rfl (pi_seq (pv 0)) (pg_name (i := 1) sc_is_bytes.nd rfl (by first | exact Or.inl rfl | exact Or.inr rfl))
 (pss_one (ps_if (PW.pt (pw_or (pt_not (pt_truth (pe_callB u_isi (by rfl) T.m_isinstance (by decide +kernel) (pa_cons (pv 1) (pa_cons (pe_bltn (v := .ty "int") (by rfl) T.m_int (by decide +kernel) rfl) pa_nil))) (by intro _; rfl))) (pw_or (pt_truth (pe_callB u_isi (by rfl) T.m_isinstance (by decide +kernel) (pa_cons (pv 1) (pa_cons (pe_bltn (v := .ty "bool") (by rfl) T.m_bool (by decide +kernel) rfl) pa_nil))) (by intro _; rfl)) (pw_or (pt_cmpR u_lt (pv 1) pe_int (nomark _)) (pw_or1 (pt_cmpR u_gt (pv 1) pe_int (nomark _)))))))
 (pss_one (ps_ret pe_bl))
 pss_nil)))
 (pss_one (ps_ret pe_bl))))

theorem sc_checked : FnScope ["part", "total", "weighed", "number", "byte"] ["part"] (defScope s_checked) := ⟨rfl, rfl, rfl, by decide +kernel, rfl, by decide +kernel, by decide +kernel⟩
theorem ok_checked {P : Program} {w : World} {K : PySem.W.Frag} {mg : Str → Option Value} {base : Heap} {C : Addr} (T : Txt K mg C) : Cal P w K mg base CX0 1 "checked" ["part"] (sp_checked K) := by
  refine Cal.of (st := s_checked) T.d_checked sc_checked (fun _ _ _ _ _ _ us hl => match us, hl with | [_], _ => rfl) (len_checked K) fun f cdv A outer s H vs Q E hr h => ⟨t_checked K, ?_, p_checked K vs H Q E h⟩
  exact (pss_cons (ps_asg2 pe_int (pg_name (i := 1) sc_checked.nd rfl (by first | exact Or.inl rfl | exact Or.inr rfl)) (pg_name (i := 2) sc_checked.nd rfl (by first | exact Or.inl rfl | exact Or.inr rfl)))
 (pss_cons (ps_for PassesOwn.never rfl (pi_enumS (by rfl) T.m_enumerate (pa_cons (pv 0) pa_nil) pe_int) (pg_tup (by rfl) (pgs_cons (pg_name (i := 3) sc_checked.nd rfl (by first | exact Or.inl rfl | exact Or.inr rfl)) (pgs_cons (pg_name (i := 4) sc_checked.nd rfl (by first | exact Or.inl rfl | exact Or.inr rfl)) pgs_nil)))
 (pss_cons (ps_aug (i := 1) sc_checked.nd rfl (by first | exact Or.inl rfl | exact Or.inr rfl) (pv 4) u_iadd)
 (pss_one (ps_aug (i := 2) sc_checked.nd rfl (by first | exact Or.inl rfl | exact Or.inr rfl) (pe_op u_mul (pv 3) (pv 4)) u_iadd))))
 (pss_cons (ps_aug (i := 1) sc_checked.nd rfl (by first | exact Or.inl rfl | exact Or.inr rfl) (pe_gint (by rfl) T.c_PRIME) u_imod)
 (pss_cons (ps_aug (i := 2) sc_checked.nd rfl (by first | exact Or.inl rfl | exact Or.inr rfl) (pe_gint (by rfl) T.c_PRIME) u_imod)
 (pss_one (ps_ret (pe_op u_add (pe_callTy u_list (by rfl) T.m_list (by decide +kernel) (pa_cons (pv 0) pa_nil)) (pe_lst (pa_cons (pe_op u_div (pv 1) pe_int) (pa_cons (pe_op u_mod (pv 1) pe_int) (pa_cons (pe_op u_div (pv 2) pe_int) (pa_cons (pe_op u_mod (pv 2) pe_int) pa_nil))))))))))))

theorem sc_in_runs : FnScope ["data", "found", "run", "byte"] ["data"] (defScope s_in_runs) := ⟨rfl, rfl, rfl, by decide +kernel, rfl, by decide +kernel, by decide +kernel⟩
theorem ok_in_runs {P : Program} {w : World} {K : PySem.W.Frag} {mg : Str → Option Value} {base : Heap} {C : Addr} (T : Txt K mg C) : Cal P w K mg base CX0 1 "in_runs" ["data"] (sp_in_runs K) := by
  refine Cal.of (st := s_in_runs) T.d_in_runs sc_in_runs (fun _ _ _ _ _ _ us hl => match us, hl with | [_], _ => rfl) (len_in_runs K) fun f cdv A outer s H vs Q E hr h => ⟨t_in_runs K, ?_, p_in_runs K vs H Q E h⟩
  exact (pss_cons (ps_set (i := 1) sc_in_runs.nd rfl (by first | exact Or.inl rfl | exact Or.inr rfl) (pe_lst pa_nil))
 (pss_cons (ps_set (i := 2) sc_in_runs.nd rfl (by first | exact Or.inl rfl | exact Or.inr rfl) (pe_lst pa_nil))
 (pss_cons (ps_for PassesOwn.never rfl (pi_list (pv 0)) (pg_name (i := 3) sc_in_runs.nd rfl (by first | exact Or.inl rfl | exact Or.inr rfl))
 (pss_cons (ps_if (pt_cmpR (u_ne hr.units) (pv 3) pe_int (nomark _))
 (pss_one (ps_expr (pe_bm PySem.F.plainAttrs_list PySem.F.slot_list_append PySem.F.type_list_append u_append (pv 2) (pa_cons (pv 3) pa_nil))))
 pss_nil)
 (pss_one (ps_if (PW.pt (pw_or (pt_cmpR (u_eq hr.units) (pv 3) pe_int (nomark _)) (pw_or1 (pt_cmpR (u_eq hr.units) (pe_callB u_len (by rfl) T.m_len PySem.boot_len (pa_cons (pv 2) pa_nil)) (pe_gint (by rfl) T.c_LONGEST) (nomark _)))))
 (pss_cons (ps_aug (i := 1) sc_in_runs.nd rfl (by first | exact Or.inl rfl | exact Or.inr rfl) (pe_op u_add (pe_lst (pa_cons (pe_op u_add (pe_callB u_len (by rfl) T.m_len PySem.boot_len (pa_cons (pv 2) pa_nil)) pe_int) pa_nil)) (pv 2)) u_iadd)
 (pss_one (ps_set (i := 2) sc_in_runs.nd rfl (by first | exact Or.inl rfl | exact Or.inr rfl) (pe_lst pa_nil))))
 pss_nil))))
 (pss_cons (ps_if (PW.pt (pw_or (pt_cmpR (u_ne hr.units) (pv 2) (pe_lst pa_nil) (nomark _)) (pw_or (pt_cmpR (u_eq hr.units) (pv 0) (pe_lst pa_nil) (nomark _)) (pw_or1 (pt_cmpR (u_eq hr.units) (pe_ix u_ix (pv 0) (pe_un u_neg pe_int) (fun _ _ => rfl)) pe_int (nomark _))))))
 (pss_one (ps_aug (i := 1) sc_in_runs.nd rfl (by first | exact Or.inl rfl | exact Or.inr rfl) (pe_op u_add (pe_lst (pa_cons (pe_op u_add (pe_callB u_len (by rfl) T.m_len PySem.boot_len (pa_cons (pv 2) pa_nil)) pe_int) pa_nil)) (pv 2)) u_iadd))
 pss_nil)
 (pss_one (ps_ret (pv 1)))))))

theorem sc_out_of_runs : FnScope ["piece", "found", "at", "size"] ["piece"] (defScope s_out_of_runs) := ⟨rfl, rfl, rfl, by decide +kernel, rfl, by decide +kernel, by decide +kernel⟩
theorem ok_out_of_runs {P : Program} {w : World} {K : PySem.W.Frag} {mg : Str → Option Value} {base : Heap} {C : Addr} (T : Txt K mg C) : Cal P w K mg base CX0 1 "out_of_runs" ["piece"] (sp_out_of_runs K) := by
  refine Cal.of (st := s_out_of_runs) T.d_out_of_runs sc_out_of_runs (fun _ _ _ _ _ _ us hl => match us, hl with | [_], _ => rfl) (len_out_of_runs K) fun f cdv A outer s H vs Q E hr h => ⟨t_out_of_runs K, ?_, p_out_of_runs K vs H Q E h⟩
  exact (pss_cons (ps_set (i := 1) sc_out_of_runs.nd rfl (by first | exact Or.inl rfl | exact Or.inr rfl) (pe_lst pa_nil))
 (pss_cons (ps_set (i := 2) sc_out_of_runs.nd rfl (by first | exact Or.inl rfl | exact Or.inr rfl) pe_int)
 (pss_cons (ps_while PassesOwn.never (pt_cmpR u_lt (pv 2) (pe_callB u_len (by rfl) T.m_len PySem.boot_len (pa_cons (pv 0) pa_nil)) (nomark _))
 (pss_cons (ps_set (i := 3) sc_out_of_runs.nd rfl (by first | exact Or.inl rfl | exact Or.inr rfl) (pe_ix u_ix (pv 0) (pv 2) (fun _ _ => rfl)))
 (pss_cons (ps_if (pt_cmpR u_gt (pe_op u_add (pv 2) (pv 3)) (pe_callB u_len (by rfl) T.m_len PySem.boot_len (pa_cons (pv 0) pa_nil)) (nomark _))
 (pss_one (ps_ret pe_non))
 pss_nil)
 (pss_cons (ps_aug (i := 1) sc_out_of_runs.nd rfl (by first | exact Or.inl rfl | exact Or.inr rfl) (pe_slice u_slL (pv 0) (po_some (pe_op u_add (pv 2) pe_int)) (po_some (pe_op u_add (pv 2) (pv 3)))) u_iadd)
 (pss_cons (ps_aug (i := 2) sc_out_of_runs.nd rfl (by first | exact Or.inl rfl | exact Or.inr rfl) (pv 3) u_iadd)
 (pss_one (ps_if (PW.pt (pw_and (pt_cmpR u_le (pv 3) (pe_gint (by rfl) T.c_LONGEST) (nomark _)) (pw_and1 (pt_cmpR u_lt (pv 2) (pe_callB u_len (by rfl) T.m_len PySem.boot_len (pa_cons (pv 0) pa_nil)) (nomark _)))))
 (pss_one (ps_expr (pe_bm PySem.F.plainAttrs_list PySem.F.slot_list_append PySem.F.type_list_append u_append (pv 1) (pa_cons pe_int pa_nil))))
 pss_nil)))))))
 (pss_one (ps_ret (pv 1))))))

theorem sc_piece_told : FnScope ["piece", "place", "data"] ["piece", "place"] (defScope s_piece_told) := ⟨rfl, rfl, rfl, by decide +kernel, rfl, by decide +kernel, by decide +kernel⟩
theorem ok_piece_told {P : Program} {w : World} {K : PySem.W.Frag} {mg : Str → Option Value} {base : Heap} {C : Addr} (T : Txt K mg C) : Cal P w K mg base CX0 2 "piece_told" ["piece", "place"] (sp_piece_told K) := by
  refine Cal.of (st := s_piece_told) T.d_piece_told sc_piece_told (fun _ _ _ _ _ _ us hl => match us, hl with | [_, _], _ => rfl) (len_piece_told K) fun f cdv A outer s H vs Q E hr h => ⟨t_piece_told K, ?_, p_piece_told K vs H Q E h⟩
  exact (pss_cons (ps_set (i := 2) sc_piece_told.nd rfl (by first | exact Or.inl rfl | exact Or.inr rfl) (pe_callC (ok_out_of_runs T) (hr.mono (by decide)) (by rfl) pass0 (pa_cons (pv 0) pa_nil)))
 (pss_cons (ps_if (PW.pt (pw_or (pt_cmpR u_isN (pv 2) pe_non (nomark _)) (pw_or (pt_cmpR u_lt (pe_callB u_len (by rfl) T.m_len PySem.boot_len (pa_cons (pv 2) pa_nil)) pe_int (nomark _)) (pw_or1 (pt_cmpR (u_ne hr.units) (pe_callC (ok_checked T) (hr.mono (by decide)) (by rfl) pass0 (pa_cons (pe_slice u_slL (pv 2) po_none (po_some (pe_un u_neg pe_int))) pa_nil)) (pv 2) (nomark _))))))
 (pss_one (ps_ret (pe_tup (pa_cons pe_str (pa_cons (pv 1) (pa_cons (pe_callB u_len (by rfl) T.m_len PySem.boot_len (pa_cons (pv 0) pa_nil)) pa_nil))))))
 pss_nil)
 (pss_one (ps_ret (pe_tup (pa_cons pe_str (pa_cons (pv 1) (pa_cons (pe_slice u_slL (pv 2) po_none (po_some (pe_un u_neg pe_int))) pa_nil))))))))

theorem sc_streamed : FnScope ["parts", "found", "part"] ["parts"] (defScope s_streamed) := ⟨rfl, rfl, rfl, by decide +kernel, rfl, by decide +kernel, by decide +kernel⟩
theorem ok_streamed {P : Program} {w : World} {K : PySem.W.Frag} {mg : Str → Option Value} {base : Heap} {C : Addr} (T : Txt K mg C) : Cal P w K mg base (L2.CX P w) 3 "streamed" ["parts"] (sp_streamed K) := by
  refine Cal.ofX (st := s_streamed) T.d_streamed sc_streamed (fun _ _ _ _ _ _ us hl => match us, hl with | [_], _ => rfl) (len_streamed K) fun f cdv A outer s H vs Q E hr h => ⟨t_streamed K E, ?_, p_streamed K vs H Q E h⟩
  exact (pss_cons (ps_set (i := 1) sc_streamed.nd rfl (by first | exact Or.inl rfl | exact Or.inr rfl) (pe_lst pa_nil))
 (pss_cons (ps_for (passes_of rfl) rfl (pi_seq (pv 0)) (pg_name (i := 2) sc_streamed.nd rfl (by first | exact Or.inl rfl | exact Or.inr rfl))
 (pss_cons (ps_if (pt_not (pt_truth (pe_callC (ok_is_bytes T) (hr.mono (by decide)) (by rfl) pass0 (pa_cons (pv 2) pa_nil)) (by intro _; rfl)))
 (pss_one (ps_raiseI rfl T.x_NoBytes (ok_NoBytes___init__ T) (hr.mono (by decide)) (takes_of rfl rfl rfl rfl) (by rfl) T.g_NoBytes (pa_cons pe_str pa_nil)))
 pss_nil)
 (pss_one (ps_aug (i := 1) sc_streamed.nd rfl (by first | exact Or.inl rfl | exact Or.inr rfl) (pe_op u_add (pe_callC (ok_in_runs T) (hr.mono (by decide)) (by rfl) pass0 (pa_cons (pe_callC (ok_checked T) (hr.mono (by decide)) (by rfl) pass0 (pa_cons (pv 2) pa_nil)) pa_nil)) (pe_lst (pa_cons pe_int pa_nil))) u_iadd))))
 (pss_one (ps_ret (pv 1)))))

theorem sc_Feeder___init__ : FnScope ["self"] ["self"] (defScope s_Feeder___init__) := ⟨rfl, rfl, rfl, by decide +kernel, rfl, by decide +kernel, by decide +kernel⟩
theorem ok_Feeder___init__ {P : Program} {w : World} {K : PySem.W.Frag} {mg : Str → Option Value} {base : Heap} {C : Addr} (T : Txt K mg C) : CalM P w K mg base CX0 1 C "__init__" ["self"] (sp_Feeder___init__ K C) := by
  refine CalM.of (st := s_Feeder___init__) T.d_Feeder___init__ sc_Feeder___init__ (fun _ _ _ _ _ _ us hl => match us, hl with | [_], _ => rfl) (len_Feeder___init__ K C) fun f cdv A outer s H vs Q E hr h => ⟨t_Feeder___init__ K C, ?_, p_Feeder___init__ K C T.own vs H Q E h⟩
  exact (pss_cons (ps_fldU (pv 0) (pe_lst pa_nil) rfl)
 (pss_one (ps_fldU (pv 0) pe_int rfl)))

theorem sc_Feeder_feed : FnScope ["self", "data", "found", "byte"] ["self", "data"] (defScope s_Feeder_feed) := ⟨rfl, rfl, rfl, by decide +kernel, rfl, by decide +kernel, by decide +kernel⟩
theorem ok_Feeder_feed {P : Program} {w : World} {K : PySem.W.Frag} {mg : Str → Option Value} {base : Heap} {C : Addr} (T : Txt K mg C) : CalM P w K mg base (L2.CX P w) 3 C "feed" ["self", "data"] (sp_Feeder_feed K C) := by
  refine CalM.ofX (st := s_Feeder_feed) T.d_Feeder_feed sc_Feeder_feed (fun _ _ _ _ _ _ us hl => match us, hl with | [_, _], _ => rfl) (len_Feeder_feed K C) fun f cdv A outer s H vs Q E hr h => ⟨t_Feeder_feed K C E, ?_, p_Feeder_feed K C T.own vs H Q E h⟩
  exact (pss_cons (ps_if (pt_not (pt_truth (pe_callC (ok_is_bytes T) (hr.mono (by decide)) (by rfl) pass0 (pa_cons (pv 1) pa_nil)) (by intro _; rfl)))
 (pss_one (ps_raiseI rfl T.x_NoBytes (ok_NoBytes___init__ T) (hr.mono (by decide)) (takes_of rfl rfl rfl rfl) (by rfl) T.g_NoBytes (pa_cons pe_str pa_nil)))
 pss_nil)
 (pss_cons (ps_set (i := 2) sc_Feeder_feed.nd rfl (by first | exact Or.inl rfl | exact Or.inr rfl) (pe_lst pa_nil))
 (pss_cons (ps_for (passes_of rfl) rfl (pi_seq (pv 1)) (pg_name (i := 3) sc_Feeder_feed.nd rfl (by first | exact Or.inl rfl | exact Or.inr rfl))
 (pss_cons (ps_if (pt_cmpR (u_ne hr.units) (pv 3) pe_int (nomark _))
 (pss_cons (ps_expr (pe_bm PySem.F.plainAttrs_list PySem.F.slot_list_append PySem.F.type_list_append u_append (pe_fldU (pv 0) (by rfl)) (pa_cons (pv 3) pa_nil)))
 (pss_one ps_continue))
 pss_nil)
 (pss_cons (ps_if (pt_cmpR (u_ne hr.units) (pe_fldU (pv 0) (by rfl)) (pe_lst pa_nil) (nomark _))
 (pss_one (ps_expr (pe_bm PySem.F.plainAttrs_list PySem.F.slot_list_append PySem.F.type_list_append u_append (pv 2) (pa_cons (pe_callC (ok_piece_told T) (hr.mono (by decide)) (by rfl) pass0 (pa_cons (pe_fldU (pv 0) (by rfl)) (pa_cons (pe_fldU (pv 0) (by rfl)) pa_nil))) pa_nil))))
 pss_nil)
 (pss_cons (ps_fldaugU (pv 0) (pe_op u_add (pe_callB u_len (by rfl) T.m_len PySem.boot_len (pa_cons (pe_fldU (pv 0) (by rfl)) pa_nil)) pe_int) u_iadd)
 (pss_one (ps_fldU (pv 0) (pe_lst pa_nil) rfl))))))
 (pss_one (ps_ret (pv 2))))))

theorem sc_Feeder_done : FnScope ["self", "found"] ["self"] (defScope s_Feeder_done) := ⟨rfl, rfl, rfl, by decide +kernel, rfl, by decide +kernel, by decide +kernel⟩
theorem ok_Feeder_done {P : Program} {w : World} {K : PySem.W.Frag} {mg : Str → Option Value} {base : Heap} {C : Addr} (T : Txt K mg C) : CalM P w K mg base CX0 1 C "done" ["self"] (sp_Feeder_done K C) := by
  refine CalM.of (st := s_Feeder_done) T.d_Feeder_done sc_Feeder_done (fun _ _ _ _ _ _ us hl => match us, hl with | [_], _ => rfl) (len_Feeder_done K C) fun f cdv A outer s H vs Q E hr h => ⟨t_Feeder_done K C, ?_, p_Feeder_done K C T.own vs H Q E h⟩
  exact (pss_cons (ps_set (i := 1) sc_Feeder_done.nd rfl (by first | exact Or.inl rfl | exact Or.inr rfl) (pe_lst pa_nil))
 (pss_cons (ps_if (pt_cmpR (u_ne hr.units) (pe_fldU (pv 0) (by rfl)) (pe_lst pa_nil) (nomark _))
 (pss_one (ps_expr (pe_bm PySem.F.plainAttrs_list PySem.F.slot_list_append PySem.F.type_list_append u_append (pv 1) (pa_cons (pe_tup (pa_cons pe_str (pa_cons (pe_fldU (pv 0) (by rfl)) (pa_cons (pe_callB u_len (by rfl) T.m_len PySem.boot_len (pa_cons (pe_fldU (pv 0) (by rfl)) pa_nil)) pa_nil)))) pa_nil))))
 pss_nil)
 (pss_cons (ps_fldU (pv 0) (pe_lst pa_nil) rfl)
 (pss_cons (ps_fldU (pv 0) pe_int rfl)
 (pss_one (ps_ret (pv 1)))))))

theorem sc_unstreamed : FnScope ["data", "feeder"] ["data"] (defScope s_unstreamed) := ⟨rfl, rfl, rfl, by decide +kernel, rfl, by decide +kernel, by decide +kernel⟩
theorem ok_unstreamed {P : Program} {w : World} {K : PySem.W.Frag} {mg : Str → Option Value} {base : Heap} {C : Addr} (T : Txt K mg C) : Cal P w K mg base (L2.CX P w) 4 "unstreamed" ["data"] (sp_unstreamed K) := by
  refine Cal.ofX (st := s_unstreamed) T.d_unstreamed sc_unstreamed (fun _ _ _ _ _ _ us hl => match us, hl with | [_], _ => rfl) (len_unstreamed K) fun f cdv A outer s H vs Q E hr h => ⟨t_unstreamed K C E, ?_, p_unstreamed K C T.own vs H Q E h⟩
  exact (pss_cons (ps_set (i := 1) sc_unstreamed.nd rfl (by first | exact Or.inl rfl | exact Or.inr rfl) (pe_makeM0 T.mk_Feeder T.kc_Feeder (ok_Feeder___init__ T) (hr.mono (by decide)) (by rfl) T.g_Feeder pass0))
 (pss_one (ps_ret (pe_op u_add (pe_methMS (pv 1) T.own.cl (ok_Feeder_feed T) (hr.mono (by decide)) (fun σ => passAt (takes_of rfl rfl rfl rfl) σ) (pa_cons (pv 0) pa_nil)) (pe_methM0 (pv 1) T.own.cl (ok_Feeder_done T) (hr.mono (by decide)) pass0)))))

theorem sc_law_take : FnScope ["_law_state", "_law_many", "_law_cell", "_law_digit", "_law_one"] ["_law_state", "_law_many"] (defScope s_law_take) := ⟨rfl, rfl, rfl, by decide +kernel, rfl, by decide +kernel, by decide +kernel⟩
theorem ok_law_take {P : Program} {w : World} {K : PySem.W.Frag} {mg : Str → Option Value} {base : Heap} {C : Addr} (T : Txt K mg C) : Cal P w K mg base CX0 1 "_law_take" ["_law_state", "_law_many"] (sp_law_take K) := by
  refine Cal.of (st := s_law_take) T.d_law_take sc_law_take (fun _ _ _ _ _ _ us hl => match us, hl with | [_, _], _ => rfl) (len_law_take K) fun f cdv A outer s H vs Q E hr h => ⟨t_law_take K, ?_, p_law_take K vs H Q E h⟩
  exact (pss_cons (ps_if (PW.pt (pw_and (pt_cmpR (u_eq hr.units) (pe_ix u_ix (pv 0) pe_int (fun _ _ => rfl)) pe_int (nomark _)) (pw_and (pt_cmpR (u_eq hr.units) (pe_op u_mod (pe_ix u_ix (pv 0) pe_int (fun _ _ => rfl)) pe_int) pe_int (nomark _)) (pw_and1 (pt_cmpR (u_ne hr.units) (pe_ix u_ix (pv 0) pe_int (fun _ _ => rfl)) (pe_lst pa_nil) (nomark _))))))
 (pss_cons (ps_set (i := 2) sc_law_take.nd rfl (by first | exact Or.inl rfl | exact Or.inr rfl) (pe_bm PySem.F.plainAttrs_list PySem.F.slot_list_pop PySem.F.type_list_pop u_pop (pe_ix u_ix (pv 0) pe_int (fun _ _ => rfl)) (pa_cons pe_int pa_nil)))
 (pss_cons (ps_if (pt_cmpR u_lt (pv 2) pe_int (nomark _))
 (pss_one (ps_set (i := 2) sc_law_take.nd rfl (by first | exact Or.inl rfl | exact Or.inr rfl) (pe_op u_sub pe_int (pe_op u_mul pe_int (pv 2)))))
 pss_nil)
 (pss_one (ps_if (pt_cmpR u_ge (pv 2) (pe_op u_pow pe_int pe_int) (nomark _))
 (pss_one (ps_asg (pv 2) (pg_sub (pv 0) pe_int u_set)))
 (pss_one (ps_asg (pe_op u_mod (pe_op u_add (pe_op u_mul (pe_ix u_ix (pv 0) pe_int (fun _ _ => rfl)) pe_int) (pv 2)) pe_int) (pg_sub (pv 0) pe_int u_set)))))))
 pss_nil)
 (pss_cons (ps_if (pt_cmpR u_gt (pe_ix u_ix (pv 0) pe_int (fun _ _ => rfl)) pe_int (nomark _))
 (pss_cons (ps_set (i := 3) sc_law_take.nd rfl (by first | exact Or.inl rfl | exact Or.inr rfl) (pe_op u_mod (pe_ix u_ix (pv 0) pe_int (fun _ _ => rfl)) (pv 1)))
 (pss_cons (ps_asg (pe_op u_divW (pe_ix u_ix (pv 0) pe_int (fun _ _ => rfl)) (pv 1)) (pg_sub (pv 0) pe_int u_set))
 (pss_one (ps_ret (pv 3)))))
 pss_nil)
 (pss_cons (ps_asg (pe_op u_add (pe_ix u_ix (pv 0) pe_int (fun _ _ => rfl)) pe_int) (pg_sub (pv 0) pe_int u_set))
 (pss_cons (ps_set (i := 4) sc_law_take.nd rfl (by first | exact Or.inl rfl | exact Or.inr rfl) (pe_op u_mod (pe_op u_add (pe_ix u_ix (pv 0) pe_int (fun _ _ => rfl)) (pe_op u_mul pe_int (pe_ix u_ix (pv 0) pe_int (fun _ _ => rfl)))) pe_int))
 (pss_cons (ps_set (i := 4) sc_law_take.nd rfl (by first | exact Or.inl rfl | exact Or.inr rfl) (pe_op u_mod (pe_op u_pow (pv 4) pe_int) pe_int))
 (pss_cons (ps_set (i := 4) sc_law_take.nd rfl (by first | exact Or.inl rfl | exact Or.inr rfl) (pe_op u_mod (pe_op u_mul (pv 4) (pe_op u_add (pe_op u_divW (pv 4) pe_int) pe_int)) pe_int))
 (pss_one (ps_ret (pe_op u_mod (pe_op u_divW (pv 4) pe_int) (pv 1))))))))))

theorem sc_law_wrong : FnScope ["_law_state", "_law_good", "_law_way", "_law_far", "_law_wrong_here", "_law_at"] ["_law_state", "_law_good"] (defScope s_law_wrong) := ⟨rfl, rfl, rfl, by decide +kernel, rfl, by decide +kernel, by decide +kernel⟩
theorem ok_law_wrong {P : Program} {w : World} {K : PySem.W.Frag} {mg : Str → Option Value} {base : Heap} {C : Addr} (T : Txt K mg C) : Cal P w K mg base CX0 2 "_law_wrong" ["_law_state", "_law_good"] (sp_law_wrong K) := by
  refine Cal.of (st := s_law_wrong) T.d_law_wrong sc_law_wrong (fun _ _ _ _ _ _ us hl => match us, hl with | [_, _], _ => rfl) (len_law_wrong K) fun f cdv A outer s H vs Q E hr h => ⟨t_law_wrong K, ?_, p_law_wrong K vs H Q E h⟩
  exact (pss_cons (ps_set (i := 2) sc_law_wrong.nd rfl (by first | exact Or.inl rfl | exact Or.inr rfl) (pe_callC (ok_law_take T) (hr.mono (by decide)) (by rfl) pass0 (pa_cons (pv 0) (pa_cons pe_int pa_nil))))
 (pss_cons (ps_set (i := 3) sc_law_wrong.nd rfl (by first | exact Or.inl rfl | exact Or.inr rfl) (pe_callC (ok_law_take T) (hr.mono (by decide)) (by rfl) pass0 (pa_cons (pv 0) (pa_cons (pe_op u_pow pe_int pe_int) pa_nil))))
 (pss_cons (ps_if (pt_cmpR (u_eq hr.units) (pv 2) pe_int (nomark _))
 (pss_one (ps_ret (pe_ix u_ix (pe_lst (pa_cons pe_non (pa_cons pe_str (pa_cons pe_str (pa_cons pe_int (pa_cons pe_bl pa_nil)))))) (pe_callC (ok_law_take T) (hr.mono (by decide)) (by rfl) pass0 (pa_cons (pv 0) (pa_cons pe_int pa_nil))) (fun _ _ => rfl))))
 pss_nil)
 (pss_cons (ps_set (i := 4) sc_law_wrong.nd rfl (by first | exact Or.inl rfl | exact Or.inr rfl) (pe_ix u_ix (pe_lst (pa_cons pe_int (pa_cons (pe_op u_add pe_int (pv 3)) (pa_cons (pe_un u_neg pe_int) (pa_cons (pe_op u_sub (pe_un u_neg pe_int) (pv 3)) (pa_cons pe_bl (pa_cons pe_bl (pa_cons pe_non (pa_cons pe_str (pa_cons pe_str (pa_cons (pe_lst pa_nil) (pa_cons (pe_lst (pa_cons pe_int pa_nil)) (pa_cons pe_int pa_nil))))))))))))) (pv 2) (fun _ _ => rfl)))
 (pss_cons (ps_set (i := 5) sc_law_wrong.nd rfl (by first | exact Or.inl rfl | exact Or.inr rfl) (pe_callC (ok_law_take T) (hr.mono (by decide)) (by rfl) pass0 (pa_cons (pv 0) (pa_cons (pe_op u_add (pe_callB u_len (by rfl) T.m_len PySem.boot_len (pa_cons (pv 1) pa_nil)) pe_int) pa_nil))))
 (pss_one (ps_ret (pe_op u_add (pe_op u_add (pe_slice u_slL (pv 1) po_none (po_some (pv 5))) (pe_lst (pa_cons (pv 4) pa_nil))) (pe_slice u_slL (pv 1) (po_some (pv 5)) po_none)))))))))

theorem held_mk {P : Program} {w : World} {K : PySem.W.Frag} {mg : Str → Option Value} {base : Heap} {C : Addr} (T : Txt K mg C) {f : Addr} {sp : Sp} (h : deeds K f sp) : HeldX P w K mg base (L2.CX P w) 4 f sp := by
  rcases h with ⟨rfl, rfl⟩ | ⟨rfl, rfl⟩
  · exact ((ok_streamed T).held T.gf_streamed).mono (by decide)
  · exact ((ok_unstreamed T).held T.gf_unstreamed).mono (by decide)

theorem sc_law_refused : FnScope ["_law_deed", "_law_handed", "e"] ["_law_deed", "_law_handed"] (defScope s_law_refused) := ⟨rfl, rfl, rfl, by decide +kernel, rfl, by decide +kernel, by decide +kernel⟩
theorem body_law_refused {P : Program} {w : World} {K : PySem.W.Frag} {mg : Str → Option Value} {base : Heap} {C : Addr} (T : Txt K mg C) {f : Addr} {cdv : Value} {A : Around} {outer : List Env} {s : Shared} {H : Hp} {E : XK} {tc : WX → TE} {k8 : Nat} (hr : Room k8 (A.deeper (envOfC "_law_refused" (defScope s_law_refused) s.heap.objs.size f cdv)))
    (hcall : ∀ (W : WX) (pn : List (Addr × Obj)) (xe : Value → Shared → Prop), Takes ((cxOf CX0 P w K mg base ["_law_deed", "_law_handed", "e"] "_law_refused" (defScope s_law_refused) f cdv A outer s H E).tr pn xe) W → ∀ p1 p2 p3 : Pos, PE ((cxOf CX0 P w K mg base ["_law_deed", "_law_handed", "e"] "_law_refused" (defScope s_law_refused) f cdv A outer s H E).tr pn xe) (.Call (.Name "_law_deed" p1) [.Name "_law_handed" p3] [] p2) (tc W)) :
    PSs (cxOf CX0 P w K mg base ["_law_deed", "_law_handed", "e"] "_law_refused" (defScope s_law_refused) f cdv A outer s H E).nox (defBody s_law_refused) (t_law_refused K tc) := by
  exact (pss_cons (ps_try_last3 (i := 2) (tb := fun W => (tDrop (tc W))) (ts := fun a cls d => (tRet (tAndV (tOp (rEqU K) (tXf a cls d (cAt K "NoBytes") "why" (tVar 2)) (tC (.str (PySem.Str.ofString "wire")))) (tAndV (tCB (rIsXd K a cls d) (tCons (tVar 2) (tCons (tC (.ref (cAt K "WireError"))) tNil))) (tCB (rIsXd K a cls d) (tCons (tVar 2) (tCons (tC (.ty "ValueError")) tNil))))))) rfl rfl sc_law_refused.nd rfl rfl ⟨rfl, by decide, Or.inl T.g_NoText⟩ ⟨rfl, by decide, Or.inl T.g_NoThing⟩ ⟨rfl, by decide, Or.inl T.g_NoTurn⟩ ⟨rfl, by decide, Or.inl T.g_NoBytes⟩
 (fun W pn xe tk po => (pss_one (ps_expr (hcall W pn xe tk _ _ _))))
 (fun a oe cls d pn hz hf => (pss_one (ps_ret (pe_and (pe_cmpR (u_eq hr.units) (pe_xf T.x_NoBytes.xf T.xn_NoBytes_why hz hf (pv 2)) pe_str (nomark _)) (pe_and (pe_callB (call_isXd hz hf) (by rfl) T.m_isinstance (by decide +kernel) (pa_cons (pv 2) (pa_cons (pe_gref (by rfl) T.g_WireError) pa_nil))) (pe_one (pe_callB (call_isXd hz hf) (by rfl) T.m_isinstance (by decide +kernel) (pa_cons (pv 2) (pa_cons (pe_bltn (v := .ty "ValueError") (by rfl) T.m_ValueError (by decide +kernel) rfl) pa_nil))))))))))
 (pss_one (ps_ret pe_bl)))
theorem ok_law_refused {P : Program} {w : World} {K : PySem.W.Frag} {mg : Str → Option Value} {base : Heap} {C : Addr} (T : Txt K mg C) : Cal P w K mg base CX0 5 "_law_refused" ["_law_deed", "_law_handed"] (sp_law_refused K) := by
  refine Cal.of (st := s_law_refused) T.d_law_refused sc_law_refused (fun _ _ _ _ _ _ us hl => match us, hl with | [_, _], _ => rfl) (len_law_refused K) fun f cdv A outer s H vs Q E hr h => ⟨t_law_refused K (fun W => tCallV 0 (deeds K) (WE W) (tCons (tVar 1) tNil)), ?_, p_law_refused K T.xk vs H Q E h⟩
  exact body_law_refused T hr fun W pn xe tk p1 p2 p3 => (pe_callV (i := 0) (S := deeds K) (fun f sp h => held_mk T h) (hr.mono (by decide)) (by rfl) (by first | exact Or.inl rfl | exact Or.inr (Or.inl rfl) | exact Or.inr (Or.inr rfl)) (fun σ => passAt tk σ) (pa_cons (pv 1) pa_nil))
theorem gives_law_refused {X : Cx} {C : Addr} (T : Txt X.K X.mg C) {g : Addr} {cdv : Value} {q : Str} : Gives2 X ["_law_deed", "_law_handed", "e"] "_law_refused" (defScope s_law_refused) g cdv (defBody s_law_refused) "_law_deed" "_law_handed" q (TTlaw_refused X.K) := by
  intro f c s H Q v tl hr act hc h
  obtain ⟨_, hr⟩ := hr
  exact ⟨_, body_law_refused T hr (tc := fun W σ H Q => σ[0]? = some (some (.ref f)) ∧ ∃ v, σ[1]? = some (some v) ∧ H c = some (LamX.CodeO c q) ∧ tl (WE W σ) v H Q) (fun W pn xe tk p1 p2 p3 => act pn xe (WE W) p1 p2 p3 fun σ => passAt tk σ), g_law_refused X.K T.xk hc h⟩

theorem sc_law_any_refusal : FnScope ["_law_deed", "_law_handed"] ["_law_deed", "_law_handed"] (defScope s_law_any_refusal) := ⟨rfl, rfl, rfl, by decide +kernel, rfl, by decide +kernel, by decide +kernel⟩
theorem ok_law_any_refusal {P : Program} {w : World} {K : PySem.W.Frag} {mg : Str → Option Value} {base : Heap} {C : Addr} (T : Txt K mg C) : Cal P w K mg base CX0 5 "_law_any_refusal" ["_law_deed", "_law_handed"] (sp_law_any_refusal K) := by
  refine Cal.of (st := s_law_any_refusal) T.d_law_any_refusal sc_law_any_refusal (fun _ _ _ _ _ _ us hl => match us, hl with | [_, _], _ => rfl) (len_law_any_refusal K) fun f cdv A outer s H vs Q E hr h => ⟨t_law_any_refusal K, ?_, p_law_any_refusal K T.xk vs H Q E h⟩
  exact (pss_cons (ps_try_only (tb := fun W => (tDrop (tCallV 0 (deeds K) (WE W) (tCons (tVar 1) tNil)))) (ts := fun a cls d => (tRet (tC (.bl true)))) (Wout := fun _ _ _ _ => False) rfl rfl ⟨rfl, by decide, Or.inl T.g_WireError⟩ takes_none
 (fun W pn xe tk po => (pss_one (ps_expr (pe_callV (i := 0) (S := deeds K) (fun f sp h => held_mk T h) (hr.mono (by decide)) (by rfl) (by first | exact Or.inl rfl | exact Or.inr (Or.inl rfl) | exact Or.inr (Or.inr rfl)) (fun σ => passAt tk σ) (pa_cons (pv 1) pa_nil)))))
 (fun a oe cls d pn hz hf => (pss_one (ps_ret pe_bl))))
 (pss_one (ps_ret pe_bl)))

theorem sc_law : FnScope ["_law_script", "_law_state", "_law_good", "_law_wrong_here", "_law_parts", "_law_at", "_law_handed", "_law_held", "_law_feeder", "_law_rest", "_law_k"] ["_law_script"] (defScope s_law) := ⟨rfl, rfl, rfl, by decide +kernel, rfl, by decide +kernel, by decide +kernel⟩
theorem ok_law {P : Program} {w : World} {K : PySem.W.Frag} {mg : Str → Option Value} {base : Heap} {C c P8 : Addr} (T : Txt K mg C) (DC : DefC K mg s_law "law" c) (TB : LamX.TabB base mg c P8) : Cal P w K mg base CX0 6 "law" ["_law_script"] (sp_law K P8) := by
  refine Cal.ofC (st := s_law) DC sc_law (fun _ _ _ _ _ _ us hl => match us, hl with | [_], _ => rfl) (len_law K P8) fun f A outer s H vs Q E hr h => ⟨t_law K C P8, ?_, p_law K C T.own P8 T.xk vs H Q E h⟩
  exact (pss_cons (ps_set (i := 1) sc_law.nd rfl (by first | exact Or.inl rfl | exact Or.inr rfl) (pe_lst (pa_cons (pe_callTy u_list (by rfl) T.m_list (by decide +kernel) (pa_cons (pe_slice u_slL (pv 0) po_none (po_some pe_int)) pa_nil)) (pa_cons pe_int (pa_cons pe_int (pa_cons pe_int pa_nil))))))
 (pss_cons (ps_set (i := 2) sc_law.nd rfl (by first | exact Or.inl rfl | exact Or.inr rfl) (pe_lc (own := [("_law_k", 10)]) (g := (gName 10)) (tt := tYes) rfl sc_law.nd (pi_range1 (by rfl) T.m_range (pa_cons (pe_callC (ok_law_take T) (hr.mono (by decide)) (by rfl) pass0 (pa_cons (pv 1) (pa_cons pe_int pa_nil))) pa_nil)) (blkOk_by (N := ["_law_script", "_law_state", "_law_good", "_law_wrong_here", "_law_parts", "_law_at", "_law_handed", "_law_held", "_law_feeder", "_law_rest", "_law_k"]) (sc := (defScope s_law)) (own := [("_law_k", 10)]) (by decide +kernel)) (fun _ _ _ _ _ => (pg_name (i := 10) sc_law.nd rfl (by first | exact Or.inl rfl | exact Or.inr rfl))) (fun _ _ _ _ _ => pts_nil) (fun _ _ _ _ _ => (pe_callC (ok_law_take T) (hr.mono (by decide)) (by rfl) pass0 (pa_cons (pv 1) (pa_cons pe_int pa_nil))))))
 (pss_cons (ps_set (i := 3) sc_law.nd rfl (by first | exact Or.inl rfl | exact Or.inr rfl) (pe_callC (ok_law_wrong T) (hr.mono (by decide)) (by rfl) pass0 (pa_cons (pv 1) (pa_cons (pv 2) pa_nil))))
 (pss_cons (ps_if (PW.pt (pw_and (pt_truth (pe_callB u_isi (by rfl) T.m_isinstance (by decide +kernel) (pa_cons (pv 3) (pa_cons (pe_bltn (v := .ty "list") (by rfl) T.m_list (by decide +kernel) rfl) pa_nil))) (by intro _; rfl)) (pw_and1 (pt_cmpR (u_eq hr.units) (pe_callC (ok_law_take T) (hr.mono (by decide)) (by rfl) pass0 (pa_cons (pv 1) (pa_cons pe_int pa_nil))) pe_int (nomark _)))))
 (pss_one (ps_set (i := 3) sc_law.nd rfl (by first | exact Or.inl rfl | exact Or.inr rfl) (pe_callTy u_tuple (by rfl) T.m_tuple (by decide +kernel) (pa_cons (pv 3) pa_nil))))
 pss_nil)
 (pss_cons (ps_setLc (i := 4) (own := [("_law_k", 10)]) (g := (gName 10)) (tt := tYes) rfl sc_law.nd rfl rfl (sw_true rfl rfl rfl (by decide +kernel)) (pi_range1 (by rfl) T.m_range (pa_cons (pe_callC (ok_law_take T) (hr.mono (by decide)) (by rfl) pass0 (pa_cons (pv 1) (pa_cons pe_int pa_nil))) pa_nil)) (blkOk_by (N := ["_law_script", "_law_state", "_law_good", "_law_wrong_here", "_law_parts", "_law_at", "_law_handed", "_law_held", "_law_feeder", "_law_rest", "_law_k"]) (sc := (defScope s_law)) (own := [("_law_k", 10)]) (by decide +kernel)) (fun _ _ _ _ _ => (pg_name (i := 10) sc_law.nd rfl (by first | exact Or.inl rfl | exact Or.inr rfl))) (fun _ _ _ _ _ => pts_nil) (fun _ _ _ _ _ => (pe_slice u_slL (pv 2) po_none (po_some (pv 10)))))
 (pss_cons (ps_set (i := 5) sc_law.nd rfl (by first | exact Or.inl rfl | exact Or.inr rfl) (pe_callC (ok_law_take T) (hr.mono (by decide)) (by rfl) pass0 (pa_cons (pv 1) (pa_cons (pe_op u_add (pe_callB u_len (by rfl) T.m_len PySem.boot_len (pa_cons (pv 4) pa_nil)) pe_int) pa_nil))))
 (pss_cons (ps_set (i := 6) sc_law.nd rfl (by first | exact Or.inl rfl | exact Or.inr rfl) (pe_op u_add (pe_op u_add (pe_slice u_slL (pv 4) po_none (po_some (pv 5))) (pe_lst (pa_cons (pv 3) pa_nil))) (pe_slice u_slL (pv 4) (po_some (pv 5)) po_none)))
 (pss_cons (ps_if (PW.pt (pw_or (pt_not (pt_truth (pe_callC (ok_law_refused T) (hr.mono (by decide)) (by rfl) pass0 (pa_cons (pe_gref (by rfl) T.gf_streamed) (pa_cons (pv 6) pa_nil))) (by intro _; rfl))) (pw_or1 (pt_cmpR (u_ne hr.units) (pv 6) (pe_op u_add (pe_op u_add (pe_slice u_slL (pv 4) po_none (po_some (pv 5))) (pe_lst (pa_cons (pv 3) pa_nil))) (pe_slice u_slL (pv 4) (po_some (pv 5)) po_none)) (nomark _)))))
 (pss_one (ps_ret pe_bl))
 pss_nil)
 (pss_cons (ps_if (PW.pt (pw_or (pt_not (pt_truth (pe_callC (ok_law_refused T) (hr.mono (by decide)) (by rfl) pass0 (pa_cons (pe_gref (by rfl) T.gf_unstreamed) (pa_cons (pv 3) pa_nil))) (by intro _; rfl))) (pw_or1 (pt_not (pt_truth (pe_callC (ok_law_any_refusal T) (hr.mono (by decide)) (by rfl) pass0 (pa_cons (pe_gref (by rfl) T.gf_unstreamed) (pa_cons (pv 3) pa_nil))) (by intro _; rfl))))))
 (pss_one (ps_ret pe_bl))
 pss_nil)
 (pss_cons (ps_setLc (i := 7) (own := [("_law_k", 10)]) (g := (gName 10)) (tt := tYes) rfl sc_law.nd rfl rfl (sw_true rfl rfl rfl (by decide +kernel)) (pi_range1 (by rfl) T.m_range (pa_cons (pe_callC (ok_law_take T) (hr.mono (by decide)) (by rfl) pass0 (pa_cons (pv 1) (pa_cons pe_int pa_nil))) pa_nil)) (blkOk_by (N := ["_law_script", "_law_state", "_law_good", "_law_wrong_here", "_law_parts", "_law_at", "_law_handed", "_law_held", "_law_feeder", "_law_rest", "_law_k"]) (sc := (defScope s_law)) (own := [("_law_k", 10)]) (by decide +kernel)) (fun _ _ _ _ _ => (pg_name (i := 10) sc_law.nd rfl (by first | exact Or.inl rfl | exact Or.inr rfl))) (fun _ _ _ _ _ => pts_nil) (fun _ _ _ _ _ => (pe_op u_add pe_int (pe_callC (ok_law_take T) (hr.mono (by decide)) (by rfl) pass0 (pa_cons (pv 1) (pa_cons pe_int pa_nil))))))
 (pss_cons (ps_set (i := 8) sc_law.nd rfl (by first | exact Or.inl rfl | exact Or.inr rfl) (pe_makeM0 T.mk_Feeder T.kc_Feeder (ok_Feeder___init__ T) (hr.mono (by decide)) (by rfl) T.g_Feeder pass0))
 (pss_cons (ps_if (pt_cmpR (u_ne hr.units) (pe_methM (pv 8) T.own.cl (ok_Feeder_feed T) (hr.mono (by decide)) passL (pa_cons (pv 7) pa_nil)) (pe_lst pa_nil) (nomark _))
 (pss_one (ps_ret pe_bl))
 pss_nil)
 (pss_cons (ps_if (pt_not (pt_truth (pe_lamD (k := 3) (Ng := ["_law_deed", "_law_handed", "e"]) (N := ["_law_piece", "_law_feeder"]) (fr := ["_law_feeder"]) (js := [8]) (iy := 3) (pa := "_law_piece") (a := "_law_deed") (b := "_law_handed") (tb := fun E => (tMethUS C "feed" (sp_Feeder_feed K C) (WE (fun cls d _ H => E cls d H)) (tVar 1) (tCons (tVar 0) tNil))) T.d_law_refused (fun _ _ _ _ _ _ us hl => match us, hl with | [_, _], _ => rfl) sc_law_refused (by rfl) rfl (by first | exact Or.inl rfl | exact Or.inr (Or.inl rfl) | exact Or.inr (Or.inr rfl)) rfl (by first | exact Or.inl rfl | exact Or.inr (Or.inl rfl) | exact Or.inr (Or.inr rfl)) (fun g cdv => gives_law_refused T) TB rfl rfl (hr.mono (by decide)) (NdefX.nscope_by (by decide +kernel)) (by show NdefX.ndefB (defScope s_law) _ _ = true; decide +kernel) rfl rfl (fun _ _ _ _ _ _ => rfl) rfl (by first | exact Or.inl rfl | exact Or.inr (Or.inl rfl) | exact Or.inr (Or.inr rfl))
 (fun A outer s H E f c' hr => (pe_methMS (pv 1) T.own.cl (ok_Feeder_feed T) (hr.mono (by decide)) (fun σ => passAt (takes_of rfl rfl rfl rfl) σ) (pa_cons (pv 0) pa_nil)))) (by intro _; rfl)))
 (pss_one (ps_ret pe_bl))
 pss_nil)
 (pss_cons (ps_set (i := 9) sc_law.nd rfl (by first | exact Or.inl rfl | exact Or.inr rfl) (pe_op u_mul (pe_lst (pa_cons (pe_tup (pa_cons pe_str (pa_cons pe_int (pa_cons (pe_callB u_len (by rfl) T.m_len PySem.boot_len (pa_cons (pv 7) pa_nil)) pa_nil)))) pa_nil)) (pe_callTy u_int (by rfl) T.m_int (by decide +kernel) (pa_cons (pe_cmpR (u_ne hr.units) (pv 7) (pe_lst pa_nil) (nomark _)) pa_nil))))
 (pss_cons (ps_if (PW.pt (pw_or (pt_cmpR (u_ne hr.units) (pe_methM0 (pv 8) T.own.cl (ok_Feeder_done T) (hr.mono (by decide)) pass0) (pv 9) (nomark _)) (pw_or (pt_cmpR (u_ne hr.units) (pe_callC (ok_streamed T) (hr.mono (by decide)) (by rfl) passL (pa_cons (pe_lst pa_nil) pa_nil)) (pe_lst pa_nil) (nomark _)) (pw_or1 (pt_cmpR (u_ne hr.units) (pe_callC (ok_unstreamed T) (hr.mono (by decide)) (by rfl) passL (pa_cons (pe_lst pa_nil) pa_nil)) (pe_lst pa_nil) (nomark _))))))
 (pss_one (ps_ret pe_bl))
 pss_nil)
 (pss_one (ps_ret (pe_and (pe_cmpR (u_eq hr.units) (pe_callC (ok_streamed T) (hr.mono (by decide)) (by rfl) passL (pa_cons (pe_lst (pa_cons (pv 2) pa_nil)) pa_nil)) (pe_callC (ok_streamed T) (hr.mono (by decide)) (by rfl) passL (pa_cons (pe_lst (pa_cons (pe_callTy u_tuple (by rfl) T.m_tuple (by decide +kernel) (pa_cons (pv 2) pa_nil)) pa_nil)) pa_nil)) (nomark _)) (pe_one (pe_cmpR (u_eq hr.units) (pe_callC (ok_unstreamed T) (hr.mono (by decide)) (by rfl) passL (pa_cons (pv 2) pa_nil)) (pe_callC (ok_unstreamed T) (hr.mono (by decide)) (by rfl) passL (pa_cons (pe_callTy u_tuple (by rfl) T.m_tuple (by decide +kernel) (pa_cons (pv 2) pa_nil)) pa_nil)) (nomark _)))))))))))))))))))))

theorem txt_mk {K : PySem.W.Frag} {h : Heap} {mg : Str → Option Value} (X : K.In h) (G : h.Ns mainGlobals mg)
    {C_WireError : Addr} {C_NoText : Addr} {C_NoThing : Addr} {C_NoTurn : Addr} {C_NoBytes : Addr} {nm_NoBytes q_NoBytes : Str} {N_NoBytes : Addr} {bs_NoBytes : List Value} {sn_NoBytes : List Str} {sub_NoBytes : List Value} {ab_NoBytes : Bool} {col_NoBytes : Option Bool} {dd_NoBytes : Option Addr} {m0_NoBytes m1_NoBytes m2_NoBytes m3_NoBytes m5_NoBytes : Option Value} {C : Addr} {f_NoBytes___init__ : Addr} {od_NoBytes___init__ an_NoBytes___init__ : Option Addr} {sl_NoBytes___init__ : Array (Option Value)} {oc_NoBytes___init__ kV_NoBytes___init__ dc_NoBytes___init__ pm_NoBytes___init__ cd_NoBytes___init__ ct_NoBytes___init__ : Value} {f_is_bytes : Addr} {od_is_bytes an_is_bytes : Option Addr} {sl_is_bytes : Array (Option Value)} {oc_is_bytes kV_is_bytes dc_is_bytes pm_is_bytes cd_is_bytes ct_is_bytes : Value} {f_checked : Addr} {od_checked an_checked : Option Addr} {sl_checked : Array (Option Value)} {oc_checked kV_checked dc_checked pm_checked cd_checked ct_checked : Value} {f_in_runs : Addr} {od_in_runs an_in_runs : Option Addr} {sl_in_runs : Array (Option Value)} {oc_in_runs kV_in_runs dc_in_runs pm_in_runs cd_in_runs ct_in_runs : Value} {f_out_of_runs : Addr} {od_out_of_runs an_out_of_runs : Option Addr} {sl_out_of_runs : Array (Option Value)} {oc_out_of_runs kV_out_of_runs dc_out_of_runs pm_out_of_runs cd_out_of_runs ct_out_of_runs : Value} {f_piece_told : Addr} {od_piece_told an_piece_told : Option Addr} {sl_piece_told : Array (Option Value)} {oc_piece_told kV_piece_told dc_piece_told pm_piece_told cd_piece_told ct_piece_told : Value} {f_streamed : Addr} {od_streamed an_streamed : Option Addr} {sl_streamed : Array (Option Value)} {oc_streamed kV_streamed dc_streamed pm_streamed cd_streamed ct_streamed : Value} {f_Feeder___init__ : Addr} {od_Feeder___init__ an_Feeder___init__ : Option Addr} {sl_Feeder___init__ : Array (Option Value)} {oc_Feeder___init__ kV_Feeder___init__ dc_Feeder___init__ pm_Feeder___init__ cd_Feeder___init__ ct_Feeder___init__ : Value} {f_Feeder_feed : Addr} {od_Feeder_feed an_Feeder_feed : Option Addr} {sl_Feeder_feed : Array (Option Value)} {oc_Feeder_feed kV_Feeder_feed dc_Feeder_feed pm_Feeder_feed cd_Feeder_feed ct_Feeder_feed : Value} {f_Feeder_done : Addr} {od_Feeder_done an_Feeder_done : Option Addr} {sl_Feeder_done : Array (Option Value)} {oc_Feeder_done kV_Feeder_done dc_Feeder_done pm_Feeder_done cd_Feeder_done ct_Feeder_done : Value} {f_unstreamed : Addr} {od_unstreamed an_unstreamed : Option Addr} {sl_unstreamed : Array (Option Value)} {oc_unstreamed kV_unstreamed dc_unstreamed pm_unstreamed cd_unstreamed ct_unstreamed : Value} {f_law_take : Addr} {od_law_take an_law_take : Option Addr} {sl_law_take : Array (Option Value)} {oc_law_take kV_law_take dc_law_take pm_law_take cd_law_take ct_law_take : Value} {f_law_wrong : Addr} {od_law_wrong an_law_wrong : Option Addr} {sl_law_wrong : Array (Option Value)} {oc_law_wrong kV_law_wrong dc_law_wrong pm_law_wrong cd_law_wrong ct_law_wrong : Value} {f_law_refused : Addr} {od_law_refused an_law_refused : Option Addr} {sl_law_refused : Array (Option Value)} {oc_law_refused kV_law_refused dc_law_refused pm_law_refused cd_law_refused ct_law_refused : Value} {f_law_any_refusal : Addr} {od_law_any_refusal an_law_any_refusal : Option Addr} {sl_law_any_refusal : Array (Option Value)} {oc_law_any_refusal kV_law_any_refusal dc_law_any_refusal pm_law_any_refusal cd_law_any_refusal ct_law_any_refusal : Value} {f_law : Addr} {od_law an_law : Option Addr} {sl_law : Array (Option Value)} {oc_law kV_law dc_law pm_law cd_law ct_law : Value}
    (c_at : PySem.W.nsIn K mainGlobals "Feeder" = some (some (.ref C))) (z_ValueError : PySem.W.nsIn K mainGlobals "ValueError" = some none) (z_bool : PySem.W.nsIn K mainGlobals "bool" = some none) (z_enumerate : PySem.W.nsIn K mainGlobals "enumerate" = some none) (z_int : PySem.W.nsIn K mainGlobals "int" = some none) (z_isinstance : PySem.W.nsIn K mainGlobals "isinstance" = some none) (z_len : PySem.W.nsIn K mainGlobals "len" = some none) (z_list : PySem.W.nsIn K mainGlobals "list" = some none) (z_range : PySem.W.nsIn K mainGlobals "range" = some none) (z_tuple : PySem.W.nsIn K mainGlobals "tuple" = some none) {k_PRIME : Tok} (y_PRIME : PySem.W.nsIn K mainGlobals "PRIME" = some (some (.int 65521 k_PRIME))) {k_LONGEST : Tok} (y_LONGEST : PySem.W.nsIn K mainGlobals "LONGEST" = some (some (.int 254 k_LONGEST))) (at_WireError : PySem.W.nsIn K mainGlobals "WireError" = some (some (.ref C_WireError))) (at_NoText : PySem.W.nsIn K mainGlobals "NoText" = some (some (.ref C_NoText))) (at_NoThing : PySem.W.nsIn K mainGlobals "NoThing" = some (some (.ref C_NoThing))) (at_NoTurn : PySem.W.nsIn K mainGlobals "NoTurn" = some (some (.ref C_NoTurn))) (at_NoBytes : PySem.W.nsIn K mainGlobals "NoBytes" = some (some (.ref C_NoBytes))) (xl_NoBytes : K.lookup C_NoBytes = some (excClassObj nm_NoBytes q_NoBytes C_NoBytes N_NoBytes bs_NoBytes [.ref C_WireError, .type "ValueError", .type "Exception", .type "BaseException", .type "object"] true sn_NoBytes sub_NoBytes ab_NoBytes col_NoBytes dd_NoBytes m0_NoBytes m1_NoBytes m2_NoBytes m3_NoBytes m5_NoBytes "ValueError.__new__")) (sa_NoBytes : PySem.W.findIn K (.ref C_NoBytes) "__setattr__" = some (some (.builtin "object.__setattr__"))) (eC_NoBytes : PySem.W.subIn K (.ref C_NoBytes) (.type "BaseException") = some true) (tC_NoBytes : PySem.W.typeIn K (.ref C_NoBytes) = some (.type "type")) (kC_NoBytes : PySem.W.keepIn K (.ref C_NoBytes) = true) (ga_NoBytes : PySem.W.findIn K (.ref C_NoBytes) "__getattribute__" = some (some (.builtin "BaseException.__getattribute__"))) (gg_NoBytes : PySem.W.findIn K (.ref C_NoBytes) "__getattr__" = some none) (hd_NoBytes : PySem.W.hasDictIn K C_NoBytes = true) (ic_NoBytes : PySem.W.isClsIn K C_NoBytes = true) (ha_NoBytes : PySem.W.findIn K (.ref C_NoBytes) "__class__" = some (some (.builtin "object.__class__"))) (hn_NoBytes : PySem.W.specialIn K (.builtin "object.__class__") "__get__" = some (some (.builtin "getset_descriptor.__get__"))) (ht_NoBytes : PySem.W.takesIn K (.builtin "object.__class__") = some true) (hm_NoBytes : PySem.W.mroIn K C_NoBytes (.type "object") = some true) (no_NoBytes_why : PySem.W.findIn K (.ref C_NoBytes) "why" = some none) (kit_NoBytes_WireError : PySem.W.kitOne K (.ref C_NoBytes) (.ref C_WireError) = some true) (kit_NoBytes_ValueError : PySem.W.kitOne K (.ref C_NoBytes) (.type "ValueError") = some true) (eC_NoText : PySem.W.subIn K (.ref C_NoText) (.type "BaseException") = some true) (tC_NoText : PySem.W.typeIn K (.ref C_NoText) = some (.type "type")) (hd_NoText : PySem.W.hasDictIn K C_NoText = true) (sub_NoBytes_NoText : PySem.W.subIn K (.ref C_NoBytes) (.ref C_NoText) = some false) (eC_NoThing : PySem.W.subIn K (.ref C_NoThing) (.type "BaseException") = some true) (tC_NoThing : PySem.W.typeIn K (.ref C_NoThing) = some (.type "type")) (hd_NoThing : PySem.W.hasDictIn K C_NoThing = true) (sub_NoBytes_NoThing : PySem.W.subIn K (.ref C_NoBytes) (.ref C_NoThing) = some false) (eC_NoTurn : PySem.W.subIn K (.ref C_NoTurn) (.type "BaseException") = some true) (tC_NoTurn : PySem.W.typeIn K (.ref C_NoTurn) = some (.type "type")) (hd_NoTurn : PySem.W.hasDictIn K C_NoTurn = true) (sub_NoBytes_NoTurn : PySem.W.subIn K (.ref C_NoBytes) (.ref C_NoTurn) = some false) (sub_NoBytes_NoBytes : PySem.W.subIn K (.ref C_NoBytes) (.ref C_NoBytes) = some true) (eC_WireError : PySem.W.subIn K (.ref C_WireError) (.type "BaseException") = some true) (tC_WireError : PySem.W.typeIn K (.ref C_WireError) = some (.type "type")) (hd_WireError : PySem.W.hasDictIn K C_WireError = true) (sub_NoBytes_WireError : PySem.W.subIn K (.ref C_NoBytes) (.ref C_WireError) = some true) (c_pg : PySem.W.plainGet K C Str.empty = true) (c_hd : PySem.W.hasDictIn K C = true) (c_po : PySem.W.plainOver K C = true) (c_sa : PySem.W.findIn K (.ref C) "__setattr__" = some (some (.builtin "object.__setattr__"))) (c_nheld : PySem.W.findIn K (.ref C) "held" = some none) (c_nplace : PySem.W.findIn K (.ref C) "place" = some none) (c_mk : PySem.W.makesIn K C = true) (c_kc : PySem.W.keepIn K (.ref C) = true) (a_NoBytes___init__ : PySem.W.findIn K (.ref C_NoBytes) "__init__" = some (some (.ref f_NoBytes___init__))) (i_NoBytes___init__ : PySem.W.typeIn K (.ref f_NoBytes___init__) = some (.type "function")) (l_NoBytes___init__ : K.lookup f_NoBytes___init__ = some ⟨oc_NoBytes___init__, od_NoBytes___init__, .func (PySem.W.fnOf "__init__" "NoBytes.__init__" (defArgs s_NoBytes___init__) (defBody s_NoBytes___init__) (defScope s_NoBytes___init__) .none kV_NoBytes___init__ dc_NoBytes___init__ pm_NoBytes___init__ an_NoBytes___init__ cd_NoBytes___init__ ct_NoBytes___init__), sl_NoBytes___init__⟩) (q_NoBytes___init__ : PySem.W.codeIn K cd_NoBytes___init__ "NoBytes.__init__" = true) (k_NoBytes___init__ : PySem.W.keepIn K (.ref f_NoBytes___init__) = true) (a_is_bytes : PySem.W.nsIn K mainGlobals "is_bytes" = some (some (.ref f_is_bytes))) (l_is_bytes : K.lookup f_is_bytes = some ⟨oc_is_bytes, od_is_bytes, .func (PySem.W.fnOf "is_bytes" "is_bytes" (defArgs s_is_bytes) (defBody s_is_bytes) (defScope s_is_bytes) .none kV_is_bytes dc_is_bytes pm_is_bytes an_is_bytes cd_is_bytes ct_is_bytes), sl_is_bytes⟩) (q_is_bytes : PySem.W.codeIn K cd_is_bytes "is_bytes" = true) (k_is_bytes : PySem.W.keepIn K (.ref f_is_bytes) = true) (a_checked : PySem.W.nsIn K mainGlobals "checked" = some (some (.ref f_checked))) (l_checked : K.lookup f_checked = some ⟨oc_checked, od_checked, .func (PySem.W.fnOf "checked" "checked" (defArgs s_checked) (defBody s_checked) (defScope s_checked) .none kV_checked dc_checked pm_checked an_checked cd_checked ct_checked), sl_checked⟩) (q_checked : PySem.W.codeIn K cd_checked "checked" = true) (k_checked : PySem.W.keepIn K (.ref f_checked) = true) (a_in_runs : PySem.W.nsIn K mainGlobals "in_runs" = some (some (.ref f_in_runs))) (l_in_runs : K.lookup f_in_runs = some ⟨oc_in_runs, od_in_runs, .func (PySem.W.fnOf "in_runs" "in_runs" (defArgs s_in_runs) (defBody s_in_runs) (defScope s_in_runs) .none kV_in_runs dc_in_runs pm_in_runs an_in_runs cd_in_runs ct_in_runs), sl_in_runs⟩) (q_in_runs : PySem.W.codeIn K cd_in_runs "in_runs" = true) (k_in_runs : PySem.W.keepIn K (.ref f_in_runs) = true) (a_out_of_runs : PySem.W.nsIn K mainGlobals "out_of_runs" = some (some (.ref f_out_of_runs))) (l_out_of_runs : K.lookup f_out_of_runs = some ⟨oc_out_of_runs, od_out_of_runs, .func (PySem.W.fnOf "out_of_runs" "out_of_runs" (defArgs s_out_of_runs) (defBody s_out_of_runs) (defScope s_out_of_runs) .none kV_out_of_runs dc_out_of_runs pm_out_of_runs an_out_of_runs cd_out_of_runs ct_out_of_runs), sl_out_of_runs⟩) (q_out_of_runs : PySem.W.codeIn K cd_out_of_runs "out_of_runs" = true) (k_out_of_runs : PySem.W.keepIn K (.ref f_out_of_runs) = true) (a_piece_told : PySem.W.nsIn K mainGlobals "piece_told" = some (some (.ref f_piece_told))) (l_piece_told : K.lookup f_piece_told = some ⟨oc_piece_told, od_piece_told, .func (PySem.W.fnOf "piece_told" "piece_told" (defArgs s_piece_told) (defBody s_piece_told) (defScope s_piece_told) .none kV_piece_told dc_piece_told pm_piece_told an_piece_told cd_piece_told ct_piece_told), sl_piece_told⟩) (q_piece_told : PySem.W.codeIn K cd_piece_told "piece_told" = true) (k_piece_told : PySem.W.keepIn K (.ref f_piece_told) = true) (a_streamed : PySem.W.nsIn K mainGlobals "streamed" = some (some (.ref f_streamed))) (l_streamed : K.lookup f_streamed = some ⟨oc_streamed, od_streamed, .func (PySem.W.fnOf "streamed" "streamed" (defArgs s_streamed) (defBody s_streamed) (defScope s_streamed) .none kV_streamed dc_streamed pm_streamed an_streamed cd_streamed ct_streamed), sl_streamed⟩) (q_streamed : PySem.W.codeIn K cd_streamed "streamed" = true) (k_streamed : PySem.W.keepIn K (.ref f_streamed) = true) (a_Feeder___init__ : PySem.W.findIn K (.ref C) "__init__" = some (some (.ref f_Feeder___init__))) (i_Feeder___init__ : PySem.W.isFn K (.ref f_Feeder___init__) = true) (l_Feeder___init__ : K.lookup f_Feeder___init__ = some ⟨oc_Feeder___init__, od_Feeder___init__, .func (PySem.W.fnOf "__init__" "Feeder.__init__" (defArgs s_Feeder___init__) (defBody s_Feeder___init__) (defScope s_Feeder___init__) .none kV_Feeder___init__ dc_Feeder___init__ pm_Feeder___init__ an_Feeder___init__ cd_Feeder___init__ ct_Feeder___init__), sl_Feeder___init__⟩) (q_Feeder___init__ : PySem.W.codeIn K cd_Feeder___init__ "Feeder.__init__" = true) (k_Feeder___init__ : PySem.W.keepIn K (.ref f_Feeder___init__) = true) (a_Feeder_feed : PySem.W.findIn K (.ref C) "feed" = some (some (.ref f_Feeder_feed))) (i_Feeder_feed : PySem.W.isFn K (.ref f_Feeder_feed) = true) (l_Feeder_feed : K.lookup f_Feeder_feed = some ⟨oc_Feeder_feed, od_Feeder_feed, .func (PySem.W.fnOf "feed" "Feeder.feed" (defArgs s_Feeder_feed) (defBody s_Feeder_feed) (defScope s_Feeder_feed) .none kV_Feeder_feed dc_Feeder_feed pm_Feeder_feed an_Feeder_feed cd_Feeder_feed ct_Feeder_feed), sl_Feeder_feed⟩) (q_Feeder_feed : PySem.W.codeIn K cd_Feeder_feed "Feeder.feed" = true) (k_Feeder_feed : PySem.W.keepIn K (.ref f_Feeder_feed) = true) (a_Feeder_done : PySem.W.findIn K (.ref C) "done" = some (some (.ref f_Feeder_done))) (i_Feeder_done : PySem.W.isFn K (.ref f_Feeder_done) = true) (l_Feeder_done : K.lookup f_Feeder_done = some ⟨oc_Feeder_done, od_Feeder_done, .func (PySem.W.fnOf "done" "Feeder.done" (defArgs s_Feeder_done) (defBody s_Feeder_done) (defScope s_Feeder_done) .none kV_Feeder_done dc_Feeder_done pm_Feeder_done an_Feeder_done cd_Feeder_done ct_Feeder_done), sl_Feeder_done⟩) (q_Feeder_done : PySem.W.codeIn K cd_Feeder_done "Feeder.done" = true) (k_Feeder_done : PySem.W.keepIn K (.ref f_Feeder_done) = true) (a_unstreamed : PySem.W.nsIn K mainGlobals "unstreamed" = some (some (.ref f_unstreamed))) (l_unstreamed : K.lookup f_unstreamed = some ⟨oc_unstreamed, od_unstreamed, .func (PySem.W.fnOf "unstreamed" "unstreamed" (defArgs s_unstreamed) (defBody s_unstreamed) (defScope s_unstreamed) .none kV_unstreamed dc_unstreamed pm_unstreamed an_unstreamed cd_unstreamed ct_unstreamed), sl_unstreamed⟩) (q_unstreamed : PySem.W.codeIn K cd_unstreamed "unstreamed" = true) (k_unstreamed : PySem.W.keepIn K (.ref f_unstreamed) = true) (a_law_take : PySem.W.nsIn K mainGlobals "_law_take" = some (some (.ref f_law_take))) (l_law_take : K.lookup f_law_take = some ⟨oc_law_take, od_law_take, .func (PySem.W.fnOf "_law_take" "_law_take" (defArgs s_law_take) (defBody s_law_take) (defScope s_law_take) .none kV_law_take dc_law_take pm_law_take an_law_take cd_law_take ct_law_take), sl_law_take⟩) (q_law_take : PySem.W.codeIn K cd_law_take "_law_take" = true) (k_law_take : PySem.W.keepIn K (.ref f_law_take) = true) (a_law_wrong : PySem.W.nsIn K mainGlobals "_law_wrong" = some (some (.ref f_law_wrong))) (l_law_wrong : K.lookup f_law_wrong = some ⟨oc_law_wrong, od_law_wrong, .func (PySem.W.fnOf "_law_wrong" "_law_wrong" (defArgs s_law_wrong) (defBody s_law_wrong) (defScope s_law_wrong) .none kV_law_wrong dc_law_wrong pm_law_wrong an_law_wrong cd_law_wrong ct_law_wrong), sl_law_wrong⟩) (q_law_wrong : PySem.W.codeIn K cd_law_wrong "_law_wrong" = true) (k_law_wrong : PySem.W.keepIn K (.ref f_law_wrong) = true) (a_law_refused : PySem.W.nsIn K mainGlobals "_law_refused" = some (some (.ref f_law_refused))) (l_law_refused : K.lookup f_law_refused = some ⟨oc_law_refused, od_law_refused, .func (PySem.W.fnOf "_law_refused" "_law_refused" (defArgs s_law_refused) (defBody s_law_refused) (defScope s_law_refused) .none kV_law_refused dc_law_refused pm_law_refused an_law_refused cd_law_refused ct_law_refused), sl_law_refused⟩) (q_law_refused : PySem.W.codeIn K cd_law_refused "_law_refused" = true) (k_law_refused : PySem.W.keepIn K (.ref f_law_refused) = true) (a_law_any_refusal : PySem.W.nsIn K mainGlobals "_law_any_refusal" = some (some (.ref f_law_any_refusal))) (l_law_any_refusal : K.lookup f_law_any_refusal = some ⟨oc_law_any_refusal, od_law_any_refusal, .func (PySem.W.fnOf "_law_any_refusal" "_law_any_refusal" (defArgs s_law_any_refusal) (defBody s_law_any_refusal) (defScope s_law_any_refusal) .none kV_law_any_refusal dc_law_any_refusal pm_law_any_refusal an_law_any_refusal cd_law_any_refusal ct_law_any_refusal), sl_law_any_refusal⟩) (q_law_any_refusal : PySem.W.codeIn K cd_law_any_refusal "_law_any_refusal" = true) (k_law_any_refusal : PySem.W.keepIn K (.ref f_law_any_refusal) = true) (a_law : PySem.W.nsIn K mainGlobals "law" = some (some (.ref f_law))) (l_law : K.lookup f_law = some ⟨oc_law, od_law, .func (PySem.W.fnOf "law" "law" (defArgs s_law) (defBody s_law) (defScope s_law) .none kV_law dc_law pm_law an_law cd_law ct_law), sl_law⟩) (q_law : PySem.W.codeIn K cd_law "law" = true) (k_law : PySem.W.keepIn K (.ref f_law) = true) : Txt K mg C :=
  ⟨PySem.W.mg_none_of X G z_ValueError, PySem.W.mg_none_of X G z_bool, PySem.W.mg_none_of X G z_enumerate, PySem.W.mg_none_of X G z_int, PySem.W.mg_none_of X G z_isinstance, PySem.W.mg_none_of X G z_len, PySem.W.mg_none_of X G z_list, PySem.W.mg_none_of X G z_range, PySem.W.mg_none_of X G z_tuple, ⟨_, PySem.W.mg_of X G y_PRIME⟩, ⟨_, PySem.W.mg_of X G y_LONGEST⟩, (by rw [cAt_of at_WireError]; exact PySem.W.mg_of X G at_WireError), (by rw [cAt_of at_NoText]; exact PySem.W.mg_of X G at_NoText), (by rw [cAt_of at_NoThing]; exact PySem.W.mg_of X G at_NoThing), (by rw [cAt_of at_NoTurn]; exact PySem.W.mg_of X G at_NoTurn), (by rw [cAt_of at_NoBytes]; exact PySem.W.mg_of X G at_NoBytes), (by rw [cAt_of at_NoBytes]; exact ⟨⟨⟨nm_NoBytes, q_NoBytes, N_NoBytes, bs_NoBytes, _, sn_NoBytes, sub_NoBytes, ab_NoBytes, col_NoBytes, dd_NoBytes, m0_NoBytes, m1_NoBytes, m2_NoBytes, m3_NoBytes, m5_NoBytes, xl_NoBytes, by show PySem.HandSPX.refsVE [.type "ValueError", .type "Exception", .type "BaseException", .type "object"] = true; decide +kernel⟩, sa_NoBytes, eC_NoBytes, tC_NoBytes, kC_NoBytes⟩, ⟨ga_NoBytes, gg_NoBytes, eC_NoBytes, hd_NoBytes⟩, ic_NoBytes, ha_NoBytes, hn_NoBytes, ht_NoBytes, hm_NoBytes⟩), (by rw [cAt_of at_NoBytes]; exact no_NoBytes_why), (by rw [cAt_of at_NoBytes, cAt_of at_WireError]; exact kit_NoBytes_WireError), (by rw [cAt_of at_NoBytes]; exact kit_NoBytes_ValueError), (by rw [cAt_of at_NoBytes, cAt_of at_NoText]; exact PySem.W.exm_ref eC_NoText hd_NoText tC_NoText sub_NoBytes_NoText), (by rw [cAt_of at_NoBytes, cAt_of at_NoThing]; exact PySem.W.exm_ref eC_NoThing hd_NoThing tC_NoThing sub_NoBytes_NoThing), (by rw [cAt_of at_NoBytes, cAt_of at_NoTurn]; exact PySem.W.exm_ref eC_NoTurn hd_NoTurn tC_NoTurn sub_NoBytes_NoTurn), (by rw [cAt_of at_NoBytes]; exact PySem.W.exm_ref eC_NoBytes hd_NoBytes tC_NoBytes sub_NoBytes_NoBytes), (by rw [cAt_of at_NoBytes, cAt_of at_WireError]; exact PySem.W.exm_ref eC_WireError hd_WireError tC_WireError sub_NoBytes_WireError), ⟨(by rw [cAt_of at_NoBytes]; exact ⟨⟨⟨nm_NoBytes, q_NoBytes, N_NoBytes, bs_NoBytes, _, sn_NoBytes, sub_NoBytes, ab_NoBytes, col_NoBytes, dd_NoBytes, m0_NoBytes, m1_NoBytes, m2_NoBytes, m3_NoBytes, m5_NoBytes, xl_NoBytes, by show PySem.HandSPX.refsVE [.type "ValueError", .type "Exception", .type "BaseException", .type "object"] = true; decide +kernel⟩, sa_NoBytes, eC_NoBytes, tC_NoBytes, kC_NoBytes⟩, ⟨ga_NoBytes, gg_NoBytes, eC_NoBytes, hd_NoBytes⟩, ic_NoBytes, ha_NoBytes, hn_NoBytes, ht_NoBytes, hm_NoBytes⟩), (by simp only [cAt_of at_WireError, cAt_of at_NoText, cAt_of at_NoThing, cAt_of at_NoTurn, cAt_of at_NoBytes]; exact no_NoBytes_why), (by simp only [cAt_of at_WireError, cAt_of at_NoText, cAt_of at_NoThing, cAt_of at_NoTurn, cAt_of at_NoBytes]; exact kit_NoBytes_WireError), (by simp only [cAt_of at_WireError, cAt_of at_NoText, cAt_of at_NoThing, cAt_of at_NoTurn, cAt_of at_NoBytes]; exact kit_NoBytes_ValueError), (by simp only [cAt_of at_WireError, cAt_of at_NoText, cAt_of at_NoThing, cAt_of at_NoTurn, cAt_of at_NoBytes]; exact PySem.W.exm_ref eC_NoText hd_NoText tC_NoText sub_NoBytes_NoText), (by simp only [cAt_of at_WireError, cAt_of at_NoText, cAt_of at_NoThing, cAt_of at_NoTurn, cAt_of at_NoBytes]; exact PySem.W.exm_ref eC_NoThing hd_NoThing tC_NoThing sub_NoBytes_NoThing), (by simp only [cAt_of at_WireError, cAt_of at_NoText, cAt_of at_NoThing, cAt_of at_NoTurn, cAt_of at_NoBytes]; exact PySem.W.exm_ref eC_NoTurn hd_NoTurn tC_NoTurn sub_NoBytes_NoTurn), (by simp only [cAt_of at_WireError, cAt_of at_NoText, cAt_of at_NoThing, cAt_of at_NoTurn, cAt_of at_NoBytes]; exact PySem.W.exm_ref eC_NoBytes hd_NoBytes tC_NoBytes sub_NoBytes_NoBytes), (by simp only [cAt_of at_WireError, cAt_of at_NoText, cAt_of at_NoThing, cAt_of at_NoTurn, cAt_of at_NoBytes]; exact PySem.W.exm_ref eC_WireError hd_WireError tC_WireError sub_NoBytes_WireError)⟩, (by rw [cAt_of a_streamed]; exact PySem.W.mg_of X G a_streamed), (by rw [cAt_of a_unstreamed]; exact PySem.W.mg_of X G a_unstreamed), ⟨⟨c_pg, c_hd, c_po, c_sa⟩, c_nheld, c_nplace⟩, PySem.W.mg_of X G c_at, c_mk, c_kc, (by rw [cAt_of at_NoBytes]; exact ⟨_, _, a_NoBytes___init__, i_NoBytes___init__, fun_mk l_NoBytes___init__ q_NoBytes___init__ k_NoBytes___init__⟩), ⟨_, _, PySem.W.mg_of X G a_is_bytes, fun_mk l_is_bytes q_is_bytes k_is_bytes⟩, ⟨_, _, PySem.W.mg_of X G a_checked, fun_mk l_checked q_checked k_checked⟩, ⟨_, _, PySem.W.mg_of X G a_in_runs, fun_mk l_in_runs q_in_runs k_in_runs⟩, ⟨_, _, PySem.W.mg_of X G a_out_of_runs, fun_mk l_out_of_runs q_out_of_runs k_out_of_runs⟩, ⟨_, _, PySem.W.mg_of X G a_piece_told, fun_mk l_piece_told q_piece_told k_piece_told⟩, ⟨_, _, PySem.W.mg_of X G a_streamed, fun_mk l_streamed q_streamed k_streamed⟩, ⟨_, _, ⟨a_Feeder___init__, i_Feeder___init__, k_Feeder___init__⟩, fun_mk l_Feeder___init__ q_Feeder___init__ k_Feeder___init__⟩, ⟨_, _, ⟨a_Feeder_feed, i_Feeder_feed, k_Feeder_feed⟩, fun_mk l_Feeder_feed q_Feeder_feed k_Feeder_feed⟩, ⟨_, _, ⟨a_Feeder_done, i_Feeder_done, k_Feeder_done⟩, fun_mk l_Feeder_done q_Feeder_done k_Feeder_done⟩, ⟨_, _, PySem.W.mg_of X G a_unstreamed, fun_mk l_unstreamed q_unstreamed k_unstreamed⟩, ⟨_, _, PySem.W.mg_of X G a_law_take, fun_mk l_law_take q_law_take k_law_take⟩, ⟨_, _, PySem.W.mg_of X G a_law_wrong, fun_mk l_law_wrong q_law_wrong k_law_wrong⟩, ⟨_, _, PySem.W.mg_of X G a_law_refused, fun_mk l_law_refused q_law_refused k_law_refused⟩, ⟨_, _, PySem.W.mg_of X G a_law_any_refusal, fun_mk l_law_any_refusal q_law_any_refusal k_law_any_refusal⟩, ⟨_, _, PySem.W.mg_of X G a_law, fun_mk l_law q_law k_law⟩⟩
theorem defc_mk {K : PySem.W.Frag} {h : Heap} {mg : Str → Option Value} (X : K.In h) (G : h.Ns mainGlobals mg) {f c : Addr} {od an : Option Addr} {sl : Array (Option Value)} {oc kV dc pm ct : Value}
    (a : PySem.W.nsIn K mainGlobals "law" = some (some (.ref f))) (l : K.lookup f = some ⟨oc, od, .func (PySem.W.fnOf "law" "law" (defArgs s_law) (defBody s_law) (defScope s_law) .none kV dc pm an (.ref c) ct), sl⟩) (q : PySem.W.codeIn K (.ref c) "law" = true) (k : PySem.W.keepIn K (.ref f) = true) : DefC K mg s_law "law" c :=
  ⟨_, _, PySem.W.mg_of X G a, fun_mk l q k, rfl⟩
theorem law_at {l : PySem.W.OpenLaw} {w : World} {K : PySem.W.Frag} {mg : Str → Option Value} {h : Heap} {fa C c P8 : Addr} (KX : K.In h) (T : Txt K mg C) (DC : DefC K mg s_law "law" c) (hmg : mg "law" = some (.ref fa)) (hT : h.get? P8 = some { cls := .none, data := .fields #[] }) (nT : K.lookup P8 = none) (hC : PySem.W.codeHdIn K c P8 = true) :
    LamX.LawAtS l w K CX0 6 63 "_law_script" mg fa h := by
  obtain ⟨f, fd, hm, F⟩ := T.d_law
  cases hmg.symm.trans hm
  have hA := Fun.at_ F
  have hb : ∀ us : List Value, us.length = 1 → bindArgs fd ⟨us, []⟩ = pure ((["_law_script"] : List Str).zip us) := by
    obtain ⟨oc, od, kV, doc, pm, an, cdv, ct, osl, rfl, lk, hcd⟩ := F.ex
    intro us hl
    match us, hl with
    | [_], _ => rfl
  refine ⟨fd, [(c, P8)], sp_law K P8, fun p hp => by rw [List.mem_singleton.mp hp]; exact hT, fun p hp => by rw [List.mem_singleton.mp hp]; exact nT, fun p hp => by rw [List.mem_singleton.mp hp]; exact PySem.W.codeHd_of_K KX hC, fun s v => .of_eq (hb [v] rfl), fun H a ns hl hb8 hH hS => law_end K P8 H a ns hl hb8 (hH (c, P8) List.mem_cons_self) hS, fun base _ _ hTB => ?_⟩
  obtain ⟨f', fd', hm', G, _, _, hA'⟩ := (ok_law T DC (hTB (c, P8) List.mem_cons_self)).ex
  cases hm'.symm.trans hm
  cases hA'.eq hA
  exact G
end K55
open PySem PySem.W PyProof.Rows
set_option maxHeartbeats 0 in
theorem PySem.Challenge.cw_thingwires_k55_what_is_no_bytes_holds : PySem.Challenge.rw_thingwires_k55_what_is_no_bytes.Holds := by
  w_on; o_law; k_head; (case hw => w_witness2)
  k_fill
  refine LamX.walk_ofTs (l := PySem.Challenge.rw_thingwires_k55_what_is_no_bytes) (n := 63) (k := 6) (x := "_law_script") (CX := fun _ => L2.CX0) rfl (by decide) rfl ⟨rfl, by decide, by decide⟩ (fun w h Y => PySem.W.km_in_of Y) ?F (fun _ _ _ _ _ h => h)
  case F =>
    intro w mg fa h Y KX G hmg
    refine' K55.law_at KX (K55.txt_mk KX G ?c_at ?z_ValueError ?z_bool ?z_enumerate ?z_int ?z_isinstance ?z_len ?z_list ?z_range ?z_tuple ?y_PRIME ?y_LONGEST ?at_WireError ?at_NoText ?at_NoThing ?at_NoTurn ?at_NoBytes ?xl_NoBytes ?sa_NoBytes ?eC_NoBytes ?tC_NoBytes ?kC_NoBytes ?ga_NoBytes ?gg_NoBytes ?hd_NoBytes ?ic_NoBytes ?ha_NoBytes ?hn_NoBytes ?ht_NoBytes ?hm_NoBytes ?no_NoBytes_why ?kit_NoBytes_WireError ?kit_NoBytes_ValueError ?eC_NoText ?tC_NoText ?hd_NoText ?sub_NoBytes_NoText ?eC_NoThing ?tC_NoThing ?hd_NoThing ?sub_NoBytes_NoThing ?eC_NoTurn ?tC_NoTurn ?hd_NoTurn ?sub_NoBytes_NoTurn ?sub_NoBytes_NoBytes ?eC_WireError ?tC_WireError ?hd_WireError ?sub_NoBytes_WireError ?c_pg ?c_hd ?c_po ?c_sa ?c_nheld ?c_nplace ?c_mk ?c_kc ?a_NoBytes___init__ ?i_NoBytes___init__ ?l_NoBytes___init__ ?q_NoBytes___init__ ?k_NoBytes___init__ ?a_is_bytes ?l_is_bytes ?q_is_bytes ?k_is_bytes ?a_checked ?l_checked ?q_checked ?k_checked ?a_in_runs ?l_in_runs ?q_in_runs ?k_in_runs ?a_out_of_runs ?l_out_of_runs ?q_out_of_runs ?k_out_of_runs ?a_piece_told ?l_piece_told ?q_piece_told ?k_piece_told ?a_streamed ?l_streamed ?q_streamed ?k_streamed ?a_Feeder___init__ ?i_Feeder___init__ ?l_Feeder___init__ ?q_Feeder___init__ ?k_Feeder___init__ ?a_Feeder_feed ?i_Feeder_feed ?l_Feeder_feed ?q_Feeder_feed ?k_Feeder_feed ?a_Feeder_done ?i_Feeder_done ?l_Feeder_done ?q_Feeder_done ?k_Feeder_done ?a_unstreamed ?l_unstreamed ?q_unstreamed ?k_unstreamed ?a_law_take ?l_law_take ?q_law_take ?k_law_take ?a_law_wrong ?l_law_wrong ?q_law_wrong ?k_law_wrong ?a_law_refused ?l_law_refused ?q_law_refused ?k_law_refused ?a_law_any_refusal ?l_law_any_refusal ?q_law_any_refusal ?k_law_any_refusal ?a_law ?l_law ?q_law ?k_law) (K55.defc_mk KX G ?za ?zl ?zq ?zk) hmg (PySem.W.km_tabs_of Y _ List.mem_cons_self) ?zn ?zc
    (case c_at => k_is); (case z_ValueError => k_is); (case z_bool => k_is); (case z_enumerate => k_is); (case z_int => k_is); (case z_isinstance => k_is); (case z_len => k_is); (case z_list => k_is); (case z_range => k_is); (case z_tuple => k_is); (case y_PRIME => k_is); (case y_LONGEST => k_is); (case at_WireError => k_is); (case at_NoText => k_is); (case at_NoThing => k_is); (case at_NoTurn => k_is); (case at_NoBytes => k_is); (case xl_NoBytes => k_is); (case sa_NoBytes => k_is); (case eC_NoBytes => k_is); (case tC_NoBytes => k_is); (case kC_NoBytes => k_is); (case ga_NoBytes => k_is); (case gg_NoBytes => k_is); (case hd_NoBytes => k_is); (case ic_NoBytes => k_is); (case ha_NoBytes => k_is); (case hn_NoBytes => k_is); (case ht_NoBytes => k_is); (case hm_NoBytes => k_is); (case no_NoBytes_why => k_is); (case kit_NoBytes_WireError => kit_is); (case kit_NoBytes_ValueError => kit_is); (case eC_NoText => k_is); (case tC_NoText => k_is); (case hd_NoText => k_is); (case sub_NoBytes_NoText => first | rfl | k_is); (case eC_NoThing => k_is); (case tC_NoThing => k_is); (case hd_NoThing => k_is); (case sub_NoBytes_NoThing => first | rfl | k_is); (case eC_NoTurn => k_is); (case tC_NoTurn => k_is); (case hd_NoTurn => k_is); (case sub_NoBytes_NoTurn => first | rfl | k_is); (case sub_NoBytes_NoBytes => first | rfl | k_is); (case eC_WireError => k_is); (case tC_WireError => k_is); (case hd_WireError => k_is); (case sub_NoBytes_WireError => first | rfl | k_is); (case c_pg => k_is); (case c_hd => k_is); (case c_po => k_is); (case c_sa => k_is); (case c_nheld => k_is); (case c_nplace => k_is); (case c_mk => k_is); (case c_kc => k_is); (case a_NoBytes___init__ => k_is); (case i_NoBytes___init__ => k_is); (case l_NoBytes___init__ => k_is); (case q_NoBytes___init__ => k_is); (case k_NoBytes___init__ => k_is); (case a_is_bytes => k_is); (case l_is_bytes => k_is); (case q_is_bytes => k_is); (case k_is_bytes => k_is); (case a_checked => k_is); (case l_checked => k_is); (case q_checked => k_is); (case k_checked => k_is); (case a_in_runs => k_is); (case l_in_runs => k_is); (case q_in_runs => k_is); (case k_in_runs => k_is); (case a_out_of_runs => k_is); (case l_out_of_runs => k_is); (case q_out_of_runs => k_is); (case k_out_of_runs => k_is); (case a_piece_told => k_is); (case l_piece_told => k_is); (case q_piece_told => k_is); (case k_piece_told => k_is); (case a_streamed => k_is); (case l_streamed => k_is); (case q_streamed => k_is); (case k_streamed => k_is); (case a_Feeder___init__ => k_is); (case i_Feeder___init__ => k_is); (case l_Feeder___init__ => k_is); (case q_Feeder___init__ => k_is); (case k_Feeder___init__ => k_is); (case a_Feeder_feed => k_is); (case i_Feeder_feed => k_is); (case l_Feeder_feed => k_is); (case q_Feeder_feed => k_is); (case k_Feeder_feed => k_is); (case a_Feeder_done => k_is); (case i_Feeder_done => k_is); (case l_Feeder_done => k_is); (case q_Feeder_done => k_is); (case k_Feeder_done => k_is); (case a_unstreamed => k_is); (case l_unstreamed => k_is); (case q_unstreamed => k_is); (case k_unstreamed => k_is); (case a_law_take => k_is); (case l_law_take => k_is); (case q_law_take => k_is); (case k_law_take => k_is); (case a_law_wrong => k_is); (case l_law_wrong => k_is); (case q_law_wrong => k_is); (case k_law_wrong => k_is); (case a_law_refused => k_is); (case l_law_refused => k_is); (case q_law_refused => k_is); (case k_law_refused => k_is); (case a_law_any_refusal => k_is); (case l_law_any_refusal => k_is); (case q_law_any_refusal => k_is); (case k_law_any_refusal => k_is); (case a_law => k_is); (case l_law => k_is); (case q_law => k_is); (case k_law => k_is); (case za => k_is); (case zl => k_is); (case zq => k_is); (case zk => k_is); (case zn => rfl); (case zc => kernel_rfl)
