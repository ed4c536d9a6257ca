import PyProof.Rows.All
import Wide.All
import OpenK.AllK
import Wide.FinOn
import PyProof.EqAt
import PyProof.EqKinds
import PyProof.P3Eq
import PyProof.TupleCall
import HandS.ForMost
import HandS.Style
import HandS.TupMul
import HandS.Conv
import HandS.EndBits
import HandS.IsInst
import HandS.Walk
import HandS.Wide
import HandS.Flow
import KE.GoesEnumKw
import KE.GoesNew
import PySem.Challenge.RW_thingwires_k50_streams_told
set_option Elab.async false
set_option linter.all false
set_option maxRecDepth 100000
set_option maxHeartbeats 4000000
/-! Kb: joined rules (one rule a construct, whatever the kind of value), what a def of the text promises (Cal), heaps that keep all but some places -/
namespace Kb
open PySem PySem.Spec PyProof.Rows L2

/-! ### joined operators: each reading is opened by its own lemmas alone -/
@[irreducible] def rAddU (K : PySem.W.Frag) : R2 := fun x y H Q => rI0 (fun i j => .int (i + j)) x y H Q ∨ (∃ i j, x = .str i ∧ y = .str j ∧ i.length + j.length ≤ sizeLine ∧ Q (.str (i ++ j)) H) ∨ rCat x y H Q ∨ rCatT K x y H Q
@[irreducible] def rSubU : R2 := rI0 fun i j => .int (i - j)
@[irreducible] def rMulU (K : PySem.W.Frag) : R2 := fun x y H Q => rI CMul (fun i j => .int (i * j)) x y H Q ∨ rRep x y H Q ∨ rRepT K x y H Q
@[irreducible] def rDivU : R2 := rI CDiv fun i j => .int (i / j)
@[irreducible] def rDivW : R2 := rI CDivW fun i j => .int (i / j)
@[irreducible] def rModU : R2 := rI (fun _ j => 0 < j) fun i j => .int (i % j)
@[irreducible] def rPowU : R2 := rI CPow fun i j => .int (i ^ j.toNat)
@[irreducible] def rEqU (K : PySem.W.Frag) : R2 := fun x y H Q => rEq x y H Q ∨ rEqD K x y H Q
@[irreducible] def rNeU (K : PySem.W.Frag) : R2 := fun x y H Q => rNe x y H Q ∨ rNeD K x y H Q
@[irreducible] def rLtU : R2 := fun x y H Q => rI0 (fun i j => .bl (decide (i < j))) x y H Q ∨ ∃ i j, x = .str i ∧ y = .str j ∧ Q (.bl (decide (i.cps.toList < j.cps.toList))) H
@[irreducible] def rLeU : R2 := rI0 fun i j => .bl (decide (i ≤ j))
@[irreducible] def rGtU : R2 := fun x y H Q => rI0 (fun i j => .bl (decide (j < i))) x y H Q ∨ ∃ i j, x = .str i ∧ y = .str j ∧ Q (.bl (decide (j.cps.toList < i.cps.toList))) H
@[irreducible] def rGeU : R2 := rI0 fun i j => .bl (decide (j ≤ i))
@[irreducible] def rIsNU : R2 := fun x y H Q => y = .non ∧ Q (.bl (decide (x = .non))) H
@[irreducible] def rNotNU : R2 := fun x y H Q => y = .non ∧ Q (.bl (!decide (x = .non))) H
@[irreducible] def rInU (K : PySem.W.Frag) : R2 := fun x y H Q => (∃ (c : Nat) (z : Str), x = .str ⟨#[c]⟩ ∧ y = .str z ∧ Q (.bl (decide (c ∈ z.cps.toList))) H) ∨ rIn K false x y H Q
@[irreducible] def rNotInU (K : PySem.W.Frag) : R2 := fun x y H Q => (∃ (c : Nat) (z : Str), x = .str ⟨#[c]⟩ ∧ y = .str z ∧ Q (.bl (!decide (c ∈ z.cps.toList))) H) ∨ rIn K true x y H Q
@[irreducible] def rIxU (K : PySem.W.Frag) : R2 := rIx K
@[irreducible] def rSetU : V → V → V → Hp → (Hp → Prop) → Prop := rSetL
@[irreducible] def rIAddU : R2 := fun x y H Q => rI0 (fun i j => .int (i + j)) x y H Q ∨ (∃ i j, x = .str i ∧ y = .str j ∧ i.length + j.length ≤ sizeLine ∧ Q (.str (i ++ j)) H) ∨ rExt2 x y H Q
@[irreducible] def rISubU : R2 := rI0 fun i j => .int (i - j)
@[irreducible] def rIModU : R2 := rI (fun _ j => 0 < j) fun i j => .int (i % j)
@[irreducible] def rNegU : V → Hp → VK → Prop := rU fun i => .int (-i)
section
variable {X : Cx}
theorem u_add : OpR X (binaryOp .Add) (rAddU X.K) := by unfold rAddU; exact op_add.or (op_add_str.or (op_cat.or op_catT))
theorem u_sub : OpR X (binaryOp .Sub) rSubU := by unfold rSubU; exact op_sub
theorem u_mul : OpR X (binaryOp .Mult) (rMulU X.K) := by unfold rMulU; exact op_mul.or (op_rep.or op_repT)
theorem u_div : OpR X (binaryOp .FloorDiv) rDivU := by unfold rDivU; exact op_fdiv
theorem u_mod : OpR X (binaryOp .Mod) rModU := by unfold rModU; exact op_mod
theorem u_pow : OpR X (binaryOp .Pow) rPowU := by unfold rPowU; exact op_pow
theorem u_eq (hu : X.A.units + 64 < cLine) : OpR X (compareOp .Eq) (rEqU X.K) := by unfold rEqU; exact op_eq.or (op_eqD hu)
theorem u_ne (hu : X.A.units + 64 < cLine) : OpR X (compareOp .NotEq) (rNeU X.K) := by unfold rNeU; exact op_ne.or (op_neD hu)
theorem u_lt : OpR X (compareOp .Lt) rLtU := by unfold rLtU; exact op_lt.or op_lt_str
theorem u_le : OpR X (compareOp .LtE) rLeU := by unfold rLeU; exact op_le
theorem u_gt : OpR X (compareOp .Gt) rGtU := by unfold rGtU; exact op_gt.or op_gt_str
theorem u_ge : OpR X (compareOp .GtE) rGeU := by unfold rGeU; exact op_ge
theorem u_isN : OpR X (compareOp .Is) rIsNU := by unfold rIsNU; exact op_isN
theorem u_notN : OpR X (compareOp .IsNot) rNotNU := by unfold rNotNU; exact op_notN
theorem u_in : OpR X (compareOp .In) (rInU X.K) := by unfold rInU; exact op_in_sign.or op_in_seq
theorem u_notIn : OpR X (compareOp .NotIn) (rNotInU X.K) := by unfold rNotInU; exact op_notIn_sign.or op_notIn_seq
theorem u_ix : IxR X (rIxU X.K) := by unfold rIxU; exact ix_seq
theorem u_set : PSet X rSetU := by unfold rSetU; exact set_list
theorem u_iadd : PIp X .Add rIAddU := by unfold rIAddU; exact iop_add.or (iop_add_str.or iop_ext)
theorem u_isub : PIp X .Sub rISubU := by unfold rISubU; exact iop_sub
theorem u_imod : PIp X .Mod rIModU := by unfold rIModU; exact iop_mod
theorem u_neg : UnR X (unaryOp .USub) rNegU := by unfold rNegU; exact un_neg
end
theorem sz_of' {n : Nat} (h : n ≤ 16777216) : n ≤ sizeLine := Nat.le_trans h (by decide)
theorem szlt_of {n : Nat} (h : n < 16777216) : n < sizeLine := Nat.lt_of_lt_of_le h (by decide)
theorem cmul_l {i j : Int} (a : -18446744073709551616 < i) (b : i < 18446744073709551616) : CMul i j := .inl ⟨a, b⟩
theorem cmul_r {i j : Int} (a : -18446744073709551616 < j) (b : j < 18446744073709551616) : CMul i j := .inr ⟨a, b⟩
section
variable {K : PySem.W.Frag} {H : Hp} {Q : VK} {i j : Int} {x y : V} {a b : Addr} {xs ys : List V}
theorem add_go (q : Q (.int (i + j)) H) : rAddU K (.int i) (.int j) H Q := by unfold rAddU; exact .inl ⟨_, _, rfl, rfl, q⟩
theorem addS_go {u v : Str} (h : u.length + v.length ≤ 16777216) (q : Q (.str (u ++ v)) H) : rAddU K (.str u) (.str v) H Q := by unfold rAddU; exact .inr (.inl ⟨_, _, rfl, rfl, sz_of' h, q⟩)
theorem addL_go (ha : H a = some (.lst xs)) (hb : H b = some (.lst ys)) (h : xs.length + ys.length ≤ 16777216) (q : ∀ p, H p = none → Q (.ref p) (upd H p (.lst (xs ++ ys)))) : rAddU K (.ref a) (.ref b) H Q := by
  unfold rAddU; exact .inr (.inr (.inl ⟨_, _, _, _, rfl, rfl, ha, hb, sz_of' h, q⟩))
theorem addT_go (ha : SqT K H a xs) (hb : SqT K H b ys) (h0 : xs ≠ []) (h : xs.length + ys.length ≤ 16777216) (q0 : ys = [] → Q (.ref a) H) (q : ys ≠ [] → ∀ p, H p = none → Q (.ref p) (upd H p (.tup (xs ++ ys)))) : rAddU K (.ref a) (.ref b) H Q := by
  unfold rAddU; exact .inr (.inr (.inr ⟨_, _, _, _, rfl, rfl, ha, hb, h0, sz_of' h, q0, q⟩))
theorem sub_go (q : Q (.int (i - j)) H) : rSubU (.int i) (.int j) H Q := by unfold rSubU; exact ⟨_, _, rfl, rfl, q⟩
theorem mul_goL (a : -18446744073709551616 < i) (b : i < 18446744073709551616) (q : Q (.int (i * j)) H) : rMulU K (.int i) (.int j) H Q := by unfold rMulU; exact .inl ⟨_, _, rfl, rfl, cmul_l a b, q⟩
theorem mul_goR (a : -18446744073709551616 < j) (b : j < 18446744073709551616) (q : Q (.int (i * j)) H) : rMulU K (.int i) (.int j) H Q := by unfold rMulU; exact .inl ⟨_, _, rfl, rfl, cmul_r a b, q⟩
theorem rep_go (ha : H a = some (.lst xs)) (h0 : -9223372036854775808 ≤ i) (h1 : i < 9223372036854775808) (h : xs.length * i.toNat ≤ 16777216) (q : ∀ p, H p = none → Q (.ref p) (upd H p (.lst (List.replicate i.toNat xs).flatten))) : rMulU K (.ref a) (.int i) H Q := by
  unfold rMulU; exact .inr (.inl ⟨_, _, _, rfl, rfl, ha, h0, h1, sz_of' h, q⟩)
theorem div_go (a : 0 < j) (b : j < 1073741824) (q : Q (.int (i / j)) H) : rDivU (.int i) (.int j) H Q := by unfold rDivU; exact ⟨_, _, rfl, rfl, ⟨a, b⟩, q⟩
theorem divW_go (h : CDivW i j) (q : Q (.int (i / j)) H) : rDivW (.int i) (.int j) H Q := by unfold rDivW; exact ⟨_, _, rfl, rfl, h, q⟩
theorem mod_go (a : 0 < j) (q : Q (.int (i % j)) H) : rModU (.int i) (.int j) H Q := by unfold rModU; exact ⟨_, _, rfl, rfl, a, q⟩
theorem pow_go (a : 0 ≤ j) (b : j ≤ 1000000) (c : i.natAbs < 2 ^ 64) (q : Q (.int (i ^ j.toNat)) H) : rPowU (.int i) (.int j) H Q := by unfold rPowU; exact ⟨_, _, rfl, rfl, ⟨a, b, c⟩, q⟩
theorem neg_go (q : Q (.int (-i)) H) : rNegU (.int i) H Q := by unfold rNegU; exact ⟨_, rfl, q⟩
theorem dInt : decide (V.int i = V.int j) = decide (i = j) := by simp
theorem dStr {u v : Str} : decide (V.str u = V.str v) = decide (u = v) := by simp
theorem dBl {u v : Bool} : decide (V.bl u = V.bl v) = decide (u = v) := by simp
theorem eq_go (q : Q (.bl (decide (i = j))) H) : rEqU K (.int i) (.int j) H Q := by unfold rEqU; exact .inl ⟨rfl, by rw [dInt]; exact q⟩
theorem eqS_go {u v : Str} (q : Q (.bl (decide (u = v))) H) : rEqU K (.str u) (.str v) H Q := by unfold rEqU; exact .inl ⟨rfl, by rw [dStr]; exact q⟩
theorem eqB_go {u v : Bool} (q : Q (.bl (decide (u = v))) H) : rEqU K (.bl u) (.bl v) H Q := by unfold rEqU; exact .inl ⟨rfl, by rw [dBl]; exact q⟩
theorem eqN_go (q : Q (.bl true) H) : rEqU K .non .non H Q := by unfold rEqU; exact .inl ⟨rfl, q⟩
theorem eqD_go {d e : PyData} (hx : Dp K H x d) (hy : Dp K H y e) (sx : SeqAt.shaped d = true) (sy : SeqAt.shaped e = true) (q : Q (.bl (PyData.eqv d e)) H) : rEqU K x y H Q := by unfold rEqU; exact .inr ⟨d, e, hx, hy, sx, sy, q⟩
theorem ne_go (q : Q (.bl (!decide (i = j))) H) : rNeU K (.int i) (.int j) H Q := by unfold rNeU; exact .inl ⟨rfl, by rw [dInt]; exact q⟩
theorem neS_go {u v : Str} (q : Q (.bl (!decide (u = v))) H) : rNeU K (.str u) (.str v) H Q := by unfold rNeU; exact .inl ⟨rfl, by rw [dStr]; exact q⟩
theorem neB_go {u v : Bool} (q : Q (.bl (!decide (u = v))) H) : rNeU K (.bl u) (.bl v) H Q := by unfold rNeU; exact .inl ⟨rfl, by rw [dBl]; exact q⟩
theorem neD_go {d e : PyData} (hx : Dp K H x d) (hy : Dp K H y e) (sx : SeqAt.shaped d = true) (sy : SeqAt.shaped e = true) (q : Q (.bl (!PyData.eqv d e)) H) : rNeU K x y H Q := by unfold rNeU; exact .inr ⟨d, e, hx, hy, sx, sy, q⟩
theorem lt_go (q : Q (.bl (decide (i < j))) H) : rLtU (.int i) (.int j) H Q := by unfold rLtU; exact .inl ⟨_, _, rfl, rfl, q⟩
theorem ltS_go {u v : Str} (q : Q (.bl (decide (u.cps.toList < v.cps.toList))) H) : rLtU (.str u) (.str v) H Q := by unfold rLtU; exact .inr ⟨_, _, rfl, rfl, q⟩
theorem le_go (q : Q (.bl (decide (i ≤ j))) H) : rLeU (.int i) (.int j) H Q := by unfold rLeU; exact ⟨_, _, rfl, rfl, q⟩
theorem gt_go (q : Q (.bl (decide (j < i))) H) : rGtU (.int i) (.int j) H Q := by unfold rGtU; exact .inl ⟨_, _, rfl, rfl, q⟩
theorem gtS_go {u v : Str} (q : Q (.bl (decide (v.cps.toList < u.cps.toList))) H) : rGtU (.str u) (.str v) H Q := by unfold rGtU; exact .inr ⟨_, _, rfl, rfl, q⟩
theorem ge_go (q : Q (.bl (decide (j ≤ i))) H) : rGeU (.int i) (.int j) H Q := by unfold rGeU; exact ⟨_, _, rfl, rfl, q⟩
theorem isN_go (q : Q (.bl (decide (x = .non))) H) : rIsNU x .non H Q := by unfold rIsNU; exact ⟨rfl, q⟩
theorem notN_go (q : Q (.bl (!decide (x = .non))) H) : rNotNU x .non H Q := by unfold rNotNU; exact ⟨rfl, q⟩
theorem inC_go {c : Nat} {z : Str} (q : Q (.bl (decide (c ∈ z.cps.toList))) H) : rInU K (.str ⟨#[c]⟩) (.str z) H Q := by unfold rInU; exact .inl ⟨_, _, rfl, rfl, q⟩
theorem inL_go (h : SqL K H a xs) (fx : flatV x = true) (fs : xs.all flatV = true) (q : Q (.bl (inV x xs)) H) : rInU K x (.ref a) H Q := by unfold rInU; exact .inr ⟨_, _, rfl, .inl h, fx, fs, q⟩
theorem inT_go (h : SqT K H a xs) (fx : flatV x = true) (fs : xs.all flatV = true) (q : Q (.bl (inV x xs)) H) : rInU K x (.ref a) H Q := by unfold rInU; exact .inr ⟨_, _, rfl, .inr h, fx, fs, q⟩
theorem notInC_go {c : Nat} {z : Str} (q : Q (.bl (!decide (c ∈ z.cps.toList))) H) : rNotInU K (.str ⟨#[c]⟩) (.str z) H Q := by unfold rNotInU; exact .inl ⟨_, _, rfl, rfl, q⟩
theorem notInL_go (h : SqL K H a xs) (fx : flatV x = true) (fs : xs.all flatV = true) (q : Q (.bl (!inV x xs)) H) : rNotInU K x (.ref a) H Q := by unfold rNotInU; exact .inr ⟨_, _, rfl, .inl h, fx, fs, q⟩
theorem ixL_go (h : SqL K H a xs) (e : atI xs i = some x) (q : Q x H) : rIxU K (.ref a) (.int i) H Q := by unfold rIxU; exact .inl ⟨_, _, _, _, rfl, rfl, h, e, q⟩
theorem ixT_go (h : SqT K H a xs) (e : atI xs i = some x) (q : Q x H) : rIxU K (.ref a) (.int i) H Q := by unfold rIxU; exact .inr (.inl ⟨_, _, _, _, rfl, rfl, h, e, q⟩)
theorem ixS_go {z : Str} {c : Nat} (h : z.length ≤ 16777216) (e : atI z.cps.toList i = some c) (q : Q (.str ⟨#[c]⟩) H) : rIxU K (.str z) (.int i) H Q := by unfold rIxU; exact .inr (.inr ⟨_, _, _, rfl, rfl, sz_of' h, e, q⟩)
theorem set_go {k : Nat} {Q : Hp → Prop} (h : H a = some (.lst xs)) (e : ixN xs.length i = some k) (q : Q (upd H a (.lst (xs.set k x)))) : rSetU (.ref a) (.int i) x H Q := by unfold rSetU; exact ⟨_, _, _, _, rfl, rfl, h, e, q⟩
theorem iadd_go (q : Q (.int (i + j)) H) : rIAddU (.int i) (.int j) H Q := by unfold rIAddU; exact .inl ⟨_, _, rfl, rfl, q⟩
theorem iaddS_go {u v : Str} (h : u.length + v.length ≤ 16777216) (q : Q (.str (u ++ v)) H) : rIAddU (.str u) (.str v) H Q := by unfold rIAddU; exact .inr (.inl ⟨_, _, rfl, rfl, sz_of' h, q⟩)
theorem iaddL_go (ha : H a = some (.lst xs)) (hb : H b = some (.lst ys)) (h : xs.length + ys.length ≤ 16777216) (q : Q (.ref a) (upd H a (.lst (xs ++ ys)))) : rIAddU (.ref a) (.ref b) H Q := by
  unfold rIAddU; exact .inr (.inr ⟨_, _, _, _, rfl, rfl, ha, hb, sz_of' h, q⟩)
theorem isub_go (q : Q (.int (i - j)) H) : rISubU (.int i) (.int j) H Q := by unfold rISubU; exact ⟨_, _, rfl, rfl, q⟩
theorem imod_go (a : 0 < j) (q : Q (.int (i % j)) H) : rIModU (.int i) (.int j) H Q := by unfold rIModU; exact ⟨_, _, rfl, rfl, a, q⟩
end

/-! ### names of the module -/
section
variable {X : Cx} {x : Str} {pos : Pos}
theorem pe_gint {i : Int} (hg : Gl X x) (hm : ∃ t, X.mg x = some (.int i t)) (hd : (x == ("__debug__" : Str)) = false := by decide) : PE X (.Name x pos) (tC (.int i)) := by
  obtain ⟨t, hm⟩ := hm
  exact pe_glob hg hm ⟨t, rfl⟩ hd
theorem pe_gstr {i : Str} (hg : Gl X x) (hm : ∃ t, X.mg x = some (.str i t)) (hd : (x == ("__debug__" : Str)) = false := by decide) : PE X (.Name x pos) (tC (.str i)) := by
  obtain ⟨t, hm⟩ := hm
  exact pe_glob hg hm ⟨t, rfl⟩ hd
end

/-! ### defs of the text -/
def Def (K : PySem.W.Frag) (mg : Str → Option Value) (st : Stmt) (x : Str) : Prop := ∃ f fd, mg x = some (.ref f) ∧ Fun K x x st f fd
def FdAt (K : PySem.W.Frag) (f : Addr) (fd : FuncData) : Prop := ∃ oc od osl, K.lookup f = some ⟨oc, od, .func fd, osl⟩
theorem FdAt.eq {K : PySem.W.Frag} {f : Addr} {fd fd' : FuncData} (a : FdAt K f fd) (b : FdAt K f fd') : fd = fd' := by
  obtain ⟨_, _, _, a⟩ := a
  obtain ⟨_, _, _, b⟩ := b
  rw [a] at b
  cases b
  rfl
theorem Fun.at_ {K : PySem.W.Frag} {x qual : Str} {st : Stmt} {f : Addr} {fd : FuncData} (F : Fun K x qual st f fd) : FdAt K f fd := by
  obtain ⟨oc, od, kV, doc, pm, an, cdv, ct, osl, rfl, lk, hcd⟩ := F.ex
  exact ⟨oc, od, osl, lk⟩
/-- the def x of the module keeps the promise sp -/
structure Cal (P : Program) (w : World) (K : PySem.W.Frag) (mg : Str → Option Value) (base : Heap) (CX : CXT) (k : Nat) (x : Str) (ps : List Str) (sp : Sp) : Prop where
  ex : ∃ f fd, mg x = some (.ref f) ∧ FnOk P w K mg base CX k f fd ps sp ∧ PySem.W.keepIn K (.ref f) = true ∧ (∀ us : List Value, us.length = ps.length → bindArgs fd ⟨us, []⟩ = pure (ps.zip us)) ∧ FdAt K f fd
section
variable {P : Program} {w : World} {K : PySem.W.Frag} {mg : Str → Option Value} {base : Heap}
theorem Cal.of {x : Str} {st : Stmt} {N ps : List Str} {k : Nat} {sp : Sp} (D : Def K mg st x) (S : FnScope N ps (defScope st))
    (hb : ∀ (kV doc pm : Value) (an : Option Addr) (cdv ct : Value) (us : List Value), us.length = ps.length → bindArgs (PySem.W.fnOf x x (defArgs st) (defBody st) (defScope st) .none kV doc pm an cdv ct) ⟨us, []⟩ = pure (ps.zip us))
    (len : ∀ vs H Q E, sp vs H Q E → vs.length = ps.length)
    (hbody : ∀ (f : Addr) (cdv : Value) (A : Around) (outer : List Env) (s : Shared) (H : Hp) (vs : List V) (Q : VK) (E : XK), Room k (A.deeper (envOfC x (defScope st) s.heap.objs.size f cdv)) → sp vs H Q E →
      ∃ t, PSs (cxOf CX0 P w K mg base N x (defScope st) f cdv A outer s H E).nox (defBody st) t ∧ t { nx := fun _ H' => Q .non H', rt := Q } (start N vs) H) : Cal P w K mg base CX0 (k + 1) x ps sp := by
  obtain ⟨f, fd, hm, F⟩ := D
  refine ⟨f, fd, hm, F.ok S len (hbody f), F.kp, ?_, Fun.at_ F⟩
  obtain ⟨oc, od, kV, doc, pm, an, cdv, ct, osl, rfl, lk, hcd⟩ := F.ex
  exact hb kV doc pm an cdv ct
theorem Cal.bound {CX : CXT} {k : Nat} {x : Str} {ps : List Str} {sp : Sp} (C : Cal P w K mg base CX k x ps sp) : ∃ f fd, mg x = some (.ref f) ∧ FnOk P w K mg base CX k f fd ps sp ∧ PySem.W.keepIn K (.ref f) = true ∧ Binds K fd ps [] := by
  obtain ⟨f, fd, a, b, c, d, _⟩ := C.ex
  exact ⟨f, fd, a, b, c, .all d⟩
theorem Cal.end_ {x y : Str} {st : Stmt} {k : Nat} {sp : Sp} {fa : Addr} (D : Def K mg st x) (C : ∀ base : Heap, Cal P w K mg base CX0 k x [y] sp) (h : mg x = some (.ref fa)) :
    ∃ fd : FuncData, (∀ (s : Shared) (v : Value), BindsTo s fd ⟨[v], []⟩ [(y, v)]) ∧ ∀ base : Heap, K.In base → base.Ns mainGlobals mg → FnOk P w K mg base CX0 k fa fd [y] sp := by
  obtain ⟨f, fd, hm, F⟩ := D
  have e := h.symm.trans hm
  cases e
  have key : ∀ base : Heap, FnOk P w K mg base CX0 k fa fd [y] sp ∧ ∀ us : List Value, us.length = [y].length → bindArgs fd ⟨us, []⟩ = pure ([y].zip us) := fun base => by
    obtain ⟨f', fd', hm', G, _, hb, hA⟩ := (C base).ex
    have e := hm'.symm.trans hm
    cases e
    have e2 := hA.eq (Fun.at_ F)
    subst e2
    exact ⟨G, hb⟩
  exact ⟨fd, fun s v => .of_eq ((key default).2 [v] rfl), fun base _ _ => (key base).1⟩
end
section
variable {X : Cx} {CX : CXT} {k : Nat} {x : Str} {ps : List Str} {sp : Sp} {E : XK} {e : Expr} {es : List Expr} {t : TA} {p pos : Pos}
theorem pe_callC (C : Cal X.prog X.w X.K X.mg X.base CX k x ps sp) (hr : Room k X.A) (hg : Gl X x) (hx : Passes CX X E)
    (ha : PA X (e :: es) t) (hdb : (x == ("__debug__" : Str)) = false := by decide) (he : starEach (e :: es) X.env = (false, eval e X.env) :: starEach es X.env := by rfl) (hpl : (backTo pos (starEach es X.env)).any (·.1) = false := by rfl) :
    PE X (.Call (.Name x p) (e :: es) [] pos) (tCall sp [] E t) := by
  obtain ⟨f, fd, hm, F, hk, hb⟩ := C.bound
  exact pe_call F hr hg hm hk hb .nil hx ha hdb he hpl
theorem pe_callC0 (C : Cal X.prog X.w X.K X.mg X.base CX k x ps sp) (hr : Room k X.A) (hg : Gl X x) (hx : Passes CX X E)
    (hdb : (x == ("__debug__" : Str)) = false := by decide) : PE X (.Call (.Name x p) [] [] pos) (tCall sp [] E tNil) := by
  obtain ⟨f, fd, hm, F, hk, hb⟩ := C.bound
  exact pe_call0 F hr hg hm hk hb .nil hx hdb
/-- f(k = v): all by names -/
theorem pe_callK0 {f : Addr} {fd : FuncData} {ks : List Str} {g : List Value → List Value → List Value} {gV : List V → List V → List V} {kws : List Keyword} {tk : TA} (F : FnOk X.prog X.w X.K X.mg X.base CX k f fd ps sp) (hr : Room k X.A) (hg : Gl X x) (hm : X.mg x = some (.ref f)) (hk : PySem.W.keepIn X.K (.ref f) = true) (hb : KBinds X.K fd ps ks g gV) (hx : Passes CX X E)
    (hkw : PK X kws tk) (hall : (backToKw pos (keywordEach kws X.env)).all (·.1.isSome) = true := by rfl) (hks : (backToKw pos (keywordEach kws X.env)).filterMap (·.1) = ks := by rfl)
    (hdb : (x == ("__debug__" : Str)) = false := by decide)
    (hpl : ((backTo pos (starEach [] X.env)).any (·.1) || (backToKw pos (keywordEach kws X.env)).any (·.1.isNone)) = false := by rfl) :
    PE X (.Call (.Name x p) [] kws pos) (tCallK sp gV E tNil tk) := by
  refine ⟨fun pins s σ H Q I h => ?_⟩
  refine wpAny_Call_Name_kw (ld_glob I hg hm ?_ hdb)
  refine PySem.W.callWith_KW0 (h₀ := X.base) I.ok.mod.kin hk hall ?_ hpl
  have h : tk σ H fun zs H2 => sp (gV [] zs) H2 Q E := h
  refine thn (hkw.run pos pins s σ H _ I h) fun ws s2 ⟨zs, H2, I2, rz, q2⟩ => ⟨I2.kIn, ?_⟩
  rw [hks]
  exact run_fnk (us := []) (vs := []) F hr hb hx I2 .nil rz q2
end

/-! ### joined calls of built-ins -/
@[irreducible] def rLenU (K : PySem.W.Frag) : List V → Hp → VK → Prop := fun xs H Q => (∃ x n, xs = [x] ∧ LenV K x H n ∧ Q (.int n) H) ∨ ∃ a kvs, xs = [V.ref a] ∧ H a = some (.dK kvs) ∧ Q (.int kvs.length) H
@[irreducible] def rIsiU (K : PySem.W.Frag) : List V → Hp → VK → Prop := fun xs H Q => rIsi K xs H Q ∨ rIsiT K xs H Q
@[irreducible] def rIntU : List V → Hp → VK → Prop := fun xs H Q => (∃ i, xs = [.int i] ∧ Q (.int i) H) ∨ ∃ k, xs = [.bl k] ∧ Q (.int (if k then 1 else 0)) H
@[irreducible] def rBoolU : List V → Hp → VK → Prop := fun xs H Q => (∃ i, xs = [.int i] ∧ Q (.bl (i != 0)) H) ∨ ∃ k, xs = [.bl k] ∧ Q (.bl k) H
@[irreducible] def rAbsU : List V → Hp → VK → Prop := fun xs H Q => ∃ i, xs = [.int i] ∧ Q (.int (if i < 0 then -i else i)) H
@[irreducible] def rOrdU : List V → Hp → VK → Prop := fun xs H Q => ∃ x, xs = [.str x] ∧ x.length = 1 ∧ Q (.int (x.cps.getD 0 0 : Nat)) H
@[irreducible] def rListU (K : PySem.W.Frag) : List V → Hp → VK → Prop := fun xs H Q => ∃ p ys, xs = [.ref p] ∧ (SqL K H p ys ∨ SqT K H p ys) ∧ ∀ l, H l = none → Q (.ref l) (upd H l (.lst ys))
@[irreducible] def rTupleU (K : PySem.W.Frag) : List V → Hp → VK → Prop := fun xs H Q => ∃ p ys, xs = [.ref p] ∧ ((SqL K H p ys ∧ ∀ l, H l = none → Q (.ref l) (upd H l (.tup ys))) ∨ (SqT K H p ys ∧ Q (.ref p) H))
@[irreducible] def rAllU (K : PySem.W.Frag) : List V → Hp → VK → Prop := rAll K
@[irreducible] def rAnyU (K : PySem.W.Frag) : List V → Hp → VK → Prop := rAny K
@[irreducible] def rSumU (K : PySem.W.Frag) : List V → Hp → VK → Prop := rSum K
@[irreducible] def rAppU : V → List V → Hp → VK → Prop := rAppend
@[irreducible] def rPopU : V → List V → Hp → VK → Prop := fun x vs H Q => rPop x vs H Q ∨ rPopAt x vs H Q
@[irreducible] def rExtU : V → List V → Hp → VK → Prop := rExtend
@[irreducible] def rSlLU (K : PySem.W.Frag) : V → Option Int → Option Int → Hp → VK → Prop := rSlL K
@[irreducible] def rSlSU : V → Option Int → Option Int → Hp → VK → Prop := rSlS
@[irreducible] def rSlTU (K : PySem.W.Frag) : V → Option Int → Option Int → Hp → VK → Prop := rSlT K
section
variable {X : Cx}
theorem CallR.or {f : Value} {r r' : List V → Hp → VK → Prop} (h : CallR X f r) (h' : CallR X f r') : CallR X f (fun xs H Q => r xs H Q ∨ r' xs H Q) := by
  intro pins s σ H xs us Q I r q
  rcases q with q | q
  · exact h pins s σ H xs us Q I r q
  · exact h' pins s σ H xs us Q I r q
theorem MtR.or {id : String} {r r' : V → List V → Hp → VK → Prop} (h : MtR X id r) (h' : MtR X id r') : MtR X id (fun x xs H Q => r x xs H Q ∨ r' x xs H Q) := by
  intro pins s σ H x xs v us Q I rx rs q
  rcases q with q | q
  · exact h pins s σ H x xs v us Q I rx rs q
  · exact h' pins s σ H x xs v us Q I rx rs q
theorem u_len : CallR X (.builtin "len") (rLenU X.K) := by unfold rLenU; exact CallR.or call_len call_lenD
theorem u_isi : CallR X (.builtin "isinstance") (rIsiU X.K) := by unfold rIsiU; exact CallR.or call_isi call_isiT
theorem u_int : CallR X (.type "int") rIntU := by unfold rIntU; exact call_int1
theorem u_bool : CallR X (.type "bool") rBoolU := by unfold rBoolU; exact call_bool1
theorem u_abs : CallR X (.builtin "abs") rAbsU := by unfold rAbsU; exact call_abs
theorem u_ord : CallR X (.builtin "ord") rOrdU := by unfold rOrdU; exact call_ord
theorem u_list : CallR X (.type "list") (rListU X.K) := by unfold rListU; exact call_list_of
theorem u_tuple : CallR X (.type "tuple") (rTupleU X.K) := by unfold rTupleU; exact call_tuple_of
theorem u_all (hc : X.calm = true) : CallR X (.builtin "all") (rAllU X.K) := by unfold rAllU; exact cr_all hc
theorem u_any (hc : X.calm = true) : CallR X (.builtin "any") (rAnyU X.K) := by unfold rAnyU; exact cr_any hc
theorem u_sum (hc : X.calm = true) : CallR X (.builtin "sum") (rSumU X.K) := by unfold rSumU; exact cr_sum hc
theorem u_append : MtR X "list.append" rAppU := by unfold rAppU; exact mt_append
theorem u_pop : MtR X "list.pop" rPopU := by unfold rPopU; exact MtR.or mt_pop mt_popAt
theorem u_extend : MtR X "list.extend" rExtU := by unfold rExtU; exact mt_extend
theorem u_slL : SlR X (rSlLU X.K) := by unfold rSlLU; exact sl_list
theorem u_slS : SlR X rSlSU := by unfold rSlSU; exact sl_str
theorem u_slT : SlR X (rSlTU X.K) := by unfold rSlTU; exact sl_tup
end
def tTru (K : PySem.W.Frag) (ta : TE) : TT := fun σ H Q => ta σ H fun x H' => ∃ k, TruV K x H' k ∧ Q k H'
def rJoin (K : PySem.W.Frag) : V → List V → Hp → VK → Prop := fun x xs H Q => ∃ a p, ∃ ys : List Str, x = .str a ∧ xs = [.ref p] ∧ (SqL K H p (ys.map V.str) ∨ SqT K H p (ys.map V.str)) ∧ (ys.map (·.length)).sum + ys.length * a.length ≤ 16777216 ∧ Q (.str (Txt.join a ys)) H
def rUpper : V → List V → Hp → VK → Prop := fun x xs H Q => ∃ a, x = .str a ∧ xs = [] ∧ a.length ≤ 5592405 ∧ Q (.str (Txt.upper a)) H
section
variable {K : PySem.W.Frag} {H : Hp} {Q : VK} {i j : Int} {x y : V} {a b : Addr} {xs ys : List V}
theorem len_str {z : Str} (h : z.length ≤ 16777216) (q : Q (.int z.length) H) : rLenU K [.str z] H Q := by unfold rLenU; exact .inl ⟨_, _, rfl, ⟨sz_of' h, rfl⟩, q⟩
theorem len_lst (h : SqL K H a xs) (q : Q (.int xs.length) H) : rLenU K [.ref a] H Q := by unfold rLenU; exact .inl ⟨_, _, rfl, .inl ⟨xs, h, rfl⟩, q⟩
theorem len_tup (h : SqT K H a xs) (q : Q (.int xs.length) H) : rLenU K [.ref a] H Q := by unfold rLenU; exact .inl ⟨_, _, rfl, .inr ⟨xs, h, rfl⟩, q⟩
theorem len_dK {kvs : List (Key × V)} (h : H a = some (.dK kvs)) (q : Q (.int kvs.length) H) : rLenU K [.ref a] H Q := by unfold rLenU; exact .inr ⟨_, _, rfl, h, q⟩
theorem isi_go {t n : String} {b : Bool} (ty : TyX K H x (.type t)) (k : PySem.W.kitOne K (.type t) (.type n) = some b) (q : Q (.bl b) H) : rIsiU K [x, .ty n] H Q := by unfold rIsiU; exact .inl ⟨x, .ty n, .type t, .type n, b, rfl, .ty n, ty, k, q⟩
theorem isi2_go {t m n : String} {b c : Bool} (hp : H a = some (.tup [.ty m, .ty n])) (ty : TyX K H x (.type t)) (k1 : PySem.W.kitOne K (.type t) (.type m) = some b) (k2 : PySem.W.kitOne K (.type t) (.type n) = some c) (q : Q (.bl (b || c)) H) : rIsiU K [x, .ref a] H Q := by
  unfold rIsiU
  refine .inr ⟨x, a, _, .type t, _, b || c, rfl, hp, .cons (.ty m) (.cons (.ty n) .nil), ty, ?_, q⟩
  refine kitAny_cons k1 (fun e => ?_) (fun e => by rw [e]; rfl)
  refine kitAny_cons k2 (fun e2 => ?_) (fun e2 => by rw [e2]; exact Bool.or_true _)
  rw [e, e2]
  exact kitAny_nil
theorem int_go (q : Q (.int i) H) : rIntU [.int i] H Q := by unfold rIntU; exact .inl ⟨_, rfl, q⟩
theorem intB_go {k : Bool} (q : Q (.int (if k then 1 else 0)) H) : rIntU [.bl k] H Q := by unfold rIntU; exact .inr ⟨_, rfl, q⟩
theorem abs_go (q : Q (.int (if i < 0 then -i else i)) H) : rAbsU [.int i] H Q := by unfold rAbsU; exact ⟨_, rfl, q⟩
theorem ord_go {c : Nat} (q : Q (.int c) H) : rOrdU [.str ⟨#[c]⟩] H Q := by unfold rOrdU; exact ⟨_, rfl, rfl, q⟩
theorem list_goL (h : SqL K H a xs) (q : ∀ l, H l = none → Q (.ref l) (upd H l (.lst xs))) : rListU K [.ref a] H Q := by unfold rListU; exact ⟨_, _, rfl, .inl h, q⟩
theorem list_goT (h : SqT K H a xs) (q : ∀ l, H l = none → Q (.ref l) (upd H l (.lst xs))) : rListU K [.ref a] H Q := by unfold rListU; exact ⟨_, _, rfl, .inr h, q⟩
theorem tuple_goL (h : SqL K H a xs) (q : ∀ l, H l = none → Q (.ref l) (upd H l (.tup xs))) : rTupleU K [.ref a] H Q := by unfold rTupleU; exact ⟨_, _, rfl, .inl ⟨h, q⟩⟩
theorem tuple_goT (h : SqT K H a xs) (q : Q (.ref a) H) : rTupleU K [.ref a] H Q := by unfold rTupleU; exact ⟨_, _, rfl, .inr ⟨h, q⟩⟩
theorem all_go {bs : List Bool} (h : SqL K H a (bs.map V.bl)) (q : Q (.bl (bs.all id)) H) : rAllU K [.ref a] H Q := by unfold rAllU; exact ⟨_, _, rfl, h, q⟩
theorem any_go {bs : List Bool} (h : SqL K H a (bs.map V.bl)) (q : Q (.bl (bs.any id)) H) : rAnyU K [.ref a] H Q := by unfold rAnyU; exact ⟨_, _, rfl, h, q⟩
theorem sum_go {ns : List Int} (h : SqL K H a (ns.map V.int)) (q : Q (.int ns.sum) H) : rSumU K [.ref a] H Q := by unfold rSumU; exact ⟨_, _, rfl, h, q⟩
theorem app_go (h : H a = some (.lst xs)) (hl : xs.length < 16777216) (q : Q .non (upd H a (.lst (xs ++ [x])))) : rAppU (.ref a) [x] H Q := by unfold rAppU; exact ⟨_, _, _, rfl, rfl, h, szlt_of hl, q⟩
theorem ext_go (h : H a = some (.lst xs)) (h2 : H b = some (.lst ys)) (hl : xs.length + ys.length ≤ 16777216) (q : Q .non (upd H a (.lst (xs ++ ys)))) : rExtU (.ref a) [.ref b] H Q := by unfold rExtU; exact ⟨_, _, _, _, rfl, rfl, h, h2, sz_of' hl, q⟩
theorem pop0_go (h : H a = some (.lst (x :: xs))) (q : Q x (upd H a (.lst xs))) : rPopU (.ref a) [.int 0] H Q := by
  unfold rPopU
  exact .inr ⟨_, _, _, 0, x, rfl, rfl, h, by decide, by decide, by
    unfold seqIndex?
    have e : (0 : Int) < ((x :: xs).length : Int) := by
      show (0 : Int) < ((xs.length + 1 : Nat) : Int)
      omega
    simp [e], rfl, q⟩
theorem popE_go (h : H a = some (.lst (xs ++ [x]))) (q : Q x (upd H a (.lst xs))) : rPopU (.ref a) [] H Q := by
  unfold rPopU
  refine .inl ⟨_, _, x, rfl, rfl, h, by simp, ?_⟩
  rw [List.dropLast_concat]
  exact q
theorem ty_lst (h : SqL K H a xs) : tyV K "list" (.ref a) H := .inl ⟨rfl, _, h⟩
theorem ty_dK {kvs : List (Key × V)} (h : H a = some (.dK kvs)) : tyV K "dict" (.ref a) H := .inr (.inr (.inl ⟨rfl, .inl ⟨_, h⟩⟩))
theorem slL_go {lo hi : Option Int} (h : SqL K H a xs) (q : ∀ p, H p = none → Q (.ref p) (upd H p (.lst (cutV xs lo hi)))) : rSlLU K (.ref a) lo hi H Q := by unfold rSlLU; exact ⟨_, _, rfl, h, q⟩
theorem slS_go {lo hi : Option Int} {z : Str} (h : z.length ≤ 16777216) (q : Q (.str (cutS z lo hi)) H) : rSlSU (.str z) lo hi H Q := by unfold rSlSU; exact ⟨_, rfl, sz_of' h, q⟩
end

/-! ### heaps -/
/-- all but the places of M is kept -/
def Kp (M : List Addr) (H H' : Hp) : Prop := ∀ a o, a ∉ M → H a = some o → H' a = some o
theorem Kp.refl {M : List Addr} {H : Hp} : Kp M H H := fun _ _ _ h => h
theorem Kp.trans {M : List Addr} {H H1 H2 : Hp} (a : Kp M H H1) (b : Kp M H1 H2) : Kp M H H2 := fun x o n h => b x o n (a x o n h)
theorem Kp.at_ {M : List Addr} {H H' : Hp} {a : Addr} {o : HO} (k : Kp M H H') (n : a ∉ M) (h : H a = some o) : H' a = some o := k a o n h
theorem Same.at_ {H H' : Hp} {a : Addr} {o : HO} (k : Same H H') (h : H a = some o) : H' a = some o := k a o h
theorem Kp.sqL {M : List Addr} {K : PySem.W.Frag} {H H' : Hp} {a : Addr} {xs : List V} (k : Kp M H H') (n : a ∉ M) (h : SqL K H a xs) : SqL K H' a xs := by
  rcases h with (h | ⟨o, h⟩) | h
  · exact .inl (.inl (k _ _ n h))
  · exact .inl (.inr ⟨o, k _ _ n h⟩)
  · exact .inr h
theorem Kp.upd_in {M : List Addr} {H H' : Hp} {a : Addr} {o : HO} (k : Kp M H H') (h : a ∈ M) : Kp M H (upd H' a o) := fun x u n e => by
  rw [upd_ne (fun z => n (by rw [z]; exact h))]
  exact k x u n e
theorem Kp.upd_new {M : List Addr} {H H' : Hp} {a : Addr} {o : HO} (k : Kp M H H') (h : H a = none) : Kp M H (upd H' a o) := fun x u n e => by
  rw [upd_ne (ne_of_none e h)]
  exact k x u n e
theorem Kp.upd_new' {M : List Addr} {H H' : Hp} {a : Addr} {o : HO} (k : Kp M H H') (h : H' a = none) : Kp M H (upd H' a o) := fun x u n e => by
  rw [upd_ne (ne_of_none (k x u n e) h)]
  exact k x u n e
theorem Kp.mono {M N : List Addr} {H H' : Hp} (k : Kp M H H') (h : ∀ a, a ∈ M → a ∈ N) : Kp N H H' := fun x u n e => k x u (fun z => n (h x z)) e
/-- what is changed was not there at first -/
theorem Kp.drop {M N : List Addr} {H H1 H2 : Hp} (k : Kp M H H1) (k2 : Kp N H1 H2) (h : ∀ a, a ∈ N → a ∈ M ∨ H a = none) : Kp M H H2 := fun x u n e => by
  refine k2 x u (fun z => ?_) (k x u n e)
  rcases h x z with q | q
  · exact n q
  · rw [e] at q
    cases q
theorem Kp.none_of {M : List Addr} {H H' : Hp} {p : Addr} (k : Kp M H H') (n : p ∉ M) (h : H' p = none) : H p = none := by
  cases q : H p with
  | none => rfl
  | some o =>
    rw [k p o n q] at h
    cases h
theorem nm_cons {a b : Addr} {M : List Addr} (h : a ≠ b) (t : a ∉ M) : a ∉ b :: M := fun z => by
  rcases List.mem_cons.mp z with e | e
  · exact h e
  · exact t e
theorem st_nx {D : Ends} {σ : L2.St} {H : Hp} (q : D.nx σ H) : tNext D σ H := q
theorem iteD {c A B : Prop} [Decidable c] (h1 : c → A) (h2 : ¬ c → B) : if decide c = true then A else B := by
  by_cases h : c
  · rw [decide_eq_true h]
    exact iteT (h1 h)
  · rw [decide_eq_false h]
    exact iteF (h2 h)
theorem Kp.of_same {M : List Addr} {H H' : Hp} (a : Same H H') : Kp M H H' := fun x o _ h => a x o h

/-! ### comprehensions: what is made so far is told -/
def Acc (D : Addr) (Pv : Nat → List V → Hp → Prop) (i : Nat) (H : Hp) : Prop := ∃ acc, acc.length ≤ i ∧ H D = some (.lst acc) ∧ Pv i acc H
theorem lc_acc {J : It} {n : Nat} {G : Hp → Prop} {Y : Nat → Hp → V → Hp → Prop} (w : Walk J n G Y) {g : TG} {tt : TT} {te : TE} {vs : List Nat} {σ : L2.St} {H1 : Hp} {D : Addr} {Qd : Hp → Prop} (Pv : Nat → List V → Hp → Prop)
    (h0 : Pv 0 [] (upd H1 D (.lst []))) (hG : ∀ i acc H, i ≤ n → Pv i acc H → G H)
    (hs : ∀ i x acc H H', i < n → acc.length ≤ i → H D = some (.lst acc) → Pv i acc H → Y i H x H' → g x (wipe σ vs) H' fun σ2 H2 => wipe σ2 vs = wipe σ vs ∧ tt σ2 H2 fun b H3 =>
      if b = true then te σ2 H3 fun y H4 => ∃ acc, H4 D = some (.lst acc) ∧ acc.length < sizeLine ∧ Acc D Pv (i + 1) (upd H4 D (.lst (acc ++ [y]))) else Acc D Pv (i + 1) H3)
    (hd : ∀ acc H, acc.length ≤ n → H D = some (.lst acc) → Pv n acc H → Qd H) :
    ∃ W : Nat → Nat → Hp → Prop, (∃ m, W 0 m (upd H1 D (.lst []))) ∧ ∀ i m H, W i m H →
      (J.stop i H ∧ Qd H) ∨ (J.go i H ∧ ∃ Nx : Hp → Prop, (∀ H', Nx H' → ∃ m', m' < m ∧ W (i + 1) m' H') ∧ ∀ x H', J.yld i H x H' → g x (wipe σ vs) H' fun σ2 H2 => wipe σ2 vs = wipe σ vs ∧ tt σ2 H2 fun b H3 =>
        if b = true then te σ2 H3 fun y H4 => ∃ acc, H4 D = some (.lst acc) ∧ acc.length < sizeLine ∧ Nx (upd H4 D (.lst (acc ++ [y]))) else Nx H3) :=
  lc_it w (Acc D Pv) ⟨[], Nat.zero_le _, upd_same, h0⟩ (fun i H hi ⟨acc, _, _, p⟩ => hG i acc H hi p) (fun i x H H' hi ⟨acc, hl, hD, p⟩ y => hs i x acc H H' hi hl hD p y) (fun H ⟨acc, hl, hD, p⟩ => hd acc H hl hD p)
theorem acc_go {D : Addr} {Pv : Nat → List V → Hp → Prop} {i : Nat} {H : Hp} {acc : List V} {y : V} (hl : acc.length ≤ i) (hi : i < 16777215) (hD : H D = some (.lst acc)) (p : Pv (i + 1) (acc ++ [y]) (upd H D (.lst (acc ++ [y])))) :
    ∃ acc, H D = some (.lst acc) ∧ acc.length < sizeLine ∧ Acc D Pv (i + 1) (upd H D (.lst (acc ++ [y]))) := by
  refine ⟨acc, hD, Nat.lt_of_le_of_lt (show acc.length ≤ 16777215 by omega) (by decide), acc ++ [y], ?_, upd_same, p⟩
  rw [List.length_append]
  show acc.length + 1 ≤ i + 1
  omega
theorem acc_skip {D : Addr} {Pv : Nat → List V → Hp → Prop} {i : Nat} {H : Hp} {acc : List V} (hl : acc.length ≤ i) (hD : H D = some (.lst acc)) (p : Pv (i + 1) acc H) : Acc D Pv (i + 1) H := ⟨acc, Nat.le_succ_of_le hl, hD, p⟩
/-! ### isinstance of built-in kinds -/
theorem ki_NoneType_str {K : PySem.W.Frag} : PySem.W.kitOne K (.type "NoneType") (.type "str") = some false := kit_ty (by decide +kernel)
theorem ki_NoneType_int {K : PySem.W.Frag} : PySem.W.kitOne K (.type "NoneType") (.type "int") = some false := kit_ty (by decide +kernel)
theorem ki_NoneType_bool {K : PySem.W.Frag} : PySem.W.kitOne K (.type "NoneType") (.type "bool") = some false := kit_ty (by decide +kernel)
theorem ki_NoneType_list {K : PySem.W.Frag} : PySem.W.kitOne K (.type "NoneType") (.type "list") = some false := kit_ty (by decide +kernel)
theorem ki_NoneType_tuple {K : PySem.W.Frag} : PySem.W.kitOne K (.type "NoneType") (.type "tuple") = some false := kit_ty (by decide +kernel)
theorem ki_NoneType_dict {K : PySem.W.Frag} : PySem.W.kitOne K (.type "NoneType") (.type "dict") = some false := kit_ty (by decide +kernel)
theorem ki_bool_str {K : PySem.W.Frag} : PySem.W.kitOne K (.type "bool") (.type "str") = some false := kit_ty (by decide +kernel)
theorem ki_bool_int {K : PySem.W.Frag} : PySem.W.kitOne K (.type "bool") (.type "int") = some true := kit_ty (by decide +kernel)
theorem ki_bool_bool {K : PySem.W.Frag} : PySem.W.kitOne K (.type "bool") (.type "bool") = some true := kit_ty (by decide +kernel)
theorem ki_bool_list {K : PySem.W.Frag} : PySem.W.kitOne K (.type "bool") (.type "list") = some false := kit_ty (by decide +kernel)
theorem ki_bool_tuple {K : PySem.W.Frag} : PySem.W.kitOne K (.type "bool") (.type "tuple") = some false := kit_ty (by decide +kernel)
theorem ki_bool_dict {K : PySem.W.Frag} : PySem.W.kitOne K (.type "bool") (.type "dict") = some false := kit_ty (by decide +kernel)
theorem ki_int_str {K : PySem.W.Frag} : PySem.W.kitOne K (.type "int") (.type "str") = some false := kit_ty (by decide +kernel)
theorem ki_int_int {K : PySem.W.Frag} : PySem.W.kitOne K (.type "int") (.type "int") = some true := kit_ty (by decide +kernel)
theorem ki_int_bool {K : PySem.W.Frag} : PySem.W.kitOne K (.type "int") (.type "bool") = some false := kit_ty (by decide +kernel)
theorem ki_int_list {K : PySem.W.Frag} : PySem.W.kitOne K (.type "int") (.type "list") = some false := kit_ty (by decide +kernel)
theorem ki_int_tuple {K : PySem.W.Frag} : PySem.W.kitOne K (.type "int") (.type "tuple") = some false := kit_ty (by decide +kernel)
theorem ki_int_dict {K : PySem.W.Frag} : PySem.W.kitOne K (.type "int") (.type "dict") = some false := kit_ty (by decide +kernel)
theorem ki_str_str {K : PySem.W.Frag} : PySem.W.kitOne K (.type "str") (.type "str") = some true := kit_ty (by decide +kernel)
theorem ki_str_int {K : PySem.W.Frag} : PySem.W.kitOne K (.type "str") (.type "int") = some false := kit_ty (by decide +kernel)
theorem ki_str_bool {K : PySem.W.Frag} : PySem.W.kitOne K (.type "str") (.type "bool") = some false := kit_ty (by decide +kernel)
theorem ki_str_list {K : PySem.W.Frag} : PySem.W.kitOne K (.type "str") (.type "list") = some false := kit_ty (by decide +kernel)
theorem ki_str_tuple {K : PySem.W.Frag} : PySem.W.kitOne K (.type "str") (.type "tuple") = some false := kit_ty (by decide +kernel)
theorem ki_str_dict {K : PySem.W.Frag} : PySem.W.kitOne K (.type "str") (.type "dict") = some false := kit_ty (by decide +kernel)
theorem ki_list_str {K : PySem.W.Frag} : PySem.W.kitOne K (.type "list") (.type "str") = some false := kit_ty (by decide +kernel)
theorem ki_list_int {K : PySem.W.Frag} : PySem.W.kitOne K (.type "list") (.type "int") = some false := kit_ty (by decide +kernel)
theorem ki_list_bool {K : PySem.W.Frag} : PySem.W.kitOne K (.type "list") (.type "bool") = some false := kit_ty (by decide +kernel)
theorem ki_list_list {K : PySem.W.Frag} : PySem.W.kitOne K (.type "list") (.type "list") = some true := kit_ty (by decide +kernel)
theorem ki_list_tuple {K : PySem.W.Frag} : PySem.W.kitOne K (.type "list") (.type "tuple") = some false := kit_ty (by decide +kernel)
theorem ki_list_dict {K : PySem.W.Frag} : PySem.W.kitOne K (.type "list") (.type "dict") = some false := kit_ty (by decide +kernel)
theorem ki_tuple_str {K : PySem.W.Frag} : PySem.W.kitOne K (.type "tuple") (.type "str") = some false := kit_ty (by decide +kernel)
theorem ki_tuple_int {K : PySem.W.Frag} : PySem.W.kitOne K (.type "tuple") (.type "int") = some false := kit_ty (by decide +kernel)
theorem ki_tuple_bool {K : PySem.W.Frag} : PySem.W.kitOne K (.type "tuple") (.type "bool") = some false := kit_ty (by decide +kernel)
theorem ki_tuple_list {K : PySem.W.Frag} : PySem.W.kitOne K (.type "tuple") (.type "list") = some false := kit_ty (by decide +kernel)
theorem ki_tuple_tuple {K : PySem.W.Frag} : PySem.W.kitOne K (.type "tuple") (.type "tuple") = some true := kit_ty (by decide +kernel)
theorem ki_tuple_dict {K : PySem.W.Frag} : PySem.W.kitOne K (.type "tuple") (.type "dict") = some false := kit_ty (by decide +kernel)
theorem ki_dict_str {K : PySem.W.Frag} : PySem.W.kitOne K (.type "dict") (.type "str") = some false := kit_ty (by decide +kernel)
theorem ki_dict_int {K : PySem.W.Frag} : PySem.W.kitOne K (.type "dict") (.type "int") = some false := kit_ty (by decide +kernel)
theorem ki_dict_bool {K : PySem.W.Frag} : PySem.W.kitOne K (.type "dict") (.type "bool") = some false := kit_ty (by decide +kernel)
theorem ki_dict_list {K : PySem.W.Frag} : PySem.W.kitOne K (.type "dict") (.type "list") = some false := kit_ty (by decide +kernel)
theorem ki_dict_tuple {K : PySem.W.Frag} : PySem.W.kitOne K (.type "dict") (.type "tuple") = some false := kit_ty (by decide +kernel)
theorem ki_dict_dict {K : PySem.W.Frag} : PySem.W.kitOne K (.type "dict") (.type "dict") = some true := kit_ty (by decide +kernel)
theorem Kp.sqT {M : List Addr} {K : PySem.W.Frag} {H H' : Hp} {a : Addr} {xs : List V} (k : Kp M H H') (n : a ∉ M) (h : SqT K H a xs) : SqT K H' a xs := by
  rcases h with (h | ⟨o, h⟩) | h
  · exact .inl (.inl (k _ _ n h))
  · exact .inl (.inr ⟨o, k _ _ n h⟩)
  · exact .inr h
theorem iteN {c A B : Prop} [Decidable c] (h1 : ¬ c → A) (h2 : c → B) : if (!decide c) = true then A else B := by
  by_cases h : c
  · rw [decide_eq_true h]
    exact iteF (h2 h)
  · rw [decide_eq_false h]
    exact iteT (h1 h)
theorem iteB {b : Bool} {A B : Prop} (h1 : b = true → A) (h2 : b = false → B) : if b = true then A else B := by
  cases b with
  | true => exact iteT (h1 rfl)
  | false => exact iteF (h2 rfl)
theorem tyX_same {K : PySem.W.Frag} {H H' : Hp} {x : V} {t : Value} (s : Same H H') (h : TyX K H x t) : TyX K H' x t := by
  cases h with
  | base b =>
    refine .base ?_
    cases b with
    | non => exact .non
    | bl y => exact .bl y
    | int i => exact .int i
    | str y => exact .str y
    | flt y => exact .flt y
    | lst e => exact .lst (s _ _ e)
    | frz e => exact .frz (s _ _ e)
    | tup e => exact .tup (s _ _ e)
    | dK e => exact .dK (s _ _ e)
    | dT e => exact .dT (s _ _ e)
    | ins e a b c d f => exact .ins (s _ _ e) a b c d f
  | byt b => exact .byt b
  | set e => exact .set (s _ _ e)
  | kList e c => exact .kList e c
  | kTuple e c => exact .kTuple e c
  | kDict e c => exact .kDict e c
  | fTuple e => exact .fTuple (s _ _ e)
  | fDict e => exact .fDict (s _ _ e)
theorem Kp.same {H H' : Hp} (k : Kp [] H H') : Same H H' := fun a o e => k a o List.not_mem_nil e
theorem str_size (z : Str) : z.cps.size = z.length := rfl
end Kb
/-! ### data: what == asks -/
namespace Kb
open PySem PySem.Spec PyProof.Rows L2
/-- small data: no deeper than n, its texts of signs that there are -/
def Sh (n : Nat) (d : PyData) : Prop := d.canLay0 = true ∧ d.depth ≤ n
theorem Sh.ok {n : Nat} {d : PyData} (h : Sh n d) (hn : n ≤ 64) : SeqAt.shaped d = true := by
  unfold SeqAt.shaped
  rw [h.1, Bool.true_and]
  exact decide_eq_true (Nat.le_trans h.2 hn)
theorem sh_non {n : Nat} : Sh n .none := ⟨by simp [PyData.canLay0], by simp [PyData.depth]⟩
theorem sh_bl {n : Nat} {b : Bool} : Sh n (.bool b) := ⟨by simp [PyData.canLay0], by simp [PyData.depth]⟩
theorem sh_int {n : Nat} {i : Int} : Sh n (.int i) := ⟨by simp [PyData.canLay0], by simp [PyData.depth]⟩
theorem sh_str {n : Nat} {x : Str} (h : ∀ c ∈ x.cps.toList, c < 1114112) : Sh n (.str x) := by
  refine ⟨?_, by simp [PyData.depth]⟩
  simp only [PyData.canLay0, PyData.strOk]
  exact Array.all_eq_true'.mpr fun c hc => decide_eq_true (h c (Array.mem_toList_iff.mpr hc))
theorem sh_all {n : Nat} : ∀ {ds : List PyData}, (∀ d ∈ ds, Sh n d) → PyData.canLayAll0 ds = true ∧ PyData.depthAll ds ≤ n
  | [], _ => ⟨by simp [PyData.canLayAll0], by simp [PyData.depthAll]⟩
  | d :: ds, h => by
    obtain ⟨a, b⟩ := h d (by simp)
    obtain ⟨c, e⟩ := sh_all fun x hx => h x (List.mem_cons_of_mem _ hx)
    exact ⟨by simp only [PyData.canLayAll0, a, c, Bool.and_self], by simp only [PyData.depthAll]; omega⟩
theorem sh_lst {n : Nat} {ds : List PyData} (h : ∀ d ∈ ds, Sh n d) : Sh (n + 1) (.list ds) := by
  obtain ⟨a, b⟩ := sh_all h
  exact ⟨by simp only [PyData.canLay0, a], by simp only [PyData.depth]; omega⟩
theorem sh_tup {n : Nat} {ds : List PyData} (h : ∀ d ∈ ds, Sh n d) : Sh (n + 1) (.tuple ds) := by
  obtain ⟨a, b⟩ := sh_all h
  exact ⟨by simp only [PyData.canLay0, a], by simp only [PyData.depth]; omega⟩
theorem sh_nil {n : Nat} : Sh (n + 1) (.list []) := sh_lst fun d h => nomatch h
theorem eqv_lnil : ∀ ds : List PyData, PyData.eqv (.list ds) (.list []) = ds.isEmpty
  | [] => by simp [PyData.eqv, PyData.eqvAll]
  | d :: ds => by simp [PyData.eqv, PyData.eqvAll]
/-- a list of ints as data -/
theorem dp_ints {K : PySem.W.Frag} {H : Hp} : ∀ ns : List Int, DpAll K H (ns.map V.int) (ns.map PyData.int)
  | [] => .nil
  | n :: ns => .cons (.int n) (dp_ints ns)
theorem sh_ints {ns : List Int} : Sh 1 (.list (ns.map PyData.int)) := sh_lst (n := 0) fun d h => by
  obtain ⟨i, _, rfl⟩ := List.mem_map.mp h
  exact sh_int
theorem eqvAll_ints : ∀ xs ys : List Int, PyData.eqvAll (xs.map PyData.int) (ys.map PyData.int) = decide (xs = ys)
  | [], [] => by simp [PyData.eqvAll]
  | [], y :: ys => by simp [PyData.eqvAll]
  | x :: xs, [] => by simp [PyData.eqvAll]
  | x :: xs, y :: ys => by
    have ih := eqvAll_ints xs ys
    simp only [List.map_cons, PyData.eqvAll, PyData.eqv, ih]
    by_cases h : x = y
    · subst h
      simp
    · simp [h]
theorem eqv_ints (xs ys : List Int) : PyData.eqv (.list (xs.map PyData.int)) (.list (ys.map PyData.int)) = decide (xs = ys) := by
  simp only [PyData.eqv]
  exact eqvAll_ints xs ys
end Kb
/-! ### slices -/
namespace Kb
open PySem PySem.Spec PyProof.Rows L2
def cutI {α : Type} (xs : List α) (lo hi : Option Int) : List α := (xs.drop (HT.sIx xs.length 0 lo)).take (HT.sIx xs.length xs.length hi - HT.sIx xs.length 0 lo)
theorem cutV_map {α : Type} (f : α → V) (xs : List α) (lo hi : Option Int) : cutV (xs.map f) lo hi = (cutI xs lo hi).map f := by
  unfold cutV cutI
  rw [List.length_map, List.map_take, List.map_drop]
theorem cutI_len {α : Type} (xs : List α) (lo hi : Option Int) : (cutI xs lo hi).length ≤ xs.length := by
  unfold cutI
  rw [List.length_take, List.length_drop]
  omega
theorem cutI_mem {α : Type} {xs : List α} {lo hi : Option Int} {x : α} (h : x ∈ cutI xs lo hi) : x ∈ xs := List.mem_of_mem_drop (List.mem_of_mem_take h)
end Kb
/-! ### calls by names alone -/
namespace Kb
open PySem PySem.Spec PyProof.Rows L2
theorem pe_callKw {X : Cx} {CX : CXT} {k : Nat} {x : Str} {st : Stmt} {ps ks : List Str} {sp : Sp} {E : XK} {kws : List Keyword} {tk : TA} {p pos : Pos} (D : Def X.K X.mg st x) (C : Cal X.prog X.w X.K X.mg X.base CX k x ps sp)
    (kb : ∀ (kV doc pm : Value) (an : Option Addr) (cdv ct : Value) (us ws : List Value), (us ++ (ws ++ [])).length = ps.length → bindArgs (PySem.W.fnOf x x (defArgs st) (defBody st) (defScope st) .none kV doc pm an cdv ct) ⟨us, ks.zip ws⟩ = pure (ps.zip (us ++ (ws ++ []))))
    (hr : Room k X.A) (hg : Gl X x) (hx : Passes CX X E) (hkw : PK X kws tk) (hall : (backToKw pos (keywordEach kws X.env)).all (·.1.isSome) = true := by rfl) (hks : (backToKw pos (keywordEach kws X.env)).filterMap (·.1) = ks := by rfl)
    (hdb : (x == ("__debug__" : Str)) = false := by decide)
    (hpl : ((backTo pos (starEach [] X.env)).any (·.1) || (backToKw pos (keywordEach kws X.env)).any (·.1.isNone)) = false := by rfl) :
    PE X (.Call (.Name x p) [] kws pos) (tCall sp [] E tk) := by
  obtain ⟨f, fd, hm, F, hk, _, hA⟩ := C.ex
  obtain ⟨f', fd', hm', F'⟩ := D
  have e := hm'.symm.trans hm
  cases e
  have e2 := hA.eq (Fun.at_ F')
  subst e2
  have K1 : KBinds X.K fd ps ks (fun us ws => us ++ (ws ++ [])) (fun vs zs => vs ++ (zs ++ [])) := by
    obtain ⟨oc, od, kV, doc, pm, an, cdv, ct, osl, rfl, lk, hcd⟩ := F'.ex
    exact ⟨fun s us ws _ hl => .of_eq (kb kV doc pm an cdv ct us ws hl), fun r r' => r.append (r'.append .nil)⟩
  exact pe_callK0 F hr hg hm hk K1 hx hkw hall hks hdb hpl
end Kb
/-! ### enumerate(v, start=k): v a list or a tuple that stands still -/
namespace Kb
open PySem PySem.Spec PyProof.Rows L2
/-- a thing at a that is walked by an iterator of its own: St H xs tells that it holds xs, Ar h its that the machine's object does, At h it i that the iterator stands at i -/
structure Src (K : PySem.W.Frag) (a : Addr) (S : Hp → List V → Prop) (Ar : Heap → Array Value → Prop) (At : Heap → Addr → Nat → Prop) (ob : Obj) : Prop where
  get : ∀ {X : Cx} {pins : List (Addr × Obj)} {σ : L2.St} {H : Hp} {s : Shared} {xs : List V}, X.K = K → Inv X pins σ H s → S H xs → ∃ its : List Value, Vals xs its ∧ Ar s.heap its.toArray
  inj : ∀ {X : Cx} {pins : List (Addr × Obj)} {σ : L2.St} {H : Hp} {s : Shared} {xs ys : List V}, X.K = K → Inv X pins σ H s → S H xs → S H ys → xs = ys
  lives : ∀ {h : Heap} {its : Array Value}, Ar h its → ∃ o, h.get? a = some o
  iobj : ∀ {h : Heap} {it : Addr} {i : Nat}, At h it i → ∃ o, h.get? it = some o ∧ ∀ v, o.data ≠ .cell v
  ikeep : ∀ {h h' : Heap} {it : Addr} {i : Nat}, At h it i → (∀ o, h.get? it = some o → h'.get? it = some o) → At h' it i
  draw : ∀ (prog : Program) (w : World) (A : Around) (it : Addr) (its : Array Value), A.handled = none → a ≠ it → Draws prog w A it [it, a] its.size (fun i v => its[i]? = some v) (fun i h => At h it i ∧ Ar h its)
  begin : ∀ its, Begins (.ref a) ob fun h => Ar h its
  first : ∀ {h : Heap} {it : Addr}, h.get? it = some ob → At h it 0
theorem src_list (K : PySem.W.Frag) (a : Addr) : Src K a (fun H xs => SqL K H a xs) (fun h its => h.IsList a its) (fun h it i => h.IsListIter it a i) { cls := .type "list_iterator", data := .fields #[.ref a, .int 0 0] } where
  get := fun hK I h => by
    subst hK
    obtain ⟨its, r, p, _⟩ := I.list h
    exact ⟨its, r, p.isList⟩
  inj := fun hK I h h' => by
    subst hK
    exact I.list_inj h h'
  lives := fun ⟨o, e, _⟩ => ⟨o, e⟩
  iobj := fun ⟨o, e, _, d⟩ => ⟨o, e, fun v z => by rw [d] at z; cases z⟩
  ikeep := fun st k => st.at k
  draw := fun prog w A it its hh ne => Draws.list hh it a ne its
  begin := fun its => begins_list a its
  first := fun e => ⟨_, e, rfl, rfl⟩
theorem src_tup (K : PySem.W.Frag) (a : Addr) : Src K a (fun H xs => SqT K H a xs) (fun h its => h.IsTuple a its) (fun h it i => h.IsTupleIter it a i) { cls := .type "tuple_iterator", data := .fields #[.ref a, .int 0 0] } where
  get := fun hK I h => by
    subst hK
    obtain ⟨its, r, p, _⟩ := I.tuple h
    exact ⟨its, r, p⟩
  inj := fun hK I h h' => by
    subst hK
    exact I.tuple_inj h h'
  lives := fun ⟨o, e, _⟩ => ⟨o, e⟩
  iobj := fun ⟨o, e, _, d⟩ => ⟨o, e, fun v z => by rw [d] at z; cases z⟩
  ikeep := fun st k => st.at k
  draw := fun prog w A it its hh ne => Draws.tuple hh it a ne its
  begin := fun its => begins_tuple a its
  first := fun e => ⟨_, e, rfl, rfl⟩
def ItS (S : Hp → List V → Prop) (k : Int) : It :=
  ⟨fun i H => ∃ xs x, S H xs ∧ xs[i]? = some x, fun i H v H' => ∃ T x, v = .ref T ∧ H T = none ∧ H' = upd H T (.tup [.int (k + (i : Nat)), x]) ∧ ∀ xs, S H xs → xs[i]? = some x, fun i H => ∃ xs : List V, S H xs ∧ xs.length = i⟩
section
variable {K : PySem.W.Frag} {a : Addr} {S : Hp → List V → Prop} {Ar : Heap → Array Value → Prop} {At : Heap → Addr → Nat → Prop} {ob : Obj}
theorem turn_enumS (sr : Src K a S Ar At ob) {P : Program} {w : World} {elts : List Expr} {kk : Nat} {tpos : Pos} (k : Int) (e it : Addr) (hai : a ≠ it) (hei : e ≠ it) (hea : e ≠ a) :
    Turn P w K (.Tuple elts kk tpos) (ItS S k) [e, it] e (fun i h => (∃ old, IsEnum h e it (k + (i : Nat)) old) ∧ At h it i) where
  mem := List.mem_cons_self
  obj := fun i h ⟨⟨old, he⟩, hi⟩ b hb => by
    rcases List.mem_cons.mp hb with z | z
    · subst z
      exact ⟨_, he, fun v q => nomatch q⟩
    · rw [List.mem_singleton.mp z]
      exact sr.iobj hi
  keep := fun i h h' ⟨⟨old, he⟩, hi⟩ kp => ⟨⟨old, kp e List.mem_cons_self _ he⟩, sr.ikeep hi fun o q => kp it (List.mem_cons_of_mem _ (List.mem_singleton.mpr rfl)) o q⟩
  item := fun X hP hw hK hc i pins s σ H E I hf st hg => by
    subst hP hw
    obtain ⟨xs, x, hS, hx⟩ := hg
    obtain ⟨its, rv, hA⟩ := sr.get hK I hS
    have hlen := rv.length
    have hil : i < its.toArray.size := by
      have := (List.getElem?_eq_some_iff.mp hx).1
      simp only [List.size_toArray]
      omega
    have D := sr.draw X.prog X.w X.A.in1 it its.toArray (I.ok.hd hc) hai
    have hef : e ∉ [it, a] := fun z => by
      rcases List.mem_cons.mp z with q | q
      · exact hei q
      · exact hea (List.mem_singleton.mp q)
    refine (GoesN.enumFrom (elts := elts) (x1 := kk) (pos := tpos) k D e hei hef List.mem_cons_self).goes i s _ E hil ⟨st.1, st.2, hA⟩ fun v h' tk hY st' hk _ => ?_
    obtain ⟨T, t, u, rfl, hT, hu, hTup⟩ := hY
    have hx2 : its[i]? = some u := by simpa using hu
    obtain ⟨u', hu', ru⟩ := rv.get hx
    rw [hx2] at hu'
    cases hu'
    have hk' : ∀ b o, b ∉ [e, it] → s.heap.get? b = some o → h'.get? b = some o := hk
    have new : ObjOk X.prog X.w (upd H T (.tup [.int (k + (i : Nat)), x])) h' T (.tup [.int (k + (i : Nat)), x]) := ⟨by show 2 ≤ sizeLine; decide, _, .cons ⟨_, rfl⟩ (.cons ru .nil), hTup⟩
    refine ⟨.ref T, _, I.turnedNew (t' := tk) hk' hf hT new, rfl, ⟨T, x, rfl, I.hok.fresh hT, rfl, fun ys hy => by rw [sr.inj hK I hy hS]; exact hx⟩, ⟨st'.1, st'.2.1⟩, fun b hb => ?_⟩
    obtain ⟨o, hbo⟩ : ∃ o, s.heap.get? b = some o := by
      rcases List.mem_cons.mp hb with z | z
      · rw [z]
        obtain ⟨old, q⟩ := st.1
        exact ⟨_, q⟩
      · rw [List.mem_singleton.mp z]
        obtain ⟨o, q, _⟩ := sr.iobj st.2
        exact ⟨o, q⟩
    rw [upd_ne (Nat.ne_of_lt (Nat.lt_of_lt_of_le (Heap.lt_size hbo) hT))]
    exact (hf b hb).1
  done := fun X hP hw hK hc i pins s σ H E I hf st hg => by
    subst hP hw
    obtain ⟨xs, hS, hx⟩ := hg
    obtain ⟨its, rv, hA⟩ := sr.get hK I hS
    have hlen := rv.length
    have D := sr.draw X.prog X.w X.A.in1 it its.toArray (I.ok.hd hc) hai
    have ei : i = its.toArray.size := by
      simp only [List.size_toArray]
      omega
    subst ei
    obtain ⟨f0, f1, f2, f3, f4, f5⟩ := hf it (List.mem_cons_of_mem _ (List.mem_singleton.mpr rfl))
    obtain ⟨old, he⟩ := st.1
    exact wpAny_pyNext_enum_endD D he ⟨st.2, hA⟩ fun h' eb => ⟨rfl, I.turned (t' := s.toks) (fun b o hb q => eb b o hb q) f0 f1 f3 f4 f5⟩
  self := fun A i s Q E st h => let ⟨⟨_, he⟩, _⟩ := st; wpAny_pyIter_enum he h
end
/-- enumerate(v, start=k) -/
@[irreducible] def iEnumS (K : PySem.W.Frag) (ta : TA) (tk : TE) : TI := fun σ H R => ta σ H fun vs H1 => tk σ H1 fun z H2 => ∃ a k, vs = [.ref a] ∧ z = .int k ∧ (-9223372036854775808 ≤ k ∧ k < 9223372036854775808) ∧
  ((∃ xs, SqL K H2 a xs ∧ R (ItS (fun H xs => SqL K H a xs) k) H2) ∨ ∃ xs, SqT K H2 a xs ∧ R (ItS (fun H xs => SqT K H a xs) k) H2)
section
variable {X : Cx} {e ke : Expr} {ta : TA} {tk : TE} {p pos kpos tpos : Pos} {elts : List Expr} {kk : Nat}
theorem enumS_go {K : PySem.W.Frag} {a : Addr} {S : Hp → List V → Prop} {Ar : Heap → Array Value → Prop} {At : Heap → Addr → Nat → Prop} {ob : Obj} (hK : X.K = K) (sr : Src K a S Ar At ob) {pins : List (Addr × Obj)} {s : Shared} {σ : L2.St} {H : Hp} {R : It → Hp → Prop} {xs : List V} {k : Int} {t : Tok}
    (I : Inv X pins σ H s) (hS : S H xs) (h0 : -9223372036854775808 ≤ k) (h1 : k < 9223372036854775808) (q : R (ItS S k) H) :
    wpAny (model X.prog X.w) X.A (PySem.call (.type "enumerate") [.ref a] [(Str.ofString "start", .int k t)]) (fun v s1 => wpAny (model X.prog X.w) X.A (pyIter v) (PIE X pins σ (.Tuple elts kk tpos) R) X.xe s1) X.xe s := by
  obtain ⟨its, rv, hA⟩ := sr.get hK I hS
  subst hK
  refine enum_begins_start (sr.begin its.toArray) hA (by omega) (by omega) fun h' he hit hsz hk => wpAny_pyIter_enum he ?_
  have I2 : Inv X pins σ H { s with heap := h' } := I.kept (t' := s.toks) hk
  obtain ⟨o, ho⟩ := sr.lives hA
  have hlt := Heap.lt_size ho
  refine ⟨s.heap.objs.size + 1, [s.heap.objs.size + 1, s.heap.objs.size], _, _, H, rfl, I2, turn_enumS sr k (s.heap.objs.size + 1) s.heap.objs.size (Nat.ne_of_lt hlt) (Nat.succ_ne_self _) (Nat.ne_of_gt (Nat.lt_succ_of_lt hlt)), ⟨⟨.none, ?_⟩, sr.first hit⟩, fun b hb => ?_, q⟩
  · have e0 : k + ((0 : Nat) : Int) = k := by omega
    rw [e0]
    exact he
  · have hle : s.heap.objs.size ≤ b := by
      rcases List.mem_cons.mp hb with z | z
      · rw [z]
        exact Nat.le_succ _
      · rw [List.mem_singleton.mp z]
        exact Nat.le_refl _
    exact I.fpOk hle (I.hok.fresh hle)
/-- a built-in class called with names -/
theorem callTy_kw {M : Model} {A : Around} {E : Value → Shared → Prop} {s : Shared} {env : Env} {T : String} {kws : List Keyword} {Q : Value → Shared → Prop}
    (h : wpAny M A (spliced (backTo pos (starEach [e] env))) (fun vs s1 => wpAny M A (evalAll ((backToKw pos (keywordEach kws env)).map (·.2)))
      (fun ks s2 => wpAny M A (PySem.call (.type T) vs (((backToKw pos (keywordEach kws env)).filterMap (·.1)).zip ks)) Q E s2) E s1) E s)
    (he : backTo pos (starEach [e] env) = (false, eval e env) :: backTo pos (starEach [] env)) (hp : ((backTo pos (starEach [e] env)).any (·.1) || (backToKw pos (keywordEach kws env)).any (·.1.isNone)) = false)
    (ha : (backToKw pos (keywordEach kws env)).all (·.1.isSome) = true) :
    wpAny M A (callWith pos (.type T) [] (backTo pos (starEach [e] env)) (backToKw pos (keywordEach kws env))) Q E s := by
  refine PySem.W.callWith_of (P := fun _ => True) hp (fun _ _ => ⟨.machine, .inr (.inl rfl), .now⟩) ?_
  rw [he] at h ⊢
  exact evalArgs_kwB ha (thn h fun vs s1 h1 => thn h1 fun ks s2 h2 => ⟨trivial, h2⟩)
theorem pi_enumS (hg : Gl X "enumerate") (hm : X.mg "enumerate" = none) (ha : PA X [e] ta) (hk : PE X ke tk)
    (he : backTo pos (starEach [e] X.env) = (false, eval e X.env) :: backTo pos (starEach [] X.env) := by rfl)
    (hp : ((backTo pos (starEach [e] X.env)).any (·.1) || (backToKw pos (keywordEach [⟨some "start", ke, kpos⟩] X.env)).any (·.1.isNone)) = false := by rfl)
    (hall : (backToKw pos (keywordEach [⟨some "start", ke, kpos⟩] X.env)).all (·.1.isSome) = true := by rfl) (hks : (backToKw pos (keywordEach [⟨some "start", ke, kpos⟩] X.env)).filterMap (·.1) = [Str.ofString "start"] := by rfl) :
    PI X (.Tuple elts kk tpos) (.Call (.Name "enumerate" p) [e] [⟨some "start", ke, kpos⟩] pos) (iEnumS X.K ta tk) := by
  unfold iEnumS
  refine ⟨fun pins s σ H R I h => ?_⟩
  refine wpAny_Call_Name_kw (ld_blt I hg hm boot_enumerate ?_ (by decide) (by decide))
  have hkw : PK X [⟨some "start", ke, kpos⟩] (tCons tk tNil) := pk_cons hk pk_nil
  refine callTy_kw (thn (ha.run pos pins s σ H _ I h) fun us s1 hh => ?_) he hp hall
  obtain ⟨vs, H1, I1, r1, q1⟩ := hh
  refine thn (hkw.run pos pins s1 σ H1 (fun zs H2 => match zs with
    | [z] => ∃ a k, vs = [.ref a] ∧ z = .int k ∧ (-9223372036854775808 ≤ k ∧ k < 9223372036854775808) ∧
      ((∃ xs, SqL X.K H2 a xs ∧ R (ItS (fun H xs => SqL X.K H a xs) k) H2) ∨ ∃ xs, SqT X.K H2 a xs ∧ R (ItS (fun H xs => SqT X.K H a xs) k) H2)
    | _ => False) I1 q1) fun ws s2 hh => ?_
  obtain ⟨zs, H2, I2, r2, q2⟩ := hh
  obtain ⟨z, rfl⟩ : ∃ z, zs = [z] := by
    match zs, q2 with
    | [z], _ => exact ⟨z, rfl⟩
  obtain ⟨a, k, rfl, rfl, ⟨h0, h1⟩, q2⟩ := q2
  rw [hks]
  obtain ⟨u, rfl, ru⟩ := vals1 r1
  obtain ⟨v, rfl, rv⟩ := vals1 r2
  cases ru
  obtain ⟨t, rfl⟩ := rv
  rcases q2 with ⟨xs, hS, q⟩ | ⟨xs, hS, q⟩
  · exact enumS_go rfl (src_list X.K a) I2 hS h0 h1 q
  · exact enumS_go rfl (src_tup X.K a) I2 hS h0 h1 q
end
theorem walk_enumS {S : Hp → List V → Prop} {k : Int} {xs : List V} : Walk (ItS S k) xs.length (fun H => S H xs) (fun i H v H' => ∃ T x, v = .ref T ∧ H T = none ∧ H' = upd H T (.tup [.int (k + (i : Nat)), x]) ∧ xs[i]? = some x) :=
  ⟨fun i _ hi q => ⟨xs, xs[i], q, by simp [hi]⟩, fun _ q => ⟨xs, q, rfl⟩, fun _ _ _ _ _ q ⟨T, x, a, b, c, d⟩ => ⟨T, x, a, b, c, d xs q⟩⟩
/-! ### a list or a tuple walked -/
def SqS (K : PySem.W.Frag) (H : Hp) (a : Addr) (xs : List V) : Prop := SqL K H a xs ∨ SqT K H a xs
@[irreducible] def iSeq (K : PySem.W.Frag) (te : TE) : TI := fun σ H R => te σ H fun x H1 => ∃ a, x = .ref a ∧ ((∃ xs, SqL K H1 a xs ∧ R (Itl K a) H1) ∨ ∃ xs, SqT K H1 a xs ∧ R (Itt K a) H1)
theorem pi_seq {X : Cx} {tg e : Expr} {te : TE} (he : PE X e te) : PI X tg e (iSeq X.K te) := by
  unfold iSeq
  refine ⟨fun pins s σ H R I h => ?_⟩
  refine thn (he.run pins s σ H _ I h) fun v s1 hh => ?_
  obtain ⟨x, H1, I1, r1, a, e, q⟩ := hh
  subst e
  cases r1
  rcases q with ⟨xs, hq, q⟩ | ⟨xs, hq, q⟩
  · obtain ⟨its, rv, p, hz⟩ := I1.list hq
    refine wpAny_pyIter_list p.isList ⟨s1.heap.objs.size, [s1.heap.objs.size], _, _, H1, rfl, ?_, turn_list a _, ⟨_, Heap.get?_push_size _ rfl, rfl, rfl⟩, fun b hb => ?_, q⟩
    · exact I1.kept (t' := s1.toks) fun b o e => Heap.get?_push_of_some _ e
    · rw [List.mem_singleton.mp hb]
      exact I1.fpOk (Nat.le_refl _) (I1.hok.fresh (Nat.le_refl _))
  · obtain ⟨its, rv, p, hz⟩ := I1.tuple hq
    refine wpAny_pyIter_tuple (show s1.heap.IsTuple a its.toArray from p) ⟨s1.heap.objs.size, [s1.heap.objs.size], _, _, H1, rfl, ?_, turn_tuple a _, ⟨_, Heap.get?_push_size _ rfl, rfl, rfl⟩, fun b hb => ?_, q⟩
    · exact I1.kept (t' := s1.toks) fun b o e => Heap.get?_push_of_some _ e
    · rw [List.mem_singleton.mp hb]
      exact I1.fpOk (Nat.le_refl _) (I1.hok.fresh (Nat.le_refl _))
end Kb
/-! ### == of lists of ints -/
namespace Kb
open PySem PySem.Spec PyProof.Rows L2
section
variable {K : PySem.W.Frag} {H : Hp} {Q : VK} {a b : Addr} {xs ys : List Int}
theorem eqI_go (hx : SqL K H a (xs.map V.int)) (hy : SqL K H b (ys.map V.int)) (q : Q (.bl (decide (xs = ys))) H) : rEqU K (.ref a) (.ref b) H Q :=
  eqD_go (.lst hx (dp_ints xs)) (.lst hy (dp_ints ys)) (sh_ints.ok (by decide)) (sh_ints.ok (by decide)) (by rw [eqv_ints]; exact q)
theorem neI_go (hx : SqL K H a (xs.map V.int)) (hy : SqL K H b (ys.map V.int)) (q : Q (.bl (!decide (xs = ys))) H) : rNeU K (.ref a) (.ref b) H Q :=
  neD_go (.lst hx (dp_ints xs)) (.lst hy (dp_ints ys)) (sh_ints.ok (by decide)) (sh_ints.ok (by decide)) (by rw [eqv_ints]; exact q)
theorem eqI0_go (hx : SqL K H a (xs.map V.int)) (hy : SqL K H b []) (q : Q (.bl (decide (xs = []))) H) : rEqU K (.ref a) (.ref b) H Q := eqI_go (ys := []) hx hy q
theorem neI0_go (hx : SqL K H a (xs.map V.int)) (hy : SqL K H b []) (q : Q (.bl (!decide (xs = []))) H) : rNeU K (.ref a) (.ref b) H Q := neI_go (ys := []) hx hy q
end
theorem none_of {H H' : Hp} {p : Addr} (k : Kp [] H H') (h : H' p = none) : H p = none := k.none_of List.not_mem_nil h
theorem Kp.new {H H' : Hp} {p : Addr} {o : HO} (k : Kp [] H H') (h : H' p = none) : Kp [] H (upd H' p o) := Kp.upd_new' k h
end Kb
/-! ### a list or a tuple, whichever -/
namespace Kb
open PySem PySem.Spec PyProof.Rows L2
def Inn (H : Hp) (a : Addr) (xs : List V) : Prop := H a = some (.lst xs) ∨ H a = some (.tup xs)
theorem Inn.kp {H H' : Hp} {a : Addr} {xs : List V} (h : Inn H a xs) (k : Kp [] H H') : Inn H' a xs :=
  h.elim (fun e => .inl (k.at_ List.not_mem_nil e)) fun e => .inr (k.at_ List.not_mem_nil e)
theorem Inn.kpX {L : List Addr} {H H' : Hp} {a : Addr} {xs : List V} (h : Inn H a xs) (k : Kp L H H') (n : a ∉ L) : Inn H' a xs :=
  h.elim (fun e => .inl (k.at_ n e)) fun e => .inr (k.at_ n e)
section
variable {K : PySem.W.Frag} {H : Hp} {Q : VK} {a : Addr} {xs : List V}
theorem list_goI (h : Inn H a xs) (q : ∀ p, H p = none → Q (.ref p) (upd H p (.lst xs))) : rListU K [.ref a] H Q :=
  h.elim (fun e => list_goL (SqL.of e) q) fun e => list_goT (SqT.of e) q
theorem tuple_goI (h : Inn H a xs) (q1 : H a = some (.lst xs) → rTupleU K [.ref a] H Q) (q2 : H a = some (.tup xs) → rTupleU K [.ref a] H Q) : rTupleU K [.ref a] H Q := h.elim q1 q2
theorem seq_go {te : TE} {σ : L2.St} {R : It → Hp → Prop} (q : te σ H fun x H1 => ∃ a xs, x = .ref a ∧ Inn H1 a xs ∧ ∀ J G, Walk J xs.length G (YAt xs) → (∀ H', (H1 a = H' a) → G H') → R J H1) (m : ∀ {H} {p q : V → Hp → Prop}, (∀ x H, p x H → q x H) → te σ H p → te σ H q) : iSeq K te σ H R := by
  unfold iSeq
  refine m ?_ q
  rintro x H1 ⟨a, xs, rfl, e | e, k⟩
  · exact ⟨a, rfl, .inl ⟨xs, SqL.of e, k _ _ walk_list fun H' hh => SqL.of (hh ▸ e)⟩⟩
  · exact ⟨a, rfl, .inr ⟨xs, SqT.of e, k _ _ walk_tup fun H' hh => SqT.of (hh ▸ e)⟩⟩
theorem seqV_go {n : Nat} {σ : L2.St} {R : It → Hp → Prop} (e : σ[n]? = some (some (.ref a))) (h : Inn H a xs) (q : ∀ J G, Walk J xs.length G (YAt xs) → (∀ H', (H a = H' a) → G H') → R J H) : iSeq K (tVar n) σ H R :=
  seq_go ⟨_, e, a, xs, rfl, h, q⟩ fun {H p q} hh => fun ⟨x, e, z⟩ => ⟨x, e, hh _ _ z⟩
theorem enSV_go {n : Nat} {σ : L2.St} {k : Int} {R : It → Hp → Prop} (e : σ[n]? = some (some (.ref a))) (hk : -9223372036854775808 ≤ k ∧ k < 9223372036854775808) (h : Inn H a xs)
    (q : ∀ J G, Walk J xs.length G (fun i H v H' => ∃ T x, v = .ref T ∧ H T = none ∧ H' = upd H T (.tup [.int (k + (i : Nat)), x]) ∧ xs[i]? = some x) → (∀ H', (H a = H' a) → G H') → R J H) : iEnumS K (tCons (tVar n) tNil) (tC (.int k)) σ H R := by
  unfold iEnumS
  refine ⟨_, e, a, k, rfl, rfl, hk, ?_⟩
  rcases h with e | e
  · exact .inl ⟨xs, SqL.of e, q _ _ walk_enumS fun H' hh => SqL.of (hh ▸ e)⟩
  · exact .inr ⟨xs, SqT.of e, q _ _ walk_enumS fun H' hh => SqT.of (hh ▸ e)⟩
end
theorem gTup_go {K : PySem.W.Frag} {H : Hp} {a : Addr} {xs : List V} {n : Nat} {t : TGs} {σ : L2.St} {Q : L2.St → Hp → Prop} (h : SqT K H a xs) (hl : xs.length = n) (q : t xs σ H Q) : gTup K n t (.ref a) σ H Q := ⟨a, xs, rfl, h, hl, q⟩
theorem Inn.upd {H : Hp} {a p : Addr} {xs : List V} {o : HO} (h : Inn H a xs) (n : H p = none) : Inn (upd H p o) a xs := h.kp (Kp.refl.new n)
theorem Inn.same {H H' : Hp} {a : Addr} {xs : List V} (h : Inn H a xs) (k : Kp [] H H') : H a = H' a :=
  h.elim (fun e => e.trans (k.at_ List.not_mem_nil e).symm) fun e => e.trans (k.at_ List.not_mem_nil e).symm
theorem Inn.newNe {H : Hp} {a p : Addr} {xs : List V} (h : Inn H a xs) (n : H p = none) : a ≠ p := by
  rintro rfl
  rcases h with e | e <;> rw [e] at n <;> cases n
end Kb
/-! ### lists of lists of ints -/
namespace Kb
open PySem PySem.Spec PyProof.Rows L2
def LL (H : Hp) (us : List V) (pss : List (List Int)) : Prop := us.length = pss.length ∧
  ∀ (i : Nat) (v : V), us[i]? = some v → ∃ a ps, pss[i]? = some ps ∧ v = V.ref a ∧ H a = some (.lst (ps.map V.int))
theorem LL.dp {K : PySem.W.Frag} {H : Hp} : ∀ {us : List V} {pss : List (List Int)}, LL H us pss → DpAll K H us (pss.map fun ps => PyData.list (ps.map PyData.int))
  | [], [], _ => .nil
  | [], p :: pss, h => by cases h.1
  | u :: us, [], h => by cases h.1
  | u :: us, p :: pss, h => by
    obtain ⟨a, ps, h1, rfl, h3⟩ := h.2 0 u rfl
    cases h1
    refine .cons (.lst (SqL.of h3) (dp_ints p)) (LL.dp ⟨by have := h.1; simp at this; exact this, fun i v e => ?_⟩)
    obtain ⟨a, ps, h1, h2, h3⟩ := h.2 (i + 1) v (by simpa using e)
    exact ⟨a, ps, by simpa using h1, h2, h3⟩
theorem sh_ll {pss : List (List Int)} : Sh 2 (.list (pss.map fun ps => PyData.list (ps.map PyData.int))) := sh_lst (n := 1) fun d h => by
  obtain ⟨i, _, rfl⟩ := List.mem_map.mp h
  exact sh_ints
theorem LL.kp {M : List Addr} {H H' : Hp} {us : List V} {pss : List (List Int)} (h : LL H us pss) (k : Kp M H H') (m : ∀ a ∈ M, H a = none) : LL H' us pss := ⟨h.1, fun i v e => by
  obtain ⟨a, ps, h1, h2, h3⟩ := h.2 i v e
  exact ⟨a, ps, h1, h2, k.at_ (fun z => by rw [m a z] at h3; cases h3) h3⟩⟩
theorem LL.kp0 {H H' : Hp} {us : List V} {pss : List (List Int)} (h : LL H us pss) (k : Kp [] H H') : LL H' us pss := h.kp k fun a z => nomatch z
/-- two lists of lists that hold alike are not unlike -/
theorem neLL_go {K : PySem.W.Frag} {H : Hp} {Q : VK} {a b : Addr} {us vs : List V} {pss : List (List Int)} (ha : SqL K H a us) (hb : SqL K H b vs) (hu : LL H us pss) (hv : LL H vs pss) (q : Q (.bl false) H) : rNeU K (.ref a) (.ref b) H Q :=
  neD_go (.lst ha hu.dp) (.lst hb hv.dp) (sh_ll.ok (by decide)) (sh_ll.ok (by decide)) (by rw [SeqAt.eqv_refl _ sh_ll.1]; exact q)
end Kb
/-! ### a comprehension within a comprehension -/
namespace Kb
open PySem PySem.Spec PyProof.Rows L2
theorem lookup_rel {c : Str → NameKind → Bool} : ∀ (l : List (Str × NameKind)) (x : Str), (l.lookup x = some .cell ∨ l.lookup x = some .free) →
    ((l.map fun (n, k) => if c n k then (n, NameKind.cell) else (n, k)).lookup x = some .cell ∨ (l.map fun (n, k) => if c n k then (n, NameKind.cell) else (n, k)).lookup x = some .free)
  | [], x, h => by rcases h with h | h <;> cases h
  | (n, k) :: l, x, h => by
    rw [List.lookup_cons] at h
    rw [List.map_cons]
    by_cases e : (x == n) = true
    · rw [e] at h
      dsimp only at h ⊢
      by_cases hc : c n k = true
      · rw [if_pos hc, List.lookup_cons, e]
        exact .inl rfl
      · rw [if_neg hc, List.lookup_cons, e]
        exact h
    · have e : (x == n) = false := by simpa using e
      rw [e] at h
      have ih := lookup_rel (c := c) l x h
      dsimp only
      by_cases hc : c n k = true
      · rw [if_pos hc, List.lookup_cons, e]
        exact ih
      · rw [if_neg hc, List.lookup_cons, e]
        exact ih
theorem blkOk_in {N : List Str} {scope0 scope : Scope} {env : Env} {own : List (Str × Nat)} (h : blkC N scope0 scope own = true) : BlkOk N (relabel scope0 env) scope own := by
  have b := blkOk_by h
  exact ⟨b.kind, b.uniq, b.ix, fun y hy e => lookup_rel (c := fun n k => k == .free && env.scope.kind == .function && env.kindOf n == some .cell) scope0.names y.1 (b.free y hy e), b.own⟩
end Kb
/-! ### objects of an own class: attributes, methods, making -/
namespace Kb
open PySem PySem.Spec PyProof.Rows L2
@[irreducible] def rFldU (K : PySem.W.Frag) (f : Str) : V → Hp → VK → Prop := fun x H Q => ∃ a C dx fs v, x = .ref a ∧ H a = some (.ins C dx fs) ∧ Cls K C ∧ NoAttr K C f ∧ fs.lookup f = some v ∧ Q v H
@[irreducible] def rPutU (K : PySem.W.Frag) (f : Str) : V → V → Hp → (Hp → Prop) → Prop := fun x y H Q => ∃ a C dx fs, x = .ref a ∧ H a = some (.ins C dx fs) ∧ Cls K C ∧ NoAttr K C f ∧ fs.length < 1000 ∧ Q (upd H a (.ins C dx (putF f y fs)))
@[irreducible] def rAugU (K : PySem.W.Frag) (tv : TE) (rd : V → V → Hp → VK → Prop) (f : Str) : V → L2.St → Hp → (Hp → Prop) → Prop := fun x σ H Q => ∃ a C dx fs v, x = .ref a ∧ H a = some (.ins C dx fs) ∧ Cls K C ∧ NoAttr K C f ∧ fs.lookup f = some v ∧
  tv σ H fun y H2 => rd v y H2 fun z H3 => ∃ dx' fs', H3 a = some (.ins C dx' fs') ∧ fs'.length < 1000 ∧ Q (upd H3 a (.ins C dx' (putF f z fs')))
@[irreducible] def rRcvU (C : Addr) (m : Str) : V → Hp → Prop → Prop := fun x H Z => ∃ a dx fs, x = .ref a ∧ H a = some (.ins C dx fs) ∧ fs.lookup m = none ∧ Z
def sFldU (K : PySem.W.Frag) (ta tv : TE) (f : Str) : TS := fun D σ H => tv σ H fun y H1 => ta σ H1 fun x H2 => rPutU K f x y H2 fun H3 => D.nx σ H3
def sFldAugU (K : PySem.W.Frag) (ta tv : TE) (rd : V → V → Hp → VK → Prop) (f : Str) : TS := fun D σ H => ta σ H fun x H1 => rAugU K tv rd f x σ H1 fun H4 => D.nx σ H4
def tMethU (C : Addr) (m : Str) (sp : Sp) (E : XK) (ta : TE) (t : TA) : TE := fun σ H Q => ta σ H fun x H1 => rRcvU C m x H1 (t σ H1 fun vs H2 => sp (x :: vs) H2 Q E)
section
variable {X : Cx} {o e value : Expr} {f : Str} {pos pos' tpos : Pos} {ta tv : TE}
theorem pe_fldU (he : PE X e ta) (hb : attributeBase e f X.env (eval e X.env) = eval e X.env) : PE X (.Attribute e f pos) (tUn (rFldU X.K f) ta) := by
  unfold tUn rFldU
  exact pe_fld he hb
theorem ps_fldU (ha : PE X o ta) (hv : PE X value tv) (hs : swapsWith value (some (.Attribute o f pos')) pos.line X.env = pure false) : PS X (.Assign [.Attribute o f pos'] value pos) (sFldU X.K ta tv f) := by
  unfold sFldU rPutU
  exact ps_fld ha hv hs
theorem ps_fldaugU {op : Operator} {rd : V → V → Hp → VK → Prop} (ha : PE X o ta) (hv : PE X value tv) (hop : PIp X op rd) : PS X (.AugAssign (.Attribute o f tpos) op value pos) (sFldAugU X.K ta tv rd f) := by
  unfold sFldAugU rAugU
  exact ps_fldaug ha hv hop
end
section
variable {K : PySem.W.Frag} {H : Hp} {Q : VK} {a C dx : Addr} {fs fs' : List (Str × V)} {f m : Str} {v y : V}
theorem fld_go (h : H a = some (.ins C dx fs)) (c : Cls K C) (n : NoAttr K C f) (l : fs.lookup f = some v) (q : Q v H) : rFldU K f (.ref a) H Q := by
  unfold rFldU
  exact ⟨a, C, dx, fs, v, rfl, h, c, n, l, q⟩
theorem put_go {Q : Hp → Prop} (h : H a = some (.ins C dx fs)) (c : Cls K C) (n : NoAttr K C f) (hl : fs.length < 1000) (e : putF f y fs = fs') (q : Q (upd H a (.ins C dx fs'))) : rPutU K f (.ref a) y H Q := by
  subst e
  unfold rPutU
  exact ⟨a, C, dx, fs, rfl, h, c, n, hl, q⟩
theorem aug_go {Q : Hp → Prop} {tv : TE} {rd : V → V → Hp → VK → Prop} {σ : L2.St} (h : H a = some (.ins C dx fs)) (c : Cls K C) (n : NoAttr K C f) (l : fs.lookup f = some v)
    (q : tv σ H fun y H2 => rd v y H2 fun z H3 => ∃ dx' fs', H3 a = some (.ins C dx' fs') ∧ fs'.length < 1000 ∧ Q (upd H3 a (.ins C dx' (putF f z fs')))) : rAugU K tv rd f (.ref a) σ H Q := by
  unfold rAugU
  exact ⟨a, C, dx, fs, v, rfl, h, c, n, l, q⟩
theorem augE_go {Q : Hp → Prop} {z : V} (h : H a = some (.ins C dx fs)) (hl : fs.length < 1000) (e : putF f z fs = fs') (q : Q (upd H a (.ins C dx fs'))) : ∃ dx' fs', H a = some (.ins C dx' fs') ∧ fs'.length < 1000 ∧ Q (upd H a (.ins C dx' (putF f z fs'))) := by
  subst e
  exact ⟨dx, fs, h, hl, q⟩
theorem rcv_go {Z : Prop} (h : H a = some (.ins C dx fs)) (l : fs.lookup m = none) (z : Z) : rRcvU C m (.ref a) H Z := by
  unfold rRcvU
  exact ⟨a, dx, fs, rfl, h, l, z⟩
theorem lk_here {k : Str} {v : V} {r : List (Str × V)} : List.lookup k ((k, v) :: r) = some v := by
  have e : (k == k) = true := beq_self_eq_true k
  simp only [List.lookup, e]
theorem lk_past {k g : Str} {v : V} {r : List (Str × V)} {o : Option V} (h : (k == g) = false) (q : List.lookup k r = o) : List.lookup k ((g, v) :: r) = o := by
  simp only [List.lookup, h]
  exact q
theorem put_here {f : Str} {v x : V} {r : List (Str × V)} : putF f v ((f, x) :: r) = (f, v) :: r := if_pos rfl
theorem put_past {f g : Str} {v x : V} {r r' : List (Str × V)} (h : ¬ g = f) (q : putF f v r = r') : putF f v ((g, x) :: r) = (g, x) :: r' := by
  subst q
  exact if_neg h
theorem put_nil {f : Str} {v : V} : putF f v [] = [(f, v)] := rfl
end
/-- the method m of the class at C -/
def DefM (K : PySem.W.Frag) (C : Addr) (st : Stmt) (m qual : Str) : Prop := ∃ f fd, Meth K C m f ∧ Fun K m qual st f fd
structure CalM (P : Program) (w : World) (K : PySem.W.Frag) (mg : Str → Option Value) (base : Heap) (CX : CXT) (k : Nat) (C : Addr) (m : Str) (ps : List Str) (sp : Sp) : Prop where
  ex : ∃ f fd, Meth K C m f ∧ FnOk P w K mg base CX k f fd ps sp ∧ Binds K fd ps []
section
variable {P : Program} {w : World} {K : PySem.W.Frag} {mg : Str → Option Value} {base : Heap}
theorem CalM.of {C : Addr} {m qual : Str} {st : Stmt} {N ps : List Str} {k : Nat} {sp : Sp} (D : DefM K C st m qual) (S : FnScope N ps (defScope st))
    (hb : ∀ (kV doc pm : Value) (an : Option Addr) (cdv ct : Value) (us : List Value), us.length = ps.length → bindArgs (PySem.W.fnOf m qual (defArgs st) (defBody st) (defScope st) .none kV doc pm an cdv ct) ⟨us, []⟩ = pure (ps.zip us))
    (len : ∀ vs H Q E, sp vs H Q E → vs.length = ps.length)
    (hbody : ∀ (f : Addr) (cdv : Value) (A : Around) (outer : List Env) (s : Shared) (H : Hp) (vs : List V) (Q : VK) (E : XK), Room k (A.deeper (envOfC qual (defScope st) s.heap.objs.size f cdv)) → sp vs H Q E →
      ∃ t, PSs (cxOf CX0 P w K mg base N qual (defScope st) f cdv A outer s H E).nox (defBody st) t ∧ t { nx := fun _ H' => Q .non H', rt := Q } (start N vs) H) : CalM P w K mg base CX0 (k + 1) C m ps sp := by
  obtain ⟨f, fd, hm, F⟩ := D
  refine ⟨f, fd, hm, F.ok S len (hbody f), .all ?_⟩
  obtain ⟨oc, od, kV, doc, pm, an, cdv, ct, osl, rfl, lk, hcd⟩ := F.ex
  exact hb kV doc pm an cdv ct
end
section
variable {X : Cx} {CX : CXT} {k : Nat} {C : Addr} {ps : List Str} {sp : Sp} {E : XK} {x m : Str} {p pos apos : Pos} {e o : Expr} {es : List Expr} {ta : TE} {t : TA}
theorem pe_methM {pl : Sem Bool} (he : PE X o ta) (c : Cls X.K C) (M : CalM X.prog X.w X.K X.mg X.base CX k C m ps sp) (hr : Room k X.A) (hx : Passes CX X E) (ha : PA X (e :: es) t)
    (hst : starEach (e :: es) X.env = (false, eval e X.env) :: starEach es X.env := by rfl) (hpl : (backTo pos (starEach es X.env)).any (·.1) = false := by rfl)
    (ht : eval (.Call (.Attribute o m apos) (e :: es) [] pos) X.env = (do
      let ov ← eval o X.env
      standAt apos.atName
      let (f, first) ← holding [ov] (getMethod ov m pl)
      callWith pos f first (backTo pos (starEach (e :: es) X.env)) (backToKw pos (keywordEach [] X.env))) := by rfl) :
    PE X (.Call (.Attribute o m apos) (e :: es) [] pos) (tMethU C m sp E ta t) := by
  obtain ⟨f, fd, hm, F, hb⟩ := M.ex
  have := pe_meth (pos := pos) (apos := apos) (dvs := []) (E := E) he c hm F hr hb .nil hx ha hst hpl ht
  unfold tMethU rRcvU
  unfold tMeth at this
  simpa only [List.append_nil] using this
theorem pe_methM0 {pl : Sem Bool} (he : PE X o ta) (c : Cls X.K C) (M : CalM X.prog X.w X.K X.mg X.base CX k C m ps sp) (hr : Room k X.A) (hx : Passes CX X E)
    (ht : eval (.Call (.Attribute o m apos) [] [] pos) X.env = (do
      let ov ← eval o X.env
      standAt apos.atName
      let (f, first) ← holding [ov] (getMethod ov m pl)
      callWith pos f first (backTo pos (starEach [] X.env)) (backToKw pos (keywordEach [] X.env))) := by rfl) :
    PE X (.Call (.Attribute o m apos) [] [] pos) (tMethU C m sp E ta tNil) := by
  obtain ⟨f, fd, hm, F, hb⟩ := M.ex
  have := pe_meth0 (pos := pos) (apos := apos) (dvs := []) (E := E) he c hm F hr hb .nil hx ht
  unfold tMethU rRcvU
  unfold tMeth at this
  simpa only [List.append_nil] using this
theorem pe_makeM0 (hmk : PySem.W.makesIn X.K C = true) (hkc : PySem.W.keepIn X.K (.ref C) = true) (M : CalM X.prog X.w X.K X.mg X.base CX k C "__init__" ps sp) (hr : Room (k + 1) X.A) (hg : Gl X x) (hm : X.mg x = some (.ref C)) (hx : Passes CX X E)
    (hdb : (x == ("__debug__" : Str)) = false := by decide) : PE X (.Call (.Name x p) [] [] pos) (tMake C sp [] E tNil) := by
  obtain ⟨f, fd, hme, F, hb⟩ := M.ex
  exact pe_make0 ⟨hmk, hme.at_, hme.fn, hkc⟩ F hr hg hm hb .nil hx hdb
theorem pe_makeM (hmk : PySem.W.makesIn X.K C = true) (hkc : PySem.W.keepIn X.K (.ref C) = true) (M : CalM X.prog X.w X.K X.mg X.base CX k C "__init__" ps sp) (hr : Room (k + 1) X.A) (hg : Gl X x) (hm : X.mg x = some (.ref C)) (hx : Passes CX X E) (ha : PA X (e :: es) t)
    (hdb : (x == ("__debug__" : Str)) = false := by decide) (he : starEach (e :: es) X.env = (false, eval e X.env) :: starEach es X.env := by rfl) (hpl : (backTo pos (starEach es X.env)).any (·.1) = false := by rfl) :
    PE X (.Call (.Name x p) (e :: es) [] pos) (tMake C sp [] E t) := by
  obtain ⟨f, fd, hme, F, hb⟩ := M.ex
  exact pe_make ⟨hmk, hme.at_, hme.fn, hkc⟩ F hr hg hm hb .nil hx ha hdb he hpl
end
end Kb

open L2 Kb PySem
/-! steps by name: "ne" a ≠ b, "h" H a = some o, "c" a side condition, "l" a list that is read, "s" one step of a reading -/
local macro_rules | `(tactic| walk_at "ne") => `(tactic| first
  | assumption
  | (apply Ne.symm; assumption)
  | (refine' ne_of_none ?kh ?kn; (case kn => assumption); (case kh => walk_at "h"))
  | (refine' Ne.symm (ne_of_none ?kh ?kn); (case kn => assumption); (case kh => walk_at "h"))
  | fail)
local macro_rules | `(tactic| walk_at "nm") => `(tactic| first
  | exact List.not_mem_nil
  | (refine' nm_cons ?kn ?km; (case kn => walk_at "ne"); (case km => walk_at "nm"))
  | fail)
local macro_rules | `(tactic| walk_at "h") => `(tactic| first
  | assumption
  | exact upd_same
  | (refine' (upd_ne ?kn).trans ?kh; (case kn => walk_at "ne"); (case kh => walk_at "h"))
  | (refine' Kp.at_ ?kk ?kn ?kh; (case kk => assumption); (case kn => walk_at "nm"); (case kh => walk_at "h"))
  | (refine' Same.at_ ?kk ?kh; (case kk => assumption); (case kh => walk_at "h"))
  | fail)
local macro_rules | `(tactic| walk_at "c") => `(tactic| first
  | assumption
  | rfl
  | omega
  | decide
  | (simp only [List.length_cons, List.length_nil, List.length_map, List.length_append, List.length_range, List.length_replicate]; omega)
  | fail)
local macro_rules | `(tactic| walk_at "l") => `(tactic| first
  | assumption
  | exact SqL.of (by walk_at "h")
  | (refine Kp.sqL (by assumption) ?_ ?_ <;> first | assumption | walk_at "nm" | walk_at "l")
  | fail)
local macro_rules | `(tactic| walk_at "t") => `(tactic| first
  | assumption
  | exact SqT.of (by walk_at "h")
  | (refine Kp.sqT (by assumption) ?_ ?_ <;> first | assumption | walk_at "nm" | walk_at "t")
  | fail)
local macro_rules | `(tactic| walk_at "i") => `(tactic| first
  | assumption
  | exact .inl (by walk_at "h")
  | exact .inr (by walk_at "h")
  | (refine' Inn.kp (H := ?_) ?k1 ?k2; (case k2 => assumption); (case k1 => walk_at "i"))
  | (refine' Inn.upd ?k1 ?k2; (case k2 => assumption); (case k1 => walk_at "i"))
  | fail)
local macro_rules | `(tactic| walk_at "mem") => `(tactic| first
  | exact List.mem_cons_self
  | (refine' List.mem_cons_of_mem _ ?k1; (case k1 => walk_at "mem"))
  | fail)
local macro_rules | `(tactic| walk_at "kp") => `(tactic| first
  | assumption
  | exact Kp.refl
  | (refine' Kp.upd_in ?k1 ?k2; (case k2 => walk_at "mem"); (case k1 => walk_at "kp"))
  | (refine' Kp.upd_new ?k1 ?k2; (case k2 => assumption); (case k1 => walk_at "kp"))
  | (refine' Kp.upd_new' ?k1 ?k2; (case k2 => assumption); (case k1 => walk_at "kp"))
  | (refine' Kp.upd_new ?k1 ?k2; (case k2 => walk_at "no"); (case k1 => walk_at "kp"))
  | fail)
local macro_rules | `(tactic| walk_at "no") => `(tactic| first
  | assumption
  | (refine' none_of ?k1 ?k2; (case k2 => assumption); (case k1 => walk_at "kp"))
  | fail)
local macro_rules | `(tactic| walk_at "ki") => `(tactic| first
  | exact ki_NoneType_str
  | exact ki_NoneType_int
  | exact ki_NoneType_bool
  | exact ki_NoneType_list
  | exact ki_NoneType_tuple
  | exact ki_NoneType_dict
  | exact ki_bool_str
  | exact ki_bool_int
  | exact ki_bool_bool
  | exact ki_bool_list
  | exact ki_bool_tuple
  | exact ki_bool_dict
  | exact ki_int_str
  | exact ki_int_int
  | exact ki_int_bool
  | exact ki_int_list
  | exact ki_int_tuple
  | exact ki_int_dict
  | exact ki_str_str
  | exact ki_str_int
  | exact ki_str_bool
  | exact ki_str_list
  | exact ki_str_tuple
  | exact ki_str_dict
  | exact ki_list_str
  | exact ki_list_int
  | exact ki_list_bool
  | exact ki_list_list
  | exact ki_list_tuple
  | exact ki_list_dict
  | exact ki_tuple_str
  | exact ki_tuple_int
  | exact ki_tuple_bool
  | exact ki_tuple_list
  | exact ki_tuple_tuple
  | exact ki_tuple_dict
  | exact ki_dict_str
  | exact ki_dict_int
  | exact ki_dict_bool
  | exact ki_dict_list
  | exact ki_dict_tuple
  | exact ki_dict_dict
  | fail)
local macro_rules | `(tactic| walk_at "ty") => `(tactic| first
  | assumption
  | exact .base (.int _)
  | exact .base (.str _)
  | exact .base (.bl _)
  | exact .base .non
  | (refine' .base (.lst ?k1); (case k1 => walk_at "h"))
  | (refine' .base (.tup ?k1); (case k1 => walk_at "h"))
  | (refine' .base (.dK ?k1); (case k1 => walk_at "h"))
  | fail)
local macro_rules | `(tactic| walk_at "s1") => `(tactic| first
  | (refine' add_go  ?kq)
  | (refine' sub_go  ?kq)
  | (refine' mul_goL ?k1 ?k2 ?kq; (case k1 => walk_at "c"); (case k2 => walk_at "c"))
  | (refine' mul_goR ?k1 ?k2 ?kq; (case k1 => walk_at "c"); (case k2 => walk_at "c"))
  | (refine' mod_go ?k1 ?kq; (case k1 => walk_at "c"))
  | (refine' div_go ?k1 ?k2 ?kq; (case k1 => walk_at "c"); (case k2 => walk_at "c"))
  | (refine' eq_go  ?kq)
  | (refine' ne_go  ?kq)
  | (refine' lt_go  ?kq)
  | (refine' le_go  ?kq)
  | (refine' gt_go  ?kq)
  | (refine' ge_go  ?kq)
  | (refine' ixL_go ?k1 ?k2 ?kq; (case k1 => walk_at "l"); (case k2 => rfl))
  | (refine' ixT_go ?k1 ?k2 ?kq; (case k1 => walk_at "t"); (case k2 => rfl))
  | (refine' set_go ?k1 ?k2 ?kq; (case k1 => walk_at "h"); (case k2 => rfl))
  | (refine' eqS_go  ?kq)
  | (refine' neS_go  ?kq)
  | (refine' eqB_go  ?kq)
  | (refine' neB_go  ?kq)
  | (refine' eqN_go  ?kq)
  | (refine' neI0_go ?k1 ?k2 ?kq; (case k1 => walk_at "l"); (case k2 => walk_at "l"))
  | (refine' eqI0_go ?k1 ?k2 ?kq; (case k1 => walk_at "l"); (case k2 => walk_at "l"))
  | (refine' neI_go ?k1 ?k2 ?kq; (case k1 => walk_at "l"); (case k2 => walk_at "l"))
  | (refine' eqI_go ?k1 ?k2 ?kq; (case k1 => walk_at "l"); (case k2 => walk_at "l"))
  | (refine' len_str ?k1 ?kq; (case k1 => walk_at "c"))
  | (refine' len_lst ?k1 ?kq; (case k1 => walk_at "l"))
  | (refine' len_tup ?k1 ?kq; (case k1 => walk_at "t"))
  | (refine' len_dK ?k1 ?kq; (case k1 => walk_at "h"))
  | (refine' isi_go ?k1 ?k2 ?kq; (case k1 => walk_at "ty"); (case k2 => walk_at "ki"))
  | (refine' isi2_go ?k1 ?k2 ?k3 ?k4 ?kq; (case k1 => walk_at "h"); (case k2 => walk_at "ty"); (case k3 => walk_at "ki"); (case k4 => walk_at "ki"))
  | (refine' int_go  ?kq)
  | (refine' intB_go  ?kq)
  | (refine' pow_go ?k1 ?k2 ?k3 ?kq; (case k1 => walk_at "c"); (case k2 => walk_at "c"); (case k3 => walk_at "c"))
  | (refine' neg_go  ?kq)
  | (refine' app_go ?k1 ?k2 ?kq; (case k1 => walk_at "h"); (case k2 => walk_at "c"))
  | (refine' addL_go ?k1 ?k2 ?k3 ?kq; (case k1 => walk_at "h"); (case k2 => walk_at "h"); (case k3 => walk_at "c"))
  | (refine' addS_go ?k1 ?kq; (case k1 => walk_at "c"))
  | (refine' rep_go ?k1 ?k2 ?k3 ?k4 ?kq; (case k1 => walk_at "h"); (case k2 => walk_at "c"); (case k3 => walk_at "c"); (case k4 => walk_at "c"))
  | (refine' iadd_go  ?kq)
  | (refine' iaddL_go ?k1 ?k2 ?k3 ?kq; (case k1 => walk_at "h"); (case k2 => walk_at "h"); (case k3 => walk_at "c"))
  | (refine' isub_go  ?kq)
  | (refine' imod_go ?k1 ?kq; (case k1 => walk_at "c"))
  | (refine' ltS_go  ?kq)
  | (refine' gtS_go  ?kq)
  | (refine' isN_go  ?kq)
  | (refine' notN_go  ?kq)
  | (refine' inC_go  ?kq)
  | (refine' notInC_go  ?kq)
  | (refine' list_goL ?k1 ?kq; (case k1 => walk_at "l"))
  | (refine' list_goT ?k1 ?kq; (case k1 => walk_at "t"))
  | (refine' tuple_goL ?k1 ?kq; (case k1 => walk_at "l"))
  | (refine' tuple_goT ?k1 ?kq; (case k1 => walk_at "t"))
  | (refine' list_goI ?k1 ?kq; (case k1 => walk_at "i"))
  | (refine' pop0_go ?k1 ?kq; (case k1 => walk_at "h"))
  | (refine' popE_go ?k1 ?kq; (case k1 => walk_at "h"))
  | (refine' slL_go ?k1 ?kq; (case k1 => walk_at "l"))
  | (refine' slS_go ?k1 ?kq; (case k1 => walk_at "c"))
  | (refine' ord_go  ?kq)
  | (refine' abs_go  ?kq)
  | fail)
local macro_rules | `(tactic| walk_at "s") => `(tactic| first
  | refine ⟨_, rfl, ?_⟩
  | refine iteD (fun _ => ?_) (fun _ => ?_)
  | refine iteN (fun _ => ?_) (fun _ => ?_)
  | refine iteT ?_
  | refine iteF ?_
  | walk_at "s1"
  | with_reducible refine st_nx ?_
  | (dsimp only; with_reducible refine st_nx ?_)
  | (refine' gTup_go ?k1 ?k2 ?kq; (case k1 => walk_at "t"); (case k2 => rfl))
  | refine And.intro (sz_of' (by walk_at "c")) ?_
  | refine And.intro (by walk_at "c") ?_
  | refine ⟨_, _, rfl, ?_⟩
  | refine ⟨_, _, _, rfl, ?_⟩
  | refine ⟨_, _, _, _, rfl, ?_⟩
  | refine ⟨.inl ⟨rfl, _, by walk_at "l"⟩, ?_⟩
  | refine ⟨⟨_, rfl⟩, ?_⟩
  | (refine fun (p : Addr) (np : _ = none) => ?_)
  | refine iteB (fun _ => ?_) (fun _ => ?_)
  | (refine' seqV_go ?k1 ?k2 (fun J G w hG => ?kq); (case k1 => rfl); (case k2 => walk_at "i"))
  | (refine' enSV_go ?k1 ?k2 ?k3 (fun J G w hG => ?kq); (case k1 => rfl); (case k2 => exact ⟨by decide, by decide⟩); (case k3 => walk_at "i"))
  | fail)
local macro_rules | `(tactic| walk_at "go") => `(tactic| repeat' walk_at "s")
/-! ## streams: what the defs promise -/
namespace Stm
open PySem PySem.Spec PyProof.Rows L2 Kb
/-- the kinds of things that are met -/
def Kd (t : String) : Prop := t = "NoneType" ∨ t = "bool" ∨ t = "int" ∨ t = "str" ∨ t = "list" ∨ t = "tuple" ∨ t = "dict"
def isB : V → Bool
  | .int i => decide (0 ≤ i ∧ i ≤ 255)
  | _ => false
def Knw (K : PySem.W.Frag) (H : Hp) (v : V) : Prop := ∃ t, TyX K H v (.type t) ∧ Kd t
/-- b is whether x is a row of bytes -/
def BA (K : PySem.W.Frag) (H : Hp) (x : V) (b : Bool) : Prop :=
  (∃ a vs, x = .ref a ∧ Inn H a vs ∧ (∀ v ∈ vs, Knw K H v) ∧ b = vs.all isB) ∨
  (∃ t, TyX K H x (.type t) ∧ (t = "NoneType" ∨ t = "bool" ∨ t = "int" ∨ t = "str" ∨ t = "dict") ∧ b = false)
def sp_is_bytes (K : PySem.W.Frag) : Sp := fun vs H Q _ => ∃ x b, vs = [x] ∧ BA K H x b ∧ ∀ H', Kp [] H H' → Q (.bl b) H'
/-- a list or a tuple of ints -/
@[reducible] def Ints (H : Hp) (a : Addr) (ns : List Int) : Prop := Inn H a (ns.map V.int)
/-- a new list of ints is told -/
def NewI (H : Hp) (Q : VK) (ns : List Int) : Prop := ∀ H' p, H p = none → Kp [] H H' → H' p = some (.lst (ns.map V.int)) → Q (.ref p) H'
def wsum : Int → List Int → Int
  | _, [] => 0
  | k, b :: bs => k * b + wsum (k + 1) bs
def chk (bs : List Int) : List Int := bs ++ [bs.sum % 65521 / 256, bs.sum % 65521 % 256, wsum 1 bs % 65521 / 256, wsum 1 bs % 65521 % 256]
def sp_checked (K : PySem.W.Frag) : Sp := fun vs H Q _ => ∃ a bs, vs = [.ref a] ∧ Ints H a bs ∧ bs.length ≤ 1000000 ∧ NewI H Q (chk bs)
def rstep (s : List Int × List Int) (b : Int) : List Int × List Int :=
  if b = 0 then (s.1 ++ ([(s.2.length : Int) + 1] ++ s.2), [])
  else if s.2.length + 1 = 254 then (s.1 ++ ([((s.2 ++ [b]).length : Int) + 1] ++ (s.2 ++ [b])), []) else (s.1, s.2 ++ [b])
def rst (bs : List Int) : List Int × List Int := bs.foldl rstep ([], [])
def inRuns (bs : List Int) : List Int :=
  if (rst bs).2 ≠ [] ∨ bs = [] ∨ bs.getLast? = some 0 then (rst bs).1 ++ ([((rst bs).2.length : Int) + 1] ++ (rst bs).2) else (rst bs).1
def sp_in_runs (K : PySem.W.Frag) : Sp := fun vs H Q _ => ∃ a bs, vs = [.ref a] ∧ H a = some (.lst (bs.map V.int)) ∧ bs.length ≤ 1000000 ∧ NewI H Q (inRuns bs)
def strm (pss : List (List Int)) : List Int := pss.flatMap fun p => inRuns (chk p) ++ [0]
def Okb (bs : List Int) : Prop := ∀ b ∈ bs, 0 ≤ b ∧ b ≤ 255
/-- parts at hand: rows of bytes -/
def Parts (H : Hp) (us : List V) (pss : List (List Int)) : Prop := us.length = pss.length ∧ ∀ (i : Nat) (v : V), us[i]? = some v → ∃ a ps, pss[i]? = some ps ∧ v = V.ref a ∧ Ints H a ps ∧ Okb ps ∧ ps.length ≤ 100000
def sp_streamed (K : PySem.W.Frag) : Sp := fun vs H Q _ => ∃ a us pss, vs = [.ref a] ∧ Inn H a us ∧ Parts H us pss ∧ (strm pss).length ≤ 8000000 ∧ NewI H Q (strm pss)
end Stm

/-! ## the laws' own defs that several laws share: promises -/
namespace Stm
open PySem PySem.Spec PyProof.Rows L2 Kb
/-- the state of the draws: a list S of the cells' list C and three numbers -/
def St (H : Hp) (S C : Addr) : Prop := S ≠ C ∧ ∃ (cs : List Int) (w x n : Int), H S = some (.lst [.ref C, .int w, .int x, .int n]) ∧ H C = some (.lst (cs.map V.int)) ∧ cs.length ≤ 1000
@[irreducible] def sp_law_take (K : PySem.W.Frag) : Sp := fun vs H Q _ => ∃ S C m, vs = [.ref S, .int m] ∧ St H S C ∧ 0 < m ∧ m < 1073741824 ∧ ∀ H' r, Kp [S, C] H H' → St H' S C → 0 ≤ r → r < m → Q (.int r) H'
/-- a new list of bytes, at most n long, is told -/
def NewB (H : Hp) (Q : VK) (S C : Addr) (n : Nat) : Prop := ∀ H' p bs, H p = none → Kp [S, C] H H' → St H' S C → H' p = some (.lst (bs.map V.int)) → Okb bs → bs.length ≤ n → Q (.ref p) H'
@[irreducible] def sp_law_stretch (K : PySem.W.Frag) : Sp := fun vs H Q _ => ∃ S C, vs = [.ref S] ∧ St H S C ∧ NewB H Q S C 600
@[irreducible] def sp_law_part (K : PySem.W.Frag) : Sp := fun vs H Q _ => ∃ S C, vs = [.ref S] ∧ St H S C ∧ NewB H Q S C 2000
end Stm
namespace Stm
open PySem PySem.Spec PyProof.Rows L2 Kb
/-- drawing since H0: all that stood there stands but the state -/
def SC (H0 : Hp) (S C : Addr) (H : Hp) : Prop := Kp [S, C] H0 H ∧ St H S C
end Stm

/-! ## streams: what the runs are -/
namespace Stm
def enc (cs : List (List Int)) : List Int := cs.flatMap fun c => ((c.length : Int) + 1) :: c
def dec : List (List Int) → List Int
  | [] => []
  | c :: cs => c ++ (if c.length < 254 ∧ cs ≠ [] then [0] else []) ++ dec cs
/-- chunks as a row of runs has them; ahead is the size that was read last -/
def good : Int → List (List Int) → Prop
  | _, [] => True
  | ah, c :: cs => c.length ≤ 254 ∧ (∀ b ∈ c, b ≠ 0) ∧ ¬ (c = [] ∧ ah = 255 ∧ cs = []) ∧ good (c.length + 1) cs
def decF (cs : List (List Int)) : List Int := cs.flatMap fun c => c ++ (if c.length < 254 then [0] else [])
def cstep (s : List (List Int) × List Int) (b : Int) : List (List Int) × List Int :=
  if b = 0 then (s.1 ++ [s.2], []) else if s.2.length + 1 = 254 then (s.1 ++ [s.2 ++ [b]], []) else (s.1, s.2 ++ [b])
theorem enc_snoc (cs : List (List Int)) (c : List Int) : enc (cs ++ [c]) = enc cs ++ ([(c.length : Int) + 1] ++ c) := by
  unfold enc
  rw [List.flatMap_append, List.flatMap_singleton]
  rfl
theorem decF_snoc (cs : List (List Int)) (c : List Int) : decF (cs ++ [c]) = decF cs ++ (c ++ (if c.length < 254 then [0] else [])) := by
  unfold decF
  rw [List.flatMap_append, List.flatMap_singleton]
theorem dec_snoc : ∀ (cs : List (List Int)) (c : List Int), dec (cs ++ [c]) = decF cs ++ c
  | [], c => by simp [dec, decF]
  | d :: cs, c => by
    rw [List.cons_append]
    unfold dec
    rw [dec_snoc cs c]
    have e : decF (d :: cs) = d ++ (if d.length < 254 then [0] else []) ++ decF cs := by simp [decF]
    rw [e]
    have : cs ++ [c] ≠ [] := by simp
    simp [this]
theorem good_snoc : ∀ (cs : List (List Int)) (ah : Int) (c : List Int), (∀ d ∈ cs, d.length ≤ 254 ∧ ∀ b ∈ d, b ≠ 0) → c.length ≤ 254 → (∀ b ∈ c, b ≠ 0) →
    (c = [] → (cs = [] → ah ≠ 255) ∧ ∀ ds d, cs = ds ++ [d] → d.length ≠ 254) → good ah (cs ++ [c])
  | [], ah, c, h, hl, hn, hc => ⟨hl, hn, fun ⟨a, b, _⟩ => (hc a).1 rfl b, trivial⟩
  | d :: cs, ah, c, h, hl, hn, hc => by
    refine ⟨(h d List.mem_cons_self).1, (h d List.mem_cons_self).2, fun ⟨_, _, z⟩ => by simp at z, ?_⟩
    refine good_snoc cs _ c (fun e he => h e (List.mem_cons_of_mem _ he)) hl hn fun z => ⟨fun e => ?_, fun ds x e => (hc z).2 (d :: ds) x (by rw [e]; rfl)⟩
    have := (hc z).2 [] d (by rw [e]; rfl)
    omega
/-- the fold that makes the runs, with its chunks -/
def cst (bs : List Int) : List (List Int) × List Int := bs.foldl cstep ([], [])
theorem cst_snoc (xs : List Int) (b : Int) : cst (xs ++ [b]) = cstep (cst xs) b := by
  unfold cst
  rw [List.foldl_append]
  rfl
structure CI (xs : List Int) (s : List (List Int) × List Int) : Prop where
  r : rst xs = (enc s.1, s.2)
  d : xs = decF s.1 ++ s.2
  n : ∀ c ∈ s.1, c.length ≤ 254 ∧ ∀ b ∈ c, b ≠ 0
  l : s.2.length ≤ 253
  z : ∀ b ∈ s.2, b ≠ 0
  e : s.2 = [] → xs = [] ∨ ∃ ds d, s.1 = ds ++ [d] ∧ ((d.length = 254 ∧ xs.getLast? ≠ some 0) ∨ (d.length ≤ 253 ∧ xs.getLast? = some 0))
theorem rst_snoc' (xs : List Int) (b : Int) : rst (xs ++ [b]) = rstep (rst xs) b := by
  unfold rst
  rw [List.foldl_append]
  rfl
theorem CI.step {xs : List Int} {s : List (List Int) × List Int} (h : CI xs s) (b : Int) : CI (xs ++ [b]) (cstep s b) := by
  obtain ⟨s1, s2⟩ := s
  obtain ⟨r, d, n, l, z, e⟩ := h
  dsimp only at *
  unfold cstep
  by_cases h0 : b = 0
  · rw [if_pos h0]
    refine ⟨?_, ?_, ?_, Nat.zero_le _, (fun _ h => nomatch h), fun _ => .inr ⟨s1, s2, rfl, .inr ⟨l, by rw [List.getLast?_concat, h0]⟩⟩⟩
    · rw [rst_snoc', r]
      unfold rstep
      rw [if_pos h0]
      dsimp only
      rw [enc_snoc]
    · dsimp only
      rw [decF_snoc, if_pos (show s2.length < 254 by omega), d, h0]
      simp
    · intro c hc
      rcases List.mem_append.mp hc with hc | hc
      · exact n c hc
      · cases List.mem_singleton.mp hc
        exact ⟨Nat.le_trans l (by decide), z⟩
  · rw [if_neg h0]
    have zb : ∀ c ∈ s2 ++ [b], c ≠ 0 := fun c hc => by
      rcases List.mem_append.mp hc with hc | hc
      · exact z c hc
      · cases List.mem_singleton.mp hc
        exact h0
    by_cases h1 : s2.length + 1 = 254
    · rw [if_pos h1]
      refine ⟨?_, ?_, ?_, Nat.zero_le _, (fun _ h => nomatch h), fun _ => .inr ⟨s1, s2 ++ [b], rfl, .inl ⟨by simp; omega, by rw [List.getLast?_concat]; exact fun e => h0 (Option.some.inj e)⟩⟩⟩
      · rw [rst_snoc', r]
        unfold rstep
        rw [if_neg h0, if_pos h1]
        dsimp only
        rw [enc_snoc]
      · dsimp only
        rw [decF_snoc, if_neg (by simp; omega), d]
        simp
      · intro c hc
        rcases List.mem_append.mp hc with hc | hc
        · exact n c hc
        · cases List.mem_singleton.mp hc
          exact ⟨by simp; omega, zb⟩
    · rw [if_neg h1]
      refine ⟨?_, ?_, n, by simp; omega, zb, fun h => by simp at h⟩
      · rw [rst_snoc', r]
        unfold rstep
        rw [if_neg h0, if_neg h1]
      · dsimp only
        rw [d]
        simp
theorem ci_fold : ∀ (ys xs : List Int) (s : List (List Int) × List Int), CI xs s → ∃ t, CI (xs ++ ys) t
  | [], xs, s, h => ⟨s, by rw [List.append_nil]; exact h⟩
  | y :: ys, xs, s, h => by
    have := ci_fold ys (xs ++ [y]) _ (h.step y)
    rw [List.append_assoc] at this
    exact this
/-- a row in runs: chunks that are read back as the row -/
theorem runs_ex (bs : List Int) : ∃ cs, inRuns bs = enc cs ∧ dec cs = bs ∧ good 0 cs ∧ cs ≠ [] := by
  obtain ⟨⟨s1, s2⟩, r, d, n, l, z, e⟩ := ci_fold bs [] ([], []) ⟨rfl, rfl, (fun _ h => nomatch h), Nat.zero_le _, (fun _ h => nomatch h), fun _ => .inl rfl⟩
  rw [List.nil_append] at *
  dsimp only at *
  by_cases hc : s2 ≠ [] ∨ bs = [] ∨ bs.getLast? = some 0
  · refine ⟨s1 ++ [s2], ?_, ?_, good_snoc s1 0 s2 n (by omega) z fun h0 => ⟨fun _ => by decide, fun ds x hx hl => ?_⟩, by simp⟩
    · unfold inRuns
      rw [r, if_pos hc, enc_snoc]
    · rw [dec_snoc, ← d]
    · rcases e h0 with rfl | ⟨ds', x', h1, h2⟩
      · rw [hx, decF_snoc] at d
        have := congrArg List.length d
        simp at this
        omega
      · rw [hx] at h1
        obtain ⟨_, e2⟩ := List.append_inj' h1 rfl
        have e3 := (List.cons.inj e2).1
        subst e3
        rcases h2 with ⟨_, h2⟩ | ⟨h2, _⟩
        · rcases hc with h | rfl | h
          · exact h h0
          · rw [hx, decF_snoc] at d
            have := congrArg List.length d
            simp at this
            omega
          · exact h2 h
        · omega
  · have h0 : s2 = [] := Classical.byContradiction fun h => hc (.inl h)
    have h1 : bs ≠ [] := fun h => hc (.inr (.inl h))
    have h2 : bs.getLast? ≠ some 0 := fun h => hc (.inr (.inr h))
    rcases e h0 with h | ⟨ds, x, rfl, h⟩
    · exact absurd h h1
    · rcases h with ⟨hl, _⟩ | ⟨_, h⟩
      · refine ⟨ds ++ [x], ?_, ?_, good_snoc ds 0 x (fun c hc => n c (List.mem_append_left _ hc)) (by omega) (n x (List.mem_append_right _ List.mem_cons_self)).2 (fun h => by rw [h] at hl; cases hl), by simp⟩
        · unfold inRuns
          rw [r, if_neg hc]
        · rw [decF_snoc, if_neg (by omega), h0] at d
          rw [dec_snoc, d]
          simp
      · exact absurd h h2
end Stm
namespace Stm
theorem dec_mem {b : Int} : ∀ {cs : List (List Int)} {c : List Int}, c ∈ cs → b ∈ c → b ∈ dec cs
  | d :: cs, c, hc, hb => by
    unfold dec
    rcases List.mem_cons.mp hc with rfl | hc
    · exact List.mem_append_left _ (List.mem_append_left _ hb)
    · exact List.mem_append_right _ (dec_mem hc hb)
theorem good_mem : ∀ {cs : List (List Int)} {ah : Int} {c : List Int}, good ah cs → c ∈ cs → c.length ≤ 254 ∧ ∀ b ∈ c, b ≠ 0
  | d :: cs, ah, c, g, hc => by
    rcases List.mem_cons.mp hc with rfl | hc
    · exact ⟨g.1, g.2.1⟩
    · exact good_mem g.2.2.2 hc
theorem enc_bytes {cs : List (List Int)} {ah : Int} (g : good ah cs) (ok : ∀ b ∈ dec cs, 0 ≤ b ∧ b ≤ 255) : ∀ b ∈ enc cs, 1 ≤ b ∧ b ≤ 255 := by
  intro b hb
  unfold enc at hb
  obtain ⟨c, hc, hb⟩ := List.mem_flatMap.mp hb
  have := good_mem g hc
  rcases List.mem_cons.mp hb with rfl | hb
  · omega
  · have h1 := ok b (dec_mem hc hb)
    have h2 := this.2 b hb
    omega
theorem chk_okb {ps : List Int} (h : Okb ps) : Okb (chk ps) := by
  intro b hb
  unfold chk at hb
  rcases List.mem_append.mp hb with hb | hb
  · exact h b hb
  · have e1 := Int.emod_nonneg ps.sum (show (65521 : Int) ≠ 0 by decide)
    have e2 := Int.emod_lt_of_pos ps.sum (show (0 : Int) < 65521 by decide)
    have e3 := Int.emod_nonneg (wsum 1 ps) (show (65521 : Int) ≠ 0 by decide)
    have e4 := Int.emod_lt_of_pos (wsum 1 ps) (show (0 : Int) < 65521 by decide)
    simp only [List.mem_cons, List.not_mem_nil, or_false] at hb
    generalize ps.sum % 65521 = u at *
    generalize wsum 1 ps % 65521 = v at *
    rcases hb with rfl | rfl | rfl | rfl <;> omega
theorem runs_bytes {bs : List Int} (h : Okb bs) : ∀ b ∈ inRuns bs, 1 ≤ b ∧ b ≤ 255 := by
  obtain ⟨cs, e1, e2, g, _⟩ := runs_ex bs
  rw [e1]
  exact enc_bytes g (by rw [e2]; exact h)
theorem runs_ne (bs : List Int) : inRuns bs ≠ [] := by
  obtain ⟨cs, e1, e2, g, n⟩ := runs_ex bs
  rw [e1]
  match cs, n with
  | c :: cs, _ => intro h; cases h
theorem rstep_lenM {s : List Int × List Int} {b : Int} {n : Nat} (h : s.1.length + s.2.length ≤ 2 * n ∧ s.2.length ≤ 253) : (rstep s b).1.length + (rstep s b).2.length ≤ 2 * (n + 1) ∧ (rstep s b).2.length ≤ 253 := by
  unfold rstep
  split
  · simp only [List.length_append, List.length_cons, List.length_nil]
    omega
  · split
    · simp only [List.length_append, List.length_cons, List.length_nil]
      omega
    · simp only [List.length_append, List.length_cons, List.length_nil]
      omega
theorem rst_lenM : ∀ (ys : List Int) (s : List Int × List Int) (n : Nat), s.1.length + s.2.length ≤ 2 * n ∧ s.2.length ≤ 253 → (ys.foldl rstep s).1.length + (ys.foldl rstep s).2.length ≤ 2 * (n + ys.length)
  | [], s, n, h => h.1
  | y :: ys, s, n, h => by
    have := rst_lenM ys (rstep s y) (n + 1) (rstep_lenM h)
    rw [List.foldl_cons, List.length_cons]
    exact Nat.le_trans this (by omega)
theorem runs_len (bs : List Int) : (inRuns bs).length ≤ 2 * bs.length + 1 := by
  have := rst_lenM bs ([], []) 0 ⟨Nat.le_refl _, Nat.zero_le _⟩
  rw [Nat.zero_add] at this
  have : (rst bs).1.length + (rst bs).2.length ≤ 2 * bs.length := this
  unfold inRuns
  split
  · simp only [List.length_append, List.length_cons, List.length_nil]
    omega
  · omega
theorem strm_cons (p : List Int) (pss : List (List Int)) : strm (p :: pss) = inRuns (chk p) ++ [0] ++ strm pss := by simp [strm]
theorem strm_bytes : ∀ {pss : List (List Int)}, (∀ p ∈ pss, Okb p) → Okb (strm pss)
  | [], _ => fun _ h => nomatch h
  | p :: pss, h => by
    rw [strm_cons]
    intro b hb
    rcases List.mem_append.mp hb with hb | hb
    · rcases List.mem_append.mp hb with hb | hb
      · have := runs_bytes (chk_okb (h p List.mem_cons_self)) b hb
        omega
      · cases List.mem_singleton.mp hb
        decide
    · exact strm_bytes (fun q hq => h q (List.mem_cons_of_mem _ hq)) b hb
theorem strm_le : ∀ {pss : List (List Int)} {n : Nat}, (∀ p ∈ pss, p.length ≤ n) → (strm pss).length ≤ pss.length * (2 * n + 10)
  | [], n, _ => Nat.zero_le _
  | p :: pss, n, h => by
    rw [strm_cons, List.length_append, List.length_append]
    have h1 := runs_len (chk p)
    have h2 : (chk p).length = p.length + 4 := by simp [chk]
    have h3 := h p List.mem_cons_self
    have h4 := strm_le (pss := pss) (n := n) fun q hq => h q (List.mem_cons_of_mem _ hq)
    have h5 : (p :: pss).length * (2 * n + 10) = pss.length * (2 * n + 10) + (2 * n + 10) := by rw [List.length_cons, Nat.add_mul, Nat.one_mul]
    rw [h5]
    simp only [List.length_cons, List.length_nil]
    omega
end Stm
namespace Stm
open PySem PySem.Spec PyProof.Rows L2 Kb
theorem atI_app (pre : List Int) (x : Int) (ys : List Int) : atI ((pre ++ x :: ys).map V.int) (pre.length : Int) = some (.int x) :=
  atI_nat (by simp)
theorem sIx_nat (n d : Nat) (k : Nat) (h : k ≤ n) : HT.sIx n d (some (k : Int)) = k := by
  rw [HT.sIx_nat]
  omega
theorem cutI_mid {α : Type} (pre : List α) (x : α) (c ys : List α) : cutI (pre ++ x :: (c ++ ys)) (some ((pre.length : Int) + 1)) (some ((pre.length : Int) + ((c.length : Int) + 1))) = c := by
  have e1 : ((pre.length : Int) + 1) = ((pre.length + 1 : Nat) : Int) := by omega
  have e2 : ((pre.length : Int) + ((c.length : Int) + 1)) = ((pre.length + (c.length + 1) : Nat) : Int) := by omega
  unfold cutI
  rw [e1, e2, sIx_nat _ _ _ (by simp), sIx_nat _ _ _ (by simp)]
  have e3 : pre ++ x :: (c ++ ys) = (pre ++ [x]) ++ (c ++ ys) := by simp
  rw [e3, List.drop_left' (by simp), List.take_left' (by omega)]
theorem dec_cons (c : List Int) (cs : List (List Int)) : dec (c :: cs) = c ++ (if c.length < 254 ∧ cs ≠ [] then [0] else []) ++ dec cs := rfl
theorem enc_cons (c : List Int) (cs : List (List Int)) : enc (c :: cs) = ((c.length : Int) + 1) :: (c ++ enc cs) := rfl
theorem enc_len0 {cs : List (List Int)} (h : (enc cs).length = 0) : cs = [] := by
  match cs, h with
  | [], _ => rfl
  | c :: cs, h => rw [enc_cons] at h; simp at h
end Stm

namespace Stm
open PySem PySem.Spec PyProof.Rows L2 Kb
def t_is_bytes (K : PySem.W.Frag) : TS :=
 (tSeq (tIfS (tNot (tTru K (tCB (rIsiU K) (tCons (tVar 0) (tCons (tTup (tCons (tC (.ty "list")) (tCons (tC (.ty "tuple")) tNil))) tNil)))))
 (tRet (tC (.bl false)))
 tNext)
 (tSeq (tFor (iSeq K (tVar 0)) (gName 1)
 (tIfS (tOr (tNot (tTru K (tCB (rIsiU K) (tCons (tVar 1) (tCons (tC (.ty "int")) tNil))))) (tOr (tTru K (tCB (rIsiU K) (tCons (tVar 1) (tCons (tC (.ty "bool")) tNil)))) (tOr (tTest (tOp rLtU (tVar 1) (tC (.int 0)))) (tTest (tOp rGtU (tVar 1) (tC (.int 255)))))))
 (tRet (tC (.bl false)))
 tNext))
 (tRet (tC (.bl true)))))

def t_checked (K : PySem.W.Frag) : TS :=
 (tSeq (tAsg2 (tC (.int 0)) (gName 1) (gName 2))
 (tSeq (tFor (iEnumS K (tCons (tVar 0) tNil) (tC (.int 1))) (gTup K 2 (gCons (gName 3) (gCons (gName 4) gNil)))
 (tSeq (tAug 1 (tVar 4) rIAddU)
 (tAug 2 (tOp (rMulU K) (tVar 3) (tVar 4)) rIAddU)))
 (tSeq (tAug 1 (tC (.int 65521)) rIModU)
 (tSeq (tAug 2 (tC (.int 65521)) rIModU)
 (tRet (tOp (rAddU K) (tCB (rListU K) (tCons (tVar 0) tNil)) (tLst (tCons (tOp rDivU (tVar 1) (tC (.int 256))) (tCons (tOp rModU (tVar 1) (tC (.int 256))) (tCons (tOp rDivU (tVar 2) (tC (.int 256))) (tCons (tOp rModU (tVar 2) (tC (.int 256))) tNil)))))))))))

def t_in_runs (K : PySem.W.Frag) : TS :=
 (tSeq (tAsg (tLst tNil) (gName 1))
 (tSeq (tAsg (tLst tNil) (gName 2))
 (tSeq (tFor (iList K (tVar 0)) (gName 3)
 (tSeq (tIfS (tTest (tOp (rNeU K) (tVar 3) (tC (.int 0))))
 (tDrop (tBM K "list" rAppU (tVar 2) (tCons (tVar 3) tNil)))
 tNext)
 (tIfS (tOr (tTest (tOp (rEqU K) (tVar 3) (tC (.int 0)))) (tTest (tOp (rEqU K) (tCB (rLenU K) (tCons (tVar 2) tNil)) (tC (.int 254)))))
 (tSeq (tAug 1 (tOp (rAddU K) (tLst (tCons (tOp (rAddU K) (tCB (rLenU K) (tCons (tVar 2) tNil)) (tC (.int 1))) tNil)) (tVar 2)) rIAddU)
 (tAsg (tLst tNil) (gName 2)))
 tNext)))
 (tSeq (tIfS (tOr (tTest (tOp (rNeU K) (tVar 2) (tLst tNil))) (tOr (tTest (tOp (rEqU K) (tVar 0) (tLst tNil))) (tTest (tOp (rEqU K) (tOp (rIxU K) (tVar 0) (tUn rNegU (tC (.int 1)))) (tC (.int 0))))))
 (tAug 1 (tOp (rAddU K) (tLst (tCons (tOp (rAddU K) (tCB (rLenU K) (tCons (tVar 2) tNil)) (tC (.int 1))) tNil)) (tVar 2)) rIAddU)
 tNext)
 (tRet (tVar 1))))))

def t_streamed (K : PySem.W.Frag) : TS :=
 (tSeq (tAsg (tLst tNil) (gName 1))
 (tSeq (tFor (iSeq K (tVar 0)) (gName 2)
 (tSeq (tIfS (tNot (tTru K (tCall (sp_is_bytes K) [] E0 (tCons (tVar 2) tNil))))
 tNever
 tNext)
 (tAug 1 (tOp (rAddU K) (tCall (sp_in_runs K) [] E0 (tCons (tCall (sp_checked K) [] E0 (tCons (tVar 2) tNil)) tNil)) (tLst (tCons (tC (.int 0)) tNil))) rIAddU)))
 (tRet (tVar 1))))

end Stm

/-! ## streams: the readings -/
namespace Stm
open PySem PySem.Spec PyProof.Rows L2 Kb
theorem len_is_bytes (K : PySem.W.Frag) : ∀ vs H Q E, sp_is_bytes K vs H Q E → vs.length = ["data"].length := by
  rintro _ _ _ _ ⟨_, _, rfl, _⟩; rfl
theorem len_checked (K : PySem.W.Frag) : ∀ vs H Q E, sp_checked K vs H Q E → vs.length = ["part"].length := by
  rintro _ _ _ _ ⟨_, _, rfl, _⟩; rfl
theorem len_in_runs (K : PySem.W.Frag) : ∀ vs H Q E, sp_in_runs K vs H Q E → vs.length = ["data"].length := by
  rintro _ _ _ _ ⟨_, _, rfl, _⟩; rfl
theorem len_streamed (K : PySem.W.Frag) : ∀ vs H Q E, sp_streamed K vs H Q E → vs.length = ["parts"].length := by
  rintro _ _ _ _ ⟨_, _, _, rfl, _⟩; rfl
theorem kd_int {K : PySem.W.Frag} {t : String} (h : Kd t) : PySem.W.kitOne K (.type t) (.type "int") = some (t == "int" || t == "bool") := by
  rcases h with rfl | rfl | rfl | rfl | rfl | rfl | rfl <;> exact kit_ty (by decide +kernel)
theorem kd_bool {K : PySem.W.Frag} {t : String} (h : Kd t) : PySem.W.kitOne K (.type t) (.type "bool") = some (t == "bool") := by
  rcases h with rfl | rfl | rfl | rfl | rfl | rfl | rfl <;> exact kit_ty (by decide +kernel)
theorem ty_int_of' {K : PySem.W.Frag} {H : Hp} {v : V} {t : Value} (h : TyX K H v t) (e : t = .type "int") : ∃ i, v = .int i := by
  cases h with
  | base b =>
    cases b with
    | int i => exact ⟨i, rfl⟩
    | _ => exact absurd e (by first | (intro z; cases z; done) | (intro z; injection z with z; revert z; decide))
  | _ => exact absurd e (by first | (intro z; cases z; done) | (intro z; injection z with z; revert z; decide))
theorem ty_int_of {K : PySem.W.Frag} {H : Hp} {v : V} (h : TyX K H v (.type "int")) : ∃ i, v = .int i := ty_int_of' h rfl
theorem ty_not' {K : PySem.W.Frag} {H : Hp} {v : V} {t : Value} (h : TyX K H v t) (n : t ≠ .type "int") : isB v = false := by
  cases h with
  | base b =>
    cases b <;> first | rfl | exact absurd rfl n
  | _ => rfl
theorem ty_not {K : PySem.W.Frag} {H : Hp} {v : V} {t : String} (h : TyX K H v (.type t)) (n : t ≠ "int") : isB v = false := ty_not' h fun e => n (by injection e)
theorem p_is_bytes (K : PySem.W.Frag) (vs : List V) (H : Hp) (Q : VK) (E : XK) (h : sp_is_bytes K vs H Q E) : t_is_bytes K { nx := fun _ H' => Q .non H', rt := Q } (start ["data", "byte"] vs) H := by
  obtain ⟨x, b, rfl, hx, q⟩ := h
  rcases hx with ⟨a, vs, rfl, hs, hk, rfl⟩ | ⟨t, ht, hkd, rfl⟩
  · have key : ∀ T : String, (T = "list" ∨ T = "tuple") → TyX K H (.ref a) (.type T) → t_is_bytes K { nx := fun _ H' => Q .non H', rt := Q } (start ["data", "byte"] [V.ref a]) H := by
      intro T hT hty
      walk_at "go"
      rename_i p np
      refine isi2_go upd_same (tyX_same (Kp.refl.new np).same hty) (b := T == "list") (c := T == "tuple") ?_ ?_ ?_
      · rcases hT with rfl | rfl <;> exact kit_ty (by decide +kernel)
      · rcases hT with rfl | rfl <;> exact kit_ty (by decide +kernel)
      have e : (T == "list" || T == "tuple") = true := by rcases hT with rfl | rfl <;> decide
      rw [e]
      walk_at "go"
      rename_i J G w hG
      refine for_it w (fun i σ H' => (∃ u, σ = [some (.ref a), u]) ∧ Kp [] H H' ∧ ∀ v ∈ vs.take i, isB v = true) ⟨⟨_, rfl⟩, Kp.refl.new np, by simp⟩ (fun i σ H' _ h => hG H' ((upd_ne (hs.newNe np)).trans (hs.same h.2.1))) ?_ (fun σ H' h => ?_)
      · rintro i x σ H1 H2 hi ⟨⟨u, rfl⟩, hk1, hall⟩ ⟨rfl, hx⟩
        obtain ⟨t, ty, hkd⟩ := hk x (List.mem_of_getElem? hx)
        have ty := tyX_same hk1.same ty
        have no : t ≠ "int" → Q (.bl false) H2 := fun n => by
          have e : vs.all isB = false := by
            rw [List.all_eq_false]
            exact ⟨x, List.mem_of_getElem? hx, by rw [ty_not ty n]; decide⟩
          rw [← e]
          exact q _ hk1
        rcases hkd with rfl | rfl | rfl | rfl | rfl | rfl | rfl
        case inr.inr.inl =>
          obtain ⟨n, rfl⟩ := ty_int_of ty
          have bad : ¬ (0 ≤ n ∧ n ≤ 255) → Q (.bl false) H2 := fun hn => by
            have e : vs.all isB = false := by
              rw [List.all_eq_false]
              exact ⟨_, List.mem_of_getElem? hx, by simp [isB]; omega⟩
            rw [← e]
            exact q _ hk1
          walk_at "go"
          · exact bad (by omega)
          · exact bad (by omega)
          · intro v hv
            rw [List.take_add_one, hx] at hv
            rcases List.mem_append.mp hv with hv | hv
            · exact hall v hv
            · cases List.mem_singleton.mp hv
              simp only [isB]
              exact decide_eq_true (by omega)
        all_goals
          walk_at "go"
          exact no (by decide)
      · obtain ⟨⟨u, rfl⟩, hk1, hall⟩ := h
        walk_at "go"
        have e : vs.all isB = true := by
          rw [List.all_eq_true]
          intro v hv
          exact hall v (by rw [List.take_length]; exact hv)
        rw [← e]
        exact q _ hk1
    rcases hs with hs | hs
    · exact key "list" (.inl rfl) (.base (.lst hs))
    · exact key "tuple" (.inr rfl) (.base (.tup hs))
  · walk_at "go"
    rename_i p np
    refine isi2_go upd_same (tyX_same (Kp.refl.new np).same ht) (b := false) (c := false) ?_ ?_ ?_
    · rcases hkd with rfl | rfl | rfl | rfl | rfl <;> exact kit_ty (by decide +kernel)
    · rcases hkd with rfl | rfl | rfl | rfl | rfl <;> exact kit_ty (by decide +kernel)
    walk_at "go"
    exact q _ (Kp.refl.new np)
theorem sum_snoc (xs : List Int) (b : Int) : (xs ++ [b]).sum = xs.sum + b := by simp
theorem wsum_snoc : ∀ (xs : List Int) (k b : Int), wsum k (xs ++ [b]) = wsum k xs + (k + xs.length) * b
  | [], k, b => by simp [wsum]
  | x :: xs, k, b => by
    rw [List.cons_append]
    unfold wsum
    rw [wsum_snoc xs]
    simp only [List.length_cons]
    have e : k + 1 + (xs.length : Int) = k + ((xs.length + 1 : Nat) : Int) := by omega
    rw [e]
    omega
theorem map_get {xs : List Int} {i : Nat} {x : V} (h : (xs.map V.int)[i]? = some x) : ∃ b, xs[i]? = some b ∧ x = .int b := by
  rw [List.getElem?_map] at h
  obtain ⟨b, h1, h2⟩ := Option.map_eq_some_iff.mp h
  exact ⟨b, h1, h2.symm⟩
theorem p_checked (K : PySem.W.Frag) (vs : List V) (H : Hp) (Q : VK) (E : XK) (h : sp_checked K vs H Q E) : t_checked K { nx := fun _ H' => Q .non H', rt := Q } (start ["part", "total", "weighed", "number", "byte"] vs) H := by
  obtain ⟨a, bs, rfl, ha, hl, q⟩ := h
  walk_at "go"
  rename_i J G w hG
  refine for_it w (fun i σ H' => (∃ u v, σ = [some (.ref a), some (.int (bs.take i).sum), some (.int (wsum 1 (bs.take i))), u, v]) ∧ Kp [] H H') ⟨⟨_, _, rfl⟩, Kp.refl⟩ (fun i σ H' _ h => hG H' (ha.same h.2)) ?_ (fun σ H' h => ?_)
  · rintro i x σ H1 H2 hi ⟨⟨u, v, rfl⟩, hk1⟩ ⟨T, y, rfl, hT, rfl, hx⟩
    obtain ⟨b, hb, rfl⟩ := map_get hx
    rw [List.length_map] at hi
    walk_at "go"
    have e : bs.take (i + 1) = bs.take i ++ [b] := by rw [List.take_add_one, hb]; rfl
    have el : (bs.take i).length = i := by rw [List.length_take]; omega
    rw [e, sum_snoc, wsum_snoc, el]
    exact ⟨⟨_, _, rfl⟩, hk1.new hT⟩
  · obtain ⟨⟨u, v, rfl⟩, hk1⟩ := h
    rw [List.length_map, List.take_length]
    walk_at "go"
    rename_i p1 n1 p2 n2 p3 n3
    exact q _ p3 (none_of ((hk1.new n1).new n2) n3) (((hk1.new n1).new n2).new n3) (by rw [upd_same, chk, List.map_append]; rfl)
theorem rst_snoc (xs : List Int) (b : Int) : rst (xs ++ [b]) = rstep (rst xs) b := by
  unfold rst
  rw [List.foldl_append]
  rfl
theorem rstep_len {s : List Int × List Int} {b : Int} {n : Nat} (h : s.1.length + s.2.length ≤ 2 * n ∧ s.2.length ≤ 253) : (rstep s b).1.length + (rstep s b).2.length ≤ 2 * (n + 1) ∧ (rstep s b).2.length ≤ 253 := by
  unfold rstep
  split
  · simp only [List.length_append, List.length_cons, List.length_nil]
    omega
  · split
    · simp only [List.length_append, List.length_cons, List.length_nil]
      omega
    · simp only [List.length_append, List.length_cons, List.length_nil]
      omega
theorem rst_lenG : ∀ (ys : List Int) (s : List Int × List Int) (n : Nat), s.1.length + s.2.length ≤ 2 * n ∧ s.2.length ≤ 253 → (ys.foldl rstep s).1.length + (ys.foldl rstep s).2.length ≤ 2 * (n + ys.length) ∧ (ys.foldl rstep s).2.length ≤ 253
  | [], s, n, h => h
  | y :: ys, s, n, h => by
    have := rst_lenG ys (rstep s y) (n + 1) (rstep_len h)
    rw [List.foldl_cons, List.length_cons]
    refine ⟨Nat.le_trans this.1 (by omega), this.2⟩
theorem rst_len (xs : List Int) : (rst xs).1.length + (rst xs).2.length ≤ 2 * xs.length ∧ (rst xs).2.length ≤ 253 := by
  have := rst_lenG xs ([], []) 0 ⟨Nat.le_refl _, Nat.zero_le _⟩
  rw [Nat.zero_add] at this
  exact this
theorem rstep0 {s : List Int × List Int} {b : Int} (h : b = 0) : rstep s b = (s.1 ++ ([(s.2.length : Int) + 1] ++ s.2), []) := by unfold rstep; rw [if_pos h]
theorem rstepF {s : List Int × List Int} {b : Int} (h : ¬ b = 0) (h2 : s.2.length + 1 = 254) : rstep s b = (s.1 ++ ([((s.2 ++ [b]).length : Int) + 1] ++ (s.2 ++ [b])), []) := by unfold rstep; rw [if_neg h, if_pos h2]
theorem rstepN {s : List Int × List Int} {b : Int} (h : ¬ b = 0) (h2 : ¬ s.2.length + 1 = 254) : rstep s b = (s.1, s.2 ++ [b]) := by unfold rstep; rw [if_neg h, if_neg h2]
theorem p_in_runs (K : PySem.W.Frag) (vs : List V) (H : Hp) (Q : VK) (E : XK) (h : sp_in_runs K vs H Q E) : t_in_runs K { nx := fun _ H' => Q .non H', rt := Q } (start ["data", "found", "run", "byte"] vs) H := by
  obtain ⟨a, bs, rfl, ha, hl, q⟩ := h
  walk_at "go"
  rename_i f nf r nr
  have nf' : f ≠ r := by
    rintro rfl
    rw [upd_same] at nr
    cases nr
  have nr0 : H r = none := by rwa [upd_ne nf'.symm] at nr
  refine ⟨⟨_, by walk_at "l"⟩, ?_⟩
  refine for_it (walk_list (xs := bs.map V.int)) (fun i σ H' => ∃ r u, σ = [some (.ref a), some (.ref f), some (.ref r), u] ∧ Kp [] H H' ∧ H' f = some (.lst ((rst (bs.take i)).1.map V.int)) ∧ H' r = some (.lst ((rst (bs.take i)).2.map V.int)) ∧ H r = none ∧ f ≠ r) ⟨r, _, rfl, (Kp.refl.new nf).new nr, by walk_at "h", by walk_at "h", nr0, nf'⟩ (fun i σ H' _ h => ?_) ?_ (fun σ H' h => ?_)
  · obtain ⟨r, u, _, k, _⟩ := h
    exact SqL.of (by walk_at "h")
  · rintro i x σ H1 H2 hi ⟨r, u, rfl, hk1, hf, hr, hr0, hne⟩ ⟨rfl, hx⟩
    obtain ⟨b, hb, rfl⟩ := map_get hx
    rw [List.length_map] at hi
    have e : bs.take (i + 1) = bs.take i ++ [b] := by rw [List.take_add_one, hb]; rfl
    have el : (bs.take i).length = i := by rw [List.length_take]; omega
    have hlen := rst_len (bs.take i)
    rw [el] at hlen
    rw [e, rst_snoc]
    generalize rst (bs.take i) = s at *
    obtain ⟨s1, s2⟩ := s
    dsimp only at hf hr hlen
    walk_at "go"
    all_goals try (exfalso; omega)
    · rename_i h1 _ h2 p3 n3 p2 n2 p1 n1
      have h2 : s2.length + 1 = 254 := by
        rw [List.length_append, List.length_map, List.length_singleton] at h2
        omega
      rw [rstepF h1 h2]
      refine ⟨by walk_at "kp", (show _ = some _ from by walk_at "h").trans (by simp), upd_same, by walk_at "no", by walk_at "ne"⟩
    · rename_i h1 _ h2
      have h2 : ¬ s2.length + 1 = 254 := by
        rw [List.length_append, List.length_map, List.length_singleton] at h2
        omega
      rw [rstepN h1 h2]
      refine ⟨by walk_at "kp", by walk_at "h", upd_same.trans (by simp), hr0, hne⟩
    · rename_i h1 _ p3 n3 p2 n2 p1 n1
      rw [rstep0 h1]
      refine ⟨by walk_at "kp", (show _ = some _ from by walk_at "h").trans (by simp), upd_same, by walk_at "no", by walk_at "ne"⟩
  · obtain ⟨r, u, rfl, hk1, hf, hr, hr0, hne⟩ := h
    rw [List.length_map, List.take_length] at hf hr
    have hlen := rst_len bs
    walk_at "go"
    · rename_i p4 n4 h1 p2 n2 p1 n1
      refine q _ f nf (by walk_at "kp") ?_
      rw [upd_same, inRuns, if_pos (.inl h1)]
      simp
    · rename_i p4 n4 _ p3 n3 h1 p2 n2 p1 n1
      refine q _ f nf (by walk_at "kp") ?_
      rw [upd_same, inRuns, if_pos (.inr (.inl h1))]
      simp
    · rename_i p4 n4 h1 p3 n3 h2
      obtain ⟨ys, z, rfl⟩ : ∃ ys z, bs = ys ++ [z] := ⟨bs.dropLast, bs.getLast h2, (List.dropLast_concat_getLast h2).symm⟩
      have ea : (ys ++ [z]).map V.int = ys.map V.int ++ [V.int z] := by simp
      rw [ea] at ha
      refine ixL_go (SqL.of (by walk_at "h")) (atI_last _ _) ?_
      walk_at "go"
      · rename_i h3 p2 n2 p1 n1
        refine q _ f nf (by walk_at "kp") ?_
        rw [upd_same, inRuns, if_pos (.inr (.inr (by rw [List.getLast?_concat, h3])))]
        simp
      · rename_i h3
        refine q _ f nf (by walk_at "kp") ?_
        have n : ¬ ((rst (ys ++ [z])).2 ≠ [] ∨ ys ++ [z] = [] ∨ (ys ++ [z]).getLast? = some 0) := by
          rintro (h | h | h)
          · exact h h1
          · exact h2 h
          · rw [List.getLast?_concat] at h
            exact h3 (Option.some.inj h)
        rw [inRuns, if_neg n]
        walk_at "h"
theorem strm_len (pss : List (List Int)) (i : Nat) : (strm (pss.take i)).length ≤ (strm pss).length := by
  have e : strm pss = strm (pss.take i) ++ strm (pss.drop i) := by
    unfold strm
    rw [← List.flatMap_append, List.take_append_drop]
  rw [e, List.length_append]
  omega
theorem strm_snoc (pss : List (List Int)) (p : List Int) : strm (pss ++ [p]) = strm pss ++ (inRuns (chk p) ++ [0]) := by
  unfold strm
  rw [List.flatMap_append, List.flatMap_singleton]
theorem Parts.kp {H H' : Hp} {us : List V} {pss : List (List Int)} (h : Parts H us pss) (k : Kp [] H H') : Parts H' us pss := ⟨h.1, fun i v e => by
  obtain ⟨a, ps, h1, h2, h3, h4, h5⟩ := h.2 i v e
  exact ⟨a, ps, h1, h2, h3.kp k, h4, h5⟩⟩
theorem ba_ok {K : PySem.W.Frag} {H : Hp} {a : Addr} {ps : List Int} (h : Ints H a ps) (ok : Okb ps) : BA K H (.ref a) true := by
  refine .inl ⟨a, _, rfl, h, fun v hv => ?_, ?_⟩
  · obtain ⟨i, _, rfl⟩ := List.mem_map.mp hv
    exact ⟨"int", .base (.int i), .inr (.inr (.inl rfl))⟩
  · symm
    rw [List.all_eq_true]
    intro v hv
    obtain ⟨i, hi, rfl⟩ := List.mem_map.mp hv
    exact decide_eq_true (ok i hi)
theorem chk_len (ps : List Int) : (chk ps).length = ps.length + 4 := by simp [chk]
theorem p_streamed (K : PySem.W.Frag) (vs : List V) (H : Hp) (Q : VK) (E : XK) (h : sp_streamed K vs H Q E) : t_streamed K { nx := fun _ H' => Q .non H', rt := Q } (start ["parts", "found", "part"] vs) H := by
  obtain ⟨a, us, pss, rfl, ha, hp, hl, q⟩ := h
  walk_at "go"
  rename_i f nf J G w hG
  refine for_it w (fun i σ H' => (∃ u, σ = [some (.ref a), some (.ref f), u]) ∧ Kp [] H H' ∧ H' f = some (.lst ((strm (pss.take i)).map V.int))) ⟨⟨_, rfl⟩, Kp.refl.new nf, upd_same⟩ (fun i σ H' _ h => hG H' ?_) ?_ (fun σ H' h => ?_)
  · exact (upd_ne (ha.newNe nf)).trans (ha.same h.2.1)
  · rintro i x σ H1 H2 hi ⟨⟨u, rfl⟩, hk1, hf⟩ ⟨rfl, hx⟩
    obtain ⟨b, ps, hps, rfl, hb, hok, hpl⟩ := (hp.kp hk1).2 i x hx
    have e : pss.take (i + 1) = pss.take i ++ [ps] := by rw [List.take_add_one, hps]; rfl
    have hl1 := strm_len pss (i + 1)
    rw [e, strm_snoc, List.length_append, List.length_append] at hl1
    rw [e, strm_snoc]
    walk_at "go"
    refine ⟨.ref b, true, rfl, ba_ok hb hok, fun H3 k3 => ?_⟩
    walk_at "go"
    refine ⟨b, ps, rfl, hb.kp k3, by omega, fun H4 p np k4 hp4 => ?_⟩
    walk_at "go"
    refine ⟨p, chk ps, rfl, hp4, by rw [chk_len]; omega, fun H5 p2 np2 k5 hp5 => ?_⟩
    have hf5 := k5.at_ List.not_mem_nil (k4.at_ List.not_mem_nil (k3.at_ List.not_mem_nil hf))
    walk_at "go"
    have k := ((hk1.trans k3).trans k4).trans k5
    exact ⟨by walk_at "kp", upd_same.trans (by simp)⟩
  · obtain ⟨⟨u, rfl⟩, hk1, hf⟩ := h
    rw [hp.1, List.take_length] at hf
    walk_at "go"
    exact q _ f nf hk1 hf
end Stm

namespace Stm
open PySem PySem.Spec PyProof.Rows L2 Kb
def t_law_take (K : PySem.W.Frag) : TS :=
 (tSeq (tIfS (tAnd (tTest (tOp (rEqU K) (tOp (rIxU K) (tVar 0) (tC (.int 1))) (tC (.int 0)))) (tAnd (tTest (tOp (rEqU K) (tOp rModU (tOp (rIxU K) (tVar 0) (tC (.int 3))) (tC (.int 5))) (tC (.int 0)))) (tTest (tOp (rNeU K) (tOp (rIxU K) (tVar 0) (tC (.int 0))) (tLst tNil)))))
 (tSeq (tAsg (tBM K "list" rPopU (tOp (rIxU K) (tVar 0) (tC (.int 0))) (tCons (tC (.int 0)) tNil)) (gName 2))
 (tSeq (tIfS (tTest (tOp rLtU (tVar 2) (tC (.int 0))))
 (tAsg (tOp rSubU (tC (.int 0)) (tOp (rMulU K) (tC (.int 3)) (tVar 2))) (gName 2))
 tNext)
 (tIfS (tTest (tOp rGeU (tVar 2) (tOp rPowU (tC (.int 10)) (tC (.int 18)))))
 (tAsg (tVar 2) (gSub (tVar 0) (tC (.int 1)) rSetU))
 (tAsg (tOp rModU (tOp (rAddU K) (tOp (rMulU K) (tOp (rIxU K) (tVar 0) (tC (.int 2))) (tC (.int 31))) (tVar 2)) (tC (.int 2147483647))) (gSub (tVar 0) (tC (.int 2)) rSetU)))))
 tNext)
 (tSeq (tIfS (tTest (tOp rGtU (tOp (rIxU K) (tVar 0) (tC (.int 1))) (tC (.int 0))))
 (tSeq (tAsg (tOp rModU (tOp (rIxU K) (tVar 0) (tC (.int 1))) (tVar 1)) (gName 3))
 (tSeq (tAsg (tOp rDivU (tOp (rIxU K) (tVar 0) (tC (.int 1))) (tVar 1)) (gSub (tVar 0) (tC (.int 1)) rSetU))
 (tRet (tVar 3))))
 tNext)
 (tSeq (tAsg (tOp (rAddU K) (tOp (rIxU K) (tVar 0) (tC (.int 3))) (tC (.int 1))) (gSub (tVar 0) (tC (.int 3)) rSetU))
 (tSeq (tAsg (tOp rModU (tOp (rAddU K) (tOp (rIxU K) (tVar 0) (tC (.int 2))) (tOp (rMulU K) (tC (.int 104729)) (tOp (rIxU K) (tVar 0) (tC (.int 3))))) (tC (.int 2147483647))) (gName 4))
 (tSeq (tAsg (tOp rModU (tOp rPowU (tVar 4) (tC (.int 5))) (tC (.int 2147483647))) (gName 4))
 (tSeq (tAsg (tOp rModU (tOp (rMulU K) (tVar 4) (tOp (rAddU K) (tOp rDivU (tVar 4) (tC (.int 1009))) (tC (.int 69621)))) (tC (.int 2147483399))) (gName 4))
 (tRet (tOp rModU (tOp rDivU (tVar 4) (tC (.int 16))) (tVar 1)))))))))

end Stm

/-! ## the laws' own defs that several laws share: readings -/
namespace Stm
open PySem PySem.Spec PyProof.Rows L2 Kb
theorem len_law_take (K : PySem.W.Frag) : ∀ vs H Q E, sp_law_take K vs H Q E → vs.length = ["_law_state", "_law_many"].length := by
  intro _ _ _ _ h
  unfold sp_law_take at h
  obtain ⟨_, _, _, rfl, _⟩ := h
  rfl
theorem p_law_take (K : PySem.W.Frag) (vs : List V) (H : Hp) (Q : VK) (E : XK) (h : sp_law_take K vs H Q E) : t_law_take K { nx := fun _ H' => Q .non H', rt := Q } (start ["_law_state", "_law_many", "_law_cell", "_law_digit", "_law_one"] vs) H := by
  unfold sp_law_take at h
  obtain ⟨S, C, m, rfl, ⟨hne, cs, w, x, n, hS, hC, hcl⟩, hm0, hm1, q⟩ := h
  have hne' := hne.symm
  have fin : ∀ H' c' w' x' n' r, Kp [S, C] H H' → H' S = some (.lst [.ref C, .int w', .int x', .int n']) → H' C = some (.lst (List.map V.int c')) → c'.length ≤ 1000 → Q (.int (r % m)) H' := fun H' c' w' x' n' r k h1 h2 h3 =>
    q H' _ k ⟨hne, c', w', x', n', h1, h2, h3⟩ (Int.emod_nonneg _ (by omega)) (Int.emod_lt_of_pos _ hm0)
  rcases cs with _ | ⟨c, cs⟩
  · walk_at "go"
    all_goals try (exfalso; simp at *; omega)
    all_goals exact fin _ [] _ _ _ _ (by walk_at "kp") (by walk_at "h") (by walk_at "h") (by decide)
  · have hcl' : cs.length ≤ 1000 := by simp at hcl; omega
    walk_at "go"
    all_goals try (exfalso; simp at *; done)
    all_goals first
      | exact fin _ cs _ _ _ _ (by walk_at "kp") (by walk_at "h") (by walk_at "h") hcl'
      | exact fin _ (c :: cs) _ _ _ _ (by walk_at "kp") (by walk_at "h") (by walk_at "h") hcl
section
variable {K : PySem.W.Frag} {Q : VK} {E : XK} {H0 H : Hp} {S C : Addr}
theorem SC.new {p : Addr} {o : HO} (sc : SC H0 S C H) (n : H p = none) : SC H0 S C (upd H p o) := by
  obtain ⟨k, hne, cs, w, x, m, hS, hC, hl⟩ := sc
  exact ⟨k.upd_new' n, hne, cs, w, x, m, (upd_ne (ne_of_none hS n)).trans hS, (upd_ne (ne_of_none hC n)).trans hC, hl⟩
theorem SC.nm {p : Addr} (sc : SC H0 S C H) (n : H p = none) : p ∉ [S, C] := by
  obtain ⟨k, hne, cs, w, x, m, hS, hC, hl⟩ := sc
  intro h
  rcases List.mem_cons.mp h with rfl | h
  · rw [hS] at n; cases n
  · cases List.mem_singleton.mp h
    rw [hC] at n; cases n
theorem SC.was {p : Addr} (sc : SC H0 S C H) (n : H p = none) : H0 p = none := sc.1.none_of (sc.nm n) n
theorem SC.upd {p : Addr} {o : HO} (sc : SC H0 S C H) (n : H0 p = none) (m : p ∉ [S, C]) : SC H0 S C (upd H p o) := by
  obtain ⟨k, hne, cs, w, x, z, hS, hC, hl⟩ := sc
  have h1 : S ≠ p := fun e => m (by rw [e]; exact List.mem_cons_self)
  have h2 : C ≠ p := fun e => m (by rw [e]; exact List.mem_cons_of_mem _ List.mem_cons_self)
  exact ⟨k.upd_new n, hne, cs, w, x, z, (upd_ne h1).trans hS, (upd_ne h2).trans hC, hl⟩
theorem take_go {m : Int} (sc : SC H0 S C H) (h0 : 0 < m) (h1 : m < 1073741824) (q : ∀ H' r, SC H0 S C H' → Kp [S, C] H H' → 0 ≤ r → r < m → Q (.int r) H') : sp_law_take K [.ref S, .int m] H Q E := by
  unfold sp_law_take
  exact ⟨S, C, m, rfl, sc.2, h0, h1, fun H' r k st a b => q H' r ⟨sc.1.trans k, st⟩ k a b⟩
theorem stretch_go (sc : SC H0 S C H) (q : ∀ H' p bs, H p = none → SC H0 S C H' → Kp [S, C] H H' → H' p = some (.lst (bs.map V.int)) → Okb bs → bs.length ≤ 600 → Q (.ref p) H') : sp_law_stretch K [.ref S] H Q E := by
  unfold sp_law_stretch
  exact ⟨S, C, rfl, sc.2, fun H' p bs n k st h o l => q H' p bs n ⟨sc.1.trans k, st⟩ k h o l⟩
theorem part_go (sc : SC H0 S C H) (q : ∀ H' p bs, H p = none → SC H0 S C H' → Kp [S, C] H H' → H' p = some (.lst (bs.map V.int)) → Okb bs → bs.length ≤ 2000 → Q (.ref p) H') : sp_law_part K [.ref S] H Q E := by
  unfold sp_law_part
  exact ⟨S, C, rfl, sc.2, fun H' p bs n k st h o l => q H' p bs n ⟨sc.1.trans k, st⟩ k h o l⟩
end
theorem ix_mem {α : Type} {xs : List α} {i : Int} (h0 : 0 ≤ i) (h1 : i < xs.length) : ∃ x, x ∈ xs ∧ atI xs i = some x := by
  have h : i.toNat < xs.length := by omega
  refine ⟨xs[i.toNat], List.getElem_mem h, ?_⟩
  have e : (i.toNat : Int) = i := by omega
  have := atI_nat (List.getElem?_eq_getElem h)
  rw [e] at this
  exact this
theorem ix_int {xs : List Int} {i : Int} (h0 : 0 ≤ i) (h1 : i < xs.length) : ∃ x, x ∈ xs ∧ atI (xs.map V.int) i = some (.int x) := by
  obtain ⟨x, hx, e⟩ := ix_mem (xs := xs.map V.int) (i := i) h0 (by rw [List.length_map]; exact h1)
  obtain ⟨y, hy, rfl⟩ := List.mem_map.mp hx
  exact ⟨y, hy, e⟩
theorem ixB_go {K : PySem.W.Frag} {H : Hp} {Q : VK} {a : Addr} {xs : List Int} {i : Int} (h : H a = some (.lst (xs.map V.int))) (h0 : 0 ≤ i) (h1 : i < xs.length) (q : ∀ x, x ∈ xs → Q (.int x) H) : rIxU K (.ref a) (.int i) H Q := by
  obtain ⟨x, hx, e⟩ := ix_int h0 h1
  exact ixL_go (SqL.of h) e (q x hx)
theorem okb_app {xs ys : List Int} (h : Okb xs) (g : Okb ys) : Okb (xs ++ ys) := fun b hb => (List.mem_append.mp hb).elim (h b) (g b)
theorem okb_nil : Okb [] := fun _ h => by cases h
theorem okb_one {b : Int} (h0 : 0 ≤ b) (h1 : b ≤ 255) : Okb [b] := fun c h => by cases List.mem_singleton.mp h; exact ⟨h0, h1⟩
theorem rep_ints (n : Nat) (b : Int) : (List.replicate n [V.int b]).flatten = (List.replicate n b).map V.int := by
  induction n with
  | zero => rfl
  | succ n ih => rw [List.replicate_succ, List.flatten_cons, ih]; rfl
theorem okb_rep {n : Nat} {b : Int} (h0 : 0 ≤ b) (h1 : b ≤ 255) : Okb (List.replicate n b) := fun c h => by rw [(List.mem_replicate.mp h).2]; exact ⟨h0, h1⟩
end Stm

/-! steps of the streams' laws: draws -/
local macro_rules | `(tactic| walk_at "sc") => `(tactic| first
  | assumption
  | (refine' Stm.SC.new ?k1 ?k2; (case k2 => assumption); (case k1 => walk_at "sc"))
  | (refine' Stm.SC.upd ?k1 ?k2 ?k3; (case k2 => assumption); (case k3 => assumption); (case k1 => walk_at "sc"))
  | fail)
local macro_rules | `(tactic| walk_at "tk") => `(tactic| first
  | (refine' Stm.take_go ?k1 ?k2 ?k3 (fun H1 r1 sc1 k1 h0 h1 => ?kq); (case k1 => walk_at "sc"); (case k2 => walk_at "c"); (case k3 => walk_at "c"))
  | (refine' Stm.stretch_go ?k1 (fun H1 p1 b1 n1 sc1 k1 h1 o1 l1 => ?kq); (case k1 => walk_at "sc"))
  | (refine' Stm.part_go ?k1 (fun H1 p1 b1 n1 sc1 k1 h1 o1 l1 => ?kq); (case k1 => walk_at "sc"))
  | fail)
local macro_rules | `(tactic| walk_at "nm") => `(tactic| first
  | assumption
  | exact List.not_mem_nil
  | (refine' Stm.SC.nm ?k1 ?k2; (case k2 => assumption); (case k1 => walk_at "sc"))
  | (refine' nm_cons ?kn ?km; (case kn => walk_at "ne"); (case km => walk_at "nm"))
  | fail)
local macro_rules | `(tactic| walk_at "go") => `(tactic| repeat' first | walk_at "tk" | walk_at "s")

/-! ## k50: promises -/
namespace K50
open PySem PySem.Spec PyProof.Rows L2 Kb Stm
def PartsN (H H' : Hp) (us : List V) (pss : List (List Int)) : Prop := us.length = pss.length ∧ us.length ≤ 64 ∧
  ∀ (i : Nat) (v : V), us[i]? = some v → ∃ a ps, pss[i]? = some ps ∧ v = V.ref a ∧ H a = none ∧ H' a = some (.lst (ps.map V.int)) ∧ Okb ps ∧ ps.length ≤ 2000
def sp_law_parts (K : PySem.W.Frag) : Sp := fun vs H Q _ => ∃ S C, vs = [.ref S] ∧ St H S C ∧ ∀ H' p us pss, H p = none → Kp [S, C] H H' → H' p = some (.lst us) → PartsN H H' us pss → Q (.ref p) H'
def sp_law_checked (K : PySem.W.Frag) : Sp := fun vs H Q _ => ∃ a bs, vs = [.ref a] ∧ H a = some (.lst (bs.map V.int)) ∧ bs.length ≤ 1000000 ∧ NewI H Q (chk bs)
def sp_law_undone (K : PySem.W.Frag) : Sp := fun vs H Q _ => ∃ a cs, vs = [.ref a] ∧ H a = some (.lst ((enc cs).map V.int)) ∧ good 0 cs ∧ (enc cs).length ≤ 1000000 ∧ NewI H Q (dec cs)
def sp_law_is_bytes (K : PySem.W.Frag) : Sp := fun vs H Q _ => ∃ a bs, vs = [.ref a] ∧ H a = some (.lst (bs.map V.int)) ∧ Okb bs ∧ ∀ H', Kp [] H H' → Q (.bl true) H'
def pstep (s : List (List Int) × List Int) (b : Int) : List (List Int) × List Int := if b = 0 then (s.1 ++ [s.2], []) else (s.1, s.2 ++ [b])
def pst (bs : List Int) : List (List Int) × List Int := bs.foldl pstep ([], [])
def sp_law_pieces (K : PySem.W.Frag) : Sp := fun vs H Q _ => ∃ a bs, vs = [.ref a] ∧ H a = some (.lst (bs.map V.int)) ∧ bs.length ≤ 8000000 ∧ (pst bs).2 = [] ∧ ∀ H' p us, H p = none → Kp [] H H' → H' p = some (.lst us) → LL H' us (pst bs).1 → Q (.ref p) H'
def sp_law (K : PySem.W.Frag) : Sp := fun vs H Q _ => ∃ (a : Addr) (ns : List Int), vs = [.ref a] ∧ SqL K H a (ns.map V.int) ∧ ns.length ≤ 63 ∧ ∀ H', Q (.bl true) H'
end K50

namespace K50
open PySem PySem.Spec PyProof.Rows L2 Kb Stm
def t_law_stretch (K : PySem.W.Frag) : TS :=
 (tSeq (tAsg (tCall (sp_law_take K) [] E0 (tCons (tVar 0) (tCons (tC (.int 10)) tNil))) (gName 1))
 (tSeq (tIfS (tTest (tOp (rEqU K) (tCall (sp_law_take K) [] E0 (tCons (tVar 0) (tCons (tC (.int 6)) tNil))) (tC (.int 1))))
 (tAsg (tOp (rIxU K) (tLst (tCons (tC (.int 250)) (tCons (tC (.int 253)) (tCons (tC (.int 254)) (tCons (tC (.int 255)) (tCons (tC (.int 504)) (tCons (tC (.int 508)) tNil))))))) (tCall (sp_law_take K) [] E0 (tCons (tVar 0) (tCons (tC (.int 6)) tNil)))) (gName 1))
 tNext)
 (tSeq (tAsg (tCall (sp_law_take K) [] E0 (tCons (tVar 0) (tCons (tC (.int 255)) tNil))) (gName 2))
 (tSeq (tAsg (tOp (rIxU K) (tLst (tCons (tC (.int 0)) (tCons (tC (.int 1)) (tCons (tC (.int 7)) tNil)))) (tCall (sp_law_take K) [] E0 (tCons (tVar 0) (tCons (tC (.int 3)) tNil)))) (gName 3))
 (tSeq (tAsg (tCall (sp_law_take K) [] E0 (tCons (tVar 0) (tCons (tC (.int 4)) tNil))) (gName 4))
 (tRet (tOp (rAddU K) (tLc (iRng1 (tCons (tVar 1) tNil)) (gName 5) tYes (tOp (rAddU K) (tOp rModU (tOp (rAddU K) (tVar 2) (tOp (rMulU K) (tVar 3) (tVar 5))) (tC (.int 255))) (tC (.int 1))) [5]) (tOp (rMulU K) (tLst (tCons (tC (.int 0)) tNil)) (tVar 4)))))))))

def t_law_part (K : PySem.W.Frag) : TS :=
 (tSeq (tIfS (tTest (tOp (rEqU K) (tCall (sp_law_take K) [] E0 (tCons (tVar 0) (tCons (tC (.int 8)) tNil))) (tC (.int 3))))
 (tRet (tOp (rAddU K) (tOp (rMulU K) (tLst (tCons (tC (.int 0)) tNil)) (tCall (sp_law_take K) [] E0 (tCons (tVar 0) (tCons (tC (.int 3)) tNil)))) (tOp (rMulU K) (tLst (tCons (tOp (rAddU K) (tC (.int 1)) (tCall (sp_law_take K) [] E0 (tCons (tVar 0) (tCons (tC (.int 255)) tNil)))) tNil)) (tOp (rAddU K) (tC (.int 250)) (tOp (rMulU K) (tC (.int 254)) (tCall (sp_law_take K) [] E0 (tCons (tVar 0) (tCons (tC (.int 2)) tNil))))))))
 tNext)
 (tSeq (tAsg (tLst tNil) (gName 1))
 (tSeq (tFor (iRng1 (tCons (tCall (sp_law_take K) [] E0 (tCons (tVar 0) (tCons (tC (.int 4)) tNil))) tNil)) (gName 2)
 (tAsg (tOp (rAddU K) (tVar 1) (tCall (sp_law_stretch K) [] E0 (tCons (tVar 0) tNil))) (gName 1)))
 (tSeq (tAsg (tCall (sp_law_take K) [] E0 (tCons (tVar 0) (tCons (tC (.int 9)) tNil))) (gName 3))
 (tSeq (tIfS (tTest (tOp (rEqU K) (tCall (sp_law_take K) [] E0 (tCons (tVar 0) (tCons (tC (.int 6)) tNil))) (tC (.int 2))))
 (tAsg (tCall (sp_law_take K) [] E0 (tCons (tVar 0) (tCons (tC (.int 61)) tNil))) (gName 3))
 tNext)
 (tRet (tOp (rAddU K) (tVar 1) (tLc (iRng1 (tCons (tVar 3) tNil)) (gName 2) tYes (tCall (sp_law_take K) [] E0 (tCons (tVar 0) (tCons (tC (.int 256)) tNil))) [2]))))))))

def t_law_parts (K : PySem.W.Frag) : TS :=
 (tSeq (tIfS (tTest (tOp (rEqU K) (tCall (sp_law_take K) [] E0 (tCons (tVar 0) (tCons (tC (.int 8)) tNil))) (tC (.int 5))))
 (tRet (tLc (iRng1 (tCons (tCall (sp_law_take K) [] E0 (tCons (tVar 0) (tCons (tC (.int 64)) tNil))) tNil)) (gName 1) tYes (tLc (iRng1 (tCons (tCall (sp_law_take K) [] E0 (tCons (tVar 0) (tCons (tC (.int 4)) tNil))) tNil)) (gName 2) tYes (tCall (sp_law_take K) [] E0 (tCons (tVar 0) (tCons (tC (.int 256)) tNil))) [2]) [1]))
 tNext)
 (tRet (tLc (iRng1 (tCons (tCall (sp_law_take K) [] E0 (tCons (tVar 0) (tCons (tC (.int 7)) tNil))) tNil)) (gName 1) tYes (tCall (sp_law_part K) [] E0 (tCons (tVar 0) tNil)) [1])))

def t_law_checked (K : PySem.W.Frag) : TS :=
 (tSeq (tAsg (tC (.int 0)) (gName 1))
 (tSeq (tAsg (tC (.int 0)) (gName 2))
 (tSeq (tFor (iRng1 (tCons (tCB (rLenU K) (tCons (tVar 0) tNil)) tNil)) (gName 3)
 (tSeq (tAsg (tOp rModU (tOp (rAddU K) (tVar 1) (tOp (rIxU K) (tVar 0) (tVar 3))) (tC (.int 65521))) (gName 1))
 (tAsg (tOp rModU (tOp (rAddU K) (tVar 2) (tOp (rMulU K) (tOp (rAddU K) (tVar 3) (tC (.int 1))) (tOp (rIxU K) (tVar 0) (tVar 3)))) (tC (.int 65521))) (gName 2))))
 (tRet (tOp (rAddU K) (tVar 0) (tLst (tCons (tOp rDivU (tVar 1) (tC (.int 256))) (tCons (tOp rModU (tVar 1) (tC (.int 256))) (tCons (tOp rDivU (tVar 2) (tC (.int 256))) (tCons (tOp rModU (tVar 2) (tC (.int 256))) tNil))))))))))

def t_law_undone (K : PySem.W.Frag) : TS :=
 (tSeq (tAsg (tLst tNil) (gName 1))
 (tSeq (tAsg (tC (.int 0)) (gName 2))
 (tSeq (tAsg (tC (.int 0)) (gName 3))
 (tSeq (tWhile (tTest (tOp rLtU (tVar 2) (tCB (rLenU K) (tCons (tVar 0) tNil))))
 (tSeq (tAsg (tOp (rIxU K) (tVar 0) (tVar 2)) (gName 4))
 (tSeq (tIfS (tTest (tOp rGtU (tOp (rAddU K) (tVar 2) (tVar 4)) (tCB (rLenU K) (tCons (tVar 0) tNil))))
 (tRet (tC .non))
 tNext)
 (tSeq (tIfS (tAnd (tTest (tOp (rEqU K) (tVar 4) (tC (.int 1)))) (tAnd (tTest (tOp (rEqU K) (tVar 3) (tC (.int 255)))) (tTest (tOp (rEqU K) (tOp (rAddU K) (tVar 2) (tC (.int 1))) (tCB (rLenU K) (tCons (tVar 0) tNil))))))
 (tRet (tC .non))
 tNext)
 (tSeq (tAsg (tOp (rAddU K) (tVar 1) (tSl (rSlLU K) (tVar 0) (tPart (tOp (rAddU K) (tVar 2) (tC (.int 1)))) (tPart (tOp (rAddU K) (tVar 2) (tVar 4))))) (gName 1))
 (tSeq (tAsg (tOp (rAddU K) (tVar 2) (tVar 4)) (gName 2))
 (tSeq (tAsg (tVar 4) (gName 3))
 (tIfS (tAnd (tTest (tOp rLtU (tVar 4) (tC (.int 255)))) (tTest (tOp rLtU (tVar 2) (tCB (rLenU K) (tCons (tVar 0) tNil)))))
 (tDrop (tBM K "list" rAppU (tVar 1) (tCons (tC (.int 0)) tNil)))
 tNext))))))))
 (tRet (tVar 1))))))

def t_law_is_bytes (K : PySem.W.Frag) : TS :=
 (tSeq (tIfS (tNot (tTru K (tCB (rIsiU K) (tCons (tVar 0) (tCons (tC (.ty "list")) tNil)))))
 (tRet (tC (.bl false)))
 tNext)
 (tSeq (tFor (iList K (tVar 0)) (gName 1)
 (tSeq (tIfS (tOr (tNot (tTru K (tCB (rIsiU K) (tCons (tVar 1) (tCons (tC (.ty "int")) tNil))))) (tTru K (tCB (rIsiU K) (tCons (tVar 1) (tCons (tC (.ty "bool")) tNil)))))
 (tRet (tC (.bl false)))
 tNext)
 (tIfS (tOr (tTest (tOp rLtU (tVar 1) (tC (.int 0)))) (tTest (tOp rGtU (tVar 1) (tC (.int 255)))))
 (tRet (tC (.bl false)))
 tNext)))
 (tRet (tC (.bl true)))))

def t_law_pieces (K : PySem.W.Frag) : TS :=
 (tSeq (tAsg (tLst tNil) (gName 1))
 (tSeq (tAsg (tLst tNil) (gName 2))
 (tSeq (tFor (iList K (tVar 0)) (gName 3)
 (tIfS (tTest (tOp (rEqU K) (tVar 3) (tC (.int 0))))
 (tSeq (tDrop (tBM K "list" rAppU (tVar 1) (tCons (tVar 2) tNil)))
 (tAsg (tLst tNil) (gName 2)))
 (tDrop (tBM K "list" rAppU (tVar 2) (tCons (tVar 3) tNil)))))
 (tSeq (tIfS (tTest (tOp (rNeU K) (tVar 2) (tLst tNil)))
 (tDrop (tBM K "list" rAppU (tVar 1) (tCons (tLst tNil) tNil)))
 tNext)
 (tRet (tVar 1))))))

def t_law (K : PySem.W.Frag) : TS :=
 (tSeq (tAsg (tLst (tCons (tCB (rListU K) (tCons (tSl (rSlLU K) (tVar 0) tNoPart (tPart (tC (.int 63)))) tNil)) (tCons (tC (.int 0)) (tCons (tC (.int 0)) (tCons (tC (.int 0)) tNil))))) (gName 1))
 (tSeq (tAsg (tCall (sp_law_parts K) [] E0 (tCons (tVar 1) tNil)) (gName 2))
 (tSeq (tAsg (tLc (iList K (tVar 2)) (gName 7) tYes (tCB (rListU K) (tCons (tVar 7) tNil)) [7]) (gName 3))
 (tSeq (tAsg (tCall (sp_streamed K) [] E0 (tCons (tVar 3) tNil)) (gName 4))
 (tSeq (tIfS (tOr (tNot (tTru K (tCall (sp_law_is_bytes K) [] E0 (tCons (tVar 4) tNil)))) (tTest (tOp (rNeU K) (tVar 3) (tVar 2))))
 (tRet (tC (.bl false)))
 tNext)
 (tSeq (tAsg (tCall (sp_law_pieces K) [] E0 (tCons (tVar 4) tNil)) (gName 5))
 (tSeq (tIfS (tTest (tOp (rNeU K) (tCB (rLenU K) (tCons (tVar 5) tNil)) (tCB (rLenU K) (tCons (tVar 2) tNil))))
 (tRet (tC (.bl false)))
 tNext)
 (tSeq (tFor (iZip K (tCons (tVar 5) (tCons (tVar 2) tNil))) (gTup K 2 (gCons (gName 6) (gCons (gName 7) gNil)))
 (tIfS (tOr (tTest (tOp (rEqU K) (tVar 6) (tLst tNil))) (tTest (tOp (rNeU K) (tCall (sp_law_undone K) [] E0 (tCons (tVar 6) tNil)) (tCall (sp_law_checked K) [] E0 (tCons (tVar 7) tNil)))))
 (tRet (tC (.bl false)))
 tNext))
 (tSeq (tAsg (tCB (rListU K) (tCons (tVar 4) tNil)) (gName 8))
 (tSeq (tDrop (tBM K "list" rAppU (tVar 4) (tCons (tC (.int 7)) tNil)))
 (tSeq (tFor (iList K (tVar 3)) (gName 7)
 (tDrop (tBM K "list" rAppU (tVar 7) (tCons (tC (.int 1)) tNil))))
 (tRet (tOp (rEqU K) (tCall (sp_streamed K) [] E0 (tCons (tCB (rTupleU K) (tCons (tLc (iList K (tVar 2)) (gName 7) tYes (tCB (rTupleU K) (tCons (tVar 7) tNil)) [7]) tNil)) tNil)) (tVar 8))))))))))))))
end K50

/-! ## k50: readings -/
namespace K50
open PySem PySem.Spec PyProof.Rows L2 Kb Stm
theorem len_law_stretch (K : PySem.W.Frag) : ∀ vs H Q E, sp_law_stretch K vs H Q E → vs.length = ["_law_state"].length := by
  intro _ _ _ _ h
  unfold sp_law_stretch at h
  obtain ⟨_, _, rfl, _⟩ := h
  rfl
theorem p_law_stretch (K : PySem.W.Frag) (vs : List V) (H : Hp) (Q : VK) (E : XK) (h : sp_law_stretch K vs H Q E) : t_law_stretch K { nx := fun _ H' => Q .non H', rt := Q } (start ["_law_state", "_law_size", "_law_first", "_law_step", "_law_zeros", "_law_k"] vs) H := by
  unfold sp_law_stretch at h
  obtain ⟨S, C, rfl, st, q⟩ := h
  have sc : SC H S C H := ⟨Kp.refl, st⟩
  walk_at "go"
  case' kq =>
    rename_i H1 r1 sc1 k1 h01 h11 H2 r2 sc2 k2 h02 h12 e p np H3 r3 sc3 k3 h03 h13
    refine ixB_go (xs := [250, 253, 254, 255, 504, 508]) (by walk_at "h") h03 (by simpa using h13) fun z hz => ?_
    have hz2 : 0 ≤ z ∧ z ≤ 508 := by simp at hz; omega
    walk_at "go"
  all_goals
    rename_i H2 r2 sc2 k2 h02 h12 p np H3 r3 sc3 k3 h03 h13
    refine ixB_go (xs := [0, 1, 7]) (by walk_at "h") h03 (by simpa using h13) fun y hy => ?_
    have hy2 : 0 ≤ y ∧ y ≤ 7 := by simp at hy; omega
    walk_at "go"
    rename_i H4 r4 sc4 k4 h04 h14 D nD
    have nD0 := sc4.was nD
    have nDm := sc4.nm nD
    refine lc_acc walk_range (fun i acc H' => SC H S C H' ∧ ∃ bs, acc = bs.map V.int ∧ Okb bs) ⟨sc4.new nD, [], rfl, okb_nil⟩ (fun _ _ _ _ _ => trivial) (fun i x acc Ha Hb hi hl hD hP hY => ?_) (fun acc Ha hl hD hP => ?_)
    · obtain ⟨sca, bs, rfl, ok⟩ := hP
      obtain ⟨rfl, rfl⟩ := hY
      refine ⟨rfl, ?_⟩
      walk_at "go"
      have b0 := Int.emod_nonneg (r2 + y * (0 + (i : Int))) (show (255 : Int) ≠ 0 by decide)
      have b1 := Int.emod_lt_of_pos (r2 + y * (0 + (i : Int))) (show (0 : Int) < 255 by decide)
      exact acc_go hl (by omega) hD ⟨sca.upd nD0 nDm, _, by rw [List.map_append]; rfl, okb_app ok (okb_one (by omega) (by omega))⟩
    · obtain ⟨sca, bs, rfl, ok⟩ := hP
      rw [List.length_map] at hl
      walk_at "go"
      rename_i p1 n1 p2 n2
      rw [rep_ints] at *
      walk_at "go"
      rename_i p3 n3
      have fin := ((sca.new n1).new n2).new (o := HO.lst (List.map V.int bs ++ List.map V.int (List.replicate r4.toNat 0))) n3
      exact q _ p3 (bs ++ List.replicate r4.toNat 0) (((sca.new n1).new n2).was n3) fin.1 fin.2 (upd_same.trans (by rw [List.map_append])) (okb_app ok (okb_rep (by decide) (by decide))) (by rw [List.length_append, List.length_replicate]; omega)
theorem len_law_part (K : PySem.W.Frag) : ∀ vs H Q E, sp_law_part K vs H Q E → vs.length = ["_law_state"].length := by
  intro _ _ _ _ h
  unfold sp_law_part at h
  obtain ⟨_, _, rfl, _⟩ := h
  rfl
theorem p_law_part (K : PySem.W.Frag) (vs : List V) (H : Hp) (Q : VK) (E : XK) (h : sp_law_part K vs H Q E) : t_law_part K { nx := fun _ H' => Q .non H', rt := Q } (start ["_law_state", "_law_part_here", "_law_k", "_law_many"] vs) H := by
  unfold sp_law_part at h
  obtain ⟨S, C, rfl, st, q⟩ := h
  have sc : SC H S C H := ⟨Kp.refl, st⟩
  walk_at "go"
  · rename_i H1 r1 sc1 k1 h01 h11 e p1 n1 H2 r2 sc2 k2 h02 h12 p2 n2 H3 r3 sc3 k3 h03 h13 p3 n3 H4 r4 sc4 k4 h04 h14 p4 n4
    have m2 := sc2.nm n2
    rw [rep_ints] at *
    have f2 : H4 p2 = some (.lst ((List.replicate r2.toNat 0).map V.int)) := k4.at_ m2 ((upd_ne (ne_of_none (k3.at_ m2 upd_same) n3)).trans (k3.at_ m2 upd_same))
    walk_at "go"
    rename_i p5 n5
    have fin := (sc4.new (o := HO.lst ((List.replicate (250 + 254 * r4).toNat (1 + r3)).map V.int)) n4).new (o := HO.lst ((List.replicate r2.toNat 0).map V.int ++ (List.replicate (250 + 254 * r4).toNat (1 + r3)).map V.int)) n5
    exact q _ p5 (List.replicate r2.toNat 0 ++ List.replicate (250 + 254 * r4).toNat (1 + r3)) ((sc4.new n4).was n5) fin.1 fin.2 (upd_same.trans (by rw [List.map_append])) (okb_app (okb_rep (by decide) (by decide)) (okb_rep (by omega) (by omega))) (by rw [List.length_append, List.length_replicate, List.length_replicate]; omega)
  · rename_i H1 r1 sc1 k1 h01 h11 e p1 n1 H2 r2 sc2 k2 h02 h12
    have m1 := sc1.nm n1
    refine for_it walk_range (fun i σ H' => ∃ u v L bs, σ = [some (.ref S), some (.ref L), u, v] ∧ SC H S C H' ∧ H' L = some (.lst (bs.map V.int)) ∧ L ∉ [S, C] ∧ Okb bs ∧ bs.length ≤ 600 * i) ⟨_, _, p1, [], rfl, sc2, k2.at_ m1 upd_same, m1, okb_nil, Nat.zero_le _⟩ (fun _ _ _ _ _ => trivial) ?_ (fun σ Ha h => ?_)
    · rintro i x σ Ha Hb hi ⟨u, v, L, bs, rfl, sca, hL, mL, ok, hl⟩ ⟨rfl, rfl⟩
      walk_at "go"
      rename_i Hc p3 b3 n3 sc3 k3 h3 o3 l3 p4 n4
      exact ⟨_, _, p4, bs ++ b3, rfl, sc3.new n4, upd_same.trans (by rw [List.map_append]), sc3.nm n4, okb_app ok o3, by rw [List.length_append]; omega⟩
    · obtain ⟨u, v, L, bs, rfl, sca, hL, mL, ok, hl⟩ := h
      walk_at "go"
      · rename_i _ _ _ _ _ _ _ _ _ _ _ _ _ H4 r4 sc4 k4 h04 h14 D nD
        have hL4 : H4 L = some (.lst (bs.map V.int)) := by walk_at "h"
        have nD0 := sc4.was nD
        have nDm := sc4.nm nD
        have hLD : L ≠ D := ne_of_none hL4 nD
        refine lc_acc walk_range (fun i acc H' => SC H S C H' ∧ H' L = some (.lst (bs.map V.int)) ∧ ∃ cs, acc = cs.map V.int ∧ Okb cs) ⟨sc4.new nD, (upd_ne hLD).trans hL4, [], rfl, okb_nil⟩ (fun _ _ _ _ _ => trivial) (fun i x acc Hc Hb hi hl4 hD hP hY => ?_) (fun acc Hc hl4 hD hP => ?_)
        · obtain ⟨scb, hLb, cs, rfl, okc⟩ := hP
          obtain ⟨rfl, rfl⟩ := hY
          refine ⟨rfl, ?_⟩
          walk_at "go"
          rename_i He re sce ke h0e h1e
          exact acc_go hl4 (by omega) (ke.at_ nDm hD) ⟨sce.upd nD0 nDm, (upd_ne hLD).trans (ke.at_ mL hLb), _, by rw [List.map_append]; rfl, okb_app okc (okb_one h0e (by omega))⟩
        · obtain ⟨scb, hLb, cs, rfl, okc⟩ := hP
          rw [List.length_map] at hl4
          walk_at "go"
          rename_i p5 n5
          have fin := scb.new (o := HO.lst (List.map V.int bs ++ List.map V.int cs)) n5
          exact q _ p5 (bs ++ cs) (scb.was n5) fin.1 fin.2 (upd_same.trans (by rw [List.map_append])) (okb_app ok okc) (by rw [List.length_append]; omega)
      · rename_i _ _ _ _ _ _ H4 r4 sc4 k4 h04 h14 _ D nD
        have hL4 : H4 L = some (.lst (bs.map V.int)) := by walk_at "h"
        have nD0 := sc4.was nD
        have nDm := sc4.nm nD
        have hLD : L ≠ D := ne_of_none hL4 nD
        refine lc_acc walk_range (fun i acc H' => SC H S C H' ∧ H' L = some (.lst (bs.map V.int)) ∧ ∃ cs, acc = cs.map V.int ∧ Okb cs) ⟨sc4.new nD, (upd_ne hLD).trans hL4, [], rfl, okb_nil⟩ (fun _ _ _ _ _ => trivial) (fun i x acc Hc Hb hi hl4 hD hP hY => ?_) (fun acc Hc hl4 hD hP => ?_)
        · obtain ⟨scb, hLb, cs, rfl, okc⟩ := hP
          obtain ⟨rfl, rfl⟩ := hY
          refine ⟨rfl, ?_⟩
          walk_at "go"
          rename_i He re sce ke h0e h1e
          exact acc_go hl4 (by omega) (ke.at_ nDm hD) ⟨sce.upd nD0 nDm, (upd_ne hLD).trans (ke.at_ mL hLb), _, by rw [List.map_append]; rfl, okb_app okc (okb_one h0e (by omega))⟩
        · obtain ⟨scb, hLb, cs, rfl, okc⟩ := hP
          rw [List.length_map] at hl4
          walk_at "go"
          rename_i p5 n5
          have fin := scb.new (o := HO.lst (List.map V.int bs ++ List.map V.int cs)) n5
          exact q _ p5 (bs ++ cs) (scb.was n5) fin.1 fin.2 (upd_same.trans (by rw [List.map_append])) (okb_app ok okc) (by rw [List.length_append]; omega)
def PN (M : List Addr) (H H' : Hp) (us : List V) (pss : List (List Int)) : Prop := us.length = pss.length ∧
  ∀ (i : Nat) (v : V), us[i]? = some v → ∃ a ps, pss[i]? = some ps ∧ v = V.ref a ∧ H a = none ∧ H' a = some (.lst (ps.map V.int)) ∧ Okb ps ∧ ps.length ≤ 2000 ∧ a ∉ M
theorem PN.nil {M : List Addr} {H H' : Hp} : PN M H H' [] [] := ⟨rfl, fun i v h => nomatch h⟩
theorem PN.kp {M : List Addr} {H H' H2 : Hp} {us : List V} {pss : List (List Int)} (h : PN M H H' us pss) (k : Kp M H' H2) : PN M H H2 us pss := ⟨h.1, fun i v e => by
  obtain ⟨a, ps, h1, h2, h3, h4, h5, h6, h7⟩ := h.2 i v e
  exact ⟨a, ps, h1, h2, h3, k.at_ h7 h4, h5, h6, h7⟩⟩
theorem PN.add {M : List Addr} {H H' : Hp} {p : Addr} {us : List V} {pss : List (List Int)} (h : PN M H H' us pss) (n : H' p = none) : PN (p :: M) H H' us pss := ⟨h.1, fun i v e => by
  obtain ⟨a, ps, h1, h2, h3, h4, h5, h6, h7⟩ := h.2 i v e
  exact ⟨a, ps, h1, h2, h3, h4, h5, h6, nm_cons (ne_of_none h4 n) h7⟩⟩
theorem PN.sub {M : List Addr} {H H' : Hp} {p : Addr} {us : List V} {pss : List (List Int)} (h : PN (p :: M) H H' us pss) : PN M H H' us pss := ⟨h.1, fun i v e => by
  obtain ⟨a, ps, h1, h2, h3, h4, h5, h6, h7⟩ := h.2 i v e
  exact ⟨a, ps, h1, h2, h3, h4, h5, h6, fun z => h7 (List.mem_cons_of_mem _ z)⟩⟩
theorem PN.snoc {M : List Addr} {H H' : Hp} {a : Addr} {us : List V} {ps : List Int} {pss : List (List Int)} (h : PN M H H' us pss) (n : H a = none) (ha : H' a = some (.lst (ps.map V.int))) (ok : Okb ps) (hl : ps.length ≤ 2000) (m : a ∉ M) : PN M H H' (us ++ [V.ref a]) (pss ++ [ps]) := by
  refine ⟨by rw [List.length_append, List.length_append, h.1]; rfl, fun i v e => ?_⟩
  by_cases hi : i < us.length
  · rw [List.getElem?_append_left hi] at e
    obtain ⟨b, qs, h1, h2, h3, h4, h5, h6, h7⟩ := h.2 i v e
    exact ⟨b, qs, by rw [List.getElem?_append_left (by rw [← h.1]; exact hi)]; exact h1, h2, h3, h4, h5, h6, h7⟩
  · rw [List.getElem?_append_right (by omega)] at e
    have e0 : i - us.length = 0 := by
      have := (List.getElem?_eq_some_iff.mp e).1
      simp at this
      omega
    rw [e0] at e
    cases e
    exact ⟨a, ps, by rw [List.getElem?_append_right (by rw [← h.1]; omega), ← h.1, e0]; rfl, rfl, n, ha, ok, hl, m⟩
theorem PN.parts {M : List Addr} {H H' : Hp} {us : List V} {pss : List (List Int)} (h : PN M H H' us pss) (hl : us.length ≤ 64) : PartsN H H' us pss := ⟨h.1, hl, fun i v e => by
  obtain ⟨a, ps, h1, h2, h3, h4, h5, h6, h7⟩ := h.2 i v e
  exact ⟨a, ps, h1, h2, h3, h4, h5, h6⟩⟩
theorem len_law_parts (K : PySem.W.Frag) : ∀ vs H Q E, sp_law_parts K vs H Q E → vs.length = ["_law_state"].length := by
  rintro _ _ _ _ ⟨_, _, rfl, _⟩; rfl
theorem p_law_parts (K : PySem.W.Frag) (vs : List V) (H : Hp) (Q : VK) (E : XK) (h : sp_law_parts K vs H Q E) : t_law_parts K { nx := fun _ H' => Q .non H', rt := Q } (start ["_law_state", "_law_k", "_law_j"] vs) H := by
  obtain ⟨S, C, rfl, st, q⟩ := h
  have sc : SC H S C H := ⟨Kp.refl, st⟩
  walk_at "go"
  · rename_i H1 r1 sc1 k1 h01 h11 e H2 r2 sc2 k2 h02 h12 D nD
    have nD0 := sc2.was nD
    have nDm := sc2.nm nD
    refine lc_acc walk_range (fun i acc H' => SC H S C H' ∧ ∃ pss, PN [D, S, C] H H' acc pss) ⟨sc2.new nD, [], .nil⟩ (fun _ _ _ _ _ => trivial) (fun i x acc Ha Hb hi hl hD hP hY => ?_) (fun acc Ha hl hD hP => ?_)
    · obtain ⟨sca, pss, hpn⟩ := hP
      obtain ⟨rfl, rfl⟩ := hY
      refine ⟨rfl, ?_⟩
      walk_at "go"
      rename_i H3 r3 sc3 k3 h03 h13 D2 n2
      have hpn3 := hpn.kp (k3.mono fun a h => List.mem_cons_of_mem _ h)
      have n20 := sc3.was n2
      have n2m := sc3.nm n2
      have hD3 := k3.at_ nDm hD
      have hDD : D ≠ D2 := ne_of_none hD3 n2
      refine lc_acc walk_range (fun j acc2 H' => SC H S C H' ∧ PN [D2, D, S, C] H H' acc pss ∧ H' D = some (.lst acc) ∧ ∃ cs, acc2 = cs.map V.int ∧ Okb cs) ⟨sc3.new n2, (hpn3.add n2).kp (Kp.refl.upd_in List.mem_cons_self), (upd_ne hDD).trans hD3, [], rfl, okb_nil⟩ (fun _ _ _ _ _ => trivial) (fun j x acc2 Hc Hd hj hl2 hD2 hP hY => ?_) (fun acc2 Hc hl2 hD2 hP => ?_)
      · obtain ⟨scc, hpnc, hDc, cs, rfl, okc⟩ := hP
        obtain ⟨rfl, rfl⟩ := hY
        refine ⟨rfl, ?_⟩
        walk_at "go"
        rename_i He re sce ke h0e h1e
        refine acc_go hl2 (by omega) (ke.at_ n2m hD2) ⟨sce.upd n20 n2m, ?_, (upd_ne hDD).trans (ke.at_ nDm hDc), _, by rw [List.map_append]; rfl, okb_app okc (okb_one h0e (by omega))⟩
        exact (hpnc.kp (ke.mono fun a h => List.mem_cons_of_mem _ (List.mem_cons_of_mem _ h))).kp (Kp.refl.upd_in List.mem_cons_self)
      · obtain ⟨scc, hpnc, hDc, cs, rfl, okc⟩ := hP
        rw [List.length_map] at hl2
        refine acc_go hl (by omega) hDc ⟨scc.upd nD0 nDm, pss ++ [cs], ?_⟩
        exact (hpnc.sub.snoc n20 hD2 okc (by omega) (nm_cons hDD.symm n2m)).kp (Kp.refl.upd_in List.mem_cons_self)
    · obtain ⟨sca, pss, hpn⟩ := hP
      exact q _ D acc pss nD0 sca.1 hD (hpn.parts (by omega))
  · rename_i H1 r1 sc1 k1 h01 h11 e H2 r2 sc2 k2 h02 h12 D nD
    have nD0 := sc2.was nD
    have nDm := sc2.nm nD
    refine lc_acc walk_range (fun i acc H' => SC H S C H' ∧ ∃ pss, PN [D, S, C] H H' acc pss) ⟨sc2.new nD, [], .nil⟩ (fun _ _ _ _ _ => trivial) (fun i x acc Ha Hb hi hl hD hP hY => ?_) (fun acc Ha hl hD hP => ?_)
    · obtain ⟨sca, pss, hpn⟩ := hP
      obtain ⟨rfl, rfl⟩ := hY
      refine ⟨rfl, ?_⟩
      walk_at "go"
      rename_i H3 p3 b3 n3 sc3 k3 h3 o3 l3
      have hpn3 := hpn.kp (k3.mono fun a h => List.mem_cons_of_mem _ h)
      have hD3 := k3.at_ nDm hD
      refine acc_go hl (by omega) hD3 ⟨sc3.upd nD0 nDm, pss ++ [b3], ?_⟩
      exact (hpn3.snoc (sca.was n3) h3 o3 l3 (nm_cons (ne_of_none hD n3).symm (sca.nm n3))).kp (Kp.refl.upd_in List.mem_cons_self)
    · obtain ⟨sca, pss, hpn⟩ := hP
      exact q _ D acc pss nD0 sca.1 hD (hpn.parts (by omega))
theorem len_law_checked (K : PySem.W.Frag) : ∀ vs H Q E, sp_law_checked K vs H Q E → vs.length = ["_law_part_here"].length := by
  rintro _ _ _ _ ⟨_, _, rfl, _⟩; rfl
theorem sum_emod_snoc (xs : List Int) (b : Int) : (xs.sum % 65521 + b) % 65521 = (xs ++ [b]).sum % 65521 := by
  rw [sum_snoc]
  omega
theorem p_law_checked (K : PySem.W.Frag) (vs : List V) (H : Hp) (Q : VK) (E : XK) (h : sp_law_checked K vs H Q E) : t_law_checked K { nx := fun _ H' => Q .non H', rt := Q } (start ["_law_part_here", "_law_total", "_law_weighed", "_law_k"] vs) H := by
  obtain ⟨a, bs, rfl, ha, hl, q⟩ := h
  walk_at "go"
  refine for_it walk_range (fun i σ H' => (∃ u, σ = [some (.ref a), some (.int ((bs.take i).sum % 65521)), some (.int (wsum 1 (bs.take i) % 65521)), u]) ∧ H' = H) ⟨⟨_, rfl⟩, rfl⟩ (fun _ _ _ _ _ => trivial) ?_ (fun σ Ha h => ?_)
  · rintro i x σ Ha Hb hi ⟨⟨u, rfl⟩, rfl⟩ ⟨rfl, rfl⟩
    rw [List.length_map] at hi
    have hi' : i < bs.length := by omega
    have ei : atI (bs.map V.int) (0 + (i : Int)) = some (.int bs[i]) := by
      rw [Int.zero_add]
      exact atI_nat (by simp [hi'])
    have e : bs.take (i + 1) = bs.take i ++ [bs[i]] := by rw [List.take_add_one, List.getElem?_eq_getElem hi']; rfl
    have el : (bs.take i).length = i := by rw [List.length_take]; omega
    walk_at "go"
    refine ixL_go (SqL.of (by walk_at "h")) ei ?_
    walk_at "go"
    refine ixL_go (SqL.of (by walk_at "h")) ei ?_
    walk_at "go"
    refine ⟨⟨some (.int (0 + (i : Int))), ?_⟩, rfl⟩
    rw [e, sum_snoc, wsum_snoc, el]
    have e1 : ((bs.take i).sum % 65521 + bs[i]) % 65521 = ((bs.take i).sum + bs[i]) % 65521 := by omega
    have e2 : (wsum 1 (bs.take i) % 65521 + (0 + (i : Int) + 1) * bs[i]) % 65521 = (wsum 1 (bs.take i) + (1 + (i : Int)) * bs[i]) % 65521 := by
      rw [show (0 + (i : Int) + 1) = 1 + (i : Int) by omega]
      generalize (1 + (i : Int)) * bs[i] = z
      omega
    rw [← e1, ← e2]
    rfl
  · obtain ⟨⟨u, rfl⟩, rfl⟩ := h
    simp only [List.length_map, Int.toNat_natCast, List.take_length]
    walk_at "go"
    rename_i p1 n1 p2 n2
    exact q _ p2 (none_of (Kp.refl.new n1) n2) ((Kp.refl.new n1).new n2) (upd_same.trans (by rw [chk, List.map_append]; rfl))
theorem len_law_undone (K : PySem.W.Frag) : ∀ vs H Q E, sp_law_undone K vs H Q E → vs.length = ["_law_piece"].length := by
  rintro _ _ _ _ ⟨_, _, rfl, _⟩; rfl
theorem p_law_undone (K : PySem.W.Frag) (vs : List V) (H : Hp) (Q : VK) (E : XK) (h : sp_law_undone K vs H Q E) : t_law_undone K { nx := fun _ H' => Q .non H', rt := Q } (start ["_law_piece", "_law_found", "_law_at", "_law_ahead", "_law_size"] vs) H := by
  obtain ⟨a, cs, rfl, ha, hg, hl, q⟩ := h
  walk_at "go"
  rename_i p0 n0
  obtain ⟨W, hW⟩ : ∃ W : Nat → L2.St → Hp → Prop, W = fun m σ H' => ∃ pre rest L fnd ah u, m = List.length rest ∧ enc cs = pre ++ enc rest ∧ σ = [some (.ref a), some (.ref L), some (.int ((pre.length : Nat) : Int)), some (.int ah), u] ∧ good ah rest ∧ H' L = some (.lst (fnd.map V.int)) ∧ fnd ++ dec rest = dec cs ∧ Kp [] H H' ∧ H L = none ∧ fnd.length ≤ 2 * pre.length := ⟨_, rfl⟩
  refine ⟨W, ⟨_, by rw [hW]; exact ⟨[], cs, p0, [], 0, none, rfl, rfl, rfl, hg, upd_same, rfl, Kp.refl.new n0, n0, Nat.zero_le _⟩⟩, ?_⟩
  intro m σ Ha hw
  rw [hW] at hw
  obtain ⟨pre, rest, L, fnd, ah, u, rfl, hX, rfl, hgr, hL, hd, hk, hL0, hfl⟩ := hw
  rw [hX] at ha hl
  have haa := hk.at_ List.not_mem_nil ha
  rcases rest with _ | ⟨c, rest⟩
  · have e : (pre ++ enc []).length = pre.length := by rw [show pre ++ enc [] = pre from List.append_nil _]
    rw [show dec [] = [] from rfl, List.append_nil] at hd
    walk_at "go"
    · rename_i h1
      rw [List.length_map] at h1
      omega
    · rw [hd] at hL
      exact q _ L hL0 hk hL
  · have hix := atI_app pre ((c.length : Int) + 1) (c ++ enc rest)
    rw [← enc_cons] at hix
    have hXl : (pre ++ enc (c :: rest)).length = pre.length + (1 + c.length + (enc rest).length) := by
      rw [enc_cons]
      simp
      omega
    have hXr : pre ++ enc (c :: rest) = (pre ++ ((c.length : Int) + 1) :: c) ++ enc rest := by rw [enc_cons]; simp
    rw [hXl] at hl
    have hmid := cutI_mid pre ((c.length : Int) + 1) c (enc rest)
    rw [← enc_cons] at hmid
    have hl0 : 0 < (enc rest).length → rest ≠ [] := fun h e => by rw [e] at h; exact absurd h (Nat.lt_irrefl 0)
    have hl1 : ¬ 0 < (enc rest).length → rest = [] := fun h => enc_len0 (by omega)
    have hA : c.length < 254 → 0 < (enc rest).length → fnd ++ c ++ [0] ++ dec rest = dec cs := fun h1 h2 => by
      rw [← hd]
      rw [dec_cons, if_pos ⟨h1, hl0 h2⟩]
      simp
    have hB : ¬ (c.length < 254 ∧ 0 < (enc rest).length) → fnd ++ c ++ dec rest = dec cs := fun h => by
      rw [← hd]
      rw [dec_cons, if_neg (fun ⟨h1, h2⟩ => h ⟨h1, Nat.pos_of_ne_zero fun z => h2 (enc_len0 z)⟩)]
      simp
    rw [hXr] at hX
    have fin : ∀ p f' Hx, H p = none → Kp [] H Hx → Hx p = some (.lst (f'.map V.int)) → f' ++ dec rest = dec cs → f'.length ≤ fnd.length + c.length + 1 →
        ∃ m', m' < (c :: rest).length ∧ W m' [some (.ref a), some (.ref p), some (.int ((pre.length : Int) + ((c.length : Int) + 1))), some (.int ((c.length : Int) + 1)), some (.int ((c.length : Int) + 1))] Hx := by
      intro p f' Hx z1 z2 z3 z4 z5
      refine ⟨rest.length, by simp, ?_⟩
      rw [hW]
      have el : (((pre ++ ((c.length : Int) + 1) :: c).length : Nat) : Int) = (pre.length : Int) + ((c.length : Int) + 1) := by simp
      refine ⟨pre ++ ((c.length : Int) + 1) :: c, rest, p, f', (c.length : Int) + 1, _, rfl, hX, by rw [el], hgr.2.2.2, z3, z4, z2, z1, by omega⟩
    generalize hXX : pre ++ enc (c :: rest) = X at *
    walk_at "go"
    · refine ⟨fun σ' H' => ∃ m', m' < List.length (c :: rest) ∧ W m' σ' H', fun _ _ h => h, ?_⟩
      walk_at "go"
      refine ixL_go (SqL.of haa) hix ?_
      walk_at "go"
      all_goals simp only [List.length_map] at *
      · omega
      · have h3 : ah = 255 := by assumption
        have h5 : c = [] := List.eq_nil_of_length_eq_zero (by omega)
        exact absurd ⟨h5, h3, enc_len0 (by omega)⟩ hgr.2.2.1
      all_goals
        rw [cutV_map, hmid]
        walk_at "go"
      all_goals
        try simp only [List.length_map] at *
        rcases Decidable.em (c.length < 254 ∧ 0 < (enc rest).length) with hh | hh
        · first
            | (exfalso; omega)
            | exact fin _ (fnd ++ c ++ [0]) _ (by walk_at "no") (by walk_at "kp") (upd_same.trans (by simp)) (hA hh.1 hh.2) (by simp; omega)
        · first
            | (exfalso; omega)
            | exact fin _ (fnd ++ c) _ (by walk_at "no") (by walk_at "kp") (upd_same.trans (by simp)) (hB hh) (by simp)
    · rename_i h1
      rw [List.length_map] at h1
      omega
theorem len_law_is_bytes (K : PySem.W.Frag) : ∀ vs H Q E, sp_law_is_bytes K vs H Q E → vs.length = ["_law_found"].length := by
  rintro _ _ _ _ ⟨_, _, rfl, _⟩; rfl
theorem p_law_is_bytes (K : PySem.W.Frag) (vs : List V) (H : Hp) (Q : VK) (E : XK) (h : sp_law_is_bytes K vs H Q E) : t_law_is_bytes K { nx := fun _ H' => Q .non H', rt := Q } (start ["_law_found", "_law_byte"] vs) H := by
  obtain ⟨a, bs, rfl, ha, ok, q⟩ := h
  walk_at "go"
  refine ⟨⟨_, by walk_at "l"⟩, ?_⟩
  refine for_it (walk_list (xs := bs.map V.int)) (fun i σ H' => (∃ u, σ = [some (.ref a), u]) ∧ H' = H) ⟨⟨_, rfl⟩, rfl⟩ (fun i σ H' _ h => by rw [h.2]; exact SqL.of ha) ?_ (fun σ Ha h => ?_)
  · rintro i x σ Ha Hb hi ⟨⟨u, rfl⟩, rfl⟩ ⟨rfl, hx⟩
    obtain ⟨b, hb, rfl⟩ := map_get hx
    have hb2 := ok b (List.mem_of_getElem? hb)
    walk_at "go"
    all_goals first
      | (exfalso; omega)
      | rfl
      | exact ⟨⟨_, rfl⟩, rfl⟩
  · obtain ⟨⟨u, rfl⟩, rfl⟩ := h
    walk_at "go"
    exact q _ Kp.refl
theorem len_law_pieces (K : PySem.W.Frag) : ∀ vs H Q E, sp_law_pieces K vs H Q E → vs.length = ["_law_found"].length := by
  rintro _ _ _ _ ⟨_, _, rfl, _⟩; rfl
theorem pst_snoc (xs : List Int) (b : Int) : pst (xs ++ [b]) = pstep (pst xs) b := by
  unfold pst
  rw [List.foldl_append]
  rfl
def LN (M : List Addr) (H H' : Hp) (us : List V) (pss : List (List Int)) : Prop := us.length = pss.length ∧
  ∀ (i : Nat) (v : V), us[i]? = some v → ∃ a ps, pss[i]? = some ps ∧ v = V.ref a ∧ H' a = some (.lst (ps.map V.int)) ∧ a ∉ M
theorem LN.nil {M : List Addr} {H H' : Hp} : LN M H H' [] [] := ⟨rfl, fun i v h => nomatch h⟩
theorem LN.kp {M : List Addr} {H H' H2 : Hp} {us : List V} {pss : List (List Int)} (h : LN M H H' us pss) (k : Kp M H' H2) : LN M H H2 us pss := ⟨h.1, fun i v e => by
  obtain ⟨a, ps, h1, h2, h4, h7⟩ := h.2 i v e
  exact ⟨a, ps, h1, h2, k.at_ h7 h4, h7⟩⟩
theorem LN.add {M : List Addr} {H H' : Hp} {p : Addr} {us : List V} {pss : List (List Int)} (h : LN M H H' us pss) (n : H' p = none) : LN (p :: M) H H' us pss := ⟨h.1, fun i v e => by
  obtain ⟨a, ps, h1, h2, h4, h7⟩ := h.2 i v e
  exact ⟨a, ps, h1, h2, h4, nm_cons (ne_of_none h4 n) h7⟩⟩
theorem LN.sub {M : List Addr} {H H' : Hp} {p : Addr} {us : List V} {pss : List (List Int)} (h : LN (p :: M) H H' us pss) : LN M H H' us pss := ⟨h.1, fun i v e => by
  obtain ⟨a, ps, h1, h2, h4, h7⟩ := h.2 i v e
  exact ⟨a, ps, h1, h2, h4, fun z => h7 (List.mem_cons_of_mem _ z)⟩⟩
theorem LN.mono {M N : List Addr} {H H' : Hp} {us : List V} {pss : List (List Int)} (h : LN M H H' us pss) (m : ∀ a, a ∈ N → a ∈ M) : LN N H H' us pss := ⟨h.1, fun i v e => by
  obtain ⟨a, ps, h1, h2, h4, h7⟩ := h.2 i v e
  exact ⟨a, ps, h1, h2, h4, fun z => h7 (m _ z)⟩⟩
theorem LN.snoc {M : List Addr} {H H' : Hp} {a : Addr} {us : List V} {ps : List Int} {pss : List (List Int)} (h : LN M H H' us pss) (ha : H' a = some (.lst (ps.map V.int))) (m : a ∉ M) : LN M H H' (us ++ [V.ref a]) (pss ++ [ps]) := by
  refine ⟨by rw [List.length_append, List.length_append, h.1]; rfl, fun i v e => ?_⟩
  by_cases hi : i < us.length
  · rw [List.getElem?_append_left hi] at e
    obtain ⟨b, qs, h1, h2, h4, h7⟩ := h.2 i v e
    exact ⟨b, qs, by rw [List.getElem?_append_left (by rw [← h.1]; exact hi)]; exact h1, h2, h4, h7⟩
  · rw [List.getElem?_append_right (by omega)] at e
    have e0 : i - us.length = 0 := by
      have := (List.getElem?_eq_some_iff.mp e).1
      simp at this
      omega
    rw [e0] at e
    cases e
    exact ⟨a, ps, by rw [List.getElem?_append_right (by rw [← h.1]; omega), ← h.1, e0]; rfl, rfl, ha, m⟩
theorem p_law_pieces (K : PySem.W.Frag) (vs : List V) (H : Hp) (Q : VK) (E : XK) (h : sp_law_pieces K vs H Q E) : t_law_pieces K { nx := fun _ H' => Q .non H', rt := Q } (start ["_law_found", "_law_pieces_here", "_law_piece", "_law_byte"] vs) H := by
  obtain ⟨a, bs, rfl, ha, hl, hz, q⟩ := h
  walk_at "go"
  rename_i L nL r nr
  have hrL : r ≠ L := fun e => by rw [e, upd_same] at nr; cases nr
  refine ⟨⟨_, by walk_at "l"⟩, ?_⟩
  refine for_it (walk_list (xs := bs.map V.int)) (fun i σ H' => ∃ r u us, σ = [some (.ref a), some (.ref L), some (.ref r), u] ∧ Kp [] H H' ∧ H' L = some (.lst us) ∧ us.length ≤ i ∧ LN [L, r] H H' us (pst (bs.take i)).1 ∧ H' r = some (.lst ((pst (bs.take i)).2.map V.int)) ∧ (pst (bs.take i)).2.length ≤ i ∧ H r = none ∧ r ≠ L) ⟨r, _, [], rfl, by walk_at "kp", by walk_at "h", Nat.le_refl _, .nil, by walk_at "h", Nat.le_refl _, by walk_at "no", hrL⟩ (fun i σ H' _ h => ?_) ?_ (fun σ Ha h => ?_)
  · obtain ⟨r, u, us, _, k, _⟩ := h
    exact SqL.of (by walk_at "h")
  · rintro i x σ Ha Hb hi ⟨r, u, us, rfl, hk, hL, hul, hln, hr, hrl, hr0, hne⟩ ⟨rfl, hx⟩
    obtain ⟨b, hb, rfl⟩ := map_get hx
    rw [List.length_map] at hi
    have hne' := hne.symm
    have e : bs.take (i + 1) = bs.take i ++ [b] := by rw [List.take_add_one, hb]; rfl
    rw [e, pst_snoc]
    generalize pst (bs.take i) = s at *
    obtain ⟨s1, s2⟩ := s
    dsimp only at *
    walk_at "go"
    · rename_i h0 p np
      have nLr : r ∉ [L] := nm_cons hne List.not_mem_nil
      have a1 : LN [L, r] H (upd Hb L (.lst (us ++ [V.ref r]))) us s1 := hln.kp (Kp.refl.upd_in List.mem_cons_self)
      have a2 := ((a1.mono (N := [L]) fun a h => by rw [List.mem_singleton.mp h]; exact List.mem_cons_self).snoc ((upd_ne hne).trans hr) nLr).add np
      have a3 := (a2.kp (Kp.refl.upd_in (o := .lst []) List.mem_cons_self)).mono (N := [L, p]) fun a h => by
        rcases List.mem_cons.mp h with rfl | h
        · exact List.mem_cons_of_mem _ List.mem_cons_self
        · rw [List.mem_singleton.mp h]; exact List.mem_cons_self
      rw [show pstep (s1, s2) b = (s1 ++ [s2], []) from if_pos h0]
      have hpL : p ≠ L := fun e => by rw [e, upd_same] at np; cases np
      exact ⟨p, _, _, rfl, by walk_at "kp", (upd_ne hpL.symm).trans upd_same, by rw [List.length_append]; simp; omega, a3, upd_same, by simp, by walk_at "no", hpL⟩
    · rename_i h0
      rw [show pstep (s1, s2) b = (s1, s2 ++ [b]) from if_neg h0]
      exact ⟨r, _, us, rfl, by walk_at "kp", by walk_at "h", by omega, hln.kp (Kp.refl.upd_in (List.mem_cons_of_mem _ List.mem_cons_self)), upd_same.trans (by simp), by simp; omega, hr0, hne⟩
  · obtain ⟨r, u, us, rfl, hk, hL, hul, hln, hr, hrl, hr0, hne⟩ := h
    rw [List.length_map, List.take_length] at *
    rw [hz] at *
    walk_at "go"
    rename_i p np
    refine q _ L us nL (by walk_at "kp") (by walk_at "h") ⟨hln.1, fun i v e => ?_⟩
    obtain ⟨a, ps, h1, h2, h4, h7⟩ := (hln.kp (Kp.refl.upd_new' np)).2 i v e
    exact ⟨a, ps, h1, h2, h4⟩
theorem pst_run : ∀ (xs : List Int) (s : List (List Int) × List Int), (∀ b ∈ xs, b ≠ 0) → xs.foldl pstep s = (s.1, s.2 ++ xs)
  | [], s, _ => by simp
  | x :: xs, s, h => by
    rw [List.foldl_cons, pst_run xs _ fun b hb => h b (List.mem_cons_of_mem _ hb), show pstep s x = (s.1, s.2 ++ [x]) from if_neg (h x List.mem_cons_self)]
    simp
theorem pst_strmG : ∀ (pss : List (List Int)) (t : List (List Int)), (∀ p ∈ pss, Okb p) → (strm pss).foldl pstep (t, []) = (t ++ pss.map (fun p => inRuns (chk p)), [])
  | [], t, _ => by simp [strm]
  | p :: pss, t, h => by
    rw [strm_cons, List.foldl_append, List.foldl_append, pst_run (inRuns (chk p)) (t, []) (fun b hb => by
      have := runs_bytes (chk_okb (h p List.mem_cons_self)) b hb
      omega)]
    rw [show List.foldl pstep ((t, ([] : List Int)).1, (t, ([] : List Int)).2 ++ inRuns (chk p)) [0] = (t ++ [inRuns (chk p)], []) from rfl, pst_strmG pss _ fun q hq => h q (List.mem_cons_of_mem _ hq)]
    simp
theorem pst_strm {pss : List (List Int)} (h : ∀ p ∈ pss, Okb p) : pst (strm pss) = (pss.map (fun p => inRuns (chk p)), []) := by
  exact pst_strmG pss [] h
theorem LN.ll {M : List Addr} {H0 H : Hp} {us : List V} {pss : List (List Int)} (h : LN M H0 H us pss) : LL H us pss := ⟨h.1, fun i v e => by
  obtain ⟨a, ps, h1, h2, h4, h7⟩ := h.2 i v e
  exact ⟨a, ps, h1, h2, h4⟩⟩
def TL (M : List Addr) (H H' : Hp) (us : List V) (pss : List (List Int)) : Prop := us.length = pss.length ∧
  ∀ (i : Nat) (v : V), us[i]? = some v → ∃ a ps, pss[i]? = some ps ∧ v = V.ref a ∧ H' a = some (.tup (ps.map V.int)) ∧ a ∉ M
theorem TL.nil {M : List Addr} {H H' : Hp} : TL M H H' [] [] := ⟨rfl, fun i v h => nomatch h⟩
theorem TL.kp {M : List Addr} {H H' H2 : Hp} {us : List V} {pss : List (List Int)} (h : TL M H H' us pss) (k : Kp M H' H2) : TL M H H2 us pss := ⟨h.1, fun i v e => by
  obtain ⟨a, ps, h1, h2, h4, h7⟩ := h.2 i v e
  exact ⟨a, ps, h1, h2, k.at_ h7 h4, h7⟩⟩
theorem TL.snoc {M : List Addr} {H H' : Hp} {a : Addr} {us : List V} {ps : List Int} {pss : List (List Int)} (h : TL M H H' us pss) (ha : H' a = some (.tup (ps.map V.int))) (m : a ∉ M) : TL M H H' (us ++ [V.ref a]) (pss ++ [ps]) := by
  refine ⟨by rw [List.length_append, List.length_append, h.1]; rfl, fun i v e => ?_⟩
  by_cases hi : i < us.length
  · rw [List.getElem?_append_left hi] at e
    obtain ⟨b, qs, h1, h2, h4, h7⟩ := h.2 i v e
    exact ⟨b, qs, by rw [List.getElem?_append_left (by rw [← h.1]; exact hi)]; exact h1, h2, h4, h7⟩
  · rw [List.getElem?_append_right (by omega)] at e
    have e0 : i - us.length = 0 := by
      have := (List.getElem?_eq_some_iff.mp e).1
      simp at this
      omega
    rw [e0] at e
    cases e
    exact ⟨a, ps, by rw [List.getElem?_append_right (by rw [← h.1]; omega), ← h.1, e0]; rfl, rfl, ha, m⟩
theorem tl_parts {M : List Addr} {H0 H : Hp} {us : List V} {pss : List (List Int)} (h : TL M H0 H us pss) (ok : ∀ ps ∈ pss, Okb ps ∧ ps.length ≤ 2000) : Parts H us pss := ⟨h.1, fun i v e => by
  obtain ⟨a, ps, h1, h2, h3, _⟩ := h.2 i v e
  have := ok ps (List.mem_of_getElem? h1)
  exact ⟨a, ps, h1, h2, .inr h3, this.1, by omega⟩⟩
theorem ll_upd {H : Hp} {b : Addr} {o : HO} {us : List V} {pss : List (List Int)} (h : LL H us pss) (n : ∀ v ∈ us, v ≠ V.ref b) : LL (upd H b o) us pss := ⟨h.1, fun i v e => by
  obtain ⟨a, ps, h1, h2, h3⟩ := h.2 i v e
  have : a ≠ b := fun z => n v (List.mem_of_getElem? e) (by rw [h2, z])
  exact ⟨a, ps, h1, h2, (upd_ne this).trans h3⟩⟩
theorem ll_parts {H : Hp} {us : List V} {pss : List (List Int)} (h : LL H us pss) (ok : ∀ ps ∈ pss, Okb ps ∧ ps.length ≤ 2000) : Parts H us pss := ⟨h.1, fun i v e => by
  obtain ⟨a, ps, h1, h2, h3⟩ := h.2 i v e
  have := ok ps (List.mem_of_getElem? h1)
  exact ⟨a, ps, h1, h2, .inl h3, this.1, by omega⟩⟩
theorem len_law (K : PySem.W.Frag) : ∀ vs H Q E, sp_law K vs H Q E → vs.length = ["_law_script"].length := by
  rintro _ _ _ _ ⟨_, _, rfl, _⟩; rfl
theorem p_law (K : PySem.W.Frag) (vs : List V) (H : Hp) (Q : VK) (E : XK) (h : sp_law K vs H Q E) : t_law K { nx := fun _ H' => Q .non H', rt := Q } (start ["_law_script", "_law_state", "_law_parts_here", "_law_handed", "_law_found", "_law_pieces_here", "_law_piece", "_law_part_here", "_law_kept"] vs) H := by
  obtain ⟨a, ns, rfl, hS, hn, q⟩ := h
  walk_at "go"
  rename_i p1 n1 p2 n2 p3 n3
  rw [cutV_map] at *
  have hcl := cutI_len ns none (some 63)
  refine ⟨p3, p2, rfl, ⟨(fun e => by rw [e] at n3; rw [upd_same] at n3; cases n3), cutI ns none (some 63), 0, 0, 0, upd_same, by walk_at "h", by omega⟩, fun H1 L us pss nL k1 hL hp => ?_⟩
  have hll : LL H1 us pss := ⟨hp.1, fun i v e => by
    obtain ⟨a, ps, h1, h2, h3, h4, _⟩ := hp.2.2 i v e
    exact ⟨a, ps, h1, h2, h4⟩⟩
  have hok : ∀ ps ∈ pss, Okb ps ∧ ps.length ≤ 2000 := fun ps hps => by
    obtain ⟨i, hi, rfl⟩ := List.getElem_of_mem hps
    obtain ⟨a, qs, h1, h2, h3, h4, h5, h6⟩ := hp.2.2 i _ (List.getElem?_eq_getElem (by rw [hp.1]; exact hi))
    rw [List.getElem?_eq_getElem hi] at h1
    cases h1
    exact ⟨h5, h6⟩
  have hul := hp.2.1
  have hpl := hp.1
  clear hp k1 nL n3 n2 n1 hS
  have hsl : (strm pss).length ≤ 8000000 := by
    have h1 := strm_le (pss := pss) (n := 2000) fun p hp => (hok p hp).2
    have h2 : pss.length * (2 * 2000 + 10) ≤ 64 * (2 * 2000 + 10) := Nat.mul_le_mul_right _ (by omega)
    omega
  have hpst := pst_strm (pss := pss) fun p hp => (hok p hp).1
  have hsb := strm_bytes (pss := pss) fun p hp => (hok p hp).1
  walk_at "go"
  refine ⟨⟨us, SqL.of hL⟩, fun D nD => ?_⟩
  refine lc_acc (walk_list (xs := us)) (fun i acc H' => Kp [] H1 H' ∧ LN [D] H1 H' acc (pss.take i) ∧ ∀ v ∈ acc, ∀ b, v = V.ref b → H1 b = none) ⟨Kp.refl.new nD, .nil, fun _ h => nomatch h⟩ (fun i acc H' _ h => SqL.of (h.1.at_ List.not_mem_nil hL)) (fun i x acc Ha Hb hi hl hD hP hY => ?_) (fun acc H2 hl hD hP => ?_)
  · obtain ⟨ka, hln, hnew⟩ := hP
    obtain ⟨rfl, hx⟩ := hY
    obtain ⟨b, ps, hps, rfl, hb⟩ := (hll.kp0 ka).2 i x hx
    have e : pss.take (i + 1) = pss.take i ++ [ps] := by rw [List.take_add_one, hps]; rfl
    refine ⟨rfl, ?_⟩
    walk_at "go"
    rename_i p np
    have hpD : p ≠ D := (ne_of_none hD np).symm
    refine acc_go hl (by omega) (by walk_at "h") ⟨by walk_at "kp", ?_, ?_⟩
    · rw [e]
      exact ((hln.kp (Kp.refl.upd_new' np)).snoc upd_same (nm_cons hpD List.not_mem_nil)).kp (Kp.refl.upd_in List.mem_cons_self)
    · intro v hv b' hb'
      rcases List.mem_append.mp hv with hv | hv
      · exact hnew v hv b' hb'
      · rw [List.mem_singleton.mp hv] at hb'
        cases hb'
        exact none_of ka np
  obtain ⟨k2, hln, hnew⟩ := hP
  rw [hpl, List.take_length] at hln
  have hL2 := k2.at_ List.not_mem_nil hL
  have hll2 := hll.kp0 k2
  have hdl := hln.ll
  have hal := hln.1
  have husn : ∀ b, H1 b = none → ∀ v ∈ us, v ≠ V.ref b := fun b hb v hv e => by
    obtain ⟨i, hi, rfl⟩ := List.getElem_of_mem hv
    obtain ⟨a, ps, h1, h2, h3⟩ := hll.2 i _ (List.getElem?_eq_getElem hi)
    rw [h2] at e
    cases e
    rw [hb] at h3
    cases h3
  have hacc : ∀ v ∈ acc, ∃ b ps, v = V.ref b ∧ H2 b = some (.lst (List.map V.int ps)) ∧ ps.length ≤ 2000 ∧ b ≠ L ∧ b ≠ D ∧ H1 b = none := fun v hv => by
    obtain ⟨i, hi, rfl⟩ := List.getElem_of_mem hv
    obtain ⟨a, ps, h1, h2, h4, h7⟩ := hln.2 i _ (List.getElem?_eq_getElem hi)
    have hn := hnew _ hv a h2
    refine ⟨a, ps, h2, h4, (hok ps (List.mem_of_getElem? h1)).2, fun z => ?_, fun z => h7 (by rw [z]; exact List.mem_cons_self), hn⟩
    rw [z, hL] at hn
    cases hn
  walk_at "go"
  refine ⟨D, acc, pss, rfl, .inl hD, ll_parts hdl hok, hsl, fun H3 f nf k3 hf => ?_⟩
  walk_at "go"
  refine ⟨f, strm pss, rfl, hf, hsb, fun H4 k4 => ?_⟩
  walk_at "go"
  have k24 := k3.trans k4
  refine neLL_go (SqL.of (k24.at_ List.not_mem_nil hD)) (SqL.of (k24.at_ List.not_mem_nil hL2)) (hdl.kp0 k24) (hll2.kp0 k24) ?_
  walk_at "go"
  refine ⟨f, strm pss, rfl, k4.at_ List.not_mem_nil hf, hsl, by rw [hpst], fun H5 p5 us5 n5 k5 h5 hl5 => ?_⟩
  rw [hpst] at hl5
  have k25 := k24.trans k5
  have hL5 := k25.at_ List.not_mem_nil hL2
  have hf5 := (k4.trans k5).at_ List.not_mem_nil hf
  have hD5 := k25.at_ List.not_mem_nil hD
  have h5l := hl5.1
  rw [List.length_map] at h5l
  walk_at "go"
  · exfalso
    omega
  refine ⟨p5, L, us5, us, rfl, SqL.of h5, SqL.of hL5, ?_⟩
  have hll5 := hll2.kp0 k25
  refine for_it (walk_zip (n := pss.length) (by omega)) (fun i σ H' => (∃ u v w, σ = [some (.ref a), some (.ref p3), some (.ref L), some (.ref D), some (.ref f), some (.ref p5), u, v, w]) ∧ Kp [] H5 H') ⟨⟨_, _, _, rfl⟩, Kp.refl⟩ (fun i σ H' _ h => ⟨SqL.of (h.2.at_ List.not_mem_nil h5), SqL.of (h.2.at_ List.not_mem_nil hL5)⟩) ?_ (fun σ H6 h => ?_)
  · rintro i x σ Ha Hb hi ⟨⟨u, v, w, rfl⟩, ka⟩ ⟨T, x, y, rfl, hT, rfl, hx, hy⟩
    obtain ⟨c, r, hr, rfl, hc⟩ := (hl5.kp0 ka).2 i x hx
    obtain ⟨b, ps, hps, rfl, hb⟩ := (hll5.kp0 ka).2 i y hy
    have hr2 : r = inRuns (chk ps) := by
      rw [List.getElem?_map, hps] at hr
      exact (Option.some.inj hr).symm
    obtain ⟨cs, e1, e2, g, hne⟩ := runs_ex (chk ps)
    rw [hr2, e1] at hc
    have hpl2 := (hok ps (List.mem_of_getElem? hps)).2
    have hel : (enc cs).length ≤ 1000000 := by
      have h1 := runs_len (chk ps)
      have h2 : (chk ps).length = ps.length + 4 := by simp [chk]
      rw [← e1]
      omega
    have hne2 : enc cs ≠ [] := e1 ▸ runs_ne (chk ps)
    walk_at "go"
    · exact absurd (by assumption) hne2
    rename_i p np _
    refine ⟨c, cs, rfl, by walk_at "h", g, hel, fun H7 p7 n7 k7 h7 => ?_⟩
    walk_at "go"
    refine ⟨b, ps, rfl, by walk_at "h", by omega, fun H8 p8 n8 k8 h8 => ?_⟩
    walk_at "go"
    · exact absurd e2 (by assumption)
    · exact ⟨⟨_, _, _, rfl⟩, (((ka.new hT).new np).trans k7).trans k8⟩
  · obtain ⟨⟨u, v, w, rfl⟩, k6⟩ := h
    have hL6 := k6.at_ List.not_mem_nil hL5
    have hf6 := k6.at_ List.not_mem_nil hf5
    have hD6 := k6.at_ List.not_mem_nil hD5
    have hll6 := hll5.kp0 k6
    have hdl6 := (hdl.kp0 k25).kp0 k6
    walk_at "go"
    rename_i kk nk
    have fL : f ≠ L := fun e => by rw [e, hL2] at nf; cases nf
    have fD : f ≠ D := fun e => by rw [e, hD] at nf; cases nf
    have fk : f ≠ kk := ne_of_none hf6 nk
    have kL : kk ≠ L := (ne_of_none hL6 nk).symm
    have kD : kk ≠ D := (ne_of_none hD6 nk).symm
    have f1 : H1 f = none := none_of k2 nf
    have k26 := k25.trans k6
    have k1 : H1 kk = none := none_of (k2.trans k26) nk
    obtain ⟨H7, hH7⟩ : ∃ H7, H7 = upd (upd H6 kk (.lst (List.map V.int (strm pss)))) f (.lst (List.map V.int (strm pss) ++ [V.int 7])) := ⟨_, rfl⟩
    rw [← hH7]
    have hL7 : H7 L = some (.lst us) := by rw [hH7, upd_ne fL.symm, upd_ne kL.symm]; exact hL6
    have hD7 : H7 D = some (.lst acc) := by rw [hH7, upd_ne fD.symm, upd_ne kD.symm]; exact hD6
    have hk7 : H7 kk = some (.lst (List.map V.int (strm pss))) := by rw [hH7, upd_ne fk.symm]; exact upd_same
    have hll7 : LL H7 us pss := by rw [hH7]; exact ll_upd (ll_upd hll6 (husn _ k1)) (husn _ f1)
    have hacc7 : ∀ v ∈ acc, ∃ b ys, v = V.ref b ∧ H7 b = some (.lst ys) ∧ ys.length ≤ 2000 + 0 := fun v hv => by
      obtain ⟨b, ps, h1, h2, h3, h4, h5, h6⟩ := hacc v hv
      have h26 := k26.at_ List.not_mem_nil h2
      have z1 : b ≠ f := ne_of_none h2 nf
      have z2 : b ≠ kk := ne_of_none h26 nk
      exact ⟨b, _, h1, by rw [hH7, upd_ne z1, upd_ne z2]; exact h26, by rw [List.length_map]; exact h3⟩
    refine ⟨⟨_, SqL.of hD7⟩, ?_⟩
    refine for_it (walk_list (xs := acc)) (fun i σ H' => (∃ u v, σ = [some (.ref a), some (.ref p3), some (.ref L), some (.ref D), some (.ref f), some (.ref p5), u, v, some (.ref kk)]) ∧ H' L = some (.lst us) ∧ H' D = some (.lst acc) ∧ H' kk = some (.lst (List.map V.int (strm pss))) ∧ LL H' us pss ∧ ∀ v ∈ acc, ∃ b ys, v = V.ref b ∧ H' b = some (.lst ys) ∧ ys.length ≤ 2000 + i) ⟨⟨_, _, rfl⟩, hL7, hD7, hk7, hll7, hacc7⟩ (fun i σ H' _ h => SqL.of h.2.2.1) ?_ (fun σ H8 h => ?_)
    · rintro i x σ Ha Hb hi ⟨⟨u, v, rfl⟩, hLa, hDa, hka, hlla, hacca⟩ ⟨rfl, hx⟩
      have hxm := List.mem_of_getElem? hx
      obtain ⟨b, ys, rfl, hb, hyl⟩ := hacca x hxm
      obtain ⟨b', ps, h1, h2, h3, h4, h5, h6⟩ := hacc _ hxm
      cases h1
      have h26 := k26.at_ List.not_mem_nil h2
      have z2 : b ≠ kk := ne_of_none h26 nk
      walk_at "go"
      refine ⟨⟨_, _, rfl⟩, (upd_ne h4.symm).trans hLa, (upd_ne h5.symm).trans hDa, (upd_ne z2.symm).trans hka, ll_upd hlla (husn _ h6), fun v hv => ?_⟩
      obtain ⟨c, zs, e1, e2, e3⟩ := hacca v hv
      by_cases hcb : c = b
      · rw [hcb] at e1
        exact ⟨b, ys ++ [V.int 1], e1, upd_same, by rw [List.length_append]; simp; omega⟩
      · exact ⟨c, zs, e1, (upd_ne hcb).trans e2, by omega⟩
    · obtain ⟨⟨u, v, rfl⟩, hL8, hD8, hk8, hll8, _⟩ := h
      walk_at "go"
      refine ⟨⟨us, SqL.of hL8⟩, fun D2 nD2 => ?_⟩
      refine lc_acc (walk_list (xs := us)) (fun i acc H' => Kp [] H8 H' ∧ TL [D2] H1 H' acc (pss.take i)) ⟨Kp.refl.new nD2, .nil⟩ (fun i acc H' _ h => SqL.of (h.1.at_ List.not_mem_nil hL8)) (fun i x acc Ha Hb hi hl hD hP hY => ?_) (fun acc H9 hl hD hP => ?_)
      · obtain ⟨ka, hln⟩ := hP
        obtain ⟨rfl, hx⟩ := hY
        obtain ⟨b, ps, hps, rfl, hb⟩ := (hll8.kp0 ka).2 i x hx
        have e : pss.take (i + 1) = pss.take i ++ [ps] := by rw [List.take_add_one, hps]; rfl
        refine ⟨rfl, ?_⟩
        walk_at "go"
        rename_i p np
        have hpD : p ≠ D2 := (ne_of_none hD np).symm
        refine acc_go hl (by omega) (by walk_at "h") ⟨by walk_at "kp", ?_⟩
        rw [e]
        exact ((hln.kp (Kp.refl.upd_new' np)).snoc upd_same (nm_cons hpD List.not_mem_nil)).kp (Kp.refl.upd_in List.mem_cons_self)
      · obtain ⟨k9, htl⟩ := hP
        rw [hpl, List.take_length] at htl
        have hk9 := k9.at_ List.not_mem_nil hk8
        walk_at "go"
        rename_i T2 nT2
        refine ⟨T2, acc, pss, rfl, .inr upd_same, tl_parts (htl.kp (Kp.refl.upd_new' nT2)) hok, hsl, fun H10 f2 nf2 k10 hf2 => ?_⟩
        have hk10 := k10.at_ List.not_mem_nil ((upd_ne (ne_of_none hk9 nT2)).trans hk9)
        walk_at "go"
        rw [decide_eq_true rfl]
        exact q _
theorem law_end (K : PySem.W.Frag) (H : Hp) (a : Addr) (ns : List Int) (hl : ns.length ≤ 63) (hb : ∀ z ∈ ns, Builtin.Int.intBits z ≤ 1048576) (hS : SqL K H a (ns.map V.int)) : sp_law K [.ref a] H (fun v _ => v = .bl true) fun _ _ _ => False :=
  ⟨a, ns, rfl, hS, hl, fun _ => rfl⟩
end K50

namespace K50
open PySem PySem.Spec PyProof.Rows L2 Kb Stm
def topS (i : Nat) : Stmt := PySem.Challenge.pw_thingwires_k50_streams_told.main.body.getD i (.Pass ⟨0, 0, 0, 0⟩)
abbrev s_is_bytes : Stmt := topS 4
abbrev s_checked : Stmt := topS 8
abbrev s_in_runs : Stmt := topS 9
abbrev s_streamed : Stmt := topS 10
abbrev s_law_take : Stmt := topS 12
abbrev s_law_stretch : Stmt := topS 13
abbrev s_law_part : Stmt := topS 14
abbrev s_law_parts : Stmt := topS 15
abbrev s_law_checked : Stmt := topS 16
abbrev s_law_undone : Stmt := topS 17
abbrev s_law_is_bytes : Stmt := topS 18
abbrev s_law_pieces : Stmt := topS 19
abbrev s_law : Stmt := topS 20
structure Txt (K : PySem.W.Frag) (mg : Str → Option Value) : Prop where
  m_bool : mg "bool" = none
  m_enumerate : mg "enumerate" = none
  m_int : mg "int" = none
  m_isinstance : mg "isinstance" = none
  m_len : mg "len" = none
  m_list : mg "list" = none
  m_range : mg "range" = none
  m_tuple : mg "tuple" = none
  m_zip : mg "zip" = none
  c_PRIME : ∃ t, mg "PRIME" = some (.int 65521 t)
  c_LONGEST : ∃ t, mg "LONGEST" = some (.int 254 t)
  d_is_bytes : Def K mg s_is_bytes "is_bytes"
  d_checked : Def K mg s_checked "checked"
  d_in_runs : Def K mg s_in_runs "in_runs"
  d_streamed : Def K mg s_streamed "streamed"
  d_law_take : Def K mg s_law_take "_law_take"
  d_law_stretch : Def K mg s_law_stretch "_law_stretch"
  d_law_part : Def K mg s_law_part "_law_part"
  d_law_parts : Def K mg s_law_parts "_law_parts"
  d_law_checked : Def K mg s_law_checked "_law_checked"
  d_law_undone : Def K mg s_law_undone "_law_undone"
  d_law_is_bytes : Def K mg s_law_is_bytes "_law_is_bytes"
  d_law_pieces : Def K mg s_law_pieces "_law_pieces"
  d_law : Def K mg s_law "law"
theorem sc_is_bytes : FnScope ["data", "byte"] ["data"] (defScope s_is_bytes) := ⟨rfl, rfl, rfl, by decide +kernel, rfl, by decide +kernel, by decide +kernel⟩
theorem ok_is_bytes {P : Program} {w : World} {K : PySem.W.Frag} {mg : Str → Option Value} {base : Heap} (T : Txt K mg) : Cal P w K mg base CX0 1 "is_bytes" ["data"] (sp_is_bytes K) := by
  refine Cal.of (st := s_is_bytes) T.d_is_bytes sc_is_bytes (fun _ _ _ _ _ _ us hl => match us, hl with | [_], _ => rfl) (len_is_bytes K) fun f cdv A outer s H vs Q E hr h => ⟨t_is_bytes K, ?_, p_is_bytes K vs H Q E h⟩
  exact (pss_cons (ps_if (pt_not (pt_truth (pe_callB u_isi (by rfl) T.m_isinstance (by decide +kernel) (pa_cons (pv 0) (pa_cons (pe_tup (pa_cons (pe_bltn (v := .ty "list") (by rfl) T.m_list (by decide +kernel) rfl) (pa_cons (pe_bltn (v := .ty "tuple") (by rfl) T.m_tuple (by decide +kernel) rfl) pa_nil))) pa_nil))) (by intro _; rfl)))
 (pss_one (ps_ret pe_bl))
 pss_nil)
 (pss_cons (ps_for PassesOwn.never rfl (pi_seq (pv 0)) (pg_name (i := 1) sc_is_bytes.nd rfl (by first | exact Or.inl rfl | exact Or.inr rfl))
 (pss_one (ps_if (PW.pt (pw_or (pt_not (pt_truth (pe_callB u_isi (by rfl) T.m_isinstance (by decide +kernel) (pa_cons (pv 1) (pa_cons (pe_bltn (v := .ty "int") (by rfl) T.m_int (by decide +kernel) rfl) pa_nil))) (by intro _; rfl))) (pw_or (pt_truth (pe_callB u_isi (by rfl) T.m_isinstance (by decide +kernel) (pa_cons (pv 1) (pa_cons (pe_bltn (v := .ty "bool") (by rfl) T.m_bool (by decide +kernel) rfl) pa_nil))) (by intro _; rfl)) (pw_or (pt_cmpR u_lt (pv 1) pe_int (nomark _)) (pw_or1 (pt_cmpR u_gt (pv 1) pe_int (nomark _)))))))
 (pss_one (ps_ret pe_bl))
 pss_nil)))
 (pss_one (ps_ret pe_bl))))

theorem sc_checked : FnScope ["part", "total", "weighed", "number", "byte"] ["part"] (defScope s_checked) := ⟨rfl, rfl, rfl, by decide +kernel, rfl, by decide +kernel, by decide +kernel⟩
theorem ok_checked {P : Program} {w : World} {K : PySem.W.Frag} {mg : Str → Option Value} {base : Heap} (T : Txt K mg) : Cal P w K mg base CX0 1 "checked" ["part"] (sp_checked K) := by
  refine Cal.of (st := s_checked) T.d_checked sc_checked (fun _ _ _ _ _ _ us hl => match us, hl with | [_], _ => rfl) (len_checked K) fun f cdv A outer s H vs Q E hr h => ⟨t_checked K, ?_, p_checked K vs H Q E h⟩
  exact (pss_cons (ps_asg2 pe_int (pg_name (i := 1) sc_checked.nd rfl (by first | exact Or.inl rfl | exact Or.inr rfl)) (pg_name (i := 2) sc_checked.nd rfl (by first | exact Or.inl rfl | exact Or.inr rfl)))
 (pss_cons (ps_for PassesOwn.never rfl (pi_enumS (by rfl) T.m_enumerate (pa_cons (pv 0) pa_nil) pe_int) (pg_tup (by rfl) (pgs_cons (pg_name (i := 3) sc_checked.nd rfl (by first | exact Or.inl rfl | exact Or.inr rfl)) (pgs_cons (pg_name (i := 4) sc_checked.nd rfl (by first | exact Or.inl rfl | exact Or.inr rfl)) pgs_nil)))
 (pss_cons (ps_aug (i := 1) sc_checked.nd rfl (by first | exact Or.inl rfl | exact Or.inr rfl) (pv 4) u_iadd)
 (pss_one (ps_aug (i := 2) sc_checked.nd rfl (by first | exact Or.inl rfl | exact Or.inr rfl) (pe_op u_mul (pv 3) (pv 4)) u_iadd))))
 (pss_cons (ps_aug (i := 1) sc_checked.nd rfl (by first | exact Or.inl rfl | exact Or.inr rfl) (pe_gint (by rfl) T.c_PRIME) u_imod)
 (pss_cons (ps_aug (i := 2) sc_checked.nd rfl (by first | exact Or.inl rfl | exact Or.inr rfl) (pe_gint (by rfl) T.c_PRIME) u_imod)
 (pss_one (ps_ret (pe_op u_add (pe_callTy u_list (by rfl) T.m_list (by decide +kernel) (pa_cons (pv 0) pa_nil)) (pe_lst (pa_cons (pe_op u_div (pv 1) pe_int) (pa_cons (pe_op u_mod (pv 1) pe_int) (pa_cons (pe_op u_div (pv 2) pe_int) (pa_cons (pe_op u_mod (pv 2) pe_int) pa_nil))))))))))))

theorem sc_in_runs : FnScope ["data", "found", "run", "byte"] ["data"] (defScope s_in_runs) := ⟨rfl, rfl, rfl, by decide +kernel, rfl, by decide +kernel, by decide +kernel⟩
theorem ok_in_runs {P : Program} {w : World} {K : PySem.W.Frag} {mg : Str → Option Value} {base : Heap} (T : Txt K mg) : Cal P w K mg base CX0 1 "in_runs" ["data"] (sp_in_runs K) := by
  refine Cal.of (st := s_in_runs) T.d_in_runs sc_in_runs (fun _ _ _ _ _ _ us hl => match us, hl with | [_], _ => rfl) (len_in_runs K) fun f cdv A outer s H vs Q E hr h => ⟨t_in_runs K, ?_, p_in_runs K vs H Q E h⟩
  exact (pss_cons (ps_set (i := 1) sc_in_runs.nd rfl (by first | exact Or.inl rfl | exact Or.inr rfl) (pe_lst pa_nil))
 (pss_cons (ps_set (i := 2) sc_in_runs.nd rfl (by first | exact Or.inl rfl | exact Or.inr rfl) (pe_lst pa_nil))
 (pss_cons (ps_for PassesOwn.never rfl (pi_list (pv 0)) (pg_name (i := 3) sc_in_runs.nd rfl (by first | exact Or.inl rfl | exact Or.inr rfl))
 (pss_cons (ps_if (pt_cmpR (u_ne hr.units) (pv 3) pe_int (nomark _))
 (pss_one (ps_expr (pe_bm PySem.F.plainAttrs_list PySem.F.slot_list_append PySem.F.type_list_append u_append (pv 2) (pa_cons (pv 3) pa_nil))))
 pss_nil)
 (pss_one (ps_if (PW.pt (pw_or (pt_cmpR (u_eq hr.units) (pv 3) pe_int (nomark _)) (pw_or1 (pt_cmpR (u_eq hr.units) (pe_callB u_len (by rfl) T.m_len PySem.boot_len (pa_cons (pv 2) pa_nil)) (pe_gint (by rfl) T.c_LONGEST) (nomark _)))))
 (pss_cons (ps_aug (i := 1) sc_in_runs.nd rfl (by first | exact Or.inl rfl | exact Or.inr rfl) (pe_op u_add (pe_lst (pa_cons (pe_op u_add (pe_callB u_len (by rfl) T.m_len PySem.boot_len (pa_cons (pv 2) pa_nil)) pe_int) pa_nil)) (pv 2)) u_iadd)
 (pss_one (ps_set (i := 2) sc_in_runs.nd rfl (by first | exact Or.inl rfl | exact Or.inr rfl) (pe_lst pa_nil))))
 pss_nil))))
 (pss_cons (ps_if (PW.pt (pw_or (pt_cmpR (u_ne hr.units) (pv 2) (pe_lst pa_nil) (nomark _)) (pw_or (pt_cmpR (u_eq hr.units) (pv 0) (pe_lst pa_nil) (nomark _)) (pw_or1 (pt_cmpR (u_eq hr.units) (pe_ix u_ix (pv 0) (pe_un u_neg pe_int) (fun _ _ => rfl)) pe_int (nomark _))))))
 (pss_one (ps_aug (i := 1) sc_in_runs.nd rfl (by first | exact Or.inl rfl | exact Or.inr rfl) (pe_op u_add (pe_lst (pa_cons (pe_op u_add (pe_callB u_len (by rfl) T.m_len PySem.boot_len (pa_cons (pv 2) pa_nil)) pe_int) pa_nil)) (pv 2)) u_iadd))
 pss_nil)
 (pss_one (ps_ret (pv 1)))))))

theorem sc_streamed : FnScope ["parts", "found", "part"] ["parts"] (defScope s_streamed) := ⟨rfl, rfl, rfl, by decide +kernel, rfl, by decide +kernel, by decide +kernel⟩
theorem ok_streamed {P : Program} {w : World} {K : PySem.W.Frag} {mg : Str → Option Value} {base : Heap} (T : Txt K mg) : Cal P w K mg base CX0 2 "streamed" ["parts"] (sp_streamed K) := by
  refine Cal.of (st := s_streamed) T.d_streamed sc_streamed (fun _ _ _ _ _ _ us hl => match us, hl with | [_], _ => rfl) (len_streamed K) fun f cdv A outer s H vs Q E hr h => ⟨t_streamed K, ?_, p_streamed K vs H Q E h⟩
  exact (pss_cons (ps_set (i := 1) sc_streamed.nd rfl (by first | exact Or.inl rfl | exact Or.inr rfl) (pe_lst pa_nil))
 (pss_cons (ps_for PassesOwn.never rfl (pi_seq (pv 0)) (pg_name (i := 2) sc_streamed.nd rfl (by first | exact Or.inl rfl | exact Or.inr rfl))
 (pss_cons (ps_if (pt_not (pt_truth (pe_callC (ok_is_bytes T) (hr.mono (by decide)) (by rfl) pass0 (pa_cons (pv 2) pa_nil)) (by intro _; rfl)))
 (pss_one ps_never)
 pss_nil)
 (pss_one (ps_aug (i := 1) sc_streamed.nd rfl (by first | exact Or.inl rfl | exact Or.inr rfl) (pe_op u_add (pe_callC (ok_in_runs T) (hr.mono (by decide)) (by rfl) pass0 (pa_cons (pe_callC (ok_checked T) (hr.mono (by decide)) (by rfl) pass0 (pa_cons (pv 2) pa_nil)) pa_nil)) (pe_lst (pa_cons pe_int pa_nil))) u_iadd))))
 (pss_one (ps_ret (pv 1)))))

theorem sc_law_take : FnScope ["_law_state", "_law_many", "_law_cell", "_law_digit", "_law_one"] ["_law_state", "_law_many"] (defScope s_law_take) := ⟨rfl, rfl, rfl, by decide +kernel, rfl, by decide +kernel, by decide +kernel⟩
theorem ok_law_take {P : Program} {w : World} {K : PySem.W.Frag} {mg : Str → Option Value} {base : Heap} (T : Txt K mg) : Cal P w K mg base CX0 1 "_law_take" ["_law_state", "_law_many"] (sp_law_take K) := by
  refine Cal.of (st := s_law_take) T.d_law_take sc_law_take (fun _ _ _ _ _ _ us hl => match us, hl with | [_, _], _ => rfl) (len_law_take K) fun f cdv A outer s H vs Q E hr h => ⟨t_law_take K, ?_, p_law_take K vs H Q E h⟩
  exact (pss_cons (ps_if (PW.pt (pw_and (pt_cmpR (u_eq hr.units) (pe_ix u_ix (pv 0) pe_int (fun _ _ => rfl)) pe_int (nomark _)) (pw_and (pt_cmpR (u_eq hr.units) (pe_op u_mod (pe_ix u_ix (pv 0) pe_int (fun _ _ => rfl)) pe_int) pe_int (nomark _)) (pw_and1 (pt_cmpR (u_ne hr.units) (pe_ix u_ix (pv 0) pe_int (fun _ _ => rfl)) (pe_lst pa_nil) (nomark _))))))
 (pss_cons (ps_set (i := 2) sc_law_take.nd rfl (by first | exact Or.inl rfl | exact Or.inr rfl) (pe_bm PySem.F.plainAttrs_list PySem.F.slot_list_pop PySem.F.type_list_pop u_pop (pe_ix u_ix (pv 0) pe_int (fun _ _ => rfl)) (pa_cons pe_int pa_nil)))
 (pss_cons (ps_if (pt_cmpR u_lt (pv 2) pe_int (nomark _))
 (pss_one (ps_set (i := 2) sc_law_take.nd rfl (by first | exact Or.inl rfl | exact Or.inr rfl) (pe_op u_sub pe_int (pe_op u_mul pe_int (pv 2)))))
 pss_nil)
 (pss_one (ps_if (pt_cmpR u_ge (pv 2) (pe_op u_pow pe_int pe_int) (nomark _))
 (pss_one (ps_asg (pv 2) (pg_sub (pv 0) pe_int u_set)))
 (pss_one (ps_asg (pe_op u_mod (pe_op u_add (pe_op u_mul (pe_ix u_ix (pv 0) pe_int (fun _ _ => rfl)) pe_int) (pv 2)) pe_int) (pg_sub (pv 0) pe_int u_set)))))))
 pss_nil)
 (pss_cons (ps_if (pt_cmpR u_gt (pe_ix u_ix (pv 0) pe_int (fun _ _ => rfl)) pe_int (nomark _))
 (pss_cons (ps_set (i := 3) sc_law_take.nd rfl (by first | exact Or.inl rfl | exact Or.inr rfl) (pe_op u_mod (pe_ix u_ix (pv 0) pe_int (fun _ _ => rfl)) (pv 1)))
 (pss_cons (ps_asg (pe_op u_div (pe_ix u_ix (pv 0) pe_int (fun _ _ => rfl)) (pv 1)) (pg_sub (pv 0) pe_int u_set))
 (pss_one (ps_ret (pv 3)))))
 pss_nil)
 (pss_cons (ps_asg (pe_op u_add (pe_ix u_ix (pv 0) pe_int (fun _ _ => rfl)) pe_int) (pg_sub (pv 0) pe_int u_set))
 (pss_cons (ps_set (i := 4) sc_law_take.nd rfl (by first | exact Or.inl rfl | exact Or.inr rfl) (pe_op u_mod (pe_op u_add (pe_ix u_ix (pv 0) pe_int (fun _ _ => rfl)) (pe_op u_mul pe_int (pe_ix u_ix (pv 0) pe_int (fun _ _ => rfl)))) pe_int))
 (pss_cons (ps_set (i := 4) sc_law_take.nd rfl (by first | exact Or.inl rfl | exact Or.inr rfl) (pe_op u_mod (pe_op u_pow (pv 4) pe_int) pe_int))
 (pss_cons (ps_set (i := 4) sc_law_take.nd rfl (by first | exact Or.inl rfl | exact Or.inr rfl) (pe_op u_mod (pe_op u_mul (pv 4) (pe_op u_add (pe_op u_div (pv 4) pe_int) pe_int)) pe_int))
 (pss_one (ps_ret (pe_op u_mod (pe_op u_div (pv 4) pe_int) (pv 1))))))))))

theorem sc_law_stretch : FnScope ["_law_state", "_law_size", "_law_first", "_law_step", "_law_zeros", "_law_k"] ["_law_state"] (defScope s_law_stretch) := ⟨rfl, rfl, rfl, by decide +kernel, rfl, by decide +kernel, by decide +kernel⟩
theorem ok_law_stretch {P : Program} {w : World} {K : PySem.W.Frag} {mg : Str → Option Value} {base : Heap} (T : Txt K mg) : Cal P w K mg base CX0 2 "_law_stretch" ["_law_state"] (sp_law_stretch K) := by
  refine Cal.of (st := s_law_stretch) T.d_law_stretch sc_law_stretch (fun _ _ _ _ _ _ us hl => match us, hl with | [_], _ => rfl) (len_law_stretch K) fun f cdv A outer s H vs Q E hr h => ⟨t_law_stretch K, ?_, p_law_stretch K vs H Q E h⟩
  exact (pss_cons (ps_set (i := 1) sc_law_stretch.nd rfl (by first | exact Or.inl rfl | exact Or.inr rfl) (pe_callC (ok_law_take T) (hr.mono (by decide)) (by rfl) pass0 (pa_cons (pv 0) (pa_cons pe_int pa_nil))))
 (pss_cons (ps_if (pt_cmpR (u_eq hr.units) (pe_callC (ok_law_take T) (hr.mono (by decide)) (by rfl) pass0 (pa_cons (pv 0) (pa_cons pe_int pa_nil))) pe_int (nomark _))
 (pss_one (ps_set (i := 1) sc_law_stretch.nd rfl (by first | exact Or.inl rfl | exact Or.inr rfl) (pe_ix u_ix (pe_lst (pa_cons pe_int (pa_cons pe_int (pa_cons pe_int (pa_cons pe_int (pa_cons pe_int (pa_cons pe_int pa_nil))))))) (pe_callC (ok_law_take T) (hr.mono (by decide)) (by rfl) pass0 (pa_cons (pv 0) (pa_cons pe_int pa_nil))) (fun _ _ => rfl))))
 pss_nil)
 (pss_cons (ps_set (i := 2) sc_law_stretch.nd rfl (by first | exact Or.inl rfl | exact Or.inr rfl) (pe_callC (ok_law_take T) (hr.mono (by decide)) (by rfl) pass0 (pa_cons (pv 0) (pa_cons pe_int pa_nil))))
 (pss_cons (ps_set (i := 3) sc_law_stretch.nd rfl (by first | exact Or.inl rfl | exact Or.inr rfl) (pe_ix u_ix (pe_lst (pa_cons pe_int (pa_cons pe_int (pa_cons pe_int pa_nil)))) (pe_callC (ok_law_take T) (hr.mono (by decide)) (by rfl) pass0 (pa_cons (pv 0) (pa_cons pe_int pa_nil))) (fun _ _ => rfl)))
 (pss_cons (ps_set (i := 4) sc_law_stretch.nd rfl (by first | exact Or.inl rfl | exact Or.inr rfl) (pe_callC (ok_law_take T) (hr.mono (by decide)) (by rfl) pass0 (pa_cons (pv 0) (pa_cons pe_int pa_nil))))
 (pss_one (ps_ret (pe_op u_add (pe_lc (own := [("_law_k", 5)]) (g := (gName 5)) (tt := tYes) rfl sc_law_stretch.nd (pi_range1 (by rfl) T.m_range (pa_cons (pv 1) pa_nil)) (blkOk_by (N := ["_law_state", "_law_size", "_law_first", "_law_step", "_law_zeros", "_law_k"]) (sc := (defScope s_law_stretch)) (own := [("_law_k", 5)]) (by decide +kernel)) (fun _ _ _ _ _ => (pg_name (i := 5) sc_law_stretch.nd rfl (by first | exact Or.inl rfl | exact Or.inr rfl))) (fun _ _ _ _ _ => pts_nil) (fun _ _ _ _ _ => (pe_op u_add (pe_op u_mod (pe_op u_add (pv 2) (pe_op u_mul (pv 3) (pv 5))) pe_int) pe_int))) (pe_op u_mul (pe_lst (pa_cons pe_int pa_nil)) (pv 4))))))))))

theorem sc_law_part : FnScope ["_law_state", "_law_part_here", "_law_k", "_law_many"] ["_law_state"] (defScope s_law_part) := ⟨rfl, rfl, rfl, by decide +kernel, rfl, by decide +kernel, by decide +kernel⟩
theorem ok_law_part {P : Program} {w : World} {K : PySem.W.Frag} {mg : Str → Option Value} {base : Heap} (T : Txt K mg) : Cal P w K mg base CX0 3 "_law_part" ["_law_state"] (sp_law_part K) := by
  refine Cal.of (st := s_law_part) T.d_law_part sc_law_part (fun _ _ _ _ _ _ us hl => match us, hl with | [_], _ => rfl) (len_law_part K) fun f cdv A outer s H vs Q E hr h => ⟨t_law_part K, ?_, p_law_part K vs H Q E h⟩
  exact (pss_cons (ps_if (pt_cmpR (u_eq hr.units) (pe_callC (ok_law_take T) (hr.mono (by decide)) (by rfl) pass0 (pa_cons (pv 0) (pa_cons pe_int pa_nil))) pe_int (nomark _))
 (pss_one (ps_ret (pe_op u_add (pe_op u_mul (pe_lst (pa_cons pe_int pa_nil)) (pe_callC (ok_law_take T) (hr.mono (by decide)) (by rfl) pass0 (pa_cons (pv 0) (pa_cons pe_int pa_nil)))) (pe_op u_mul (pe_lst (pa_cons (pe_op u_add pe_int (pe_callC (ok_law_take T) (hr.mono (by decide)) (by rfl) pass0 (pa_cons (pv 0) (pa_cons pe_int pa_nil)))) pa_nil)) (pe_op u_add pe_int (pe_op u_mul pe_int (pe_callC (ok_law_take T) (hr.mono (by decide)) (by rfl) pass0 (pa_cons (pv 0) (pa_cons pe_int pa_nil)))))))))
 pss_nil)
 (pss_cons (ps_set (i := 1) sc_law_part.nd rfl (by first | exact Or.inl rfl | exact Or.inr rfl) (pe_lst pa_nil))
 (pss_cons (ps_for PassesOwn.never rfl (pi_range1 (by rfl) T.m_range (pa_cons (pe_callC (ok_law_take T) (hr.mono (by decide)) (by rfl) pass0 (pa_cons (pv 0) (pa_cons pe_int pa_nil))) pa_nil)) (pg_name (i := 2) sc_law_part.nd rfl (by first | exact Or.inl rfl | exact Or.inr rfl))
 (pss_one (ps_set (i := 1) sc_law_part.nd rfl (by first | exact Or.inl rfl | exact Or.inr rfl) (pe_op u_add (pv 1) (pe_callC (ok_law_stretch T) (hr.mono (by decide)) (by rfl) pass0 (pa_cons (pv 0) pa_nil))))))
 (pss_cons (ps_set (i := 3) sc_law_part.nd rfl (by first | exact Or.inl rfl | exact Or.inr rfl) (pe_callC (ok_law_take T) (hr.mono (by decide)) (by rfl) pass0 (pa_cons (pv 0) (pa_cons pe_int pa_nil))))
 (pss_cons (ps_if (pt_cmpR (u_eq hr.units) (pe_callC (ok_law_take T) (hr.mono (by decide)) (by rfl) pass0 (pa_cons (pv 0) (pa_cons pe_int pa_nil))) pe_int (nomark _))
 (pss_one (ps_set (i := 3) sc_law_part.nd rfl (by first | exact Or.inl rfl | exact Or.inr rfl) (pe_callC (ok_law_take T) (hr.mono (by decide)) (by rfl) pass0 (pa_cons (pv 0) (pa_cons pe_int pa_nil)))))
 pss_nil)
 (pss_one (ps_ret (pe_op u_add (pv 1) (pe_lc (own := [("_law_k", 2)]) (g := (gName 2)) (tt := tYes) rfl sc_law_part.nd (pi_range1 (by rfl) T.m_range (pa_cons (pv 3) pa_nil)) (blkOk_by (N := ["_law_state", "_law_part_here", "_law_k", "_law_many"]) (sc := (defScope s_law_part)) (own := [("_law_k", 2)]) (by decide +kernel)) (fun _ _ _ _ _ => (pg_name (i := 2) sc_law_part.nd rfl (by first | exact Or.inl rfl | exact Or.inr rfl))) (fun _ _ _ _ _ => pts_nil) (fun _ _ _ _ _ => (pe_callC (ok_law_take T) (hr.mono (by decide)) (by rfl) pass0 (pa_cons (pv 0) (pa_cons pe_int pa_nil)))))))))))))

theorem sc_law_parts : FnScope ["_law_state", "_law_k", "_law_j"] ["_law_state"] (defScope s_law_parts) := ⟨rfl, rfl, rfl, by decide +kernel, rfl, by decide +kernel, by decide +kernel⟩
theorem ok_law_parts {P : Program} {w : World} {K : PySem.W.Frag} {mg : Str → Option Value} {base : Heap} (T : Txt K mg) : Cal P w K mg base CX0 4 "_law_parts" ["_law_state"] (sp_law_parts K) := by
  refine Cal.of (st := s_law_parts) T.d_law_parts sc_law_parts (fun _ _ _ _ _ _ us hl => match us, hl with | [_], _ => rfl) (len_law_parts K) fun f cdv A outer s H vs Q E hr h => ⟨t_law_parts K, ?_, p_law_parts K vs H Q E h⟩
  exact (pss_cons (ps_if (pt_cmpR (u_eq hr.units) (pe_callC (ok_law_take T) (hr.mono (by decide)) (by rfl) pass0 (pa_cons (pv 0) (pa_cons pe_int pa_nil))) pe_int (nomark _))
 (pss_one (ps_ret (pe_lc (own := [("_law_k", 1)]) (g := (gName 1)) (tt := tYes) rfl sc_law_parts.nd (pi_range1 (by rfl) T.m_range (pa_cons (pe_callC (ok_law_take T) (hr.mono (by decide)) (by rfl) pass0 (pa_cons (pv 0) (pa_cons pe_int pa_nil))) pa_nil)) (blkOk_by (N := ["_law_state", "_law_k", "_law_j"]) (sc := (defScope s_law_parts)) (own := [("_law_k", 1)]) (by decide +kernel)) (fun _ _ _ _ _ => (pg_name (i := 1) sc_law_parts.nd rfl (by first | exact Or.inl rfl | exact Or.inr rfl))) (fun _ _ _ _ _ => pts_nil) (fun _ _ _ _ _ => (pe_lc (own := [("_law_j", 2)]) (g := (gName 2)) (tt := tYes) rfl sc_law_parts.nd (pi_range1 (by rfl) T.m_range (pa_cons (pe_callC (ok_law_take T) (hr.mono (by decide)) (by rfl) pass0 (pa_cons (pv 0) (pa_cons pe_int pa_nil))) pa_nil)) (blkOk_in (N := ["_law_state", "_law_k", "_law_j"]) (own := [("_law_j", 2)]) (by decide +kernel)) (fun _ _ _ _ _ => (pg_name (i := 2) sc_law_parts.nd rfl (by first | exact Or.inl rfl | exact Or.inr rfl))) (fun _ _ _ _ _ => pts_nil) (fun _ _ _ _ _ => (pe_callC (ok_law_take T) (hr.mono (by decide)) (by rfl) pass0 (pa_cons (pv 0) (pa_cons pe_int pa_nil)))))))))
 pss_nil)
 (pss_one (ps_ret (pe_lc (own := [("_law_k", 1)]) (g := (gName 1)) (tt := tYes) rfl sc_law_parts.nd (pi_range1 (by rfl) T.m_range (pa_cons (pe_callC (ok_law_take T) (hr.mono (by decide)) (by rfl) pass0 (pa_cons (pv 0) (pa_cons pe_int pa_nil))) pa_nil)) (blkOk_by (N := ["_law_state", "_law_k", "_law_j"]) (sc := (defScope s_law_parts)) (own := [("_law_k", 1)]) (by decide +kernel)) (fun _ _ _ _ _ => (pg_name (i := 1) sc_law_parts.nd rfl (by first | exact Or.inl rfl | exact Or.inr rfl))) (fun _ _ _ _ _ => pts_nil) (fun _ _ _ _ _ => (pe_callC (ok_law_part T) (hr.mono (by decide)) (by rfl) pass0 (pa_cons (pv 0) pa_nil)))))))

theorem sc_law_checked : FnScope ["_law_part_here", "_law_total", "_law_weighed", "_law_k"] ["_law_part_here"] (defScope s_law_checked) := ⟨rfl, rfl, rfl, by decide +kernel, rfl, by decide +kernel, by decide +kernel⟩
theorem ok_law_checked {P : Program} {w : World} {K : PySem.W.Frag} {mg : Str → Option Value} {base : Heap} (T : Txt K mg) : Cal P w K mg base CX0 1 "_law_checked" ["_law_part_here"] (sp_law_checked K) := by
  refine Cal.of (st := s_law_checked) T.d_law_checked sc_law_checked (fun _ _ _ _ _ _ us hl => match us, hl with | [_], _ => rfl) (len_law_checked K) fun f cdv A outer s H vs Q E hr h => ⟨t_law_checked K, ?_, p_law_checked K vs H Q E h⟩
  exact (pss_cons (ps_set (i := 1) sc_law_checked.nd rfl (by first | exact Or.inl rfl | exact Or.inr rfl) pe_int)
 (pss_cons (ps_set (i := 2) sc_law_checked.nd rfl (by first | exact Or.inl rfl | exact Or.inr rfl) pe_int)
 (pss_cons (ps_for PassesOwn.never rfl (pi_range1 (by rfl) T.m_range (pa_cons (pe_callB u_len (by rfl) T.m_len PySem.boot_len (pa_cons (pv 0) pa_nil)) pa_nil)) (pg_name (i := 3) sc_law_checked.nd rfl (by first | exact Or.inl rfl | exact Or.inr rfl))
 (pss_cons (ps_set (i := 1) sc_law_checked.nd rfl (by first | exact Or.inl rfl | exact Or.inr rfl) (pe_op u_mod (pe_op u_add (pv 1) (pe_ix u_ix (pv 0) (pv 3) (fun _ _ => rfl))) pe_int))
 (pss_one (ps_set (i := 2) sc_law_checked.nd rfl (by first | exact Or.inl rfl | exact Or.inr rfl) (pe_op u_mod (pe_op u_add (pv 2) (pe_op u_mul (pe_op u_add (pv 3) pe_int) (pe_ix u_ix (pv 0) (pv 3) (fun _ _ => rfl)))) pe_int)))))
 (pss_one (ps_ret (pe_op u_add (pv 0) (pe_lst (pa_cons (pe_op u_div (pv 1) pe_int) (pa_cons (pe_op u_mod (pv 1) pe_int) (pa_cons (pe_op u_div (pv 2) pe_int) (pa_cons (pe_op u_mod (pv 2) pe_int) pa_nil)))))))))))

theorem sc_law_undone : FnScope ["_law_piece", "_law_found", "_law_at", "_law_ahead", "_law_size"] ["_law_piece"] (defScope s_law_undone) := ⟨rfl, rfl, rfl, by decide +kernel, rfl, by decide +kernel, by decide +kernel⟩
theorem ok_law_undone {P : Program} {w : World} {K : PySem.W.Frag} {mg : Str → Option Value} {base : Heap} (T : Txt K mg) : Cal P w K mg base CX0 1 "_law_undone" ["_law_piece"] (sp_law_undone K) := by
  refine Cal.of (st := s_law_undone) T.d_law_undone sc_law_undone (fun _ _ _ _ _ _ us hl => match us, hl with | [_], _ => rfl) (len_law_undone K) fun f cdv A outer s H vs Q E hr h => ⟨t_law_undone K, ?_, p_law_undone K vs H Q E h⟩
  exact (pss_cons (ps_set (i := 1) sc_law_undone.nd rfl (by first | exact Or.inl rfl | exact Or.inr rfl) (pe_lst pa_nil))
 (pss_cons (ps_set (i := 2) sc_law_undone.nd rfl (by first | exact Or.inl rfl | exact Or.inr rfl) pe_int)
 (pss_cons (ps_set (i := 3) sc_law_undone.nd rfl (by first | exact Or.inl rfl | exact Or.inr rfl) pe_int)
 (pss_cons (ps_while PassesOwn.never (pt_cmpR u_lt (pv 2) (pe_callB u_len (by rfl) T.m_len PySem.boot_len (pa_cons (pv 0) pa_nil)) (nomark _))
 (pss_cons (ps_set (i := 4) sc_law_undone.nd rfl (by first | exact Or.inl rfl | exact Or.inr rfl) (pe_ix u_ix (pv 0) (pv 2) (fun _ _ => rfl)))
 (pss_cons (ps_if (pt_cmpR u_gt (pe_op u_add (pv 2) (pv 4)) (pe_callB u_len (by rfl) T.m_len PySem.boot_len (pa_cons (pv 0) pa_nil)) (nomark _))
 (pss_one (ps_ret pe_non))
 pss_nil)
 (pss_cons (ps_if (PW.pt (pw_and (pt_cmpR (u_eq hr.units) (pv 4) pe_int (nomark _)) (pw_and (pt_cmpR (u_eq hr.units) (pv 3) pe_int (nomark _)) (pw_and1 (pt_cmpR (u_eq hr.units) (pe_op u_add (pv 2) pe_int) (pe_callB u_len (by rfl) T.m_len PySem.boot_len (pa_cons (pv 0) pa_nil)) (nomark _))))))
 (pss_one (ps_ret pe_non))
 pss_nil)
 (pss_cons (ps_set (i := 1) sc_law_undone.nd rfl (by first | exact Or.inl rfl | exact Or.inr rfl) (pe_op u_add (pv 1) (pe_slice u_slL (pv 0) (po_some (pe_op u_add (pv 2) pe_int)) (po_some (pe_op u_add (pv 2) (pv 4))))))
 (pss_cons (ps_set (i := 2) sc_law_undone.nd rfl (by first | exact Or.inl rfl | exact Or.inr rfl) (pe_op u_add (pv 2) (pv 4)))
 (pss_cons (ps_set (i := 3) sc_law_undone.nd rfl (by first | exact Or.inl rfl | exact Or.inr rfl) (pv 4))
 (pss_one (ps_if (PW.pt (pw_and (pt_cmpR u_lt (pv 4) pe_int (nomark _)) (pw_and1 (pt_cmpR u_lt (pv 2) (pe_callB u_len (by rfl) T.m_len PySem.boot_len (pa_cons (pv 0) pa_nil)) (nomark _)))))
 (pss_one (ps_expr (pe_bm PySem.F.plainAttrs_list PySem.F.slot_list_append PySem.F.type_list_append u_append (pv 1) (pa_cons pe_int pa_nil))))
 pss_nil)))))))))
 (pss_one (ps_ret (pv 1)))))))

theorem sc_law_is_bytes : FnScope ["_law_found", "_law_byte"] ["_law_found"] (defScope s_law_is_bytes) := ⟨rfl, rfl, rfl, by decide +kernel, rfl, by decide +kernel, by decide +kernel⟩
theorem ok_law_is_bytes {P : Program} {w : World} {K : PySem.W.Frag} {mg : Str → Option Value} {base : Heap} (T : Txt K mg) : Cal P w K mg base CX0 1 "_law_is_bytes" ["_law_found"] (sp_law_is_bytes K) := by
  refine Cal.of (st := s_law_is_bytes) T.d_law_is_bytes sc_law_is_bytes (fun _ _ _ _ _ _ us hl => match us, hl with | [_], _ => rfl) (len_law_is_bytes K) fun f cdv A outer s H vs Q E hr h => ⟨t_law_is_bytes K, ?_, p_law_is_bytes K vs H Q E h⟩
  exact (pss_cons (ps_if (pt_not (pt_truth (pe_callB u_isi (by rfl) T.m_isinstance (by decide +kernel) (pa_cons (pv 0) (pa_cons (pe_bltn (v := .ty "list") (by rfl) T.m_list (by decide +kernel) rfl) pa_nil))) (by intro _; rfl)))
 (pss_one (ps_ret pe_bl))
 pss_nil)
 (pss_cons (ps_for PassesOwn.never rfl (pi_list (pv 0)) (pg_name (i := 1) sc_law_is_bytes.nd rfl (by first | exact Or.inl rfl | exact Or.inr rfl))
 (pss_cons (ps_if (PW.pt (pw_or (pt_not (pt_truth (pe_callB u_isi (by rfl) T.m_isinstance (by decide +kernel) (pa_cons (pv 1) (pa_cons (pe_bltn (v := .ty "int") (by rfl) T.m_int (by decide +kernel) rfl) pa_nil))) (by intro _; rfl))) (pw_or1 (pt_truth (pe_callB u_isi (by rfl) T.m_isinstance (by decide +kernel) (pa_cons (pv 1) (pa_cons (pe_bltn (v := .ty "bool") (by rfl) T.m_bool (by decide +kernel) rfl) pa_nil))) (by intro _; rfl)))))
 (pss_one (ps_ret pe_bl))
 pss_nil)
 (pss_one (ps_if (PW.pt (pw_or (pt_cmpR u_lt (pv 1) pe_int (nomark _)) (pw_or1 (pt_cmpR u_gt (pv 1) pe_int (nomark _)))))
 (pss_one (ps_ret pe_bl))
 pss_nil))))
 (pss_one (ps_ret pe_bl))))

theorem sc_law_pieces : FnScope ["_law_found", "_law_pieces_here", "_law_piece", "_law_byte"] ["_law_found"] (defScope s_law_pieces) := ⟨rfl, rfl, rfl, by decide +kernel, rfl, by decide +kernel, by decide +kernel⟩
theorem ok_law_pieces {P : Program} {w : World} {K : PySem.W.Frag} {mg : Str → Option Value} {base : Heap} (T : Txt K mg) : Cal P w K mg base CX0 1 "_law_pieces" ["_law_found"] (sp_law_pieces K) := by
  refine Cal.of (st := s_law_pieces) T.d_law_pieces sc_law_pieces (fun _ _ _ _ _ _ us hl => match us, hl with | [_], _ => rfl) (len_law_pieces K) fun f cdv A outer s H vs Q E hr h => ⟨t_law_pieces K, ?_, p_law_pieces K vs H Q E h⟩
  exact (pss_cons (ps_set (i := 1) sc_law_pieces.nd rfl (by first | exact Or.inl rfl | exact Or.inr rfl) (pe_lst pa_nil))
 (pss_cons (ps_set (i := 2) sc_law_pieces.nd rfl (by first | exact Or.inl rfl | exact Or.inr rfl) (pe_lst pa_nil))
 (pss_cons (ps_for PassesOwn.never rfl (pi_list (pv 0)) (pg_name (i := 3) sc_law_pieces.nd rfl (by first | exact Or.inl rfl | exact Or.inr rfl))
 (pss_one (ps_if (pt_cmpR (u_eq hr.units) (pv 3) pe_int (nomark _))
 (pss_cons (ps_expr (pe_bm PySem.F.plainAttrs_list PySem.F.slot_list_append PySem.F.type_list_append u_append (pv 1) (pa_cons (pv 2) pa_nil)))
 (pss_one (ps_set (i := 2) sc_law_pieces.nd rfl (by first | exact Or.inl rfl | exact Or.inr rfl) (pe_lst pa_nil))))
 (pss_one (ps_expr (pe_bm PySem.F.plainAttrs_list PySem.F.slot_list_append PySem.F.type_list_append u_append (pv 2) (pa_cons (pv 3) pa_nil)))))))
 (pss_cons (ps_if (pt_cmpR (u_ne hr.units) (pv 2) (pe_lst pa_nil) (nomark _))
 (pss_one (ps_expr (pe_bm PySem.F.plainAttrs_list PySem.F.slot_list_append PySem.F.type_list_append u_append (pv 1) (pa_cons (pe_lst pa_nil) pa_nil))))
 pss_nil)
 (pss_one (ps_ret (pv 1)))))))

theorem sc_law : FnScope ["_law_script", "_law_state", "_law_parts_here", "_law_handed", "_law_found", "_law_pieces_here", "_law_piece", "_law_part_here", "_law_kept"] ["_law_script"] (defScope s_law) := ⟨rfl, rfl, rfl, by decide +kernel, rfl, by decide +kernel, by decide +kernel⟩
theorem ok_law {P : Program} {w : World} {K : PySem.W.Frag} {mg : Str → Option Value} {base : Heap} (T : Txt K mg) : Cal P w K mg base CX0 5 "law" ["_law_script"] (sp_law K) := by
  refine Cal.of (st := s_law) T.d_law sc_law (fun _ _ _ _ _ _ us hl => match us, hl with | [_], _ => rfl) (len_law K) fun f cdv A outer s H vs Q E hr h => ⟨t_law K, ?_, p_law K vs H Q E h⟩
  exact (pss_cons (ps_set (i := 1) sc_law.nd rfl (by first | exact Or.inl rfl | exact Or.inr rfl) (pe_lst (pa_cons (pe_callTy u_list (by rfl) T.m_list (by decide +kernel) (pa_cons (pe_slice u_slL (pv 0) po_none (po_some pe_int)) pa_nil)) (pa_cons pe_int (pa_cons pe_int (pa_cons pe_int pa_nil))))))
 (pss_cons (ps_set (i := 2) sc_law.nd rfl (by first | exact Or.inl rfl | exact Or.inr rfl) (pe_callC (ok_law_parts T) (hr.mono (by decide)) (by rfl) pass0 (pa_cons (pv 1) pa_nil)))
 (pss_cons (ps_setLc (i := 3) (own := [("_law_part_here", 7)]) (g := (gName 7)) (tt := tYes) rfl sc_law.nd rfl rfl (sw_true rfl rfl rfl (by decide +kernel)) (pi_list (pv 2)) (blkOk_by (N := ["_law_script", "_law_state", "_law_parts_here", "_law_handed", "_law_found", "_law_pieces_here", "_law_piece", "_law_part_here", "_law_kept"]) (sc := (defScope s_law)) (own := [("_law_part_here", 7)]) (by decide +kernel)) (fun _ _ _ _ _ => (pg_name (i := 7) sc_law.nd rfl (by first | exact Or.inl rfl | exact Or.inr rfl))) (fun _ _ _ _ _ => pts_nil) (fun _ _ _ _ _ => (pe_callTy u_list (by rfl) T.m_list (by decide +kernel) (pa_cons (pv 7) pa_nil))))
 (pss_cons (ps_set (i := 4) sc_law.nd rfl (by first | exact Or.inl rfl | exact Or.inr rfl) (pe_callC (ok_streamed T) (hr.mono (by decide)) (by rfl) pass0 (pa_cons (pv 3) pa_nil)))
 (pss_cons (ps_if (PW.pt (pw_or (pt_not (pt_truth (pe_callC (ok_law_is_bytes T) (hr.mono (by decide)) (by rfl) pass0 (pa_cons (pv 4) pa_nil)) (by intro _; rfl))) (pw_or1 (pt_cmpR (u_ne hr.units) (pv 3) (pv 2) (nomark _)))))
 (pss_one (ps_ret pe_bl))
 pss_nil)
 (pss_cons (ps_set (i := 5) sc_law.nd rfl (by first | exact Or.inl rfl | exact Or.inr rfl) (pe_callC (ok_law_pieces T) (hr.mono (by decide)) (by rfl) pass0 (pa_cons (pv 4) pa_nil)))
 (pss_cons (ps_if (pt_cmpR (u_ne hr.units) (pe_callB u_len (by rfl) T.m_len PySem.boot_len (pa_cons (pv 5) pa_nil)) (pe_callB u_len (by rfl) T.m_len PySem.boot_len (pa_cons (pv 2) pa_nil)) (nomark _))
 (pss_one (ps_ret pe_bl))
 pss_nil)
 (pss_cons (ps_for PassesOwn.never rfl (pi_zip (by rfl) T.m_zip (pa_cons (pv 5) (pa_cons (pv 2) pa_nil))) (pg_tup (by rfl) (pgs_cons (pg_name (i := 6) sc_law.nd rfl (by first | exact Or.inl rfl | exact Or.inr rfl)) (pgs_cons (pg_name (i := 7) sc_law.nd rfl (by first | exact Or.inl rfl | exact Or.inr rfl)) pgs_nil)))
 (pss_one (ps_if (PW.pt (pw_or (pt_cmpR (u_eq hr.units) (pv 6) (pe_lst pa_nil) (nomark _)) (pw_or1 (pt_cmpR (u_ne hr.units) (pe_callC (ok_law_undone T) (hr.mono (by decide)) (by rfl) pass0 (pa_cons (pv 6) pa_nil)) (pe_callC (ok_law_checked T) (hr.mono (by decide)) (by rfl) pass0 (pa_cons (pv 7) pa_nil)) (nomark _)))))
 (pss_one (ps_ret pe_bl))
 pss_nil)))
 (pss_cons (ps_set (i := 8) sc_law.nd rfl (by first | exact Or.inl rfl | exact Or.inr rfl) (pe_callTy u_list (by rfl) T.m_list (by decide +kernel) (pa_cons (pv 4) pa_nil)))
 (pss_cons (ps_expr (pe_bm PySem.F.plainAttrs_list PySem.F.slot_list_append PySem.F.type_list_append u_append (pv 4) (pa_cons pe_int pa_nil)))
 (pss_cons (ps_for PassesOwn.never rfl (pi_list (pv 3)) (pg_name (i := 7) sc_law.nd rfl (by first | exact Or.inl rfl | exact Or.inr rfl))
 (pss_one (ps_expr (pe_bm PySem.F.plainAttrs_list PySem.F.slot_list_append PySem.F.type_list_append u_append (pv 7) (pa_cons pe_int pa_nil)))))
 (pss_one (ps_ret (pe_cmpR (u_eq hr.units) (pe_callC (ok_streamed T) (hr.mono (by decide)) (by rfl) pass0 (pa_cons (pe_callTy u_tuple (by rfl) T.m_tuple (by decide +kernel) (pa_cons (pe_lc (own := [("_law_part_here", 7)]) (g := (gName 7)) (tt := tYes) rfl sc_law.nd (pi_list (pv 2)) (blkOk_by (N := ["_law_script", "_law_state", "_law_parts_here", "_law_handed", "_law_found", "_law_pieces_here", "_law_piece", "_law_part_here", "_law_kept"]) (sc := (defScope s_law)) (own := [("_law_part_here", 7)]) (by decide +kernel)) (fun _ _ _ _ _ => (pg_name (i := 7) sc_law.nd rfl (by first | exact Or.inl rfl | exact Or.inr rfl))) (fun _ _ _ _ _ => pts_nil) (fun _ _ _ _ _ => (pe_callTy u_tuple (by rfl) T.m_tuple (by decide +kernel) (pa_cons (pv 7) pa_nil)))) pa_nil)) pa_nil)) (pv 8) (nomark _)))))))))))))))

theorem txt_mk {K : PySem.W.Frag} {h : Heap} {mg : Str → Option Value} (X : K.In h) (G : h.Ns mainGlobals mg)
    {f_is_bytes : Addr} {od_is_bytes an_is_bytes : Option Addr} {sl_is_bytes : Array (Option Value)} {oc_is_bytes kV_is_bytes dc_is_bytes pm_is_bytes cd_is_bytes ct_is_bytes : Value} {f_checked : Addr} {od_checked an_checked : Option Addr} {sl_checked : Array (Option Value)} {oc_checked kV_checked dc_checked pm_checked cd_checked ct_checked : Value} {f_in_runs : Addr} {od_in_runs an_in_runs : Option Addr} {sl_in_runs : Array (Option Value)} {oc_in_runs kV_in_runs dc_in_runs pm_in_runs cd_in_runs ct_in_runs : Value} {f_streamed : Addr} {od_streamed an_streamed : Option Addr} {sl_streamed : Array (Option Value)} {oc_streamed kV_streamed dc_streamed pm_streamed cd_streamed ct_streamed : Value} {f_law_take : Addr} {od_law_take an_law_take : Option Addr} {sl_law_take : Array (Option Value)} {oc_law_take kV_law_take dc_law_take pm_law_take cd_law_take ct_law_take : Value} {f_law_stretch : Addr} {od_law_stretch an_law_stretch : Option Addr} {sl_law_stretch : Array (Option Value)} {oc_law_stretch kV_law_stretch dc_law_stretch pm_law_stretch cd_law_stretch ct_law_stretch : Value} {f_law_part : Addr} {od_law_part an_law_part : Option Addr} {sl_law_part : Array (Option Value)} {oc_law_part kV_law_part dc_law_part pm_law_part cd_law_part ct_law_part : Value} {f_law_parts : Addr} {od_law_parts an_law_parts : Option Addr} {sl_law_parts : Array (Option Value)} {oc_law_parts kV_law_parts dc_law_parts pm_law_parts cd_law_parts ct_law_parts : Value} {f_law_checked : Addr} {od_law_checked an_law_checked : Option Addr} {sl_law_checked : Array (Option Value)} {oc_law_checked kV_law_checked dc_law_checked pm_law_checked cd_law_checked ct_law_checked : Value} {f_law_undone : Addr} {od_law_undone an_law_undone : Option Addr} {sl_law_undone : Array (Option Value)} {oc_law_undone kV_law_undone dc_law_undone pm_law_undone cd_law_undone ct_law_undone : Value} {f_law_is_bytes : Addr} {od_law_is_bytes an_law_is_bytes : Option Addr} {sl_law_is_bytes : Array (Option Value)} {oc_law_is_bytes kV_law_is_bytes dc_law_is_bytes pm_law_is_bytes cd_law_is_bytes ct_law_is_bytes : Value} {f_law_pieces : Addr} {od_law_pieces an_law_pieces : Option Addr} {sl_law_pieces : Array (Option Value)} {oc_law_pieces kV_law_pieces dc_law_pieces pm_law_pieces cd_law_pieces ct_law_pieces : Value} {f_law : Addr} {od_law an_law : Option Addr} {sl_law : Array (Option Value)} {oc_law kV_law dc_law pm_law cd_law ct_law : Value}
    (z_bool : PySem.W.nsIn K mainGlobals "bool" = some none) (z_enumerate : PySem.W.nsIn K mainGlobals "enumerate" = some none) (z_int : PySem.W.nsIn K mainGlobals "int" = some none) (z_isinstance : PySem.W.nsIn K mainGlobals "isinstance" = some none) (z_len : PySem.W.nsIn K mainGlobals "len" = some none) (z_list : PySem.W.nsIn K mainGlobals "list" = some none) (z_range : PySem.W.nsIn K mainGlobals "range" = some none) (z_tuple : PySem.W.nsIn K mainGlobals "tuple" = some none) (z_zip : PySem.W.nsIn K mainGlobals "zip" = some none) {k_PRIME : Tok} (y_PRIME : PySem.W.nsIn K mainGlobals "PRIME" = some (some (.int 65521 k_PRIME))) {k_LONGEST : Tok} (y_LONGEST : PySem.W.nsIn K mainGlobals "LONGEST" = some (some (.int 254 k_LONGEST))) (a_is_bytes : PySem.W.nsIn K mainGlobals "is_bytes" = some (some (.ref f_is_bytes))) (l_is_bytes : K.lookup f_is_bytes = some ⟨oc_is_bytes, od_is_bytes, .func (PySem.W.fnOf "is_bytes" "is_bytes" (defArgs s_is_bytes) (defBody s_is_bytes) (defScope s_is_bytes) .none kV_is_bytes dc_is_bytes pm_is_bytes an_is_bytes cd_is_bytes ct_is_bytes), sl_is_bytes⟩) (q_is_bytes : PySem.W.codeIn K cd_is_bytes "is_bytes" = true) (k_is_bytes : PySem.W.keepIn K (.ref f_is_bytes) = true) (a_checked : PySem.W.nsIn K mainGlobals "checked" = some (some (.ref f_checked))) (l_checked : K.lookup f_checked = some ⟨oc_checked, od_checked, .func (PySem.W.fnOf "checked" "checked" (defArgs s_checked) (defBody s_checked) (defScope s_checked) .none kV_checked dc_checked pm_checked an_checked cd_checked ct_checked), sl_checked⟩) (q_checked : PySem.W.codeIn K cd_checked "checked" = true) (k_checked : PySem.W.keepIn K (.ref f_checked) = true) (a_in_runs : PySem.W.nsIn K mainGlobals "in_runs" = some (some (.ref f_in_runs))) (l_in_runs : K.lookup f_in_runs = some ⟨oc_in_runs, od_in_runs, .func (PySem.W.fnOf "in_runs" "in_runs" (defArgs s_in_runs) (defBody s_in_runs) (defScope s_in_runs) .none kV_in_runs dc_in_runs pm_in_runs an_in_runs cd_in_runs ct_in_runs), sl_in_runs⟩) (q_in_runs : PySem.W.codeIn K cd_in_runs "in_runs" = true) (k_in_runs : PySem.W.keepIn K (.ref f_in_runs) = true) (a_streamed : PySem.W.nsIn K mainGlobals "streamed" = some (some (.ref f_streamed))) (l_streamed : K.lookup f_streamed = some ⟨oc_streamed, od_streamed, .func (PySem.W.fnOf "streamed" "streamed" (defArgs s_streamed) (defBody s_streamed) (defScope s_streamed) .none kV_streamed dc_streamed pm_streamed an_streamed cd_streamed ct_streamed), sl_streamed⟩) (q_streamed : PySem.W.codeIn K cd_streamed "streamed" = true) (k_streamed : PySem.W.keepIn K (.ref f_streamed) = true) (a_law_take : PySem.W.nsIn K mainGlobals "_law_take" = some (some (.ref f_law_take))) (l_law_take : K.lookup f_law_take = some ⟨oc_law_take, od_law_take, .func (PySem.W.fnOf "_law_take" "_law_take" (defArgs s_law_take) (defBody s_law_take) (defScope s_law_take) .none kV_law_take dc_law_take pm_law_take an_law_take cd_law_take ct_law_take), sl_law_take⟩) (q_law_take : PySem.W.codeIn K cd_law_take "_law_take" = true) (k_law_take : PySem.W.keepIn K (.ref f_law_take) = true) (a_law_stretch : PySem.W.nsIn K mainGlobals "_law_stretch" = some (some (.ref f_law_stretch))) (l_law_stretch : K.lookup f_law_stretch = some ⟨oc_law_stretch, od_law_stretch, .func (PySem.W.fnOf "_law_stretch" "_law_stretch" (defArgs s_law_stretch) (defBody s_law_stretch) (defScope s_law_stretch) .none kV_law_stretch dc_law_stretch pm_law_stretch an_law_stretch cd_law_stretch ct_law_stretch), sl_law_stretch⟩) (q_law_stretch : PySem.W.codeIn K cd_law_stretch "_law_stretch" = true) (k_law_stretch : PySem.W.keepIn K (.ref f_law_stretch) = true) (a_law_part : PySem.W.nsIn K mainGlobals "_law_part" = some (some (.ref f_law_part))) (l_law_part : K.lookup f_law_part = some ⟨oc_law_part, od_law_part, .func (PySem.W.fnOf "_law_part" "_law_part" (defArgs s_law_part) (defBody s_law_part) (defScope s_law_part) .none kV_law_part dc_law_part pm_law_part an_law_part cd_law_part ct_law_part), sl_law_part⟩) (q_law_part : PySem.W.codeIn K cd_law_part "_law_part" = true) (k_law_part : PySem.W.keepIn K (.ref f_law_part) = true) (a_law_parts : PySem.W.nsIn K mainGlobals "_law_parts" = some (some (.ref f_law_parts))) (l_law_parts : K.lookup f_law_parts = some ⟨oc_law_parts, od_law_parts, .func (PySem.W.fnOf "_law_parts" "_law_parts" (defArgs s_law_parts) (defBody s_law_parts) (defScope s_law_parts) .none kV_law_parts dc_law_parts pm_law_parts an_law_parts cd_law_parts ct_law_parts), sl_law_parts⟩) (q_law_parts : PySem.W.codeIn K cd_law_parts "_law_parts" = true) (k_law_parts : PySem.W.keepIn K (.ref f_law_parts) = true) (a_law_checked : PySem.W.nsIn K mainGlobals "_law_checked" = some (some (.ref f_law_checked))) (l_law_checked : K.lookup f_law_checked = some ⟨oc_law_checked, od_law_checked, .func (PySem.W.fnOf "_law_checked" "_law_checked" (defArgs s_law_checked) (defBody s_law_checked) (defScope s_law_checked) .none kV_law_checked dc_law_checked pm_law_checked an_law_checked cd_law_checked ct_law_checked), sl_law_checked⟩) (q_law_checked : PySem.W.codeIn K cd_law_checked "_law_checked" = true) (k_law_checked : PySem.W.keepIn K (.ref f_law_checked) = true) (a_law_undone : PySem.W.nsIn K mainGlobals "_law_undone" = some (some (.ref f_law_undone))) (l_law_undone : K.lookup f_law_undone = some ⟨oc_law_undone, od_law_undone, .func (PySem.W.fnOf "_law_undone" "_law_undone" (defArgs s_law_undone) (defBody s_law_undone) (defScope s_law_undone) .none kV_law_undone dc_law_undone pm_law_undone an_law_undone cd_law_undone ct_law_undone), sl_law_undone⟩) (q_law_undone : PySem.W.codeIn K cd_law_undone "_law_undone" = true) (k_law_undone : PySem.W.keepIn K (.ref f_law_undone) = true) (a_law_is_bytes : PySem.W.nsIn K mainGlobals "_law_is_bytes" = some (some (.ref f_law_is_bytes))) (l_law_is_bytes : K.lookup f_law_is_bytes = some ⟨oc_law_is_bytes, od_law_is_bytes, .func (PySem.W.fnOf "_law_is_bytes" "_law_is_bytes" (defArgs s_law_is_bytes) (defBody s_law_is_bytes) (defScope s_law_is_bytes) .none kV_law_is_bytes dc_law_is_bytes pm_law_is_bytes an_law_is_bytes cd_law_is_bytes ct_law_is_bytes), sl_law_is_bytes⟩) (q_law_is_bytes : PySem.W.codeIn K cd_law_is_bytes "_law_is_bytes" = true) (k_law_is_bytes : PySem.W.keepIn K (.ref f_law_is_bytes) = true) (a_law_pieces : PySem.W.nsIn K mainGlobals "_law_pieces" = some (some (.ref f_law_pieces))) (l_law_pieces : K.lookup f_law_pieces = some ⟨oc_law_pieces, od_law_pieces, .func (PySem.W.fnOf "_law_pieces" "_law_pieces" (defArgs s_law_pieces) (defBody s_law_pieces) (defScope s_law_pieces) .none kV_law_pieces dc_law_pieces pm_law_pieces an_law_pieces cd_law_pieces ct_law_pieces), sl_law_pieces⟩) (q_law_pieces : PySem.W.codeIn K cd_law_pieces "_law_pieces" = true) (k_law_pieces : PySem.W.keepIn K (.ref f_law_pieces) = true) (a_law : PySem.W.nsIn K mainGlobals "law" = some (some (.ref f_law))) (l_law : K.lookup f_law = some ⟨oc_law, od_law, .func (PySem.W.fnOf "law" "law" (defArgs s_law) (defBody s_law) (defScope s_law) .none kV_law dc_law pm_law an_law cd_law ct_law), sl_law⟩) (q_law : PySem.W.codeIn K cd_law "law" = true) (k_law : PySem.W.keepIn K (.ref f_law) = true) : Txt K mg :=
  ⟨PySem.W.mg_none_of X G z_bool, PySem.W.mg_none_of X G z_enumerate, PySem.W.mg_none_of X G z_int, PySem.W.mg_none_of X G z_isinstance, PySem.W.mg_none_of X G z_len, PySem.W.mg_none_of X G z_list, PySem.W.mg_none_of X G z_range, PySem.W.mg_none_of X G z_tuple, PySem.W.mg_none_of X G z_zip, ⟨_, PySem.W.mg_of X G y_PRIME⟩, ⟨_, PySem.W.mg_of X G y_LONGEST⟩, ⟨_, _, PySem.W.mg_of X G a_is_bytes, fun_mk l_is_bytes q_is_bytes k_is_bytes⟩, ⟨_, _, PySem.W.mg_of X G a_checked, fun_mk l_checked q_checked k_checked⟩, ⟨_, _, PySem.W.mg_of X G a_in_runs, fun_mk l_in_runs q_in_runs k_in_runs⟩, ⟨_, _, PySem.W.mg_of X G a_streamed, fun_mk l_streamed q_streamed k_streamed⟩, ⟨_, _, PySem.W.mg_of X G a_law_take, fun_mk l_law_take q_law_take k_law_take⟩, ⟨_, _, PySem.W.mg_of X G a_law_stretch, fun_mk l_law_stretch q_law_stretch k_law_stretch⟩, ⟨_, _, PySem.W.mg_of X G a_law_part, fun_mk l_law_part q_law_part k_law_part⟩, ⟨_, _, PySem.W.mg_of X G a_law_parts, fun_mk l_law_parts q_law_parts k_law_parts⟩, ⟨_, _, PySem.W.mg_of X G a_law_checked, fun_mk l_law_checked q_law_checked k_law_checked⟩, ⟨_, _, PySem.W.mg_of X G a_law_undone, fun_mk l_law_undone q_law_undone k_law_undone⟩, ⟨_, _, PySem.W.mg_of X G a_law_is_bytes, fun_mk l_law_is_bytes q_law_is_bytes k_law_is_bytes⟩, ⟨_, _, PySem.W.mg_of X G a_law_pieces, fun_mk l_law_pieces q_law_pieces k_law_pieces⟩, ⟨_, _, PySem.W.mg_of X G a_law, fun_mk l_law q_law k_law⟩⟩
theorem all_mk {l : PySem.W.OpenLaw} {w : World} {K : PySem.W.Frag} {mg : Str → Option Value} {fa : Addr} (T : Txt K mg) (hfa : mg "law" = some (.ref fa)) :
    ∃ fd : FuncData, (∀ (s : Shared) (v : Value), BindsTo s fd ⟨[v], []⟩ [("_law_script", v)]) ∧ ∀ base : Heap, K.In base → base.Ns mainGlobals mg → FnOk l.prog w K mg base CX0 5 fa fd ["_law_script"] (sp_law K) := by
  exact Cal.end_ T.d_law (fun base => ok_law T) hfa
end K50
open PySem PySem.W PyProof.Rows
set_option maxHeartbeats 0 in
theorem PySem.Challenge.cw_thingwires_k50_streams_told_holds : PySem.Challenge.rw_thingwires_k50_streams_told.Holds := by
  w_on; o_law; k_head; (case hw => w_witness2)
  k_fill
  refine L2.walk_ofB (l := PySem.Challenge.rw_thingwires_k50_streams_told) (n := 63) (k := 5) (x := "_law_script") (CX := fun _ => L2.CX0) (sp := fun w => K50.sp_law _) rfl (by decide) rfl ⟨rfl, by decide, by decide⟩ (fun w h Y => PySem.W.kIn_of Y) ?F (fun _ H a ns hl hb _ hS => K50.law_end _ H a ns hl hb hS) (fun _ _ _ _ _ h => h)
  case F =>
    intro w mg fa h KX G hmg
    refine' K50.all_mk (K50.txt_mk KX G ?z_bool ?z_enumerate ?z_int ?z_isinstance ?z_len ?z_list ?z_range ?z_tuple ?z_zip ?y_PRIME ?y_LONGEST ?a_is_bytes ?l_is_bytes ?q_is_bytes ?k_is_bytes ?a_checked ?l_checked ?q_checked ?k_checked ?a_in_runs ?l_in_runs ?q_in_runs ?k_in_runs ?a_streamed ?l_streamed ?q_streamed ?k_streamed ?a_law_take ?l_law_take ?q_law_take ?k_law_take ?a_law_stretch ?l_law_stretch ?q_law_stretch ?k_law_stretch ?a_law_part ?l_law_part ?q_law_part ?k_law_part ?a_law_parts ?l_law_parts ?q_law_parts ?k_law_parts ?a_law_checked ?l_law_checked ?q_law_checked ?k_law_checked ?a_law_undone ?l_law_undone ?q_law_undone ?k_law_undone ?a_law_is_bytes ?l_law_is_bytes ?q_law_is_bytes ?k_law_is_bytes ?a_law_pieces ?l_law_pieces ?q_law_pieces ?k_law_pieces ?a_law ?l_law ?q_law ?k_law) hmg
    (case z_bool => k_is); (case z_enumerate => k_is); (case z_int => k_is); (case z_isinstance => k_is); (case z_len => k_is); (case z_list => k_is); (case z_range => k_is); (case z_tuple => k_is); (case z_zip => k_is); (case y_PRIME => k_is); (case y_LONGEST => k_is); (case a_is_bytes => k_is); (case l_is_bytes => k_is); (case q_is_bytes => k_is); (case k_is_bytes => k_is); (case a_checked => k_is); (case l_checked => k_is); (case q_checked => k_is); (case k_checked => k_is); (case a_in_runs => k_is); (case l_in_runs => k_is); (case q_in_runs => k_is); (case k_in_runs => k_is); (case a_streamed => k_is); (case l_streamed => k_is); (case q_streamed => k_is); (case k_streamed => k_is); (case a_law_take => k_is); (case l_law_take => k_is); (case q_law_take => k_is); (case k_law_take => k_is); (case a_law_stretch => k_is); (case l_law_stretch => k_is); (case q_law_stretch => k_is); (case k_law_stretch => k_is); (case a_law_part => k_is); (case l_law_part => k_is); (case q_law_part => k_is); (case k_law_part => k_is); (case a_law_parts => k_is); (case l_law_parts => k_is); (case q_law_parts => k_is); (case k_law_parts => k_is); (case a_law_checked => k_is); (case l_law_checked => k_is); (case q_law_checked => k_is); (case k_law_checked => k_is); (case a_law_undone => k_is); (case l_law_undone => k_is); (case q_law_undone => k_is); (case k_law_undone => k_is); (case a_law_is_bytes => k_is); (case l_law_is_bytes => k_is); (case q_law_is_bytes => k_is); (case k_law_is_bytes => k_is); (case a_law_pieces => k_is); (case l_law_pieces => k_is); (case q_law_pieces => k_is); (case k_law_pieces => k_is); (case a_law => k_is); (case l_law => k_is); (case q_law => k_is); (case k_law => k_is)
