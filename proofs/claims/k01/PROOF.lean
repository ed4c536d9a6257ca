import PyProof.Rows.All
import Wide.All
import OpenK.AllK
import Wide.FinOn
import PyProof.EqAt
import PyProof.EqKinds
import PyProof.TupleCall
import HandS.ForMost
import HandS.Style
import HandS.TupMul
import HandS.Conv
import HandS.EndBits
import HandS.IsInst
import HandS.Walk
import HandS.Wide
import PySem.Challenge.RW_thingwires_k01_names_apart
set_option Elab.async false
set_option linter.all false
set_option maxRecDepth 100000
set_option maxHeartbeats 4000000
/-! Kb: joined rules (one rule a construct, whatever the kind of value), what a def of the text promises (Cal), heaps that keep all but some places -/
namespace Kb
open PySem PySem.Spec PyProof.Rows L2

/-! ### joined operators: each reading is opened by its own lemmas alone -/
@[irreducible] def rAddU (K : PySem.W.Frag) : R2 := fun x y H Q => rI0 (fun i j => .int (i + j)) x y H Q ∨ (∃ i j, x = .str i ∧ y = .str j ∧ i.length + j.length ≤ sizeLine ∧ Q (.str (i ++ j)) H) ∨ rCat x y H Q ∨ rCatT K x y H Q
@[irreducible] def rSubU : R2 := rI0 fun i j => .int (i - j)
@[irreducible] def rMulU (K : PySem.W.Frag) : R2 := fun x y H Q => rI CMul (fun i j => .int (i * j)) x y H Q ∨ rRep x y H Q ∨ rRepT K x y H Q
@[irreducible] def rDivU : R2 := rI CDiv fun i j => .int (i / j)
@[irreducible] def rDivW : R2 := rI CDivW fun i j => .int (i / j)
@[irreducible] def rModU : R2 := rI (fun _ j => 0 < j) fun i j => .int (i % j)
@[irreducible] def rPowU : R2 := rI CPow fun i j => .int (i ^ j.toNat)
@[irreducible] def rEqU (K : PySem.W.Frag) : R2 := fun x y H Q => rEq x y H Q ∨ rEqD K x y H Q
@[irreducible] def rNeU (K : PySem.W.Frag) : R2 := fun x y H Q => rNe x y H Q ∨ rNeD K x y H Q
@[irreducible] def rLtU : R2 := fun x y H Q => rI0 (fun i j => .bl (decide (i < j))) x y H Q ∨ ∃ i j, x = .str i ∧ y = .str j ∧ Q (.bl (decide (i.cps.toList < j.cps.toList))) H
@[irreducible] def rLeU : R2 := rI0 fun i j => .bl (decide (i ≤ j))
@[irreducible] def rGtU : R2 := fun x y H Q => rI0 (fun i j => .bl (decide (j < i))) x y H Q ∨ ∃ i j, x = .str i ∧ y = .str j ∧ Q (.bl (decide (j.cps.toList < i.cps.toList))) H
@[irreducible] def rGeU : R2 := rI0 fun i j => .bl (decide (j ≤ i))
@[irreducible] def rIsNU : R2 := fun x y H Q => y = .non ∧ Q (.bl (decide (x = .non))) H
@[irreducible] def rNotNU : R2 := fun x y H Q => y = .non ∧ Q (.bl (!decide (x = .non))) H
@[irreducible] def rInU (K : PySem.W.Frag) : R2 := fun x y H Q => (∃ (c : Nat) (z : Str), x = .str ⟨#[c]⟩ ∧ y = .str z ∧ Q (.bl (decide (c ∈ z.cps.toList))) H) ∨ rIn K false x y H Q
@[irreducible] def rNotInU (K : PySem.W.Frag) : R2 := fun x y H Q => (∃ (c : Nat) (z : Str), x = .str ⟨#[c]⟩ ∧ y = .str z ∧ Q (.bl (!decide (c ∈ z.cps.toList))) H) ∨ rIn K true x y H Q
@[irreducible] def rIxU (K : PySem.W.Frag) : R2 := rIx K
@[irreducible] def rSetU : V → V → V → Hp → (Hp → Prop) → Prop := rSetL
@[irreducible] def rIAddU : R2 := fun x y H Q => rI0 (fun i j => .int (i + j)) x y H Q ∨ (∃ i j, x = .str i ∧ y = .str j ∧ i.length + j.length ≤ sizeLine ∧ Q (.str (i ++ j)) H) ∨ rExt2 x y H Q
@[irreducible] def rISubU : R2 := rI0 fun i j => .int (i - j)
@[irreducible] def rIModU : R2 := rI (fun _ j => 0 < j) fun i j => .int (i % j)
@[irreducible] def rNegU : V → Hp → VK → Prop := rU fun i => .int (-i)
section
variable {X : Cx}
theorem u_add : OpR X (binaryOp .Add) (rAddU X.K) := by unfold rAddU; exact op_add.or (op_add_str.or (op_cat.or op_catT))
theorem u_sub : OpR X (binaryOp .Sub) rSubU := by unfold rSubU; exact op_sub
theorem u_mul : OpR X (binaryOp .Mult) (rMulU X.K) := by unfold rMulU; exact op_mul.or (op_rep.or op_repT)
theorem u_div : OpR X (binaryOp .FloorDiv) rDivU := by unfold rDivU; exact op_fdiv
theorem u_mod : OpR X (binaryOp .Mod) rModU := by unfold rModU; exact op_mod
theorem u_pow : OpR X (binaryOp .Pow) rPowU := by unfold rPowU; exact op_pow
theorem u_eq (hu : X.A.units + 64 < cLine) : OpR X (compareOp .Eq) (rEqU X.K) := by unfold rEqU; exact op_eq.or (op_eqD hu)
theorem u_ne (hu : X.A.units + 64 < cLine) : OpR X (compareOp .NotEq) (rNeU X.K) := by unfold rNeU; exact op_ne.or (op_neD hu)
theorem u_lt : OpR X (compareOp .Lt) rLtU := by unfold rLtU; exact op_lt.or op_lt_str
theorem u_le : OpR X (compareOp .LtE) rLeU := by unfold rLeU; exact op_le
theorem u_gt : OpR X (compareOp .Gt) rGtU := by unfold rGtU; exact op_gt.or op_gt_str
theorem u_ge : OpR X (compareOp .GtE) rGeU := by unfold rGeU; exact op_ge
theorem u_isN : OpR X (compareOp .Is) rIsNU := by unfold rIsNU; exact op_isN
theorem u_notN : OpR X (compareOp .IsNot) rNotNU := by unfold rNotNU; exact op_notN
theorem u_in : OpR X (compareOp .In) (rInU X.K) := by unfold rInU; exact op_in_sign.or op_in_seq
theorem u_notIn : OpR X (compareOp .NotIn) (rNotInU X.K) := by unfold rNotInU; exact op_notIn_sign.or op_notIn_seq
theorem u_ix : IxR X (rIxU X.K) := by unfold rIxU; exact ix_seq
theorem u_set : PSet X rSetU := by unfold rSetU; exact set_list
theorem u_iadd : PIp X .Add rIAddU := by unfold rIAddU; exact iop_add.or (iop_add_str.or iop_ext)
theorem u_isub : PIp X .Sub rISubU := by unfold rISubU; exact iop_sub
theorem u_imod : PIp X .Mod rIModU := by unfold rIModU; exact iop_mod
theorem u_neg : UnR X (unaryOp .USub) rNegU := by unfold rNegU; exact un_neg
end
theorem sz_of' {n : Nat} (h : n ≤ 16777216) : n ≤ sizeLine := Nat.le_trans h (by decide)
theorem szlt_of {n : Nat} (h : n < 16777216) : n < sizeLine := Nat.lt_of_lt_of_le h (by decide)
theorem cmul_l {i j : Int} (a : -18446744073709551616 < i) (b : i < 18446744073709551616) : CMul i j := .inl ⟨a, b⟩
theorem cmul_r {i j : Int} (a : -18446744073709551616 < j) (b : j < 18446744073709551616) : CMul i j := .inr ⟨a, b⟩
section
variable {K : PySem.W.Frag} {H : Hp} {Q : VK} {i j : Int} {x y : V} {a b : Addr} {xs ys : List V}
theorem add_go (q : Q (.int (i + j)) H) : rAddU K (.int i) (.int j) H Q := by unfold rAddU; exact .inl ⟨_, _, rfl, rfl, q⟩
theorem addS_go {u v : Str} (h : u.length + v.length ≤ 16777216) (q : Q (.str (u ++ v)) H) : rAddU K (.str u) (.str v) H Q := by unfold rAddU; exact .inr (.inl ⟨_, _, rfl, rfl, sz_of' h, q⟩)
theorem addL_go (ha : H a = some (.lst xs)) (hb : H b = some (.lst ys)) (h : xs.length + ys.length ≤ 16777216) (q : ∀ p, H p = none → Q (.ref p) (upd H p (.lst (xs ++ ys)))) : rAddU K (.ref a) (.ref b) H Q := by
  unfold rAddU; exact .inr (.inr (.inl ⟨_, _, _, _, rfl, rfl, ha, hb, sz_of' h, q⟩))
theorem addT_go (ha : SqT K H a xs) (hb : SqT K H b ys) (h0 : xs ≠ []) (h : xs.length + ys.length ≤ 16777216) (q0 : ys = [] → Q (.ref a) H) (q : ys ≠ [] → ∀ p, H p = none → Q (.ref p) (upd H p (.tup (xs ++ ys)))) : rAddU K (.ref a) (.ref b) H Q := by
  unfold rAddU; exact .inr (.inr (.inr ⟨_, _, _, _, rfl, rfl, ha, hb, h0, sz_of' h, q0, q⟩))
theorem sub_go (q : Q (.int (i - j)) H) : rSubU (.int i) (.int j) H Q := by unfold rSubU; exact ⟨_, _, rfl, rfl, q⟩
theorem mul_goL (a : -18446744073709551616 < i) (b : i < 18446744073709551616) (q : Q (.int (i * j)) H) : rMulU K (.int i) (.int j) H Q := by unfold rMulU; exact .inl ⟨_, _, rfl, rfl, cmul_l a b, q⟩
theorem mul_goR (a : -18446744073709551616 < j) (b : j < 18446744073709551616) (q : Q (.int (i * j)) H) : rMulU K (.int i) (.int j) H Q := by unfold rMulU; exact .inl ⟨_, _, rfl, rfl, cmul_r a b, q⟩
theorem rep_go (ha : H a = some (.lst xs)) (h0 : -9223372036854775808 ≤ i) (h1 : i < 9223372036854775808) (h : xs.length * i.toNat ≤ 16777216) (q : ∀ p, H p = none → Q (.ref p) (upd H p (.lst (List.replicate i.toNat xs).flatten))) : rMulU K (.ref a) (.int i) H Q := by
  unfold rMulU; exact .inr (.inl ⟨_, _, _, rfl, rfl, ha, h0, h1, sz_of' h, q⟩)
theorem div_go (a : 0 < j) (b : j < 1073741824) (q : Q (.int (i / j)) H) : rDivU (.int i) (.int j) H Q := by unfold rDivU; exact ⟨_, _, rfl, rfl, ⟨a, b⟩, q⟩
theorem divW_go (h : CDivW i j) (q : Q (.int (i / j)) H) : rDivW (.int i) (.int j) H Q := by unfold rDivW; exact ⟨_, _, rfl, rfl, h, q⟩
theorem mod_go (a : 0 < j) (q : Q (.int (i % j)) H) : rModU (.int i) (.int j) H Q := by unfold rModU; exact ⟨_, _, rfl, rfl, a, q⟩
theorem pow_go (a : 0 ≤ j) (b : j ≤ 1000000) (c : i.natAbs < 2 ^ 64) (q : Q (.int (i ^ j.toNat)) H) : rPowU (.int i) (.int j) H Q := by unfold rPowU; exact ⟨_, _, rfl, rfl, ⟨a, b, c⟩, q⟩
theorem neg_go (q : Q (.int (-i)) H) : rNegU (.int i) H Q := by unfold rNegU; exact ⟨_, rfl, q⟩
theorem dInt : decide (V.int i = V.int j) = decide (i = j) := by simp
theorem dStr {u v : Str} : decide (V.str u = V.str v) = decide (u = v) := by simp
theorem dBl {u v : Bool} : decide (V.bl u = V.bl v) = decide (u = v) := by simp
theorem eq_go (q : Q (.bl (decide (i = j))) H) : rEqU K (.int i) (.int j) H Q := by unfold rEqU; exact .inl ⟨rfl, by rw [dInt]; exact q⟩
theorem eqS_go {u v : Str} (q : Q (.bl (decide (u = v))) H) : rEqU K (.str u) (.str v) H Q := by unfold rEqU; exact .inl ⟨rfl, by rw [dStr]; exact q⟩
theorem eqB_go {u v : Bool} (q : Q (.bl (decide (u = v))) H) : rEqU K (.bl u) (.bl v) H Q := by unfold rEqU; exact .inl ⟨rfl, by rw [dBl]; exact q⟩
theorem eqN_go (q : Q (.bl true) H) : rEqU K .non .non H Q := by unfold rEqU; exact .inl ⟨rfl, q⟩
theorem eqD_go {d e : PyData} (hx : Dp K H x d) (hy : Dp K H y e) (sx : SeqAt.shaped d = true) (sy : SeqAt.shaped e = true) (q : Q (.bl (PyData.eqv d e)) H) : rEqU K x y H Q := by unfold rEqU; exact .inr ⟨d, e, hx, hy, sx, sy, q⟩
theorem ne_go (q : Q (.bl (!decide (i = j))) H) : rNeU K (.int i) (.int j) H Q := by unfold rNeU; exact .inl ⟨rfl, by rw [dInt]; exact q⟩
theorem neS_go {u v : Str} (q : Q (.bl (!decide (u = v))) H) : rNeU K (.str u) (.str v) H Q := by unfold rNeU; exact .inl ⟨rfl, by rw [dStr]; exact q⟩
theorem neB_go {u v : Bool} (q : Q (.bl (!decide (u = v))) H) : rNeU K (.bl u) (.bl v) H Q := by unfold rNeU; exact .inl ⟨rfl, by rw [dBl]; exact q⟩
theorem neD_go {d e : PyData} (hx : Dp K H x d) (hy : Dp K H y e) (sx : SeqAt.shaped d = true) (sy : SeqAt.shaped e = true) (q : Q (.bl (!PyData.eqv d e)) H) : rNeU K x y H Q := by unfold rNeU; exact .inr ⟨d, e, hx, hy, sx, sy, q⟩
theorem lt_go (q : Q (.bl (decide (i < j))) H) : rLtU (.int i) (.int j) H Q := by unfold rLtU; exact .inl ⟨_, _, rfl, rfl, q⟩
theorem ltS_go {u v : Str} (q : Q (.bl (decide (u.cps.toList < v.cps.toList))) H) : rLtU (.str u) (.str v) H Q := by unfold rLtU; exact .inr ⟨_, _, rfl, rfl, q⟩
theorem le_go (q : Q (.bl (decide (i ≤ j))) H) : rLeU (.int i) (.int j) H Q := by unfold rLeU; exact ⟨_, _, rfl, rfl, q⟩
theorem gt_go (q : Q (.bl (decide (j < i))) H) : rGtU (.int i) (.int j) H Q := by unfold rGtU; exact .inl ⟨_, _, rfl, rfl, q⟩
theorem gtS_go {u v : Str} (q : Q (.bl (decide (v.cps.toList < u.cps.toList))) H) : rGtU (.str u) (.str v) H Q := by unfold rGtU; exact .inr ⟨_, _, rfl, rfl, q⟩
theorem ge_go (q : Q (.bl (decide (j ≤ i))) H) : rGeU (.int i) (.int j) H Q := by unfold rGeU; exact ⟨_, _, rfl, rfl, q⟩
theorem isN_go (q : Q (.bl (decide (x = .non))) H) : rIsNU x .non H Q := by unfold rIsNU; exact ⟨rfl, q⟩
theorem notN_go (q : Q (.bl (!decide (x = .non))) H) : rNotNU x .non H Q := by unfold rNotNU; exact ⟨rfl, q⟩
theorem inC_go {c : Nat} {z : Str} (q : Q (.bl (decide (c ∈ z.cps.toList))) H) : rInU K (.str ⟨#[c]⟩) (.str z) H Q := by unfold rInU; exact .inl ⟨_, _, rfl, rfl, q⟩
theorem inL_go (h : SqL K H a xs) (fx : flatV x = true) (fs : xs.all flatV = true) (q : Q (.bl (inV x xs)) H) : rInU K x (.ref a) H Q := by unfold rInU; exact .inr ⟨_, _, rfl, .inl h, fx, fs, q⟩
theorem inT_go (h : SqT K H a xs) (fx : flatV x = true) (fs : xs.all flatV = true) (q : Q (.bl (inV x xs)) H) : rInU K x (.ref a) H Q := by unfold rInU; exact .inr ⟨_, _, rfl, .inr h, fx, fs, q⟩
theorem notInC_go {c : Nat} {z : Str} (q : Q (.bl (!decide (c ∈ z.cps.toList))) H) : rNotInU K (.str ⟨#[c]⟩) (.str z) H Q := by unfold rNotInU; exact .inl ⟨_, _, rfl, rfl, q⟩
theorem notInL_go (h : SqL K H a xs) (fx : flatV x = true) (fs : xs.all flatV = true) (q : Q (.bl (!inV x xs)) H) : rNotInU K x (.ref a) H Q := by unfold rNotInU; exact .inr ⟨_, _, rfl, .inl h, fx, fs, q⟩
theorem ixL_go (h : SqL K H a xs) (e : atI xs i = some x) (q : Q x H) : rIxU K (.ref a) (.int i) H Q := by unfold rIxU; exact .inl ⟨_, _, _, _, rfl, rfl, h, e, q⟩
theorem ixT_go (h : SqT K H a xs) (e : atI xs i = some x) (q : Q x H) : rIxU K (.ref a) (.int i) H Q := by unfold rIxU; exact .inr (.inl ⟨_, _, _, _, rfl, rfl, h, e, q⟩)
theorem ixS_go {z : Str} {c : Nat} (h : z.length ≤ 16777216) (e : atI z.cps.toList i = some c) (q : Q (.str ⟨#[c]⟩) H) : rIxU K (.str z) (.int i) H Q := by unfold rIxU; exact .inr (.inr ⟨_, _, _, rfl, rfl, sz_of' h, e, q⟩)
theorem set_go {k : Nat} {Q : Hp → Prop} (h : H a = some (.lst xs)) (e : ixN xs.length i = some k) (q : Q (upd H a (.lst (xs.set k x)))) : rSetU (.ref a) (.int i) x H Q := by unfold rSetU; exact ⟨_, _, _, _, rfl, rfl, h, e, q⟩
theorem iadd_go (q : Q (.int (i + j)) H) : rIAddU (.int i) (.int j) H Q := by unfold rIAddU; exact .inl ⟨_, _, rfl, rfl, q⟩
theorem iaddS_go {u v : Str} (h : u.length + v.length ≤ 16777216) (q : Q (.str (u ++ v)) H) : rIAddU (.str u) (.str v) H Q := by unfold rIAddU; exact .inr (.inl ⟨_, _, rfl, rfl, sz_of' h, q⟩)
theorem iaddL_go (ha : H a = some (.lst xs)) (hb : H b = some (.lst ys)) (h : xs.length + ys.length ≤ 16777216) (q : Q (.ref a) (upd H a (.lst (xs ++ ys)))) : rIAddU (.ref a) (.ref b) H Q := by
  unfold rIAddU; exact .inr (.inr ⟨_, _, _, _, rfl, rfl, ha, hb, sz_of' h, q⟩)
theorem isub_go (q : Q (.int (i - j)) H) : rISubU (.int i) (.int j) H Q := by unfold rISubU; exact ⟨_, _, rfl, rfl, q⟩
theorem imod_go (a : 0 < j) (q : Q (.int (i % j)) H) : rIModU (.int i) (.int j) H Q := by unfold rIModU; exact ⟨_, _, rfl, rfl, a, q⟩
end

/-! ### names of the module -/
section
variable {X : Cx} {x : Str} {pos : Pos}
theorem pe_gint {i : Int} (hg : Gl X x) (hm : ∃ t, X.mg x = some (.int i t)) (hd : (x == ("__debug__" : Str)) = false := by decide) : PE X (.Name x pos) (tC (.int i)) := by
  obtain ⟨t, hm⟩ := hm
  exact pe_glob hg hm ⟨t, rfl⟩ hd
theorem pe_gstr {i : Str} (hg : Gl X x) (hm : ∃ t, X.mg x = some (.str i t)) (hd : (x == ("__debug__" : Str)) = false := by decide) : PE X (.Name x pos) (tC (.str i)) := by
  obtain ⟨t, hm⟩ := hm
  exact pe_glob hg hm ⟨t, rfl⟩ hd
end

/-! ### defs of the text -/
def Def (K : PySem.W.Frag) (mg : Str → Option Value) (st : Stmt) (x : Str) : Prop := ∃ f fd, mg x = some (.ref f) ∧ Fun K x x st f fd
def FdAt (K : PySem.W.Frag) (f : Addr) (fd : FuncData) : Prop := ∃ oc od osl, K.lookup f = some ⟨oc, od, .func fd, osl⟩
theorem FdAt.eq {K : PySem.W.Frag} {f : Addr} {fd fd' : FuncData} (a : FdAt K f fd) (b : FdAt K f fd') : fd = fd' := by
  obtain ⟨_, _, _, a⟩ := a
  obtain ⟨_, _, _, b⟩ := b
  rw [a] at b
  cases b
  rfl
theorem Fun.at_ {K : PySem.W.Frag} {x qual : Str} {st : Stmt} {f : Addr} {fd : FuncData} (F : Fun K x qual st f fd) : FdAt K f fd := by
  obtain ⟨oc, od, kV, doc, pm, an, cdv, ct, osl, rfl, lk, hcd⟩ := F.ex
  exact ⟨oc, od, osl, lk⟩
/-- the def x of the module keeps the promise sp -/
structure Cal (P : Program) (w : World) (K : PySem.W.Frag) (mg : Str → Option Value) (base : Heap) (CX : CXT) (k : Nat) (x : Str) (ps : List Str) (sp : Sp) : Prop where
  ex : ∃ f fd, mg x = some (.ref f) ∧ FnOk P w K mg base CX k f fd ps sp ∧ PySem.W.keepIn K (.ref f) = true ∧ (∀ us : List Value, us.length = ps.length → bindArgs fd ⟨us, []⟩ = pure (ps.zip us)) ∧ FdAt K f fd
section
variable {P : Program} {w : World} {K : PySem.W.Frag} {mg : Str → Option Value} {base : Heap}
theorem Cal.of {x : Str} {st : Stmt} {N ps : List Str} {k : Nat} {sp : Sp} (D : Def K mg st x) (S : FnScope N ps (defScope st))
    (hb : ∀ (kV doc pm : Value) (an : Option Addr) (cdv ct : Value) (us : List Value), us.length = ps.length → bindArgs (PySem.W.fnOf x x (defArgs st) (defBody st) (defScope st) .none kV doc pm an cdv ct) ⟨us, []⟩ = pure (ps.zip us))
    (len : ∀ vs H Q E, sp vs H Q E → vs.length = ps.length)
    (hbody : ∀ (f : Addr) (cdv : Value) (A : Around) (outer : List Env) (s : Shared) (H : Hp) (vs : List V) (Q : VK) (E : XK), Room k (A.deeper (envOfC x (defScope st) s.heap.objs.size f cdv)) → sp vs H Q E →
      ∃ t, PSs (cxOf CX0 P w K mg base N x (defScope st) f cdv A outer s H E).nox (defBody st) t ∧ t { nx := fun _ H' => Q .non H', rt := Q } (start N vs) H) : Cal P w K mg base CX0 (k + 1) x ps sp := by
  obtain ⟨f, fd, hm, F⟩ := D
  refine ⟨f, fd, hm, F.ok S len (hbody f), F.kp, ?_, Fun.at_ F⟩
  obtain ⟨oc, od, kV, doc, pm, an, cdv, ct, osl, rfl, lk, hcd⟩ := F.ex
  exact hb kV doc pm an cdv ct
theorem Cal.bound {CX : CXT} {k : Nat} {x : Str} {ps : List Str} {sp : Sp} (C : Cal P w K mg base CX k x ps sp) : ∃ f fd, mg x = some (.ref f) ∧ FnOk P w K mg base CX k f fd ps sp ∧ PySem.W.keepIn K (.ref f) = true ∧ Binds K fd ps [] := by
  obtain ⟨f, fd, a, b, c, d, _⟩ := C.ex
  exact ⟨f, fd, a, b, c, .all d⟩
theorem Cal.end_ {x y : Str} {st : Stmt} {k : Nat} {sp : Sp} {fa : Addr} (D : Def K mg st x) (C : ∀ base : Heap, Cal P w K mg base CX0 k x [y] sp) (h : mg x = some (.ref fa)) :
    ∃ fd : FuncData, (∀ (s : Shared) (v : Value), BindsTo s fd ⟨[v], []⟩ [(y, v)]) ∧ ∀ base : Heap, K.In base → base.Ns mainGlobals mg → FnOk P w K mg base CX0 k fa fd [y] sp := by
  obtain ⟨f, fd, hm, F⟩ := D
  have e := h.symm.trans hm
  cases e
  have key : ∀ base : Heap, FnOk P w K mg base CX0 k fa fd [y] sp ∧ ∀ us : List Value, us.length = [y].length → bindArgs fd ⟨us, []⟩ = pure ([y].zip us) := fun base => by
    obtain ⟨f', fd', hm', G, _, hb, hA⟩ := (C base).ex
    have e := hm'.symm.trans hm
    cases e
    have e2 := hA.eq (Fun.at_ F)
    subst e2
    exact ⟨G, hb⟩
  exact ⟨fd, fun s v => .of_eq ((key default).2 [v] rfl), fun base _ _ => (key base).1⟩
end
section
variable {X : Cx} {CX : CXT} {k : Nat} {x : Str} {ps : List Str} {sp : Sp} {E : XK} {e : Expr} {es : List Expr} {t : TA} {p pos : Pos}
theorem pe_callC (C : Cal X.prog X.w X.K X.mg X.base CX k x ps sp) (hr : Room k X.A) (hg : Gl X x) (hx : Passes CX X E)
    (ha : PA X (e :: es) t) (hdb : (x == ("__debug__" : Str)) = false := by decide) (he : starEach (e :: es) X.env = (false, eval e X.env) :: starEach es X.env := by rfl) (hpl : (backTo pos (starEach es X.env)).any (·.1) = false := by rfl) :
    PE X (.Call (.Name x p) (e :: es) [] pos) (tCall sp [] E t) := by
  obtain ⟨f, fd, hm, F, hk, hb⟩ := C.bound
  exact pe_call F hr hg hm hk hb .nil hx ha hdb he hpl
theorem pe_callC0 (C : Cal X.prog X.w X.K X.mg X.base CX k x ps sp) (hr : Room k X.A) (hg : Gl X x) (hx : Passes CX X E)
    (hdb : (x == ("__debug__" : Str)) = false := by decide) : PE X (.Call (.Name x p) [] [] pos) (tCall sp [] E tNil) := by
  obtain ⟨f, fd, hm, F, hk, hb⟩ := C.bound
  exact pe_call0 F hr hg hm hk hb .nil hx hdb
/-- f(k = v): all by names -/
theorem pe_callK0 {f : Addr} {fd : FuncData} {ks : List Str} {g : List Value → List Value → List Value} {gV : List V → List V → List V} {kws : List Keyword} {tk : TA} (F : FnOk X.prog X.w X.K X.mg X.base CX k f fd ps sp) (hr : Room k X.A) (hg : Gl X x) (hm : X.mg x = some (.ref f)) (hk : PySem.W.keepIn X.K (.ref f) = true) (hb : KBinds X.K fd ps ks g gV) (hx : Passes CX X E)
    (hkw : PK X kws tk) (hall : (backToKw pos (keywordEach kws X.env)).all (·.1.isSome) = true := by rfl) (hks : (backToKw pos (keywordEach kws X.env)).filterMap (·.1) = ks := by rfl)
    (hdb : (x == ("__debug__" : Str)) = false := by decide)
    (hpl : ((backTo pos (starEach [] X.env)).any (·.1) || (backToKw pos (keywordEach kws X.env)).any (·.1.isNone)) = false := by rfl) :
    PE X (.Call (.Name x p) [] kws pos) (tCallK sp gV E tNil tk) := by
  refine ⟨fun pins s σ H Q I h => ?_⟩
  refine wpAny_Call_Name_kw (ld_glob I hg hm ?_ hdb)
  refine PySem.W.callWith_KW0 (h₀ := X.base) I.ok.mod.kin hk hall ?_ hpl
  have h : tk σ H fun zs H2 => sp (gV [] zs) H2 Q E := h
  refine thn (hkw.run pos pins s σ H _ I h) fun ws s2 ⟨zs, H2, I2, rz, q2⟩ => ⟨I2.kIn, ?_⟩
  rw [hks]
  exact run_fnk (us := []) (vs := []) F hr hb hx I2 .nil rz q2
end

/-! ### joined calls of built-ins -/
@[irreducible] def rLenU (K : PySem.W.Frag) : List V → Hp → VK → Prop := fun xs H Q => (∃ x n, xs = [x] ∧ LenV K x H n ∧ Q (.int n) H) ∨ ∃ a kvs, xs = [V.ref a] ∧ H a = some (.dK kvs) ∧ Q (.int kvs.length) H
@[irreducible] def rIsiU (K : PySem.W.Frag) : List V → Hp → VK → Prop := fun xs H Q => rIsi K xs H Q ∨ rIsiT K xs H Q
@[irreducible] def rIntU : List V → Hp → VK → Prop := fun xs H Q => (∃ i, xs = [.int i] ∧ Q (.int i) H) ∨ ∃ k, xs = [.bl k] ∧ Q (.int (if k then 1 else 0)) H
@[irreducible] def rBoolU : List V → Hp → VK → Prop := fun xs H Q => (∃ i, xs = [.int i] ∧ Q (.bl (i != 0)) H) ∨ ∃ k, xs = [.bl k] ∧ Q (.bl k) H
@[irreducible] def rAbsU : List V → Hp → VK → Prop := fun xs H Q => ∃ i, xs = [.int i] ∧ Q (.int (if i < 0 then -i else i)) H
@[irreducible] def rOrdU : List V → Hp → VK → Prop := fun xs H Q => ∃ x, xs = [.str x] ∧ x.length = 1 ∧ Q (.int (x.cps.getD 0 0 : Nat)) H
@[irreducible] def rListU (K : PySem.W.Frag) : List V → Hp → VK → Prop := fun xs H Q => ∃ p ys, xs = [.ref p] ∧ (SqL K H p ys ∨ SqT K H p ys) ∧ ∀ l, H l = none → Q (.ref l) (upd H l (.lst ys))
@[irreducible] def rTupleU (K : PySem.W.Frag) : List V → Hp → VK → Prop := fun xs H Q => ∃ p ys, xs = [.ref p] ∧ ((SqL K H p ys ∧ ∀ l, H l = none → Q (.ref l) (upd H l (.tup ys))) ∨ (SqT K H p ys ∧ Q (.ref p) H))
@[irreducible] def rAllU (K : PySem.W.Frag) : List V → Hp → VK → Prop := rAll K
@[irreducible] def rAnyU (K : PySem.W.Frag) : List V → Hp → VK → Prop := rAny K
@[irreducible] def rSumU (K : PySem.W.Frag) : List V → Hp → VK → Prop := rSum K
@[irreducible] def rAppU : V → List V → Hp → VK → Prop := rAppend
@[irreducible] def rPopU : V → List V → Hp → VK → Prop := fun x vs H Q => rPop x vs H Q ∨ rPopAt x vs H Q
@[irreducible] def rExtU : V → List V → Hp → VK → Prop := rExtend
@[irreducible] def rSlLU (K : PySem.W.Frag) : V → Option Int → Option Int → Hp → VK → Prop := rSlL K
@[irreducible] def rSlSU : V → Option Int → Option Int → Hp → VK → Prop := rSlS
@[irreducible] def rSlTU (K : PySem.W.Frag) : V → Option Int → Option Int → Hp → VK → Prop := rSlT K
section
variable {X : Cx}
theorem CallR.or {f : Value} {r r' : List V → Hp → VK → Prop} (h : CallR X f r) (h' : CallR X f r') : CallR X f (fun xs H Q => r xs H Q ∨ r' xs H Q) := by
  intro pins s σ H xs us Q I r q
  rcases q with q | q
  · exact h pins s σ H xs us Q I r q
  · exact h' pins s σ H xs us Q I r q
theorem MtR.or {id : String} {r r' : V → List V → Hp → VK → Prop} (h : MtR X id r) (h' : MtR X id r') : MtR X id (fun x xs H Q => r x xs H Q ∨ r' x xs H Q) := by
  intro pins s σ H x xs v us Q I rx rs q
  rcases q with q | q
  · exact h pins s σ H x xs v us Q I rx rs q
  · exact h' pins s σ H x xs v us Q I rx rs q
theorem u_len : CallR X (.builtin "len") (rLenU X.K) := by unfold rLenU; exact CallR.or call_len call_lenD
theorem u_isi : CallR X (.builtin "isinstance") (rIsiU X.K) := by unfold rIsiU; exact CallR.or call_isi call_isiT
theorem u_int : CallR X (.type "int") rIntU := by unfold rIntU; exact call_int1
theorem u_bool : CallR X (.type "bool") rBoolU := by unfold rBoolU; exact call_bool1
theorem u_abs : CallR X (.builtin "abs") rAbsU := by unfold rAbsU; exact call_abs
theorem u_ord : CallR X (.builtin "ord") rOrdU := by unfold rOrdU; exact call_ord
theorem u_list : CallR X (.type "list") (rListU X.K) := by unfold rListU; exact call_list_of
theorem u_tuple : CallR X (.type "tuple") (rTupleU X.K) := by unfold rTupleU; exact call_tuple_of
theorem u_all (hc : X.calm = true) : CallR X (.builtin "all") (rAllU X.K) := by unfold rAllU; exact cr_all hc
theorem u_any (hc : X.calm = true) : CallR X (.builtin "any") (rAnyU X.K) := by unfold rAnyU; exact cr_any hc
theorem u_sum (hc : X.calm = true) : CallR X (.builtin "sum") (rSumU X.K) := by unfold rSumU; exact cr_sum hc
theorem u_append : MtR X "list.append" rAppU := by unfold rAppU; exact mt_append
theorem u_pop : MtR X "list.pop" rPopU := by unfold rPopU; exact MtR.or mt_pop mt_popAt
theorem u_extend : MtR X "list.extend" rExtU := by unfold rExtU; exact mt_extend
theorem u_slL : SlR X (rSlLU X.K) := by unfold rSlLU; exact sl_list
theorem u_slS : SlR X rSlSU := by unfold rSlSU; exact sl_str
theorem u_slT : SlR X (rSlTU X.K) := by unfold rSlTU; exact sl_tup
end
def tTru (K : PySem.W.Frag) (ta : TE) : TT := fun σ H Q => ta σ H fun x H' => ∃ k, TruV K x H' k ∧ Q k H'
def rJoin (K : PySem.W.Frag) : V → List V → Hp → VK → Prop := fun x xs H Q => ∃ a p, ∃ ys : List Str, x = .str a ∧ xs = [.ref p] ∧ (SqL K H p (ys.map V.str) ∨ SqT K H p (ys.map V.str)) ∧ (ys.map (·.length)).sum + ys.length * a.length ≤ 16777216 ∧ Q (.str (Txt.join a ys)) H
def rUpper : V → List V → Hp → VK → Prop := fun x xs H Q => ∃ a, x = .str a ∧ xs = [] ∧ a.length ≤ 5592405 ∧ Q (.str (Txt.upper a)) H
section
variable {K : PySem.W.Frag} {H : Hp} {Q : VK} {i j : Int} {x y : V} {a b : Addr} {xs ys : List V}
theorem len_str {z : Str} (h : z.length ≤ 16777216) (q : Q (.int z.length) H) : rLenU K [.str z] H Q := by unfold rLenU; exact .inl ⟨_, _, rfl, ⟨sz_of' h, rfl⟩, q⟩
theorem len_lst (h : SqL K H a xs) (q : Q (.int xs.length) H) : rLenU K [.ref a] H Q := by unfold rLenU; exact .inl ⟨_, _, rfl, .inl ⟨xs, h, rfl⟩, q⟩
theorem len_tup (h : SqT K H a xs) (q : Q (.int xs.length) H) : rLenU K [.ref a] H Q := by unfold rLenU; exact .inl ⟨_, _, rfl, .inr ⟨xs, h, rfl⟩, q⟩
theorem len_dK {kvs : List (Key × V)} (h : H a = some (.dK kvs)) (q : Q (.int kvs.length) H) : rLenU K [.ref a] H Q := by unfold rLenU; exact .inr ⟨_, _, rfl, h, q⟩
theorem isi_go {t n : String} {b : Bool} (ty : TyX K H x (.type t)) (k : PySem.W.kitOne K (.type t) (.type n) = some b) (q : Q (.bl b) H) : rIsiU K [x, .ty n] H Q := by unfold rIsiU; exact .inl ⟨x, .ty n, .type t, .type n, b, rfl, .ty n, ty, k, q⟩
theorem isi2_go {t m n : String} {b c : Bool} (hp : H a = some (.tup [.ty m, .ty n])) (ty : TyX K H x (.type t)) (k1 : PySem.W.kitOne K (.type t) (.type m) = some b) (k2 : PySem.W.kitOne K (.type t) (.type n) = some c) (q : Q (.bl (b || c)) H) : rIsiU K [x, .ref a] H Q := by
  unfold rIsiU
  refine .inr ⟨x, a, _, .type t, _, b || c, rfl, hp, .cons (.ty m) (.cons (.ty n) .nil), ty, ?_, q⟩
  refine kitAny_cons k1 (fun e => ?_) (fun e => by rw [e]; rfl)
  refine kitAny_cons k2 (fun e2 => ?_) (fun e2 => by rw [e2]; exact Bool.or_true _)
  rw [e, e2]
  exact kitAny_nil
theorem int_go (q : Q (.int i) H) : rIntU [.int i] H Q := by unfold rIntU; exact .inl ⟨_, rfl, q⟩
theorem intB_go {k : Bool} (q : Q (.int (if k then 1 else 0)) H) : rIntU [.bl k] H Q := by unfold rIntU; exact .inr ⟨_, rfl, q⟩
theorem abs_go (q : Q (.int (if i < 0 then -i else i)) H) : rAbsU [.int i] H Q := by unfold rAbsU; exact ⟨_, rfl, q⟩
theorem ord_go {c : Nat} (q : Q (.int c) H) : rOrdU [.str ⟨#[c]⟩] H Q := by unfold rOrdU; exact ⟨_, rfl, rfl, q⟩
theorem list_goL (h : SqL K H a xs) (q : ∀ l, H l = none → Q (.ref l) (upd H l (.lst xs))) : rListU K [.ref a] H Q := by unfold rListU; exact ⟨_, _, rfl, .inl h, q⟩
theorem list_goT (h : SqT K H a xs) (q : ∀ l, H l = none → Q (.ref l) (upd H l (.lst xs))) : rListU K [.ref a] H Q := by unfold rListU; exact ⟨_, _, rfl, .inr h, q⟩
theorem tuple_goL (h : SqL K H a xs) (q : ∀ l, H l = none → Q (.ref l) (upd H l (.tup xs))) : rTupleU K [.ref a] H Q := by unfold rTupleU; exact ⟨_, _, rfl, .inl ⟨h, q⟩⟩
theorem tuple_goT (h : SqT K H a xs) (q : Q (.ref a) H) : rTupleU K [.ref a] H Q := by unfold rTupleU; exact ⟨_, _, rfl, .inr ⟨h, q⟩⟩
theorem all_go {bs : List Bool} (h : SqL K H a (bs.map V.bl)) (q : Q (.bl (bs.all id)) H) : rAllU K [.ref a] H Q := by unfold rAllU; exact ⟨_, _, rfl, h, q⟩
theorem any_go {bs : List Bool} (h : SqL K H a (bs.map V.bl)) (q : Q (.bl (bs.any id)) H) : rAnyU K [.ref a] H Q := by unfold rAnyU; exact ⟨_, _, rfl, h, q⟩
theorem sum_go {ns : List Int} (h : SqL K H a (ns.map V.int)) (q : Q (.int ns.sum) H) : rSumU K [.ref a] H Q := by unfold rSumU; exact ⟨_, _, rfl, h, q⟩
theorem app_go (h : H a = some (.lst xs)) (hl : xs.length < 16777216) (q : Q .non (upd H a (.lst (xs ++ [x])))) : rAppU (.ref a) [x] H Q := by unfold rAppU; exact ⟨_, _, _, rfl, rfl, h, szlt_of hl, q⟩
theorem ext_go (h : H a = some (.lst xs)) (h2 : H b = some (.lst ys)) (hl : xs.length + ys.length ≤ 16777216) (q : Q .non (upd H a (.lst (xs ++ ys)))) : rExtU (.ref a) [.ref b] H Q := by unfold rExtU; exact ⟨_, _, _, _, rfl, rfl, h, h2, sz_of' hl, q⟩
theorem pop0_go (h : H a = some (.lst (x :: xs))) (q : Q x (upd H a (.lst xs))) : rPopU (.ref a) [.int 0] H Q := by
  unfold rPopU
  exact .inr ⟨_, _, _, 0, x, rfl, rfl, h, by decide, by decide, by
    unfold seqIndex?
    have e : (0 : Int) < ((x :: xs).length : Int) := by
      show (0 : Int) < ((xs.length + 1 : Nat) : Int)
      omega
    simp [e], rfl, q⟩
theorem popE_go (h : H a = some (.lst (xs ++ [x]))) (q : Q x (upd H a (.lst xs))) : rPopU (.ref a) [] H Q := by
  unfold rPopU
  refine .inl ⟨_, _, x, rfl, rfl, h, by simp, ?_⟩
  rw [List.dropLast_concat]
  exact q
theorem ty_lst (h : SqL K H a xs) : tyV K "list" (.ref a) H := .inl ⟨rfl, _, h⟩
theorem ty_dK {kvs : List (Key × V)} (h : H a = some (.dK kvs)) : tyV K "dict" (.ref a) H := .inr (.inr (.inl ⟨rfl, .inl ⟨_, h⟩⟩))
theorem slL_go {lo hi : Option Int} (h : SqL K H a xs) (q : ∀ p, H p = none → Q (.ref p) (upd H p (.lst (cutV xs lo hi)))) : rSlLU K (.ref a) lo hi H Q := by unfold rSlLU; exact ⟨_, _, rfl, h, q⟩
theorem slS_go {lo hi : Option Int} {z : Str} (h : z.length ≤ 16777216) (q : Q (.str (cutS z lo hi)) H) : rSlSU (.str z) lo hi H Q := by unfold rSlSU; exact ⟨_, rfl, sz_of' h, q⟩
end

/-! ### heaps -/
/-- all but the places of M is kept -/
def Kp (M : List Addr) (H H' : Hp) : Prop := ∀ a o, a ∉ M → H a = some o → H' a = some o
theorem Kp.refl {M : List Addr} {H : Hp} : Kp M H H := fun _ _ _ h => h
theorem Kp.trans {M : List Addr} {H H1 H2 : Hp} (a : Kp M H H1) (b : Kp M H1 H2) : Kp M H H2 := fun x o n h => b x o n (a x o n h)
theorem Kp.at_ {M : List Addr} {H H' : Hp} {a : Addr} {o : HO} (k : Kp M H H') (n : a ∉ M) (h : H a = some o) : H' a = some o := k a o n h
theorem Same.at_ {H H' : Hp} {a : Addr} {o : HO} (k : Same H H') (h : H a = some o) : H' a = some o := k a o h
theorem Kp.sqL {M : List Addr} {K : PySem.W.Frag} {H H' : Hp} {a : Addr} {xs : List V} (k : Kp M H H') (n : a ∉ M) (h : SqL K H a xs) : SqL K H' a xs := by
  rcases h with (h | ⟨o, h⟩) | h
  · exact .inl (.inl (k _ _ n h))
  · exact .inl (.inr ⟨o, k _ _ n h⟩)
  · exact .inr h
theorem Kp.upd_in {M : List Addr} {H H' : Hp} {a : Addr} {o : HO} (k : Kp M H H') (h : a ∈ M) : Kp M H (upd H' a o) := fun x u n e => by
  rw [upd_ne (fun z => n (by rw [z]; exact h))]
  exact k x u n e
theorem Kp.upd_new {M : List Addr} {H H' : Hp} {a : Addr} {o : HO} (k : Kp M H H') (h : H a = none) : Kp M H (upd H' a o) := fun x u n e => by
  rw [upd_ne (ne_of_none e h)]
  exact k x u n e
theorem Kp.upd_new' {M : List Addr} {H H' : Hp} {a : Addr} {o : HO} (k : Kp M H H') (h : H' a = none) : Kp M H (upd H' a o) := fun x u n e => by
  rw [upd_ne (ne_of_none (k x u n e) h)]
  exact k x u n e
theorem Kp.mono {M N : List Addr} {H H' : Hp} (k : Kp M H H') (h : ∀ a, a ∈ M → a ∈ N) : Kp N H H' := fun x u n e => k x u (fun z => n (h x z)) e
/-- what is changed was not there at first -/
theorem Kp.drop {M N : List Addr} {H H1 H2 : Hp} (k : Kp M H H1) (k2 : Kp N H1 H2) (h : ∀ a, a ∈ N → a ∈ M ∨ H a = none) : Kp M H H2 := fun x u n e => by
  refine k2 x u (fun z => ?_) (k x u n e)
  rcases h x z with q | q
  · exact n q
  · rw [e] at q
    cases q
theorem Kp.none_of {M : List Addr} {H H' : Hp} {p : Addr} (k : Kp M H H') (n : p ∉ M) (h : H' p = none) : H p = none := by
  cases q : H p with
  | none => rfl
  | some o =>
    rw [k p o n q] at h
    cases h
theorem nm_cons {a b : Addr} {M : List Addr} (h : a ≠ b) (t : a ∉ M) : a ∉ b :: M := fun z => by
  rcases List.mem_cons.mp z with e | e
  · exact h e
  · exact t e
theorem st_nx {D : Ends} {σ : L2.St} {H : Hp} (q : D.nx σ H) : tNext D σ H := q
theorem iteD {c A B : Prop} [Decidable c] (h1 : c → A) (h2 : ¬ c → B) : if decide c = true then A else B := by
  by_cases h : c
  · rw [decide_eq_true h]
    exact iteT (h1 h)
  · rw [decide_eq_false h]
    exact iteF (h2 h)
theorem Kp.of_same {M : List Addr} {H H' : Hp} (a : Same H H') : Kp M H H' := fun x o _ h => a x o h

/-! ### comprehensions: what is made so far is told -/
def Acc (D : Addr) (Pv : Nat → List V → Hp → Prop) (i : Nat) (H : Hp) : Prop := ∃ acc, acc.length ≤ i ∧ H D = some (.lst acc) ∧ Pv i acc H
theorem lc_acc {J : It} {n : Nat} {G : Hp → Prop} {Y : Nat → Hp → V → Hp → Prop} (w : Walk J n G Y) {g : TG} {tt : TT} {te : TE} {vs : List Nat} {σ : L2.St} {H1 : Hp} {D : Addr} {Qd : Hp → Prop} (Pv : Nat → List V → Hp → Prop)
    (h0 : Pv 0 [] (upd H1 D (.lst []))) (hG : ∀ i acc H, i ≤ n → Pv i acc H → G H)
    (hs : ∀ i x acc H H', i < n → acc.length ≤ i → H D = some (.lst acc) → Pv i acc H → Y i H x H' → g x (wipe σ vs) H' fun σ2 H2 => wipe σ2 vs = wipe σ vs ∧ tt σ2 H2 fun b H3 =>
      if b = true then te σ2 H3 fun y H4 => ∃ acc, H4 D = some (.lst acc) ∧ acc.length < sizeLine ∧ Acc D Pv (i + 1) (upd H4 D (.lst (acc ++ [y]))) else Acc D Pv (i + 1) H3)
    (hd : ∀ acc H, acc.length ≤ n → H D = some (.lst acc) → Pv n acc H → Qd H) :
    ∃ W : Nat → Nat → Hp → Prop, (∃ m, W 0 m (upd H1 D (.lst []))) ∧ ∀ i m H, W i m H →
      (J.stop i H ∧ Qd H) ∨ (J.go i H ∧ ∃ Nx : Hp → Prop, (∀ H', Nx H' → ∃ m', m' < m ∧ W (i + 1) m' H') ∧ ∀ x H', J.yld i H x H' → g x (wipe σ vs) H' fun σ2 H2 => wipe σ2 vs = wipe σ vs ∧ tt σ2 H2 fun b H3 =>
        if b = true then te σ2 H3 fun y H4 => ∃ acc, H4 D = some (.lst acc) ∧ acc.length < sizeLine ∧ Nx (upd H4 D (.lst (acc ++ [y]))) else Nx H3) :=
  lc_it w (Acc D Pv) ⟨[], Nat.zero_le _, upd_same, h0⟩ (fun i H hi ⟨acc, _, _, p⟩ => hG i acc H hi p) (fun i x H H' hi ⟨acc, hl, hD, p⟩ y => hs i x acc H H' hi hl hD p y) (fun H ⟨acc, hl, hD, p⟩ => hd acc H hl hD p)
theorem acc_go {D : Addr} {Pv : Nat → List V → Hp → Prop} {i : Nat} {H : Hp} {acc : List V} {y : V} (hl : acc.length ≤ i) (hi : i < 16777215) (hD : H D = some (.lst acc)) (p : Pv (i + 1) (acc ++ [y]) (upd H D (.lst (acc ++ [y])))) :
    ∃ acc, H D = some (.lst acc) ∧ acc.length < sizeLine ∧ Acc D Pv (i + 1) (upd H D (.lst (acc ++ [y]))) := by
  refine ⟨acc, hD, Nat.lt_of_le_of_lt (show acc.length ≤ 16777215 by omega) (by decide), acc ++ [y], ?_, upd_same, p⟩
  rw [List.length_append]
  show acc.length + 1 ≤ i + 1
  omega
theorem acc_skip {D : Addr} {Pv : Nat → List V → Hp → Prop} {i : Nat} {H : Hp} {acc : List V} (hl : acc.length ≤ i) (hD : H D = some (.lst acc)) (p : Pv (i + 1) acc H) : Acc D Pv (i + 1) H := ⟨acc, Nat.le_succ_of_le hl, hD, p⟩
/-! ### isinstance of built-in kinds -/
theorem ki_NoneType_str {K : PySem.W.Frag} : PySem.W.kitOne K (.type "NoneType") (.type "str") = some false := kit_ty (by decide +kernel)
theorem ki_NoneType_int {K : PySem.W.Frag} : PySem.W.kitOne K (.type "NoneType") (.type "int") = some false := kit_ty (by decide +kernel)
theorem ki_NoneType_bool {K : PySem.W.Frag} : PySem.W.kitOne K (.type "NoneType") (.type "bool") = some false := kit_ty (by decide +kernel)
theorem ki_NoneType_list {K : PySem.W.Frag} : PySem.W.kitOne K (.type "NoneType") (.type "list") = some false := kit_ty (by decide +kernel)
theorem ki_NoneType_tuple {K : PySem.W.Frag} : PySem.W.kitOne K (.type "NoneType") (.type "tuple") = some false := kit_ty (by decide +kernel)
theorem ki_NoneType_dict {K : PySem.W.Frag} : PySem.W.kitOne K (.type "NoneType") (.type "dict") = some false := kit_ty (by decide +kernel)
theorem ki_bool_str {K : PySem.W.Frag} : PySem.W.kitOne K (.type "bool") (.type "str") = some false := kit_ty (by decide +kernel)
theorem ki_bool_int {K : PySem.W.Frag} : PySem.W.kitOne K (.type "bool") (.type "int") = some true := kit_ty (by decide +kernel)
theorem ki_bool_bool {K : PySem.W.Frag} : PySem.W.kitOne K (.type "bool") (.type "bool") = some true := kit_ty (by decide +kernel)
theorem ki_bool_list {K : PySem.W.Frag} : PySem.W.kitOne K (.type "bool") (.type "list") = some false := kit_ty (by decide +kernel)
theorem ki_bool_tuple {K : PySem.W.Frag} : PySem.W.kitOne K (.type "bool") (.type "tuple") = some false := kit_ty (by decide +kernel)
theorem ki_bool_dict {K : PySem.W.Frag} : PySem.W.kitOne K (.type "bool") (.type "dict") = some false := kit_ty (by decide +kernel)
theorem ki_int_str {K : PySem.W.Frag} : PySem.W.kitOne K (.type "int") (.type "str") = some false := kit_ty (by decide +kernel)
theorem ki_int_int {K : PySem.W.Frag} : PySem.W.kitOne K (.type "int") (.type "int") = some true := kit_ty (by decide +kernel)
theorem ki_int_bool {K : PySem.W.Frag} : PySem.W.kitOne K (.type "int") (.type "bool") = some false := kit_ty (by decide +kernel)
theorem ki_int_list {K : PySem.W.Frag} : PySem.W.kitOne K (.type "int") (.type "list") = some false := kit_ty (by decide +kernel)
theorem ki_int_tuple {K : PySem.W.Frag} : PySem.W.kitOne K (.type "int") (.type "tuple") = some false := kit_ty (by decide +kernel)
theorem ki_int_dict {K : PySem.W.Frag} : PySem.W.kitOne K (.type "int") (.type "dict") = some false := kit_ty (by decide +kernel)
theorem ki_str_str {K : PySem.W.Frag} : PySem.W.kitOne K (.type "str") (.type "str") = some true := kit_ty (by decide +kernel)
theorem ki_str_int {K : PySem.W.Frag} : PySem.W.kitOne K (.type "str") (.type "int") = some false := kit_ty (by decide +kernel)
theorem ki_str_bool {K : PySem.W.Frag} : PySem.W.kitOne K (.type "str") (.type "bool") = some false := kit_ty (by decide +kernel)
theorem ki_str_list {K : PySem.W.Frag} : PySem.W.kitOne K (.type "str") (.type "list") = some false := kit_ty (by decide +kernel)
theorem ki_str_tuple {K : PySem.W.Frag} : PySem.W.kitOne K (.type "str") (.type "tuple") = some false := kit_ty (by decide +kernel)
theorem ki_str_dict {K : PySem.W.Frag} : PySem.W.kitOne K (.type "str") (.type "dict") = some false := kit_ty (by decide +kernel)
theorem ki_list_str {K : PySem.W.Frag} : PySem.W.kitOne K (.type "list") (.type "str") = some false := kit_ty (by decide +kernel)
theorem ki_list_int {K : PySem.W.Frag} : PySem.W.kitOne K (.type "list") (.type "int") = some false := kit_ty (by decide +kernel)
theorem ki_list_bool {K : PySem.W.Frag} : PySem.W.kitOne K (.type "list") (.type "bool") = some false := kit_ty (by decide +kernel)
theorem ki_list_list {K : PySem.W.Frag} : PySem.W.kitOne K (.type "list") (.type "list") = some true := kit_ty (by decide +kernel)
theorem ki_list_tuple {K : PySem.W.Frag} : PySem.W.kitOne K (.type "list") (.type "tuple") = some false := kit_ty (by decide +kernel)
theorem ki_list_dict {K : PySem.W.Frag} : PySem.W.kitOne K (.type "list") (.type "dict") = some false := kit_ty (by decide +kernel)
theorem ki_tuple_str {K : PySem.W.Frag} : PySem.W.kitOne K (.type "tuple") (.type "str") = some false := kit_ty (by decide +kernel)
theorem ki_tuple_int {K : PySem.W.Frag} : PySem.W.kitOne K (.type "tuple") (.type "int") = some false := kit_ty (by decide +kernel)
theorem ki_tuple_bool {K : PySem.W.Frag} : PySem.W.kitOne K (.type "tuple") (.type "bool") = some false := kit_ty (by decide +kernel)
theorem ki_tuple_list {K : PySem.W.Frag} : PySem.W.kitOne K (.type "tuple") (.type "list") = some false := kit_ty (by decide +kernel)
theorem ki_tuple_tuple {K : PySem.W.Frag} : PySem.W.kitOne K (.type "tuple") (.type "tuple") = some true := kit_ty (by decide +kernel)
theorem ki_tuple_dict {K : PySem.W.Frag} : PySem.W.kitOne K (.type "tuple") (.type "dict") = some false := kit_ty (by decide +kernel)
theorem ki_dict_str {K : PySem.W.Frag} : PySem.W.kitOne K (.type "dict") (.type "str") = some false := kit_ty (by decide +kernel)
theorem ki_dict_int {K : PySem.W.Frag} : PySem.W.kitOne K (.type "dict") (.type "int") = some false := kit_ty (by decide +kernel)
theorem ki_dict_bool {K : PySem.W.Frag} : PySem.W.kitOne K (.type "dict") (.type "bool") = some false := kit_ty (by decide +kernel)
theorem ki_dict_list {K : PySem.W.Frag} : PySem.W.kitOne K (.type "dict") (.type "list") = some false := kit_ty (by decide +kernel)
theorem ki_dict_tuple {K : PySem.W.Frag} : PySem.W.kitOne K (.type "dict") (.type "tuple") = some false := kit_ty (by decide +kernel)
theorem ki_dict_dict {K : PySem.W.Frag} : PySem.W.kitOne K (.type "dict") (.type "dict") = some true := kit_ty (by decide +kernel)
theorem Kp.sqT {M : List Addr} {K : PySem.W.Frag} {H H' : Hp} {a : Addr} {xs : List V} (k : Kp M H H') (n : a ∉ M) (h : SqT K H a xs) : SqT K H' a xs := by
  rcases h with (h | ⟨o, h⟩) | h
  · exact .inl (.inl (k _ _ n h))
  · exact .inl (.inr ⟨o, k _ _ n h⟩)
  · exact .inr h
theorem iteN {c A B : Prop} [Decidable c] (h1 : ¬ c → A) (h2 : c → B) : if (!decide c) = true then A else B := by
  by_cases h : c
  · rw [decide_eq_true h]
    exact iteF (h2 h)
  · rw [decide_eq_false h]
    exact iteT (h1 h)
theorem iteB {b : Bool} {A B : Prop} (h1 : b = true → A) (h2 : b = false → B) : if b = true then A else B := by
  cases b with
  | true => exact iteT (h1 rfl)
  | false => exact iteF (h2 rfl)
theorem tyX_same {K : PySem.W.Frag} {H H' : Hp} {x : V} {t : Value} (s : Same H H') (h : TyX K H x t) : TyX K H' x t := by
  cases h with
  | base b =>
    refine .base ?_
    cases b with
    | non => exact .non
    | bl y => exact .bl y
    | int i => exact .int i
    | str y => exact .str y
    | flt y => exact .flt y
    | lst e => exact .lst (s _ _ e)
    | frz e => exact .frz (s _ _ e)
    | tup e => exact .tup (s _ _ e)
    | dK e => exact .dK (s _ _ e)
    | dT e => exact .dT (s _ _ e)
    | ins e a b c d f => exact .ins (s _ _ e) a b c d f
  | byt b => exact .byt b
  | set e => exact .set (s _ _ e)
  | kList e c => exact .kList e c
  | kTuple e c => exact .kTuple e c
  | kDict e c => exact .kDict e c
  | fTuple e => exact .fTuple (s _ _ e)
  | fDict e => exact .fDict (s _ _ e)
theorem Kp.same {H H' : Hp} (k : Kp [] H H') : Same H H' := fun a o e => k a o List.not_mem_nil e
theorem str_size (z : Str) : z.cps.size = z.length := rfl
end Kb
/-! ### data: what == asks -/
namespace Kb
open PySem PySem.Spec PyProof.Rows L2
/-- small data: no deeper than n, its texts of signs that there are -/
def Sh (n : Nat) (d : PyData) : Prop := d.canLay0 = true ∧ d.depth ≤ n
theorem Sh.ok {n : Nat} {d : PyData} (h : Sh n d) (hn : n ≤ 64) : SeqAt.shaped d = true := by
  unfold SeqAt.shaped
  rw [h.1, Bool.true_and]
  exact decide_eq_true (Nat.le_trans h.2 hn)
theorem sh_non {n : Nat} : Sh n .none := ⟨by simp [PyData.canLay0], by simp [PyData.depth]⟩
theorem sh_bl {n : Nat} {b : Bool} : Sh n (.bool b) := ⟨by simp [PyData.canLay0], by simp [PyData.depth]⟩
theorem sh_int {n : Nat} {i : Int} : Sh n (.int i) := ⟨by simp [PyData.canLay0], by simp [PyData.depth]⟩
theorem sh_str {n : Nat} {x : Str} (h : ∀ c ∈ x.cps.toList, c < 1114112) : Sh n (.str x) := by
  refine ⟨?_, by simp [PyData.depth]⟩
  simp only [PyData.canLay0, PyData.strOk]
  exact Array.all_eq_true'.mpr fun c hc => decide_eq_true (h c (Array.mem_toList_iff.mpr hc))
theorem sh_all {n : Nat} : ∀ {ds : List PyData}, (∀ d ∈ ds, Sh n d) → PyData.canLayAll0 ds = true ∧ PyData.depthAll ds ≤ n
  | [], _ => ⟨by simp [PyData.canLayAll0], by simp [PyData.depthAll]⟩
  | d :: ds, h => by
    obtain ⟨a, b⟩ := h d (by simp)
    obtain ⟨c, e⟩ := sh_all fun x hx => h x (List.mem_cons_of_mem _ hx)
    exact ⟨by simp only [PyData.canLayAll0, a, c, Bool.and_self], by simp only [PyData.depthAll]; omega⟩
theorem sh_lst {n : Nat} {ds : List PyData} (h : ∀ d ∈ ds, Sh n d) : Sh (n + 1) (.list ds) := by
  obtain ⟨a, b⟩ := sh_all h
  exact ⟨by simp only [PyData.canLay0, a], by simp only [PyData.depth]; omega⟩
theorem sh_tup {n : Nat} {ds : List PyData} (h : ∀ d ∈ ds, Sh n d) : Sh (n + 1) (.tuple ds) := by
  obtain ⟨a, b⟩ := sh_all h
  exact ⟨by simp only [PyData.canLay0, a], by simp only [PyData.depth]; omega⟩
theorem sh_nil {n : Nat} : Sh (n + 1) (.list []) := sh_lst fun d h => nomatch h
theorem eqv_lnil : ∀ ds : List PyData, PyData.eqv (.list ds) (.list []) = ds.isEmpty
  | [] => by simp [PyData.eqv, PyData.eqvAll]
  | d :: ds => by simp [PyData.eqv, PyData.eqvAll]
/-- a list of ints as data -/
theorem dp_ints {K : PySem.W.Frag} {H : Hp} : ∀ ns : List Int, DpAll K H (ns.map V.int) (ns.map PyData.int)
  | [] => .nil
  | n :: ns => .cons (.int n) (dp_ints ns)
theorem sh_ints {ns : List Int} : Sh 1 (.list (ns.map PyData.int)) := sh_lst (n := 0) fun d h => by
  obtain ⟨i, _, rfl⟩ := List.mem_map.mp h
  exact sh_int
theorem eqvAll_ints : ∀ xs ys : List Int, PyData.eqvAll (xs.map PyData.int) (ys.map PyData.int) = decide (xs = ys)
  | [], [] => by simp [PyData.eqvAll]
  | [], y :: ys => by simp [PyData.eqvAll]
  | x :: xs, [] => by simp [PyData.eqvAll]
  | x :: xs, y :: ys => by
    have ih := eqvAll_ints xs ys
    simp only [List.map_cons, PyData.eqvAll, PyData.eqv, ih]
    by_cases h : x = y
    · subst h
      simp
    · simp [h]
theorem eqv_ints (xs ys : List Int) : PyData.eqv (.list (xs.map PyData.int)) (.list (ys.map PyData.int)) = decide (xs = ys) := by
  simp only [PyData.eqv]
  exact eqvAll_ints xs ys
end Kb
/-! ### slices -/
namespace Kb
open PySem PySem.Spec PyProof.Rows L2
def cutI {α : Type} (xs : List α) (lo hi : Option Int) : List α := (xs.drop (HT.sIx xs.length 0 lo)).take (HT.sIx xs.length xs.length hi - HT.sIx xs.length 0 lo)
theorem cutV_map {α : Type} (f : α → V) (xs : List α) (lo hi : Option Int) : cutV (xs.map f) lo hi = (cutI xs lo hi).map f := by
  unfold cutV cutI
  rw [List.length_map, List.map_take, List.map_drop]
theorem cutI_len {α : Type} (xs : List α) (lo hi : Option Int) : (cutI xs lo hi).length ≤ xs.length := by
  unfold cutI
  rw [List.length_take, List.length_drop]
  omega
theorem cutI_mem {α : Type} {xs : List α} {lo hi : Option Int} {x : α} (h : x ∈ cutI xs lo hi) : x ∈ xs := List.mem_of_mem_drop (List.mem_of_mem_take h)
end Kb
/-! ### calls by names alone -/
namespace Kb
open PySem PySem.Spec PyProof.Rows L2
theorem pe_callKw {X : Cx} {CX : CXT} {k : Nat} {x : Str} {st : Stmt} {ps ks : List Str} {sp : Sp} {E : XK} {kws : List Keyword} {tk : TA} {p pos : Pos} (D : Def X.K X.mg st x) (C : Cal X.prog X.w X.K X.mg X.base CX k x ps sp)
    (kb : ∀ (kV doc pm : Value) (an : Option Addr) (cdv ct : Value) (us ws : List Value), (us ++ (ws ++ [])).length = ps.length → bindArgs (PySem.W.fnOf x x (defArgs st) (defBody st) (defScope st) .none kV doc pm an cdv ct) ⟨us, ks.zip ws⟩ = pure (ps.zip (us ++ (ws ++ []))))
    (hr : Room k X.A) (hg : Gl X x) (hx : Passes CX X E) (hkw : PK X kws tk) (hall : (backToKw pos (keywordEach kws X.env)).all (·.1.isSome) = true := by rfl) (hks : (backToKw pos (keywordEach kws X.env)).filterMap (·.1) = ks := by rfl)
    (hdb : (x == ("__debug__" : Str)) = false := by decide)
    (hpl : ((backTo pos (starEach [] X.env)).any (·.1) || (backToKw pos (keywordEach kws X.env)).any (·.1.isNone)) = false := by rfl) :
    PE X (.Call (.Name x p) [] kws pos) (tCall sp [] E tk) := by
  obtain ⟨f, fd, hm, F, hk, _, hA⟩ := C.ex
  obtain ⟨f', fd', hm', F'⟩ := D
  have e := hm'.symm.trans hm
  cases e
  have e2 := hA.eq (Fun.at_ F')
  subst e2
  have K1 : KBinds X.K fd ps ks (fun us ws => us ++ (ws ++ [])) (fun vs zs => vs ++ (zs ++ [])) := by
    obtain ⟨oc, od, kV, doc, pm, an, cdv, ct, osl, rfl, lk, hcd⟩ := F'.ex
    exact ⟨fun s us ws _ hl => .of_eq (kb kV doc pm an cdv ct us ws hl), fun r r' => r.append (r'.append .nil)⟩
  exact pe_callK0 F hr hg hm hk K1 hx hkw hall hks hdb hpl
end Kb

open L2 Kb PySem
/-! steps by name: "ne" a ≠ b, "h" H a = some o, "c" a side condition, "l" a list that is read, "s" one step of a reading -/
local macro_rules | `(tactic| walk_at "ne") => `(tactic| first
  | assumption
  | (apply Ne.symm; assumption)
  | (refine' ne_of_none ?kh ?kn; (case kn => assumption); (case kh => walk_at "h"))
  | (refine' Ne.symm (ne_of_none ?kh ?kn); (case kn => assumption); (case kh => walk_at "h"))
  | fail)
local macro_rules | `(tactic| walk_at "nm") => `(tactic| first
  | exact List.not_mem_nil
  | (refine' nm_cons ?kn ?km; (case kn => walk_at "ne"); (case km => walk_at "nm"))
  | fail)
local macro_rules | `(tactic| walk_at "h") => `(tactic| first
  | assumption
  | exact upd_same
  | (refine' (upd_ne ?kn).trans ?kh; (case kn => walk_at "ne"); (case kh => walk_at "h"))
  | (refine' Kp.at_ ?kk ?kn ?kh; (case kk => assumption); (case kn => walk_at "nm"); (case kh => walk_at "h"))
  | (refine' Same.at_ ?kk ?kh; (case kk => assumption); (case kh => walk_at "h"))
  | fail)
local macro_rules | `(tactic| walk_at "c") => `(tactic| first
  | assumption
  | rfl
  | omega
  | decide
  | (simp only [List.length_cons, List.length_nil, List.length_map, List.length_append, List.length_range, List.length_replicate]; omega)
  | fail)
local macro_rules | `(tactic| walk_at "l") => `(tactic| first
  | assumption
  | exact SqL.of (by walk_at "h")
  | (refine Kp.sqL (by assumption) ?_ ?_ <;> first | assumption | walk_at "nm" | walk_at "l")
  | fail)
local macro_rules | `(tactic| walk_at "t") => `(tactic| first
  | assumption
  | exact SqT.of (by walk_at "h")
  | (refine Kp.sqT (by assumption) ?_ ?_ <;> first | assumption | walk_at "nm" | walk_at "t")
  | fail)
local macro_rules | `(tactic| walk_at "ki") => `(tactic| first
  | exact ki_NoneType_str
  | exact ki_NoneType_int
  | exact ki_NoneType_bool
  | exact ki_NoneType_list
  | exact ki_NoneType_tuple
  | exact ki_NoneType_dict
  | exact ki_bool_str
  | exact ki_bool_int
  | exact ki_bool_bool
  | exact ki_bool_list
  | exact ki_bool_tuple
  | exact ki_bool_dict
  | exact ki_int_str
  | exact ki_int_int
  | exact ki_int_bool
  | exact ki_int_list
  | exact ki_int_tuple
  | exact ki_int_dict
  | exact ki_str_str
  | exact ki_str_int
  | exact ki_str_bool
  | exact ki_str_list
  | exact ki_str_tuple
  | exact ki_str_dict
  | exact ki_list_str
  | exact ki_list_int
  | exact ki_list_bool
  | exact ki_list_list
  | exact ki_list_tuple
  | exact ki_list_dict
  | exact ki_tuple_str
  | exact ki_tuple_int
  | exact ki_tuple_bool
  | exact ki_tuple_list
  | exact ki_tuple_tuple
  | exact ki_tuple_dict
  | exact ki_dict_str
  | exact ki_dict_int
  | exact ki_dict_bool
  | exact ki_dict_list
  | exact ki_dict_tuple
  | exact ki_dict_dict
  | fail)
local macro_rules | `(tactic| walk_at "ty") => `(tactic| first
  | assumption
  | exact .base (.int _)
  | exact .base (.str _)
  | exact .base (.bl _)
  | exact .base .non
  | (refine .base (.lst ?_); walk_at "h")
  | (refine .base (.tup ?_); walk_at "h")
  | (refine .base (.dK ?_); walk_at "h")
  | fail)
local macro_rules | `(tactic| walk_at "s1") => `(tactic| first
  | (refine' add_go  ?kq)
  | (refine' sub_go  ?kq)
  | (refine' mul_goL ?k1 ?k2 ?kq; (case k1 => walk_at "c"); (case k2 => walk_at "c"))
  | (refine' mul_goR ?k1 ?k2 ?kq; (case k1 => walk_at "c"); (case k2 => walk_at "c"))
  | (refine' mod_go ?k1 ?kq; (case k1 => walk_at "c"))
  | (refine' div_go ?k1 ?k2 ?kq; (case k1 => walk_at "c"); (case k2 => walk_at "c"))
  | (refine' eq_go  ?kq)
  | (refine' ne_go  ?kq)
  | (refine' lt_go  ?kq)
  | (refine' le_go  ?kq)
  | (refine' gt_go  ?kq)
  | (refine' ge_go  ?kq)
  | (refine' ixL_go ?k1 ?k2 ?kq; (case k1 => walk_at "l"); (case k2 => rfl))
  | (refine' ixT_go ?k1 ?k2 ?kq; (case k1 => walk_at "t"); (case k2 => rfl))
  | (refine' set_go ?k1 ?k2 ?kq; (case k1 => walk_at "h"); (case k2 => rfl))
  | (refine' eqS_go  ?kq)
  | (refine' neS_go  ?kq)
  | (refine' eqB_go  ?kq)
  | (refine' neB_go  ?kq)
  | (refine' eqN_go  ?kq)
  | (refine' len_str ?k1 ?kq; (case k1 => walk_at "c"))
  | (refine' len_lst ?k1 ?kq; (case k1 => walk_at "l"))
  | (refine' len_tup ?k1 ?kq; (case k1 => walk_at "t"))
  | (refine' len_dK ?k1 ?kq; (case k1 => walk_at "h"))
  | (refine' isi_go ?k1 ?k2 ?kq; (case k1 => walk_at "ty"); (case k2 => walk_at "ki"))
  | (refine' isi2_go ?k1 ?k2 ?k3 ?k4 ?kq; (case k1 => walk_at "h"); (case k2 => walk_at "ty"); (case k3 => walk_at "ki"); (case k4 => walk_at "ki"))
  | (refine' int_go  ?kq)
  | (refine' intB_go  ?kq)
  | (refine' pow_go ?k1 ?k2 ?k3 ?kq; (case k1 => walk_at "c"); (case k2 => walk_at "c"); (case k3 => walk_at "c"))
  | (refine' neg_go  ?kq)
  | (refine' app_go ?k1 ?k2 ?kq; (case k1 => walk_at "h"); (case k2 => walk_at "c"))
  | (refine' addL_go ?k1 ?k2 ?k3 ?kq; (case k1 => walk_at "h"); (case k2 => walk_at "h"); (case k3 => walk_at "c"))
  | (refine' addS_go ?k1 ?kq; (case k1 => walk_at "c"))
  | (refine' rep_go ?k1 ?k2 ?k3 ?k4 ?kq; (case k1 => walk_at "h"); (case k2 => walk_at "c"); (case k3 => walk_at "c"); (case k4 => walk_at "c"))
  | (refine' iadd_go  ?kq)
  | (refine' iaddL_go ?k1 ?k2 ?k3 ?kq; (case k1 => walk_at "h"); (case k2 => walk_at "h"); (case k3 => walk_at "c"))
  | (refine' isub_go  ?kq)
  | (refine' imod_go ?k1 ?kq; (case k1 => walk_at "c"))
  | (refine' ltS_go  ?kq)
  | (refine' gtS_go  ?kq)
  | (refine' isN_go  ?kq)
  | (refine' notN_go  ?kq)
  | (refine' inC_go  ?kq)
  | (refine' notInC_go  ?kq)
  | (refine' list_goL ?k1 ?kq; (case k1 => walk_at "l"))
  | (refine' list_goT ?k1 ?kq; (case k1 => walk_at "t"))
  | (refine' tuple_goL ?k1 ?kq; (case k1 => walk_at "l"))
  | (refine' tuple_goT ?k1 ?kq; (case k1 => walk_at "t"))
  | (refine' pop0_go ?k1 ?kq; (case k1 => walk_at "h"))
  | (refine' popE_go ?k1 ?kq; (case k1 => walk_at "h"))
  | (refine' slL_go ?k1 ?kq; (case k1 => walk_at "l"))
  | (refine' slS_go ?k1 ?kq; (case k1 => walk_at "c"))
  | (refine' ord_go  ?kq)
  | (refine' abs_go  ?kq)
  | fail)
local macro_rules | `(tactic| walk_at "s") => `(tactic| first
  | refine ⟨_, rfl, ?_⟩
  | refine iteD (fun _ => ?_) (fun _ => ?_)
  | refine iteN (fun _ => ?_) (fun _ => ?_)
  | refine iteT ?_
  | refine iteF ?_
  | walk_at "s1"
  | with_reducible refine st_nx ?_
  | (dsimp only; with_reducible refine st_nx ?_)
  | refine And.intro (sz_of' (by walk_at "c")) ?_
  | refine And.intro (by walk_at "c") ?_
  | refine ⟨_, _, rfl, ?_⟩
  | refine ⟨_, _, _, rfl, ?_⟩
  | refine ⟨_, _, _, _, rfl, ?_⟩
  | refine ⟨.inl ⟨rfl, _, by walk_at "l"⟩, ?_⟩
  | refine ⟨⟨_, rfl⟩, ?_⟩
  | (refine fun (p : Addr) (np : _ = none) => ?_)
  | refine iteB (fun _ => ?_) (fun _ => ?_)
  | fail)
local macro_rules | `(tactic| walk_at "go") => `(tactic| repeat' walk_at "s")
namespace K01
open PySem PySem.Spec PyProof.Rows L2 Kb
/-! ### what each def promises -/
def A7 (z : Str) : Prop := ∀ c ∈ z.cps.toList, c < 128
def isNm (z : Str) : Bool := decide (1 ≤ z.length ∧ z.length ≤ 8) && z.cps.toList.all fun c => decide (97 ≤ c ∧ c ≤ 122)
/-- b is whether x is a name -/
def NA (K : PySem.W.Frag) (H : Hp) (x : V) (b : Bool) : Prop := (∃ z, x = .str z ∧ z.length ≤ 16777216 ∧ A7 z ∧ b = isNm z) ∨ (∃ t, TyX K H x (.type t) ∧ kitB t "str" = some false ∧ b = false)
def sp_is_name (K : PySem.W.Frag) : Sp := fun vs H Q _ => ∃ x b, vs = [x] ∧ NA K H x b ∧ ∀ H', Kp [] H H' → Q (.bl b) H'
def sp_law_due (K : PySem.W.Frag) : Sp := sp_is_name K
def WellAt (H : Hp) (a : Addr) : Prop := ∃ x y z : Int, H a = some (.lst [.int x, .int y, .int z])
def sp_law_well (K : PySem.W.Frag) : Sp := fun vs H Q _ => ∃ n, vs = [.int n] ∧ ∀ a H', H a = none → Kp [] H H' → WellAt H' a → Q (.ref a) H'
def sp_law_draw (K : PySem.W.Frag) : Sp := fun vs H Q _ => ∃ (a : Addr) (m : Int), vs = [.ref a, .int m] ∧ WellAt H a ∧ 0 < m ∧ m < 1000 ∧
  ∀ H' r, Kp [a] H H' → WellAt H' a → 0 ≤ r → r < m → Q (.int r) H'
def sp_law_signs (K : PySem.W.Frag) : Sp := fun vs H Q _ => ∃ (a : Addr), vs = [.ref a] ∧ WellAt H a ∧ ∀ H' z, Kp [a] H H' → z.length ≤ 30 → A7 z → Q (.str z) H'
def sp_law (K : PySem.W.Frag) : Sp := fun vs H Q _ => ∃ (a : Addr) (ns : List Int), vs = [.ref a] ∧ SqL K H a (ns.map V.int) ∧ ns.length ≤ 63 ∧ ∀ H', Q (.bl true) H'

def t_is_name (K : PySem.W.Frag) : TS :=
 (tSeq (tIfS (tOr (tNot (tTru K (tCB (rIsiU K) (tCons (tVar 0) (tCons (tC (.ty "str")) tNil))))) (tNot (tTest (tChain rLeU rLeU (tC (.int 1)) (tCB (rLenU K) (tCons (tVar 0) tNil)) (tC (.int 8))))))
 (tRet (tC (.bl false)))
 tNext)
 (tRet (tCB (rAllU K) (tCons (tLc (iStr (tVar 0)) (gName 1) tYes (tOp (rInU K) (tVar 1) (tC (.str (PySem.Str.ofString "abcdefghijklmnopqrstuvwxyz")))) [1]) tNil))))

def t_law_well (K : PySem.W.Frag) : TS :=
 (tRet (tLst (tCons (tOp (rMulU K) (tVar 0) (tCB rIntU (tCons (tOp rGeU (tVar 0) (tOp rPowU (tC (.int 10)) (tC (.int 18)))) tNil))) (tCons (tOp rModU (tVar 0) (tC (.int 2147483647))) (tCons (tC (.int 0)) tNil)))))

def t_law_draw (K : PySem.W.Frag) : TS :=
 (tSeq (tIfS (tTest (tOp rGtU (tOp (rIxU K) (tVar 0) (tC (.int 0))) (tC (.int 0))))
 (tSeq (tAsg (tOp rModU (tOp (rIxU K) (tVar 0) (tC (.int 0))) (tVar 1)) (gName 2))
 (tSeq (tAsg (tOp rDivU (tOp (rIxU K) (tVar 0) (tC (.int 0))) (tVar 1)) (gSub (tVar 0) (tC (.int 0)) rSetU))
 (tRet (tVar 2))))
 tNext)
 (tSeq (tAsg (tOp (rAddU K) (tOp (rIxU K) (tVar 0) (tC (.int 2))) (tC (.int 1))) (gSub (tVar 0) (tC (.int 2)) rSetU))
 (tSeq (tAsg (tOp rModU (tOp (rMulU K) (tOp (rAddU K) (tOp (rAddU K) (tOp (rIxU K) (tVar 0) (tC (.int 1))) (tOp (rMulU K) (tC (.int 7919)) (tOp (rIxU K) (tVar 0) (tC (.int 2))))) (tC (.int 1))) (tC (.int 48271))) (tC (.int 2147483647))) (gName 3))
 (tSeq (tAsg (tOp rModU (tOp (rMulU K) (tVar 3) (tOp (rAddU K) (tOp rDivU (tVar 3) (tC (.int 1009))) (tC (.int 69621)))) (tC (.int 2147483647))) (gName 3))
 (tRet (tOp rModU (tOp rModU (tOp (rMulU K) (tVar 3) (tOp (rAddU K) (tOp rDivU (tVar 3) (tC (.int 2003))) (tC (.int 40692)))) (tC (.int 2147483399))) (tVar 1)))))))

def t_law_signs (K : PySem.W.Frag) : TS :=
 (tSeq (tAsg (tC (.str (PySem.Str.ofString "abcdefghijklmnopqrstuvwxyz"))) (gName 1))
 (tSeq (tAsg (tC (.str (PySem.Str.ofString " !\"#$&'()*+,-./0123456789:;<=>?@ABCDEFGHIJKLMNOPQRSTUVWXYZ[\\]^_`{|}~"))) (gName 2))
 (tSeq (tAsg (tM1 (rJoin K) (tC (.str (PySem.Str.ofString ""))) (tLc (iRng1 (tCons (tCall (sp_law_draw K) [] E0 (tCons (tVar 0) (tCons (tC (.int 11)) tNil))) tNil)) (gName 6) tYes (tOp (rIxU K) (tVar 1) (tCall (sp_law_draw K) [] E0 (tCons (tVar 0) (tCons (tC (.int 26)) tNil)))) [6])) (gName 3))
 (tSeq (tAsg (tCall (sp_law_draw K) [] E0 (tCons (tVar 0) (tCons (tOp (rAddU K) (tCB (rLenU K) (tCons (tVar 3) tNil)) (tC (.int 1))) tNil))) (gName 4))
 (tSeq (tAsg (tOp (rIxU K) (tOp (rAddU K) (tVar 2) (tVar 1)) (tCall (sp_law_draw K) [] E0 (tCons (tVar 0) (tCons (tOp (rAddU K) (tCB (rLenU K) (tCons (tVar 2) tNil)) (tC (.int 26))) tNil)))) (gName 5))
 (tRet (tOp (rIxU K) (tLst (tCons (tVar 3) (tCons (tVar 3) (tCons (tOp (rAddU K) (tOp (rAddU K) (tSl rSlSU (tVar 3) tNoPart (tPart (tVar 4))) (tVar 5)) (tSl rSlSU (tVar 3) (tPart (tVar 4)) tNoPart)) (tCons (tOp (rAddU K) (tOp (rAddU K) (tSl rSlSU (tVar 3) tNoPart (tPart (tVar 4))) (tVar 5)) (tSl rSlSU (tVar 3) (tPart (tOp (rAddU K) (tVar 4) (tC (.int 1)))) tNoPart)) tNil))))) (tCall (sp_law_draw K) [] E0 (tCons (tVar 0) (tCons (tC (.int 4)) tNil))))))))))

def t_law_due (K : PySem.W.Frag) : TS :=
 (tSeq (tIfS (tOr (tNot (tTru K (tCB (rIsiU K) (tCons (tVar 0) (tCons (tC (.ty "str")) tNil))))) (tOr (tTest (tOp rLtU (tCB (rLenU K) (tCons (tVar 0) tNil)) (tC (.int 1)))) (tTest (tOp rGtU (tCB (rLenU K) (tCons (tVar 0) tNil)) (tC (.int 8))))))
 (tRet (tC (.bl false)))
 tNext)
 (tRet (tOp (rEqU K) (tLc (iStr (tVar 0)) (gName 1) (tOr (tTest (tOp rLtU (tVar 1) (tC (.str (PySem.Str.ofString "a"))))) (tTest (tOp rGtU (tVar 1) (tC (.str (PySem.Str.ofString "z")))))) (tVar 1) [1]) (tLst tNil))))

def t_law (K : PySem.W.Frag) : TS :=
 (tSeq (tFor (iList K (tOp (rAddU K) (tSl (rSlLU K) (tVar 0) tNoPart (tPart (tC (.int 16)))) (tLst (tCons (tC (.int 0)) (tCons (tC (.int 3)) (tCons (tC (.int 8)) tNil)))))) (gName 1)
 (tSeq (tAsg (tCall (sp_law_well K) [] E0 (tCons (tVar 1) tNil)) (gName 2))
 (tSeq (tAsg (tCall (sp_law_signs K) [] E0 (tCons (tVar 2) tNil)) (gName 3))
 (tFor (iList K (tLst (tCons (tVar 3) (tCons (tLst (tCons (tVar 3) tNil)) (tCons (tTup (tCons (tVar 3) tNil)) (tCons (tC .non) (tCons (tC (.bl true)) (tCons (tC (.int 5)) (tCons (tDisp (((tVar 3), (tC (.int 1))) :: [])) (tCons (tLst tNil) (tCons (tC (.str (PySem.Str.ofString ""))) (tCons (tOp (rAddU K) (tVar 3) (tC (.str (PySem.Str.ofString "aaaaaaaa")))) (tCons (tM0 rUpper (tVar 3)) tNil))))))))))))) (gName 4)
 (tSeq (tAsg (tCall (sp_is_name K) [] E0 (tCons (tVar 4) tNil)) (gName 5))
 (tIfS (tOr (tNot (tTru K (tCB (rIsiU K) (tCons (tVar 5) (tCons (tC (.ty "bool")) tNil))))) (tOr (tTest (tOp (rNeU K) (tVar 5) (tCall (sp_law_due K) [] E0 (tCons (tVar 4) tNil)))) (tTest (tOp (rNeU K) (tCall (sp_is_name K) [] E0 (tCons (tVar 4) tNil)) (tVar 5)))))
 (tRet (tC (.bl false)))
 tNext))))))
 (tRet (tC (.bl true))))

/-! ### the readings -/
theorem len_is_name (K : PySem.W.Frag) : ∀ vs H Q E, sp_is_name K vs H Q E → vs.length = ["thing"].length := by
  rintro _ _ _ _ ⟨_, _, rfl, _⟩; rfl
theorem len_law_due (K : PySem.W.Frag) : ∀ vs H Q E, sp_law_due K vs H Q E → vs.length = ["_law_word"].length := by
  rintro _ _ _ _ ⟨_, _, rfl, _⟩; rfl
theorem len_law_well (K : PySem.W.Frag) : ∀ vs H Q E, sp_law_well K vs H Q E → vs.length = ["_law_cell"].length := by
  rintro _ _ _ _ ⟨_, rfl, _⟩; rfl
theorem len_law_draw (K : PySem.W.Frag) : ∀ vs H Q E, sp_law_draw K vs H Q E → vs.length = ["_law_well_here", "_law_many"].length := by
  rintro _ _ _ _ ⟨_, _, rfl, _⟩; rfl
theorem len_law_signs (K : PySem.W.Frag) : ∀ vs H Q E, sp_law_signs K vs H Q E → vs.length = ["_law_well_here"].length := by
  rintro _ _ _ _ ⟨_, rfl, _⟩; rfl
theorem len_law (K : PySem.W.Frag) : ∀ vs H Q E, sp_law K vs H Q E → vs.length = ["_law_script"].length := by
  rintro _ _ _ _ ⟨_, _, rfl, _⟩; rfl

theorem p_law_well (K : PySem.W.Frag) (vs : List V) (H : Hp) (Q : VK) (E : XK) (h : sp_law_well K vs H Q E) : t_law_well K { nx := fun _ H' => Q .non H', rt := Q } (start ["_law_cell"] vs) H := by
  obtain ⟨n, rfl, q⟩ := h
  walk_at "go"
  exact q _ _ (by assumption) (Kp.refl.upd_new (by assumption)) ⟨_, _, _, upd_same⟩
theorem p_law_draw (K : PySem.W.Frag) (vs : List V) (H : Hp) (Q : VK) (E : XK) (h : sp_law_draw K vs H Q E) : t_law_draw K { nx := fun _ H' => Q .non H', rt := Q } (start ["_law_well_here", "_law_many", "_law_found", "_law_number"] vs) H := by
  obtain ⟨a, m, rfl, ⟨x, y, z, ha⟩, hm0, hm1, q⟩ := h
  walk_at "go"
  · exact q _ _ (Kp.refl.upd_in (by simp)) ⟨_, _, _, upd_same⟩ (Int.emod_nonneg _ (by omega)) (Int.emod_lt_of_pos _ hm0)
  · exact q _ _ (Kp.refl.upd_in (by simp)) ⟨_, _, _, upd_same⟩ (Int.emod_nonneg _ (by omega)) (Int.emod_lt_of_pos _ hm0)
theorem one_lt (a b : Nat) : [a] < [b] ↔ a < b := by
  constructor
  · intro h
    cases h with
    | rel h => exact h
    | cons h => cases h
  · exact fun h => .rel h
theorem a7_lit {z : Str} (h : z.cps.all (· < 128) = true) : A7 z := fun c hc => by
  have := Array.all_eq_true'.mp h c (Array.mem_toList_iff.mp hc)
  exact of_decide_eq_true this
theorem a7_app {x y : Str} (hx : A7 x) (hy : A7 y) : A7 (x ++ y) := fun c hc => by
  have e : (x ++ y).cps.toList = x.cps.toList ++ y.cps.toList := by
    show (x.cps ++ y.cps).toList = _
    simp
  rw [e] at hc
  rcases List.mem_append.mp hc with h | h
  · exact hx c h
  · exact hy c h
theorem len_app {x y : Str} : (x ++ y).length = x.length + y.length := by
  show (x.cps ++ y.cps).size = _
  simp [Str.length]
theorem ix_ex {z : Str} {i : Int} (h0 : 0 ≤ i) (h1 : i < z.length) : ∃ c, atI z.cps.toList i = some c ∧ c ∈ z.cps.toList := by
  have hs := str_size z
  have hl : i.toNat < z.cps.toList.length := by
    rw [Array.length_toList]
    omega
  refine ⟨z.cps.toList[i.toNat], ?_, List.getElem_mem hl⟩
  have e : (i.toNat : Int) = i := by omega
  have h := atI_nat (List.getElem?_eq_getElem hl)
  rw [e] at h
  exact h
theorem a7_cut {z : Str} {lo hi : Option Int} (h : A7 z) : A7 (cutS z lo hi) := fun c hc => by
  refine h c ?_
  have hc : c ∈ (List.take (HT.sIx z.length z.length hi - HT.sIx z.length 0 lo) (List.drop (HT.sIx z.length 0 lo) z.cps.toList)).toArray.toList := hc
  rw [List.toList_toArray] at hc
  exact List.mem_of_mem_drop (List.mem_of_mem_take hc)
theorem dp_signs {K : PySem.W.Frag} {H : Hp} : ∀ cs : List Nat, DpAll K H (cs.map fun c => V.str ⟨#[c]⟩) (cs.map fun c => PyData.str ⟨#[c]⟩)
  | [] => .nil
  | c :: cs => .cons (.str _) (dp_signs cs)
theorem sh_signs {cs : List Nat} (h : ∀ c ∈ cs, c < 128) : Sh 1 (.list (cs.map fun c => PyData.str ⟨#[c]⟩)) := sh_lst (n := 0) fun d hd => by
  obtain ⟨c, hc, rfl⟩ := List.mem_map.mp hd
  refine sh_str fun e he => ?_
  have : e = c := by simpa using he
  rw [this]
  exact Nat.lt_trans (h c hc) (by decide)
theorem filter_none : ∀ cs : List Nat, (cs.filter fun c => !decide (97 ≤ c ∧ c ≤ 122)).isEmpty = cs.all fun c => decide (97 ≤ c ∧ c ≤ 122)
  | [] => rfl
  | c :: cs => by
    rw [List.filter_cons, List.all_cons]
    by_cases h : 97 ≤ c ∧ c ≤ 122
    · rw [decide_eq_true h, if_neg (by decide), filter_none cs]
      rfl
    · rw [decide_eq_false h, if_pos (by rfl)]
      rfl
theorem letters (c : Nat) : c ∈ (PySem.Str.ofString "abcdefghijklmnopqrstuvwxyz").cps.toList ↔ 97 ≤ c ∧ c ≤ 122 := by
  have e : (PySem.Str.ofString "abcdefghijklmnopqrstuvwxyz").cps.toList = (List.range 26).map (· + 97) := by decide +kernel
  rw [e]
  simp only [List.mem_map, List.mem_range]
  constructor
  · rintro ⟨a, h, rfl⟩
    omega
  · intro h
    exact ⟨c - 97, by omega, by omega⟩
theorem p_is_name (K : PySem.W.Frag) (vs : List V) (H : Hp) (Q : VK) (E : XK) (h : sp_is_name K vs H Q E) : t_is_name K { nx := fun _ H' => Q .non H', rt := Q } (start ["thing", "sign"] vs) H := by
  obtain ⟨x, b, rfl, hx, q⟩ := h
  rcases hx with ⟨z, rfl, hz, ha7, rfl⟩ | ⟨t, ht, hk, rfl⟩
  · walk_at "go"
    · have e : isNm z = false := by
        unfold isNm
        rw [decide_eq_false (by omega)]
        rfl
      rw [e] at q
      exact q _ Kp.refl
    · rename_i h1 h2 p np
      refine lc_acc walk_str (fun i acc H' => Kp [] H H' ∧ acc = ((z.cps.toList.take i).map fun c => decide (97 ≤ c ∧ c ≤ 122)).map V.bl) ⟨Kp.refl.upd_new np, rfl⟩ (fun _ _ _ _ _ => trivial) (fun i x acc H1 H2 hi hl hD hP hY => ?_) (fun acc H1 hl hD hP => ?_)
      · obtain ⟨hk, rfl⟩ := hP
        obtain ⟨rfl, c, hc, rfl⟩ := hY
        refine ⟨rfl, ?_⟩
        walk_at "go"
        refine acc_go hl (by have := str_size z; omega) hD ⟨hk.upd_new np, ?_⟩
        have hc' : z.cps.toList[i]? = some c := by rw [Array.getElem?_toList]; exact hc
        rw [List.take_add_one, hc', List.map_append, List.map_append]
        show _ = _ ++ [V.bl (decide (97 ≤ c ∧ c ≤ 122))]
        congr 3
        simp only [decide_eq_decide]
        exact letters c
      · obtain ⟨hk, rfl⟩ := hP
        have e : (z.cps.toList.take z.cps.size) = z.cps.toList := List.take_of_length_le (by simp)
        rw [e] at hD
        refine all_go (SqL.of hD) ?_
        have e2 : isNm z = (List.map (fun c => decide (97 ≤ c ∧ c ≤ 122)) z.cps.toList).all id := by
          unfold isNm
          rw [decide_eq_true (by omega), List.all_map]
          rfl
        rw [← e2]
        exact q _ hk
    · have e : isNm z = false := by
        unfold isNm
        rw [decide_eq_false (by omega)]
        rfl
      rw [e] at q
      exact q _ Kp.refl
  · walk_at "go"
    refine isi_go ht hk ?_
    walk_at "go"
    exact q _ Kp.refl

theorem p_law_due (K : PySem.W.Frag) (vs : List V) (H : Hp) (Q : VK) (E : XK) (h : sp_law_due K vs H Q E) : t_law_due K { nx := fun _ H' => Q .non H', rt := Q } (start ["_law_word", "_law_sign"] vs) H := by
  obtain ⟨x, b, rfl, hx, q⟩ := h
  rcases hx with ⟨z, rfl, hz, ha7, rfl⟩ | ⟨t, ht, hk, rfl⟩
  · walk_at "go"
    · have e : isNm z = false := by
        unfold isNm
        rw [decide_eq_false (by omega)]
        rfl
      rw [e] at q
      exact q _ Kp.refl
    · have e : isNm z = false := by
        unfold isNm
        rw [decide_eq_false (by omega)]
        rfl
      rw [e] at q
      exact q _ Kp.refl
    · rename_i h1 h2 p np
      refine lc_acc walk_str (fun i acc H' => Kp [] H H' ∧ acc = ((z.cps.toList.take i).filter fun c => !decide (97 ≤ c ∧ c ≤ 122)).map fun c => V.str ⟨#[c]⟩) ⟨Kp.refl.upd_new np, rfl⟩ (fun _ _ _ _ _ => trivial) (fun i x acc H1 H2 hi hl hD hP hY => ?_) (fun acc H1 hl hD hP => ?_)
      · obtain ⟨hk, rfl⟩ := hP
        obtain ⟨rfl, c, hc, rfl⟩ := hY
        have hz3 := str_size z
        refine ⟨rfl, ?_⟩
        have hc' : z.cps.toList[i]? = some c := by rw [Array.getElem?_toList]; exact hc
        have lt : (Str.mk #[c]).cps.toList < (PySem.Str.ofString "a").cps.toList ↔ c < 97 := by
          rw [show (PySem.Str.ofString "a").cps.toList = [97] by decide +kernel]
          exact one_lt c 97
        have gt : (PySem.Str.ofString "z").cps.toList < (Str.mk #[c]).cps.toList ↔ 122 < c := by
          rw [show (PySem.Str.ofString "z").cps.toList = [122] by decide +kernel]
          exact one_lt 122 c
        have bad : (c < 97 ∨ 122 < c) → (fun acc : List V => acc = ((z.cps.toList.take (i + 1)).filter fun c => !decide (97 ≤ c ∧ c ≤ 122)).map fun c => V.str ⟨#[c]⟩) ((((z.cps.toList.take i).filter fun c => !decide (97 ≤ c ∧ c ≤ 122)).map fun c => V.str ⟨#[c]⟩) ++ [V.str ⟨#[c]⟩]) := fun h => by
          show _ = _
          rw [List.take_add_one, hc', List.filter_append, List.map_append]
          congr 1
          show _ = List.map _ (List.filter _ [c])
          rw [List.filter_cons, if_pos (by rw [decide_eq_false (by omega)]; rfl)]
          rfl
        walk_at "go"
        · rename_i b1
          exact acc_go hl (by omega) hD ⟨hk.upd_new np, bad (.inl (lt.mp b1))⟩
        · rename_i b1 b2
          exact acc_go hl (by omega) hD ⟨hk.upd_new np, bad (.inr (gt.mp b2))⟩
        · rename_i b1 b2
          have b1 : ¬ c < 97 := fun z => b1 (lt.mpr z)
          have b2 : ¬ 122 < c := fun z => b2 (gt.mpr z)
          refine acc_skip hl hD ⟨hk, ?_⟩
          rw [List.take_add_one, hc', List.filter_append, List.map_append]
          show _ = _ ++ List.map _ (List.filter _ [c])
          rw [List.filter_cons, if_neg (by rw [decide_eq_true (by omega)]; decide)]
          exact (List.append_nil _).symm
      · obtain ⟨hk, rfl⟩ := hP
        have e : (z.cps.toList.take z.cps.size) = z.cps.toList := List.take_of_length_le (by simp)
        rw [e] at hD
        walk_at "go"
        rename_i p2 np2
        refine eqD_go (.lst (SqL.of ((upd_ne (ne_of_none hD np2)).trans hD)) (dp_signs _)) (.lst (SqL.of upd_same) .nil) (Sh.ok (sh_signs fun c hc => ha7 c ((List.mem_filter.mp hc).1)) (by decide)) (Sh.ok sh_nil (by decide : (0 + 1) ≤ 64)) ?_
        rw [eqv_lnil]
        have e2 : (List.map (fun c => PyData.str ⟨#[c]⟩) (z.cps.toList.filter fun c => !decide (97 ≤ c ∧ c ≤ 122))).isEmpty = isNm z := by
          unfold isNm
          rw [decide_eq_true (by omega), List.isEmpty_map, Bool.true_and]
          exact filter_none _
        rw [e2]
        exact q _ (hk.upd_new' np2)
  · walk_at "go"
    refine isi_go ht hk ?_
    walk_at "go"
    exact q _ Kp.refl
theorem WellAt.new {H : Hp} {a p : Addr} {o : HO} (w : WellAt H a) (h : H p = none) : WellAt (upd H p o) a := by
  obtain ⟨x, y, z, e⟩ := w
  exact ⟨x, y, z, by rw [upd_ne (ne_of_none e h)]; exact e⟩
theorem WellAt.ne {H : Hp} {a p : Addr} (w : WellAt H a) (h : H p = none) : p ≠ a := by
  obtain ⟨x, y, z, e⟩ := w
  exact (ne_of_none e h).symm
theorem WellAt.upd {H : Hp} {a p : Addr} {o : HO} (w : WellAt H a) (h : p ≠ a) : WellAt (upd H p o) a := by
  obtain ⟨x, y, z, e⟩ := w
  exact ⟨x, y, z, by rw [upd_ne h.symm]; exact e⟩
theorem len_letters : (PySem.Str.ofString "abcdefghijklmnopqrstuvwxyz").length = 26 := by decide +kernel
theorem a7_letters : A7 (PySem.Str.ofString "abcdefghijklmnopqrstuvwxyz") := a7_lit (by decide +kernel)
theorem a7_one {c : Nat} (h : c < 128) : A7 ⟨#[c]⟩ := fun d hd => by
  have e : d = c := by simpa using hd
  rw [e]
  exact h
theorem one_len {c : Nat} : (Str.mk #[c]).length = 1 := rfl
theorem join_one : ∀ ys : List Str, (∀ y ∈ ys, y.length = 1 ∧ A7 y) → (TL.joinL [] (ys.map TL.tl)).length = ys.length ∧ ∀ c ∈ TL.joinL [] (ys.map TL.tl), c < 128
  | [], _ => ⟨rfl, fun c h => nomatch h⟩
  | [y], h => by
    obtain ⟨a, b⟩ := h y (by simp)
    refine ⟨?_, fun c hc => b c hc⟩
    show y.cps.toList.length = 1
    rw [Array.length_toList]
    exact a
  | y :: z :: r, h => by
    obtain ⟨a, b⟩ := h y (by simp)
    obtain ⟨c, d⟩ := join_one (z :: r) fun x hx => h x (List.mem_cons_of_mem _ hx)
    refine ⟨?_, fun e he => ?_⟩
    · show (TL.tl y ++ ([] ++ TL.joinL [] ((z :: r).map TL.tl))).length = _
      rw [List.nil_append, List.length_append, c]
      show y.cps.toList.length + _ = _
      rw [Array.length_toList]
      have : y.cps.size = 1 := a
      rw [this, List.length_cons (a := y)]
      omega
    · have he : e ∈ TL.tl y ++ ([] ++ TL.joinL [] ((z :: r).map TL.tl)) := he
      rw [List.nil_append] at he
      rcases List.mem_append.mp he with he | he
      · exact b e he
      · exact d e he
theorem joined {ys : List Str} (h : ∀ y ∈ ys, y.length = 1 ∧ A7 y) : (Txt.join (PySem.Str.ofString "") ys).length = ys.length ∧ A7 (Txt.join (PySem.Str.ofString "") ys) := by
  have e : TL.tl (Txt.join (PySem.Str.ofString "") ys) = TL.joinL [] (ys.map TL.tl) := by
    rw [TL.join_eq, TL.tl_join]
    rfl
  obtain ⟨a, b⟩ := join_one ys h
  refine ⟨?_, fun c hc => b c (e ▸ hc)⟩
  show (Txt.join (PySem.Str.ofString "") ys).cps.size = _
  rw [← Array.length_toList]
  show (TL.tl _).length = _
  rw [e]
  exact a
theorem sum_ones : ∀ ys : List Str, (∀ y ∈ ys, y.length = 1 ∧ A7 y) → (ys.map (·.length)).sum = ys.length
  | [], _ => rfl
  | y :: ys, h => by
    rw [List.map_cons, List.sum_cons, sum_ones ys fun x hx => h x (List.mem_cons_of_mem _ hx), (h y (by simp)).1, List.length_cons]
    omega
theorem p_law_signs (K : PySem.W.Frag) (vs : List V) (H : Hp) (Q : VK) (E : XK) (h : sp_law_signs K vs H Q E) : t_law_signs K { nx := fun _ H' => Q .non H', rt := Q } (start ["_law_well_here", "_law_letters", "_law_some", "_law_found", "_law_at", "_law_sign", "_law_k"] vs) H := by
  obtain ⟨a, rfl, hw, q⟩ := h
  walk_at "go"
  intro H1 r k1 w1 r0 r1
  walk_at "go"
  rename_i D nD
  have hDa := w1.ne nD
  refine lc_acc walk_range (fun i acc H' => WellAt H' a ∧ Kp [a] H H' ∧ ∃ ys : List Str, acc = ys.map V.str ∧ ys.length = i ∧ ∀ y ∈ ys, y.length = 1 ∧ A7 y) ⟨w1.new nD, k1.upd_new' nD, [], rfl, rfl, fun y h => nomatch h⟩ (fun _ _ _ _ _ => trivial) (fun i x acc H1 H2 hi hl hD hP hY => ?_) (fun acc H1 hl hD hP => ?_)
  · obtain ⟨w2, k2, ys, rfl, hy1, hy2⟩ := hP
    obtain ⟨rfl, rfl⟩ := hY
    refine ⟨rfl, ?_⟩
    walk_at "go"
    intro H3 r k3 w3 r0 r1
    obtain ⟨c, hc, hm⟩ := ix_ex (z := PySem.Str.ofString "abcdefghijklmnopqrstuvwxyz") r0 (by rw [len_letters]; omega)
    refine ixS_go (by rw [len_letters]; omega) hc ?_
    have nD0 := k2.none_of (p := D) (by simpa using hDa)
    refine acc_go hl (by omega) (by walk_at "h") ⟨w3.upd hDa, ?_, ys ++ [⟨#[c]⟩], by simp, by simp [hy1], ?_⟩
    · exact (k2.trans k3).upd_new (k1.none_of (by simpa using hDa) nD)
    · intro y hy
      rcases List.mem_append.mp hy with hy | hy
      · exact hy2 y hy
      · have e : y = ⟨#[c]⟩ := by simpa using hy
        rw [e]
        exact ⟨one_len, a7_one (a7_letters c hm)⟩
  · obtain ⟨w2, k2, ys, rfl, hy1, hy2⟩ := hP
    obtain ⟨j1, j2⟩ := joined hy2
    refine ⟨_, _, ys, rfl, rfl, .inl (SqL.of hD), ?_, ?_⟩
    · rw [sum_ones ys hy2]
      show ys.length + ys.length * 0 ≤ 16777216
      omega
    generalize Txt.join (PySem.Str.ofString "") ys = z at j1 j2
    walk_at "go"
    intro H2 at_ k3 w3 a0 a1
    walk_at "go"
    intro H3 r k4 w4 r0 r1
    have hsome : (PySem.Str.ofString " !\"#$&'()*+,-./0123456789:;<=>?@ABCDEFGHIJKLMNOPQRSTUVWXYZ[\\]^_`{|}~").length = 68 := by decide +kernel
    obtain ⟨c, hc, hm⟩ := ix_ex (z := PySem.Str.ofString " !\"#$&'()*+,-./0123456789:;<=>?@ABCDEFGHIJKLMNOPQRSTUVWXYZ[\\]^_`{|}~" ++ PySem.Str.ofString "abcdefghijklmnopqrstuvwxyz") r0 (by rw [len_app, len_letters, hsome]; rw [hsome] at r1; omega)
    have hc7 : c < 128 := a7_app (a7_lit (by decide +kernel)) a7_letters c hm
    refine ixS_go (by rw [len_app, len_letters, hsome]; omega) hc ?_
    have z1 : z.length ≤ 10 := by omega
    have lc : ∀ lo hi, (cutS z lo hi).length ≤ 10 := fun lo hi => Nat.le_trans (cutS_length z lo hi) z1
    have b1 : ∀ (x y : Option Int), (cutS z x y).length + (Str.mk #[c]).length ≤ 11 := fun x y => by
      rw [one_len]
      have := lc x y
      omega
    have b2 : ∀ (x y : Option Int) (u v : Option Int), (cutS z x y ++ ⟨#[c]⟩).length + (cutS z u v).length ≤ 21 := fun x y u v => by
      rw [len_app]
      have := b1 x y
      have := lc u v
      omega
    have e1 : ∀ (x y : Option Int) (u v : Option Int), (cutS z x y ++ ⟨#[c]⟩ ++ cutS z u v).length ≤ 21 := fun x y u v => by
      rw [len_app]
      exact b2 x y u v
    have e2 : ∀ (x y : Option Int) (u v : Option Int), A7 (cutS z x y ++ ⟨#[c]⟩ ++ cutS z u v) := fun x y u v => a7_app (a7_app (a7_cut j2) (a7_one hc7)) (a7_cut j2)
    have kk : Kp [a] H H3 := ((k2.trans k3).trans k4)
    walk_at "go"
    refine addS_go (Nat.le_trans (b1 _ _) (by decide)) ?_
    walk_at "go"
    refine addS_go (Nat.le_trans (b2 _ _ _ _) (by decide)) ?_
    walk_at "go"
    refine addS_go (Nat.le_trans (b1 _ _) (by decide)) ?_
    walk_at "go"
    refine addS_go (Nat.le_trans (b2 _ _ _ _) (by decide)) ?_
    walk_at "go"
    rename_i L nL
    refine ⟨w4.new nL, by decide, by decide, fun H5 r k5 w5 r0 r1 => ?_⟩
    have hLa := w4.ne nL
    have e5 := k5 _ _ (by simpa using hLa) upd_same
    have kf : Kp [a] H H5 := (kk.upd_new' nL).trans k5
    rcases (by omega : r = 0 ∨ r = 1 ∨ r = 2 ∨ r = 3) with e | e | e | e <;> subst e
    · exact ixL_go (SqL.of e5) rfl (q _ _ kf (by omega) j2)
    · exact ixL_go (SqL.of e5) rfl (q _ _ kf (by omega) j2)
    · exact ixL_go (SqL.of e5) rfl (q _ _ kf (Nat.le_trans (e1 _ _ _ _) (by decide)) (e2 _ _ _ _))
    · exact ixL_go (SqL.of e5) rfl (q _ _ kf (Nat.le_trans (e1 _ _ _ _) (by decide)) (e2 _ _ _ _))
theorem a7_up {z : Str} (h : A7 z) : A7 (Txt.upper z) := by
  rw [PyProof.Rows.upper_ascii h]
  intro c hc
  have hc : c ∈ (z.cps.map PyProof.Rows.up1).toList := hc
  rw [Array.toList_map] at hc
  obtain ⟨d, hd, rfl⟩ := List.mem_map.mp hc
  exact (by decide +kernel : ∀ d, d < 128 → PyProof.Rows.up1 d < 128) d (h d hd)
theorem p_law (K : PySem.W.Frag) (vs : List V) (H : Hp) (Q : VK) (E : XK) (h : sp_law K vs H Q E) : t_law K { nx := fun _ H' => Q .non H', rt := Q } (start ["_law_script", "_law_cell", "_law_well_here", "_law_word", "_law_some", "_law_found"] vs) H := by
  obtain ⟨a, ns, rfl, hS, hn, q⟩ := h
  walk_at "go"
  rename_i p1 n1 p2 n2
  rw [cutV_map] at *
  have hl := cutI_len ns none (some 16)
  refine addL_go (xs := (cutI ns none (some 16)).map V.int) (ys := [V.int 0, V.int 3, V.int 8]) ((upd_ne (ne_of_none upd_same n2)).trans upd_same) upd_same (by rw [List.length_map]; show _ + 3 ≤ _; omega) ?_
  intro L nL
  have hi : (cutI ns none (some 16)).map V.int ++ [V.int 0, V.int 3, V.int 8] = (cutI ns none (some 16) ++ [0, 3, 8]).map V.int := by rw [List.map_append]; rfl
  rw [hi]
  generalize cutI ns none (some 16) ++ [0, 3, 8] = is
  generalize hH : upd (upd H p1 _) p2 _ = H0 at nL
  refine ⟨L, rfl, ⟨_, SqL.of upd_same⟩, for_it walk_list (fun i σ H' => (∃ u v w x y, σ = [some (.ref a), u, v, w, x, y]) ∧ H' L = some (.lst (is.map V.int))) ⟨⟨_, _, _, _, _, rfl⟩, upd_same⟩ (fun i σ H' _ h => SqL.of h.2) ?_ (fun σ H' h => ?_)⟩
  · rintro i x σ H1 H2 hi ⟨⟨u, v, w, x', y, rfl⟩, hL⟩ ⟨rfl, hx⟩
    obtain ⟨n, _, rfl⟩ : ∃ n, n ∈ is ∧ V.int n = x := by
      have := List.mem_of_getElem? hx
      exact List.mem_map.mp this
    walk_at "go"
    intro W HA nW kA wA
    walk_at "go"
    intro HB z kB lz a7
    have h8 : (PySem.Str.ofString "aaaaaaaa").length = 8 := by decide +kernel
    walk_at "go"
    refine ⟨upd_same, [(Sum.inr z, V.int 1)], rfl, (by show 1 ≤ 15; decide), ?_⟩
    walk_at "go"
    rename_i q4 m4 q3 m3 q2 m2 q1 m1 q0 m0
    refine ⟨⟨_, SqL.of upd_same⟩, ?_⟩
    have f4 : (upd (upd (upd (upd (upd (upd HB q4 (HO.lst [V.str z])) q3 (HO.tup [V.str z])) q2 (HO.dK [])) q2 (HO.dK (mergeK [] [(Sum.inr z, V.int 1)]))) q1 (HO.lst [])) q0 (HO.lst [V.str z, V.ref q4, V.ref q3, V.non, V.bl true, V.int 5, V.ref q2, V.ref q1, V.str (PySem.Str.ofString ""), V.str (z ++ PySem.Str.ofString "aaaaaaaa"), V.str (Txt.upper z)])) q4 = some (.lst [V.str z]) := by walk_at "h"
    have f3 : (upd (upd (upd (upd (upd (upd HB q4 (HO.lst [V.str z])) q3 (HO.tup [V.str z])) q2 (HO.dK [])) q2 (HO.dK (mergeK [] [(Sum.inr z, V.int 1)]))) q1 (HO.lst [])) q0 (HO.lst [V.str z, V.ref q4, V.ref q3, V.non, V.bl true, V.int 5, V.ref q2, V.ref q1, V.str (PySem.Str.ofString ""), V.str (z ++ PySem.Str.ofString "aaaaaaaa"), V.str (Txt.upper z)])) q3 = some (.tup [V.str z]) := by walk_at "h"
    have f2 : (upd (upd (upd (upd (upd (upd HB q4 (HO.lst [V.str z])) q3 (HO.tup [V.str z])) q2 (HO.dK [])) q2 (HO.dK (mergeK [] [(Sum.inr z, V.int 1)]))) q1 (HO.lst [])) q0 (HO.lst [V.str z, V.ref q4, V.ref q3, V.non, V.bl true, V.int 5, V.ref q2, V.ref q1, V.str (PySem.Str.ofString ""), V.str (z ++ PySem.Str.ofString "aaaaaaaa"), V.str (Txt.upper z)])) q2 = some (.dK (mergeK [] [(Sum.inr z, V.int 1)])) := by walk_at "h"
    have f1 : (upd (upd (upd (upd (upd (upd HB q4 (HO.lst [V.str z])) q3 (HO.tup [V.str z])) q2 (HO.dK [])) q2 (HO.dK (mergeK [] [(Sum.inr z, V.int 1)]))) q1 (HO.lst [])) q0 (HO.lst [V.str z, V.ref q4, V.ref q3, V.non, V.bl true, V.int 5, V.ref q2, V.ref q1, V.str (PySem.Str.ofString ""), V.str (z ++ PySem.Str.ofString "aaaaaaaa"), V.str (Txt.upper z)])) q1 = some (.lst []) := by walk_at "h"
    have fL : (upd (upd (upd (upd (upd (upd HB q4 (HO.lst [V.str z])) q3 (HO.tup [V.str z])) q2 (HO.dK [])) q2 (HO.dK (mergeK [] [(Sum.inr z, V.int 1)]))) q1 (HO.lst [])) q0 (HO.lst [V.str z, V.ref q4, V.ref q3, V.non, V.bl true, V.int 5, V.ref q2, V.ref q1, V.str (PySem.Str.ofString ""), V.str (z ++ PySem.Str.ofString "aaaaaaaa"), V.str (Txt.upper z)])) L = some (.lst (is.map V.int)) := by
      have hLW : L ≠ W := (ne_of_none hL nW)
      have e : HB L = some (.lst (is.map V.int)) := kB _ _ (by simpa using hLW) (kA _ _ (by simp) hL)
      walk_at "h"
    have f0 := @upd_same (upd (upd (upd (upd (upd HB q4 (HO.lst [V.str z])) q3 (HO.tup [V.str z])) q2 (HO.dK [])) q2 (HO.dK (mergeK [] [(Sum.inr z, V.int 1)]))) q1 (HO.lst [])) q0 (HO.lst [V.str z, V.ref q4, V.ref q3, V.non, V.bl true, V.int 5, V.ref q2, V.ref q1, V.str (PySem.Str.ofString ""), V.str (z ++ PySem.Str.ofString "aaaaaaaa"), V.str (Txt.upper z)])
    generalize upd (upd (upd (upd (upd (upd HB q4 (HO.lst [V.str z])) q3 (HO.tup [V.str z])) q2 (HO.dK [])) q2 (HO.dK (mergeK [] [(Sum.inr z, V.int 1)]))) q1 (HO.lst [])) q0 (HO.lst [V.str z, V.ref q4, V.ref q3, V.non, V.bl true, V.int 5, V.ref q2, V.ref q1, V.str (PySem.Str.ofString ""), V.str (z ++ PySem.Str.ofString "aaaaaaaa"), V.str (Txt.upper z)]) = HF at f4 f3 f2 f1 fL f0
    have hu : (Txt.upper z).length ≤ 16777216 := by
      have := PyProof.Rows.len_upper z
      omega
    have hna : ∀ x ∈ [V.str z, V.ref q4, V.ref q3, V.non, V.bl true, V.int 5, V.ref q2, V.ref q1, V.str (PySem.Str.ofString ""), V.str (z ++ PySem.Str.ofString "aaaaaaaa"), V.str (Txt.upper z)], ∃ b, NA K HF x b := by
      intro x hx
      simp only [List.mem_cons, List.not_mem_nil, or_false] at hx
      rcases hx with rfl | rfl | rfl | rfl | rfl | rfl | rfl | rfl | rfl | rfl | rfl
      · exact ⟨_, .inl ⟨_, rfl, by omega, a7, rfl⟩⟩
      · exact ⟨_, .inr ⟨"list", .base (.lst f4), by decide +kernel, rfl⟩⟩
      · exact ⟨_, .inr ⟨"tuple", .base (.tup f3), by decide +kernel, rfl⟩⟩
      · exact ⟨_, .inr ⟨"NoneType", .base .non, by decide +kernel, rfl⟩⟩
      · exact ⟨_, .inr ⟨"bool", .base (.bl _), by decide +kernel, rfl⟩⟩
      · exact ⟨_, .inr ⟨"int", .base (.int _), by decide +kernel, rfl⟩⟩
      · exact ⟨_, .inr ⟨"dict", .base (.dK f2), by decide +kernel, rfl⟩⟩
      · exact ⟨_, .inr ⟨"list", .base (.lst f1), by decide +kernel, rfl⟩⟩
      · exact ⟨_, .inl ⟨_, rfl, by decide +kernel, a7_lit (by decide +kernel), rfl⟩⟩
      · exact ⟨_, .inl ⟨_, rfl, by rw [len_app]; omega, a7_app a7 (a7_lit (by decide +kernel)), rfl⟩⟩
      · exact ⟨_, .inl ⟨_, rfl, hu, a7_up a7, rfl⟩⟩
    generalize [V.str z, V.ref q4, V.ref q3, V.non, V.bl true, V.int 5, V.ref q2, V.ref q1, V.str (PySem.Str.ofString ""), V.str (z ++ PySem.Str.ofString "aaaaaaaa"), V.str (Txt.upper z)] = its at hna f0
    refine for_it (walk_list (xs := its)) (fun i σ H' => (∃ x y, σ = [some (.ref a), some (.int n), some (.ref W), some (.str z), x, y]) ∧ Kp [] HF H') ⟨⟨_, _, rfl⟩, Kp.refl⟩ (fun i σ H' _ h => SqL.of (h.2 _ _ (by simp) f0)) ?_ (fun σ H' h => ?_)
    · rintro i x σ H1 H2' hi ⟨⟨x', y, rfl⟩, hk⟩ ⟨rfl, hx⟩
      obtain ⟨b, hb⟩ := hna x (List.mem_of_getElem? hx)
      have nas : ∀ H', Kp [] HF H' → NA K H' x b := fun H' k => by
        rcases hb with h | ⟨t, h1, h2, h3⟩
        · exact .inl h
        · exact .inr ⟨t, tyX_same k.same h1, h2, h3⟩
      refine ⟨_, rfl, x, b, rfl, nas _ hk, fun H3 k3 => ?_⟩
      walk_at "go"
      refine ⟨x, b, rfl, nas _ (hk.trans k3), fun H4 k4 => ?_⟩
      refine neB_go ?_
      rw [decide_eq_true rfl]
      walk_at "go"
      refine ⟨x, b, rfl, nas _ ((hk.trans k3).trans k4), fun H5 k5 => ?_⟩
      walk_at "go"
      · rename_i z
        exact absurd rfl z
      · exact ⟨⟨_, _, rfl⟩, ((hk.trans k3).trans k4).trans k5⟩
    · obtain ⟨⟨_, _, rfl⟩, k⟩ := h
      exact ⟨⟨_, _, _, _, _, rfl⟩, k _ _ (by simp) fL⟩
  · walk_at "go"
    exact q _
theorem law_end (K : PySem.W.Frag) (H : Hp) (a : Addr) (ns : List Int) (hl : ns.length ≤ 63) (hb : ∀ z ∈ ns, Builtin.Int.intBits z ≤ 1048576) (hS : SqL K H a (ns.map V.int)) : sp_law K [.ref a] H (fun v _ => v = .bl true) fun _ _ _ => False :=
  ⟨a, ns, rfl, hS, hl, fun _ => rfl⟩
end K01

namespace K01
open PySem PySem.Spec PyProof.Rows L2 Kb
def topS (i : Nat) : Stmt := PySem.Challenge.pw_thingwires_k01_names_apart.main.body.getD i (.Pass ⟨0, 0, 0, 0⟩)
abbrev s_is_name : Stmt := topS 3
abbrev s_law_well : Stmt := topS 5
abbrev s_law_draw : Stmt := topS 6
abbrev s_law_signs : Stmt := topS 7
abbrev s_law_due : Stmt := topS 8
abbrev s_law : Stmt := topS 9
structure Txt (K : PySem.W.Frag) (mg : Str → Option Value) : Prop where
  m_all : mg "all" = none
  m_bool : mg "bool" = none
  m_int : mg "int" = none
  m_isinstance : mg "isinstance" = none
  m_len : mg "len" = none
  m_range : mg "range" = none
  m_str : mg "str" = none
  c_LETTERS : ∃ t, mg "LETTERS" = some (.str (PySem.Str.ofString "abcdefghijklmnopqrstuvwxyz") t)
  c_MOST_SIGNS : ∃ t, mg "MOST_SIGNS" = some (.int 8 t)
  d_is_name : Def K mg s_is_name "is_name"
  d_law_well : Def K mg s_law_well "_law_well"
  d_law_draw : Def K mg s_law_draw "_law_draw"
  d_law_signs : Def K mg s_law_signs "_law_signs"
  d_law_due : Def K mg s_law_due "_law_due"
  d_law : Def K mg s_law "law"
theorem sc_is_name : FnScope ["thing", "sign"] ["thing"] (defScope s_is_name) := ⟨rfl, rfl, rfl, by decide +kernel, rfl, by decide +kernel, by decide +kernel⟩
theorem ok_is_name {P : Program} {w : World} {K : PySem.W.Frag} {mg : Str → Option Value} {base : Heap} (T : Txt K mg) : Cal P w K mg base CX0 1 "is_name" ["thing"] (sp_is_name K) := by
  refine Cal.of (st := s_is_name) T.d_is_name sc_is_name (fun _ _ _ _ _ _ us hl => match us, hl with | [_], _ => rfl) (len_is_name K) fun f cdv A outer s H vs Q E hr h => ⟨t_is_name K, ?_, p_is_name K vs H Q E h⟩
  exact (pss_cons (ps_if (PW.pt (pw_or (pt_not (pt_truth (pe_callB u_isi (by rfl) T.m_isinstance (by decide +kernel) (pa_cons (pv 0) (pa_cons (pe_bltn (v := .ty "str") (by rfl) T.m_str (by decide +kernel) rfl) pa_nil))) (by intro _; rfl))) (pw_or1 (pt_not (pt_chain u_le u_le pe_int (pe_callB u_len (by rfl) T.m_len PySem.boot_len (pa_cons (pv 0) pa_nil)) (pe_gint (by rfl) T.c_MOST_SIGNS))))))
 (pss_one (ps_ret pe_bl))
 pss_nil)
 (pss_one (ps_ret (pe_callB (u_all rfl) (by rfl) T.m_all (by decide +kernel) (pa_cons (pe_lc (own := [("sign", 1)]) (g := (gName 1)) (tt := tYes) rfl sc_is_name.nd (pi_str (pv 0)) (blkOk_by (N := ["thing", "sign"]) (sc := (defScope s_is_name)) (own := [("sign", 1)]) (by decide +kernel)) (fun _ _ _ _ _ => (pg_name (i := 1) sc_is_name.nd rfl (by first | exact Or.inl rfl | exact Or.inr rfl))) (fun _ _ _ _ _ => pts_nil) (fun _ _ _ _ _ => (pe_cmpR u_in (pv 1) (pe_gstr (by rfl) T.c_LETTERS) (by rfl)))) pa_nil)))))

theorem sc_law_well : FnScope ["_law_cell"] ["_law_cell"] (defScope s_law_well) := ⟨rfl, rfl, rfl, by decide +kernel, rfl, by decide +kernel, by decide +kernel⟩
theorem ok_law_well {P : Program} {w : World} {K : PySem.W.Frag} {mg : Str → Option Value} {base : Heap} (T : Txt K mg) : Cal P w K mg base CX0 1 "_law_well" ["_law_cell"] (sp_law_well K) := by
  refine Cal.of (st := s_law_well) T.d_law_well sc_law_well (fun _ _ _ _ _ _ us hl => match us, hl with | [_], _ => rfl) (len_law_well K) fun f cdv A outer s H vs Q E hr h => ⟨t_law_well K, ?_, p_law_well K vs H Q E h⟩
  exact (pss_one (ps_ret (pe_lst (pa_cons (pe_op u_mul (pv 0) (pe_callTy u_int (by rfl) T.m_int (by decide +kernel) (pa_cons (pe_cmpR u_ge (pv 0) (pe_op u_pow pe_int pe_int) (nomark _)) pa_nil))) (pa_cons (pe_op u_mod (pv 0) pe_int) (pa_cons pe_int pa_nil))))))

theorem sc_law_draw : FnScope ["_law_well_here", "_law_many", "_law_found", "_law_number"] ["_law_well_here", "_law_many"] (defScope s_law_draw) := ⟨rfl, rfl, rfl, by decide +kernel, rfl, by decide +kernel, by decide +kernel⟩
theorem ok_law_draw {P : Program} {w : World} {K : PySem.W.Frag} {mg : Str → Option Value} {base : Heap} (T : Txt K mg) : Cal P w K mg base CX0 1 "_law_draw" ["_law_well_here", "_law_many"] (sp_law_draw K) := by
  refine Cal.of (st := s_law_draw) T.d_law_draw sc_law_draw (fun _ _ _ _ _ _ us hl => match us, hl with | [_, _], _ => rfl) (len_law_draw K) fun f cdv A outer s H vs Q E hr h => ⟨t_law_draw K, ?_, p_law_draw K vs H Q E h⟩
  exact (pss_cons (ps_if (pt_cmpR u_gt (pe_ix u_ix (pv 0) pe_int (fun _ _ => rfl)) pe_int (nomark _))
 (pss_cons (ps_set (i := 2) sc_law_draw.nd rfl (by first | exact Or.inl rfl | exact Or.inr rfl) (pe_op u_mod (pe_ix u_ix (pv 0) pe_int (fun _ _ => rfl)) (pv 1)))
 (pss_cons (ps_asg (pe_op u_div (pe_ix u_ix (pv 0) pe_int (fun _ _ => rfl)) (pv 1)) (pg_sub (pv 0) pe_int u_set))
 (pss_one (ps_ret (pv 2)))))
 pss_nil)
 (pss_cons (ps_asg (pe_op u_add (pe_ix u_ix (pv 0) pe_int (fun _ _ => rfl)) pe_int) (pg_sub (pv 0) pe_int u_set))
 (pss_cons (ps_set (i := 3) sc_law_draw.nd rfl (by first | exact Or.inl rfl | exact Or.inr rfl) (pe_op u_mod (pe_op u_mul (pe_op u_add (pe_op u_add (pe_ix u_ix (pv 0) pe_int (fun _ _ => rfl)) (pe_op u_mul pe_int (pe_ix u_ix (pv 0) pe_int (fun _ _ => rfl)))) pe_int) pe_int) pe_int))
 (pss_cons (ps_set (i := 3) sc_law_draw.nd rfl (by first | exact Or.inl rfl | exact Or.inr rfl) (pe_op u_mod (pe_op u_mul (pv 3) (pe_op u_add (pe_op u_div (pv 3) pe_int) pe_int)) pe_int))
 (pss_one (ps_ret (pe_op u_mod (pe_op u_mod (pe_op u_mul (pv 3) (pe_op u_add (pe_op u_div (pv 3) pe_int) pe_int)) pe_int) (pv 1))))))))

theorem sc_law_signs : FnScope ["_law_well_here", "_law_letters", "_law_some", "_law_found", "_law_at", "_law_sign", "_law_k"] ["_law_well_here"] (defScope s_law_signs) := ⟨rfl, rfl, rfl, by decide +kernel, rfl, by decide +kernel, by decide +kernel⟩
theorem ok_law_signs {P : Program} {w : World} {K : PySem.W.Frag} {mg : Str → Option Value} {base : Heap} (T : Txt K mg) : Cal P w K mg base CX0 2 "_law_signs" ["_law_well_here"] (sp_law_signs K) := by
  refine Cal.of (st := s_law_signs) T.d_law_signs sc_law_signs (fun _ _ _ _ _ _ us hl => match us, hl with | [_], _ => rfl) (len_law_signs K) fun f cdv A outer s H vs Q E hr h => ⟨t_law_signs K, ?_, p_law_signs K vs H Q E h⟩
  exact (pss_cons (ps_set (i := 1) sc_law_signs.nd rfl (by first | exact Or.inl rfl | exact Or.inr rfl) pe_str)
 (pss_cons (ps_set (i := 2) sc_law_signs.nd rfl (by first | exact Or.inl rfl | exact Or.inr rfl) pe_str)
 (pss_cons (ps_set (i := 3) sc_law_signs.nd rfl (by first | exact Or.inl rfl | exact Or.inr rfl) (pe_join pe_str (pe_lc (own := [("_law_k", 6)]) (g := (gName 6)) (tt := tYes) rfl sc_law_signs.nd (pi_range1 (by rfl) T.m_range (pa_cons (pe_callC (ok_law_draw T) (hr.mono (by decide)) (by rfl) pass0 (pa_cons (pv 0) (pa_cons pe_int pa_nil))) pa_nil)) (blkOk_by (N := ["_law_well_here", "_law_letters", "_law_some", "_law_found", "_law_at", "_law_sign", "_law_k"]) (sc := (defScope s_law_signs)) (own := [("_law_k", 6)]) (by decide +kernel)) (fun _ _ _ _ _ => (pg_name (i := 6) sc_law_signs.nd rfl (by first | exact Or.inl rfl | exact Or.inr rfl))) (fun _ _ _ _ _ => pts_nil) (fun _ _ _ _ _ => (pe_ix u_ix (pv 1) (pe_callC (ok_law_draw T) (hr.mono (by decide)) (by rfl) pass0 (pa_cons (pv 0) (pa_cons pe_int pa_nil))) (fun _ _ => rfl))))))
 (pss_cons (ps_set (i := 4) sc_law_signs.nd rfl (by first | exact Or.inl rfl | exact Or.inr rfl) (pe_callC (ok_law_draw T) (hr.mono (by decide)) (by rfl) pass0 (pa_cons (pv 0) (pa_cons (pe_op u_add (pe_callB u_len (by rfl) T.m_len PySem.boot_len (pa_cons (pv 3) pa_nil)) pe_int) pa_nil))))
 (pss_cons (ps_set (i := 5) sc_law_signs.nd rfl (by first | exact Or.inl rfl | exact Or.inr rfl) (pe_ix u_ix (pe_op u_add (pv 2) (pv 1)) (pe_callC (ok_law_draw T) (hr.mono (by decide)) (by rfl) pass0 (pa_cons (pv 0) (pa_cons (pe_op u_add (pe_callB u_len (by rfl) T.m_len PySem.boot_len (pa_cons (pv 2) pa_nil)) pe_int) pa_nil))) (fun _ _ => rfl)))
 (pss_one (ps_ret (pe_ix u_ix (pe_lst (pa_cons (pv 3) (pa_cons (pv 3) (pa_cons (pe_op u_add (pe_op u_add (pe_slice u_slS (pv 3) po_none (po_some (pv 4))) (pv 5)) (pe_slice u_slS (pv 3) (po_some (pv 4)) po_none)) (pa_cons (pe_op u_add (pe_op u_add (pe_slice u_slS (pv 3) po_none (po_some (pv 4))) (pv 5)) (pe_slice u_slS (pv 3) (po_some (pe_op u_add (pv 4) pe_int)) po_none)) pa_nil))))) (pe_callC (ok_law_draw T) (hr.mono (by decide)) (by rfl) pass0 (pa_cons (pv 0) (pa_cons pe_int pa_nil))) (fun _ _ => rfl)))))))))

theorem sc_law_due : FnScope ["_law_word", "_law_sign"] ["_law_word"] (defScope s_law_due) := ⟨rfl, rfl, rfl, by decide +kernel, rfl, by decide +kernel, by decide +kernel⟩
theorem ok_law_due {P : Program} {w : World} {K : PySem.W.Frag} {mg : Str → Option Value} {base : Heap} (T : Txt K mg) : Cal P w K mg base CX0 1 "_law_due" ["_law_word"] (sp_law_due K) := by
  refine Cal.of (st := s_law_due) T.d_law_due sc_law_due (fun _ _ _ _ _ _ us hl => match us, hl with | [_], _ => rfl) (len_law_due K) fun f cdv A outer s H vs Q E hr h => ⟨t_law_due K, ?_, p_law_due K vs H Q E h⟩
  exact (pss_cons (ps_if (PW.pt (pw_or (pt_not (pt_truth (pe_callB u_isi (by rfl) T.m_isinstance (by decide +kernel) (pa_cons (pv 0) (pa_cons (pe_bltn (v := .ty "str") (by rfl) T.m_str (by decide +kernel) rfl) pa_nil))) (by intro _; rfl))) (pw_or (pt_cmpR u_lt (pe_callB u_len (by rfl) T.m_len PySem.boot_len (pa_cons (pv 0) pa_nil)) pe_int (nomark _)) (pw_or1 (pt_cmpR u_gt (pe_callB u_len (by rfl) T.m_len PySem.boot_len (pa_cons (pv 0) pa_nil)) pe_int (nomark _))))))
 (pss_one (ps_ret pe_bl))
 pss_nil)
 (pss_one (ps_ret (pe_cmpR (u_eq hr.units) (pe_lc (own := [("_law_sign", 1)]) (g := (gName 1)) (tt := (tOr (tTest (tOp rLtU (tVar 1) (tC (.str (PySem.Str.ofString "a"))))) (tTest (tOp rGtU (tVar 1) (tC (.str (PySem.Str.ofString "z"))))))) rfl sc_law_due.nd (pi_str (pv 0)) (blkOk_by (N := ["_law_word", "_law_sign"]) (sc := (defScope s_law_due)) (own := [("_law_sign", 1)]) (by decide +kernel)) (fun _ _ _ _ _ => (pg_name (i := 1) sc_law_due.nd rfl (by first | exact Or.inl rfl | exact Or.inr rfl))) (fun _ _ _ _ _ => (pts_one (PW.pt (pw_or (pt_cmpR u_lt (pv 1) pe_str (nomark _)) (pw_or1 (pt_cmpR u_gt (pv 1) pe_str (nomark _))))))) (fun _ _ _ _ _ => (pv 1))) (pe_lst pa_nil) (nomark _)))))

theorem sc_law : FnScope ["_law_script", "_law_cell", "_law_well_here", "_law_word", "_law_some", "_law_found"] ["_law_script"] (defScope s_law) := ⟨rfl, rfl, rfl, by decide +kernel, rfl, by decide +kernel, by decide +kernel⟩
theorem ok_law {P : Program} {w : World} {K : PySem.W.Frag} {mg : Str → Option Value} {base : Heap} (T : Txt K mg) : Cal P w K mg base CX0 3 "law" ["_law_script"] (sp_law K) := by
  refine Cal.of (st := s_law) T.d_law sc_law (fun _ _ _ _ _ _ us hl => match us, hl with | [_], _ => rfl) (len_law K) fun f cdv A outer s H vs Q E hr h => ⟨t_law K, ?_, p_law K vs H Q E h⟩
  exact (pss_cons (ps_for PassesOwn.never rfl (pi_list (pe_op u_add (pe_slice u_slL (pv 0) po_none (po_some pe_int)) (pe_lst (pa_cons pe_int (pa_cons pe_int (pa_cons pe_int pa_nil)))))) (pg_name (i := 1) sc_law.nd rfl (by first | exact Or.inl rfl | exact Or.inr rfl))
 (pss_cons (ps_set (i := 2) sc_law.nd rfl (by first | exact Or.inl rfl | exact Or.inr rfl) (pe_callC (ok_law_well T) (hr.mono (by decide)) (by rfl) pass0 (pa_cons (pv 1) pa_nil)))
 (pss_cons (ps_set (i := 3) sc_law.nd rfl (by first | exact Or.inl rfl | exact Or.inr rfl) (pe_callC (ok_law_signs T) (hr.mono (by decide)) (by rfl) pass0 (pa_cons (pv 2) pa_nil)))
 (pss_one (ps_for PassesOwn.never rfl (pi_list (pe_lst (pa_cons (pv 3) (pa_cons (pe_lst (pa_cons (pv 3) pa_nil)) (pa_cons (pe_tup (pa_cons (pv 3) pa_nil)) (pa_cons pe_non (pa_cons pe_bl (pa_cons pe_int (pa_cons (pe_disp (pps_cons (pv 3) pe_int pps_nil) (by rfl) (by rfl) (fun z => by cases z) (by decide)) (pa_cons (pe_lst pa_nil) (pa_cons pe_str (pa_cons (pe_op u_add (pv 3) pe_str) (pa_cons (pe_upper (pv 3)) pa_nil))))))))))))) (pg_name (i := 4) sc_law.nd rfl (by first | exact Or.inl rfl | exact Or.inr rfl))
 (pss_cons (ps_set (i := 5) sc_law.nd rfl (by first | exact Or.inl rfl | exact Or.inr rfl) (pe_callC (ok_is_name T) (hr.mono (by decide)) (by rfl) pass0 (pa_cons (pv 4) pa_nil)))
 (pss_one (ps_if (PW.pt (pw_or (pt_not (pt_truth (pe_callB u_isi (by rfl) T.m_isinstance (by decide +kernel) (pa_cons (pv 5) (pa_cons (pe_bltn (v := .ty "bool") (by rfl) T.m_bool (by decide +kernel) rfl) pa_nil))) (by intro _; rfl))) (pw_or (pt_cmpR (u_ne hr.units) (pv 5) (pe_callC (ok_law_due T) (hr.mono (by decide)) (by rfl) pass0 (pa_cons (pv 4) pa_nil)) (nomark _)) (pw_or1 (pt_cmpR (u_ne hr.units) (pe_callKw (st := s_is_name) (ks := ["thing"]) T.d_is_name (ok_is_name T) (fun _ _ _ _ _ _ us ws hl => match us, ws, hl with | [], [_], _ => rfl | [_], [], _ => rfl) (hr.mono (by decide)) (by rfl) pass0 (pk_cons (pv 4) pk_nil)) (pv 5) (nomark _))))))
 (pss_one (ps_ret pe_bl))
 pss_nil))))))))
 (pss_one (ps_ret pe_bl)))

theorem txt_mk {K : PySem.W.Frag} {h : Heap} {mg : Str → Option Value} (X : K.In h) (G : h.Ns mainGlobals mg)
    {f_is_name : Addr} {od_is_name an_is_name : Option Addr} {sl_is_name : Array (Option Value)} {oc_is_name kV_is_name dc_is_name pm_is_name cd_is_name ct_is_name : Value} {f_law_well : Addr} {od_law_well an_law_well : Option Addr} {sl_law_well : Array (Option Value)} {oc_law_well kV_law_well dc_law_well pm_law_well cd_law_well ct_law_well : Value} {f_law_draw : Addr} {od_law_draw an_law_draw : Option Addr} {sl_law_draw : Array (Option Value)} {oc_law_draw kV_law_draw dc_law_draw pm_law_draw cd_law_draw ct_law_draw : Value} {f_law_signs : Addr} {od_law_signs an_law_signs : Option Addr} {sl_law_signs : Array (Option Value)} {oc_law_signs kV_law_signs dc_law_signs pm_law_signs cd_law_signs ct_law_signs : Value} {f_law_due : Addr} {od_law_due an_law_due : Option Addr} {sl_law_due : Array (Option Value)} {oc_law_due kV_law_due dc_law_due pm_law_due cd_law_due ct_law_due : Value} {f_law : Addr} {od_law an_law : Option Addr} {sl_law : Array (Option Value)} {oc_law kV_law dc_law pm_law cd_law ct_law : Value}
    (z_all : PySem.W.nsIn K mainGlobals "all" = some none) (z_bool : PySem.W.nsIn K mainGlobals "bool" = some none) (z_int : PySem.W.nsIn K mainGlobals "int" = some none) (z_isinstance : PySem.W.nsIn K mainGlobals "isinstance" = some none) (z_len : PySem.W.nsIn K mainGlobals "len" = some none) (z_range : PySem.W.nsIn K mainGlobals "range" = some none) (z_str : PySem.W.nsIn K mainGlobals "str" = some none) {k_LETTERS : Tok} (y_LETTERS : PySem.W.nsIn K mainGlobals "LETTERS" = some (some (.str (PySem.Str.ofString "abcdefghijklmnopqrstuvwxyz") k_LETTERS))) {k_MOST_SIGNS : Tok} (y_MOST_SIGNS : PySem.W.nsIn K mainGlobals "MOST_SIGNS" = some (some (.int 8 k_MOST_SIGNS))) (a_is_name : PySem.W.nsIn K mainGlobals "is_name" = some (some (.ref f_is_name))) (l_is_name : K.lookup f_is_name = some ⟨oc_is_name, od_is_name, .func (PySem.W.fnOf "is_name" "is_name" (defArgs s_is_name) (defBody s_is_name) (defScope s_is_name) .none kV_is_name dc_is_name pm_is_name an_is_name cd_is_name ct_is_name), sl_is_name⟩) (q_is_name : PySem.W.codeIn K cd_is_name "is_name" = true) (k_is_name : PySem.W.keepIn K (.ref f_is_name) = true) (a_law_well : PySem.W.nsIn K mainGlobals "_law_well" = some (some (.ref f_law_well))) (l_law_well : K.lookup f_law_well = some ⟨oc_law_well, od_law_well, .func (PySem.W.fnOf "_law_well" "_law_well" (defArgs s_law_well) (defBody s_law_well) (defScope s_law_well) .none kV_law_well dc_law_well pm_law_well an_law_well cd_law_well ct_law_well), sl_law_well⟩) (q_law_well : PySem.W.codeIn K cd_law_well "_law_well" = true) (k_law_well : PySem.W.keepIn K (.ref f_law_well) = true) (a_law_draw : PySem.W.nsIn K mainGlobals "_law_draw" = some (some (.ref f_law_draw))) (l_law_draw : K.lookup f_law_draw = some ⟨oc_law_draw, od_law_draw, .func (PySem.W.fnOf "_law_draw" "_law_draw" (defArgs s_law_draw) (defBody s_law_draw) (defScope s_law_draw) .none kV_law_draw dc_law_draw pm_law_draw an_law_draw cd_law_draw ct_law_draw), sl_law_draw⟩) (q_law_draw : PySem.W.codeIn K cd_law_draw "_law_draw" = true) (k_law_draw : PySem.W.keepIn K (.ref f_law_draw) = true) (a_law_signs : PySem.W.nsIn K mainGlobals "_law_signs" = some (some (.ref f_law_signs))) (l_law_signs : K.lookup f_law_signs = some ⟨oc_law_signs, od_law_signs, .func (PySem.W.fnOf "_law_signs" "_law_signs" (defArgs s_law_signs) (defBody s_law_signs) (defScope s_law_signs) .none kV_law_signs dc_law_signs pm_law_signs an_law_signs cd_law_signs ct_law_signs), sl_law_signs⟩) (q_law_signs : PySem.W.codeIn K cd_law_signs "_law_signs" = true) (k_law_signs : PySem.W.keepIn K (.ref f_law_signs) = true) (a_law_due : PySem.W.nsIn K mainGlobals "_law_due" = some (some (.ref f_law_due))) (l_law_due : K.lookup f_law_due = some ⟨oc_law_due, od_law_due, .func (PySem.W.fnOf "_law_due" "_law_due" (defArgs s_law_due) (defBody s_law_due) (defScope s_law_due) .none kV_law_due dc_law_due pm_law_due an_law_due cd_law_due ct_law_due), sl_law_due⟩) (q_law_due : PySem.W.codeIn K cd_law_due "_law_due" = true) (k_law_due : PySem.W.keepIn K (.ref f_law_due) = true) (a_law : PySem.W.nsIn K mainGlobals "law" = some (some (.ref f_law))) (l_law : K.lookup f_law = some ⟨oc_law, od_law, .func (PySem.W.fnOf "law" "law" (defArgs s_law) (defBody s_law) (defScope s_law) .none kV_law dc_law pm_law an_law cd_law ct_law), sl_law⟩) (q_law : PySem.W.codeIn K cd_law "law" = true) (k_law : PySem.W.keepIn K (.ref f_law) = true) : Txt K mg :=
  ⟨PySem.W.mg_none_of X G z_all, PySem.W.mg_none_of X G z_bool, PySem.W.mg_none_of X G z_int, PySem.W.mg_none_of X G z_isinstance, PySem.W.mg_none_of X G z_len, PySem.W.mg_none_of X G z_range, PySem.W.mg_none_of X G z_str, ⟨_, PySem.W.mg_of X G y_LETTERS⟩, ⟨_, PySem.W.mg_of X G y_MOST_SIGNS⟩, ⟨_, _, PySem.W.mg_of X G a_is_name, fun_mk l_is_name q_is_name k_is_name⟩, ⟨_, _, PySem.W.mg_of X G a_law_well, fun_mk l_law_well q_law_well k_law_well⟩, ⟨_, _, PySem.W.mg_of X G a_law_draw, fun_mk l_law_draw q_law_draw k_law_draw⟩, ⟨_, _, PySem.W.mg_of X G a_law_signs, fun_mk l_law_signs q_law_signs k_law_signs⟩, ⟨_, _, PySem.W.mg_of X G a_law_due, fun_mk l_law_due q_law_due k_law_due⟩, ⟨_, _, PySem.W.mg_of X G a_law, fun_mk l_law q_law k_law⟩⟩
theorem all_mk {l : PySem.W.OpenLaw} {w : World} {K : PySem.W.Frag} {mg : Str → Option Value} {fa : Addr} (T : Txt K mg) (hfa : mg "law" = some (.ref fa)) :
    ∃ fd : FuncData, (∀ (s : Shared) (v : Value), BindsTo s fd ⟨[v], []⟩ [("_law_script", v)]) ∧ ∀ base : Heap, K.In base → base.Ns mainGlobals mg → FnOk l.prog w K mg base CX0 3 fa fd ["_law_script"] (sp_law K) := by
  exact Cal.end_ T.d_law (fun base => ok_law T) hfa
end K01
open PySem PySem.W PyProof.Rows
set_option maxHeartbeats 0 in
theorem PySem.Challenge.cw_thingwires_k01_names_apart_holds : PySem.Challenge.rw_thingwires_k01_names_apart.Holds := by
  w_on; o_law; k_head; (case hw => w_witness2)
  k_fill
  refine L2.walk_ofB (l := PySem.Challenge.rw_thingwires_k01_names_apart) (n := 63) (k := 3) (x := "_law_script") (CX := fun _ => L2.CX0) (sp := fun w => K01.sp_law _) rfl (by decide) rfl ⟨rfl, by decide, by decide⟩ (fun w h Y => PySem.W.kIn_of Y) ?F (fun _ H a ns hl hb _ hS => K01.law_end _ H a ns hl hb hS) (fun _ _ _ _ _ h => h)
  case F =>
    intro w mg fa h KX G hmg
    refine' K01.all_mk (K01.txt_mk KX G ?z_all ?z_bool ?z_int ?z_isinstance ?z_len ?z_range ?z_str ?y_LETTERS ?y_MOST_SIGNS ?a_is_name ?l_is_name ?q_is_name ?k_is_name ?a_law_well ?l_law_well ?q_law_well ?k_law_well ?a_law_draw ?l_law_draw ?q_law_draw ?k_law_draw ?a_law_signs ?l_law_signs ?q_law_signs ?k_law_signs ?a_law_due ?l_law_due ?q_law_due ?k_law_due ?a_law ?l_law ?q_law ?k_law) hmg
    (case z_all => k_is); (case z_bool => k_is); (case z_int => k_is); (case z_isinstance => k_is); (case z_len => k_is); (case z_range => k_is); (case z_str => k_is); (case y_LETTERS => k_is); (case y_MOST_SIGNS => k_is); (case a_is_name => k_is); (case l_is_name => k_is); (case q_is_name => k_is); (case k_is_name => k_is); (case a_law_well => k_is); (case l_law_well => k_is); (case q_law_well => k_is); (case k_law_well => k_is); (case a_law_draw => k_is); (case l_law_draw => k_is); (case q_law_draw => k_is); (case k_law_draw => k_is); (case a_law_signs => k_is); (case l_law_signs => k_is); (case q_law_signs => k_is); (case k_law_signs => k_is); (case a_law_due => k_is); (case l_law_due => k_is); (case q_law_due => k_is); (case k_law_due => k_is); (case a_law => k_is); (case l_law => k_is); (case q_law => k_is); (case k_law => k_is)
