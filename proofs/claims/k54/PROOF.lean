import PyProof.Rows.All
import Wide.All
import OpenK.AllK
import Wide.FinOn
import PyProof.EqAt
import PyProof.EqKinds
import PyProof.P3Eq
import PyProof.TupleCall
import HandS.ForMost
import HandS.Style
import HandS.TupMul
import HandS.Conv
import HandS.EndBits
import HandS.IsInst
import HandS.Walk
import HandS.Wide
import HandS.Flow
import KE.GoesEnumKw
import KE.GoesNew
import KE.KExcIs
import HandS.ExcInit
import HandS.ExcField
import HandS.ExcOwn
import HandS.ExcIs
import HandS.WordsExc
import PySem.Challenge.RW_thingwires_k54_whole_fed_in_pieces
set_option Elab.async false
set_option linter.all false
set_option maxRecDepth 100000
set_option maxHeartbeats 4000000
/-! Kb: joined rules (one rule a construct, whatever the kind of value), what a def of the text promises (Cal), heaps that keep all but some places -/
namespace Kb
open PySem PySem.Spec PyProof.Rows L2

/-! ### joined operators: each reading is opened by its own lemmas alone -/
@[irreducible] def rAddU (K : PySem.W.Frag) : R2 := fun x y H Q => rI0 (fun i j => .int (i + j)) x y H Q ∨ (∃ i j, x = .str i ∧ y = .str j ∧ i.length + j.length ≤ sizeLine ∧ Q (.str (i ++ j)) H) ∨ rCat x y H Q ∨ rCatT K x y H Q
@[irreducible] def rSubU : R2 := rI0 fun i j => .int (i - j)
@[irreducible] def rMulU (K : PySem.W.Frag) : R2 := fun x y H Q => rI CMul (fun i j => .int (i * j)) x y H Q ∨ rRep x y H Q ∨ rRepT K x y H Q
@[irreducible] def rDivU : R2 := rI CDiv fun i j => .int (i / j)
@[irreducible] def rDivW : R2 := rI CDivW fun i j => .int (i / j)
@[irreducible] def rModU : R2 := rI (fun _ j => 0 < j) fun i j => .int (i % j)
@[irreducible] def rPowU : R2 := rI CPow fun i j => .int (i ^ j.toNat)
@[irreducible] def rEqU (K : PySem.W.Frag) : R2 := fun x y H Q => rEq x y H Q ∨ rEqD K x y H Q
@[irreducible] def rNeU (K : PySem.W.Frag) : R2 := fun x y H Q => rNe x y H Q ∨ rNeD K x y H Q
@[irreducible] def rLtU : R2 := fun x y H Q => rI0 (fun i j => .bl (decide (i < j))) x y H Q ∨ ∃ i j, x = .str i ∧ y = .str j ∧ Q (.bl (decide (i.cps.toList < j.cps.toList))) H
@[irreducible] def rLeU : R2 := rI0 fun i j => .bl (decide (i ≤ j))
@[irreducible] def rGtU : R2 := fun x y H Q => rI0 (fun i j => .bl (decide (j < i))) x y H Q ∨ ∃ i j, x = .str i ∧ y = .str j ∧ Q (.bl (decide (j.cps.toList < i.cps.toList))) H
@[irreducible] def rGeU : R2 := rI0 fun i j => .bl (decide (j ≤ i))
@[irreducible] def rIsNU : R2 := fun x y H Q => y = .non ∧ Q (.bl (decide (x = .non))) H
@[irreducible] def rNotNU : R2 := fun x y H Q => y = .non ∧ Q (.bl (!decide (x = .non))) H
@[irreducible] def rInU (K : PySem.W.Frag) : R2 := fun x y H Q => (∃ (c : Nat) (z : Str), x = .str ⟨#[c]⟩ ∧ y = .str z ∧ Q (.bl (decide (c ∈ z.cps.toList))) H) ∨ rIn K false x y H Q
@[irreducible] def rNotInU (K : PySem.W.Frag) : R2 := fun x y H Q => (∃ (c : Nat) (z : Str), x = .str ⟨#[c]⟩ ∧ y = .str z ∧ Q (.bl (!decide (c ∈ z.cps.toList))) H) ∨ rIn K true x y H Q
@[irreducible] def rIxU (K : PySem.W.Frag) : R2 := rIx K
@[irreducible] def rSetU : V → V → V → Hp → (Hp → Prop) → Prop := rSetL
@[irreducible] def rIAddU : R2 := fun x y H Q => rI0 (fun i j => .int (i + j)) x y H Q ∨ (∃ i j, x = .str i ∧ y = .str j ∧ i.length + j.length ≤ sizeLine ∧ Q (.str (i ++ j)) H) ∨ rExt2 x y H Q
@[irreducible] def rISubU : R2 := rI0 fun i j => .int (i - j)
@[irreducible] def rIModU : R2 := rI (fun _ j => 0 < j) fun i j => .int (i % j)
@[irreducible] def rNegU : V → Hp → VK → Prop := rU fun i => .int (-i)
section
variable {X : Cx}
theorem u_add : OpR X (binaryOp .Add) (rAddU X.K) := by unfold rAddU; exact op_add.or (op_add_str.or (op_cat.or op_catT))
theorem u_sub : OpR X (binaryOp .Sub) rSubU := by unfold rSubU; exact op_sub
theorem u_mul : OpR X (binaryOp .Mult) (rMulU X.K) := by unfold rMulU; exact op_mul.or (op_rep.or op_repT)
theorem u_div : OpR X (binaryOp .FloorDiv) rDivU := by unfold rDivU; exact op_fdiv
theorem u_mod : OpR X (binaryOp .Mod) rModU := by unfold rModU; exact op_mod
theorem u_pow : OpR X (binaryOp .Pow) rPowU := by unfold rPowU; exact op_pow
theorem u_eq (hu : X.A.units + 64 < cLine) : OpR X (compareOp .Eq) (rEqU X.K) := by unfold rEqU; exact op_eq.or (op_eqD hu)
theorem u_ne (hu : X.A.units + 64 < cLine) : OpR X (compareOp .NotEq) (rNeU X.K) := by unfold rNeU; exact op_ne.or (op_neD hu)
theorem u_lt : OpR X (compareOp .Lt) rLtU := by unfold rLtU; exact op_lt.or op_lt_str
theorem u_le : OpR X (compareOp .LtE) rLeU := by unfold rLeU; exact op_le
theorem u_gt : OpR X (compareOp .Gt) rGtU := by unfold rGtU; exact op_gt.or op_gt_str
theorem u_ge : OpR X (compareOp .GtE) rGeU := by unfold rGeU; exact op_ge
theorem u_isN : OpR X (compareOp .Is) rIsNU := by unfold rIsNU; exact op_isN
theorem u_notN : OpR X (compareOp .IsNot) rNotNU := by unfold rNotNU; exact op_notN
theorem u_in : OpR X (compareOp .In) (rInU X.K) := by unfold rInU; exact op_in_sign.or op_in_seq
theorem u_notIn : OpR X (compareOp .NotIn) (rNotInU X.K) := by unfold rNotInU; exact op_notIn_sign.or op_notIn_seq
theorem u_ix : IxR X (rIxU X.K) := by unfold rIxU; exact ix_seq
theorem u_set : PSet X rSetU := by unfold rSetU; exact set_list
theorem u_iadd : PIp X .Add rIAddU := by unfold rIAddU; exact iop_add.or (iop_add_str.or iop_ext)
theorem u_isub : PIp X .Sub rISubU := by unfold rISubU; exact iop_sub
theorem u_imod : PIp X .Mod rIModU := by unfold rIModU; exact iop_mod
theorem u_neg : UnR X (unaryOp .USub) rNegU := by unfold rNegU; exact un_neg
end
theorem sz_of' {n : Nat} (h : n ≤ 16777216) : n ≤ sizeLine := Nat.le_trans h (by decide)
theorem szlt_of {n : Nat} (h : n < 16777216) : n < sizeLine := Nat.lt_of_lt_of_le h (by decide)
theorem cmul_l {i j : Int} (a : -18446744073709551616 < i) (b : i < 18446744073709551616) : CMul i j := .inl ⟨a, b⟩
theorem cmul_r {i j : Int} (a : -18446744073709551616 < j) (b : j < 18446744073709551616) : CMul i j := .inr ⟨a, b⟩
section
variable {K : PySem.W.Frag} {H : Hp} {Q : VK} {i j : Int} {x y : V} {a b : Addr} {xs ys : List V}
theorem add_go (q : Q (.int (i + j)) H) : rAddU K (.int i) (.int j) H Q := by unfold rAddU; exact .inl ⟨_, _, rfl, rfl, q⟩
theorem addS_go {u v : Str} (h : u.length + v.length ≤ 16777216) (q : Q (.str (u ++ v)) H) : rAddU K (.str u) (.str v) H Q := by unfold rAddU; exact .inr (.inl ⟨_, _, rfl, rfl, sz_of' h, q⟩)
theorem addL_go (ha : H a = some (.lst xs)) (hb : H b = some (.lst ys)) (h : xs.length + ys.length ≤ 16777216) (q : ∀ p, H p = none → Q (.ref p) (upd H p (.lst (xs ++ ys)))) : rAddU K (.ref a) (.ref b) H Q := by
  unfold rAddU; exact .inr (.inr (.inl ⟨_, _, _, _, rfl, rfl, ha, hb, sz_of' h, q⟩))
theorem addT_go (ha : SqT K H a xs) (hb : SqT K H b ys) (h0 : xs ≠ []) (h : xs.length + ys.length ≤ 16777216) (q0 : ys = [] → Q (.ref a) H) (q : ys ≠ [] → ∀ p, H p = none → Q (.ref p) (upd H p (.tup (xs ++ ys)))) : rAddU K (.ref a) (.ref b) H Q := by
  unfold rAddU; exact .inr (.inr (.inr ⟨_, _, _, _, rfl, rfl, ha, hb, h0, sz_of' h, q0, q⟩))
theorem sub_go (q : Q (.int (i - j)) H) : rSubU (.int i) (.int j) H Q := by unfold rSubU; exact ⟨_, _, rfl, rfl, q⟩
theorem mul_goL (a : -18446744073709551616 < i) (b : i < 18446744073709551616) (q : Q (.int (i * j)) H) : rMulU K (.int i) (.int j) H Q := by unfold rMulU; exact .inl ⟨_, _, rfl, rfl, cmul_l a b, q⟩
theorem mul_goR (a : -18446744073709551616 < j) (b : j < 18446744073709551616) (q : Q (.int (i * j)) H) : rMulU K (.int i) (.int j) H Q := by unfold rMulU; exact .inl ⟨_, _, rfl, rfl, cmul_r a b, q⟩
theorem rep_go (ha : H a = some (.lst xs)) (h0 : -9223372036854775808 ≤ i) (h1 : i < 9223372036854775808) (h : xs.length * i.toNat ≤ 16777216) (q : ∀ p, H p = none → Q (.ref p) (upd H p (.lst (List.replicate i.toNat xs).flatten))) : rMulU K (.ref a) (.int i) H Q := by
  unfold rMulU; exact .inr (.inl ⟨_, _, _, rfl, rfl, ha, h0, h1, sz_of' h, q⟩)
theorem div_go (a : 0 < j) (b : j < 1073741824) (q : Q (.int (i / j)) H) : rDivU (.int i) (.int j) H Q := by unfold rDivU; exact ⟨_, _, rfl, rfl, ⟨a, b⟩, q⟩
theorem divW_go (h : CDivW i j) (q : Q (.int (i / j)) H) : rDivW (.int i) (.int j) H Q := by unfold rDivW; exact ⟨_, _, rfl, rfl, h, q⟩
theorem mod_go (a : 0 < j) (q : Q (.int (i % j)) H) : rModU (.int i) (.int j) H Q := by unfold rModU; exact ⟨_, _, rfl, rfl, a, q⟩
theorem pow_go (a : 0 ≤ j) (b : j ≤ 1000000) (c : i.natAbs < 2 ^ 64) (q : Q (.int (i ^ j.toNat)) H) : rPowU (.int i) (.int j) H Q := by unfold rPowU; exact ⟨_, _, rfl, rfl, ⟨a, b, c⟩, q⟩
theorem neg_go (q : Q (.int (-i)) H) : rNegU (.int i) H Q := by unfold rNegU; exact ⟨_, rfl, q⟩
theorem dInt : decide (V.int i = V.int j) = decide (i = j) := by simp
theorem dStr {u v : Str} : decide (V.str u = V.str v) = decide (u = v) := by simp
theorem dBl {u v : Bool} : decide (V.bl u = V.bl v) = decide (u = v) := by simp
theorem eq_go (q : Q (.bl (decide (i = j))) H) : rEqU K (.int i) (.int j) H Q := by unfold rEqU; exact .inl ⟨rfl, by rw [dInt]; exact q⟩
theorem eqS_go {u v : Str} (q : Q (.bl (decide (u = v))) H) : rEqU K (.str u) (.str v) H Q := by unfold rEqU; exact .inl ⟨rfl, by rw [dStr]; exact q⟩
theorem eqB_go {u v : Bool} (q : Q (.bl (decide (u = v))) H) : rEqU K (.bl u) (.bl v) H Q := by unfold rEqU; exact .inl ⟨rfl, by rw [dBl]; exact q⟩
theorem eqN_go (q : Q (.bl true) H) : rEqU K .non .non H Q := by unfold rEqU; exact .inl ⟨rfl, q⟩
theorem eqD_go {d e : PyData} (hx : Dp K H x d) (hy : Dp K H y e) (sx : SeqAt.shaped d = true) (sy : SeqAt.shaped e = true) (q : Q (.bl (PyData.eqv d e)) H) : rEqU K x y H Q := by unfold rEqU; exact .inr ⟨d, e, hx, hy, sx, sy, q⟩
theorem ne_go (q : Q (.bl (!decide (i = j))) H) : rNeU K (.int i) (.int j) H Q := by unfold rNeU; exact .inl ⟨rfl, by rw [dInt]; exact q⟩
theorem neS_go {u v : Str} (q : Q (.bl (!decide (u = v))) H) : rNeU K (.str u) (.str v) H Q := by unfold rNeU; exact .inl ⟨rfl, by rw [dStr]; exact q⟩
theorem neB_go {u v : Bool} (q : Q (.bl (!decide (u = v))) H) : rNeU K (.bl u) (.bl v) H Q := by unfold rNeU; exact .inl ⟨rfl, by rw [dBl]; exact q⟩
theorem neD_go {d e : PyData} (hx : Dp K H x d) (hy : Dp K H y e) (sx : SeqAt.shaped d = true) (sy : SeqAt.shaped e = true) (q : Q (.bl (!PyData.eqv d e)) H) : rNeU K x y H Q := by unfold rNeU; exact .inr ⟨d, e, hx, hy, sx, sy, q⟩
theorem lt_go (q : Q (.bl (decide (i < j))) H) : rLtU (.int i) (.int j) H Q := by unfold rLtU; exact .inl ⟨_, _, rfl, rfl, q⟩
theorem ltS_go {u v : Str} (q : Q (.bl (decide (u.cps.toList < v.cps.toList))) H) : rLtU (.str u) (.str v) H Q := by unfold rLtU; exact .inr ⟨_, _, rfl, rfl, q⟩
theorem le_go (q : Q (.bl (decide (i ≤ j))) H) : rLeU (.int i) (.int j) H Q := by unfold rLeU; exact ⟨_, _, rfl, rfl, q⟩
theorem gt_go (q : Q (.bl (decide (j < i))) H) : rGtU (.int i) (.int j) H Q := by unfold rGtU; exact .inl ⟨_, _, rfl, rfl, q⟩
theorem gtS_go {u v : Str} (q : Q (.bl (decide (v.cps.toList < u.cps.toList))) H) : rGtU (.str u) (.str v) H Q := by unfold rGtU; exact .inr ⟨_, _, rfl, rfl, q⟩
theorem ge_go (q : Q (.bl (decide (j ≤ i))) H) : rGeU (.int i) (.int j) H Q := by unfold rGeU; exact ⟨_, _, rfl, rfl, q⟩
theorem isN_go (q : Q (.bl (decide (x = .non))) H) : rIsNU x .non H Q := by unfold rIsNU; exact ⟨rfl, q⟩
theorem notN_go (q : Q (.bl (!decide (x = .non))) H) : rNotNU x .non H Q := by unfold rNotNU; exact ⟨rfl, q⟩
theorem inC_go {c : Nat} {z : Str} (q : Q (.bl (decide (c ∈ z.cps.toList))) H) : rInU K (.str ⟨#[c]⟩) (.str z) H Q := by unfold rInU; exact .inl ⟨_, _, rfl, rfl, q⟩
theorem inL_go (h : SqL K H a xs) (fx : flatV x = true) (fs : xs.all flatV = true) (q : Q (.bl (inV x xs)) H) : rInU K x (.ref a) H Q := by unfold rInU; exact .inr ⟨_, _, rfl, .inl h, fx, fs, q⟩
theorem inT_go (h : SqT K H a xs) (fx : flatV x = true) (fs : xs.all flatV = true) (q : Q (.bl (inV x xs)) H) : rInU K x (.ref a) H Q := by unfold rInU; exact .inr ⟨_, _, rfl, .inr h, fx, fs, q⟩
theorem notInC_go {c : Nat} {z : Str} (q : Q (.bl (!decide (c ∈ z.cps.toList))) H) : rNotInU K (.str ⟨#[c]⟩) (.str z) H Q := by unfold rNotInU; exact .inl ⟨_, _, rfl, rfl, q⟩
theorem notInL_go (h : SqL K H a xs) (fx : flatV x = true) (fs : xs.all flatV = true) (q : Q (.bl (!inV x xs)) H) : rNotInU K x (.ref a) H Q := by unfold rNotInU; exact .inr ⟨_, _, rfl, .inl h, fx, fs, q⟩
theorem ixL_go (h : SqL K H a xs) (e : atI xs i = some x) (q : Q x H) : rIxU K (.ref a) (.int i) H Q := by unfold rIxU; exact .inl ⟨_, _, _, _, rfl, rfl, h, e, q⟩
theorem ixT_go (h : SqT K H a xs) (e : atI xs i = some x) (q : Q x H) : rIxU K (.ref a) (.int i) H Q := by unfold rIxU; exact .inr (.inl ⟨_, _, _, _, rfl, rfl, h, e, q⟩)
theorem ixS_go {z : Str} {c : Nat} (h : z.length ≤ 16777216) (e : atI z.cps.toList i = some c) (q : Q (.str ⟨#[c]⟩) H) : rIxU K (.str z) (.int i) H Q := by unfold rIxU; exact .inr (.inr ⟨_, _, _, rfl, rfl, sz_of' h, e, q⟩)
theorem set_go {k : Nat} {Q : Hp → Prop} (h : H a = some (.lst xs)) (e : ixN xs.length i = some k) (q : Q (upd H a (.lst (xs.set k x)))) : rSetU (.ref a) (.int i) x H Q := by unfold rSetU; exact ⟨_, _, _, _, rfl, rfl, h, e, q⟩
theorem iadd_go (q : Q (.int (i + j)) H) : rIAddU (.int i) (.int j) H Q := by unfold rIAddU; exact .inl ⟨_, _, rfl, rfl, q⟩
theorem iaddS_go {u v : Str} (h : u.length + v.length ≤ 16777216) (q : Q (.str (u ++ v)) H) : rIAddU (.str u) (.str v) H Q := by unfold rIAddU; exact .inr (.inl ⟨_, _, rfl, rfl, sz_of' h, q⟩)
theorem iaddL_go (ha : H a = some (.lst xs)) (hb : H b = some (.lst ys)) (h : xs.length + ys.length ≤ 16777216) (q : Q (.ref a) (upd H a (.lst (xs ++ ys)))) : rIAddU (.ref a) (.ref b) H Q := by
  unfold rIAddU; exact .inr (.inr ⟨_, _, _, _, rfl, rfl, ha, hb, sz_of' h, q⟩)
theorem isub_go (q : Q (.int (i - j)) H) : rISubU (.int i) (.int j) H Q := by unfold rISubU; exact ⟨_, _, rfl, rfl, q⟩
theorem imod_go (a : 0 < j) (q : Q (.int (i % j)) H) : rIModU (.int i) (.int j) H Q := by unfold rIModU; exact ⟨_, _, rfl, rfl, a, q⟩
end

/-! ### names of the module -/
section
variable {X : Cx} {x : Str} {pos : Pos}
theorem pe_gint {i : Int} (hg : Gl X x) (hm : ∃ t, X.mg x = some (.int i t)) (hd : (x == ("__debug__" : Str)) = false := by decide) : PE X (.Name x pos) (tC (.int i)) := by
  obtain ⟨t, hm⟩ := hm
  exact pe_glob hg hm ⟨t, rfl⟩ hd
theorem pe_gstr {i : Str} (hg : Gl X x) (hm : ∃ t, X.mg x = some (.str i t)) (hd : (x == ("__debug__" : Str)) = false := by decide) : PE X (.Name x pos) (tC (.str i)) := by
  obtain ⟨t, hm⟩ := hm
  exact pe_glob hg hm ⟨t, rfl⟩ hd
end

/-! ### defs of the text -/
def Def (K : PySem.W.Frag) (mg : Str → Option Value) (st : Stmt) (x : Str) : Prop := ∃ f fd, mg x = some (.ref f) ∧ Fun K x x st f fd
def FdAt (K : PySem.W.Frag) (f : Addr) (fd : FuncData) : Prop := ∃ oc od osl, K.lookup f = some ⟨oc, od, .func fd, osl⟩
theorem FdAt.eq {K : PySem.W.Frag} {f : Addr} {fd fd' : FuncData} (a : FdAt K f fd) (b : FdAt K f fd') : fd = fd' := by
  obtain ⟨_, _, _, a⟩ := a
  obtain ⟨_, _, _, b⟩ := b
  rw [a] at b
  cases b
  rfl
theorem Fun.at_ {K : PySem.W.Frag} {x qual : Str} {st : Stmt} {f : Addr} {fd : FuncData} (F : Fun K x qual st f fd) : FdAt K f fd := by
  obtain ⟨oc, od, kV, doc, pm, an, cdv, ct, osl, rfl, lk, hcd⟩ := F.ex
  exact ⟨oc, od, osl, lk⟩
/-- the def x of the module keeps the promise sp -/
structure Cal (P : Program) (w : World) (K : PySem.W.Frag) (mg : Str → Option Value) (base : Heap) (CX : CXT) (k : Nat) (x : Str) (ps : List Str) (sp : Sp) : Prop where
  ex : ∃ f fd, mg x = some (.ref f) ∧ FnOk P w K mg base CX k f fd ps sp ∧ PySem.W.keepIn K (.ref f) = true ∧ (∀ us : List Value, us.length = ps.length → bindArgs fd ⟨us, []⟩ = pure (ps.zip us)) ∧ FdAt K f fd
section
variable {P : Program} {w : World} {K : PySem.W.Frag} {mg : Str → Option Value} {base : Heap}
theorem Cal.of {x : Str} {st : Stmt} {N ps : List Str} {k : Nat} {sp : Sp} (D : Def K mg st x) (S : FnScope N ps (defScope st))
    (hb : ∀ (kV doc pm : Value) (an : Option Addr) (cdv ct : Value) (us : List Value), us.length = ps.length → bindArgs (PySem.W.fnOf x x (defArgs st) (defBody st) (defScope st) .none kV doc pm an cdv ct) ⟨us, []⟩ = pure (ps.zip us))
    (len : ∀ vs H Q E, sp vs H Q E → vs.length = ps.length)
    (hbody : ∀ (f : Addr) (cdv : Value) (A : Around) (outer : List Env) (s : Shared) (H : Hp) (vs : List V) (Q : VK) (E : XK), Room k (A.deeper (envOfC x (defScope st) s.heap.objs.size f cdv)) → sp vs H Q E →
      ∃ t, PSs (cxOf CX0 P w K mg base N x (defScope st) f cdv A outer s H E).nox (defBody st) t ∧ t { nx := fun _ H' => Q .non H', rt := Q } (start N vs) H) : Cal P w K mg base CX0 (k + 1) x ps sp := by
  obtain ⟨f, fd, hm, F⟩ := D
  refine ⟨f, fd, hm, F.ok S len (hbody f), F.kp, ?_, Fun.at_ F⟩
  obtain ⟨oc, od, kV, doc, pm, an, cdv, ct, osl, rfl, lk, hcd⟩ := F.ex
  exact hb kV doc pm an cdv ct
theorem Cal.bound {CX : CXT} {k : Nat} {x : Str} {ps : List Str} {sp : Sp} (C : Cal P w K mg base CX k x ps sp) : ∃ f fd, mg x = some (.ref f) ∧ FnOk P w K mg base CX k f fd ps sp ∧ PySem.W.keepIn K (.ref f) = true ∧ Binds K fd ps [] := by
  obtain ⟨f, fd, a, b, c, d, _⟩ := C.ex
  exact ⟨f, fd, a, b, c, .all d⟩
theorem Cal.end_ {x y : Str} {st : Stmt} {k : Nat} {sp : Sp} {fa : Addr} (D : Def K mg st x) (C : ∀ base : Heap, Cal P w K mg base CX0 k x [y] sp) (h : mg x = some (.ref fa)) :
    ∃ fd : FuncData, (∀ (s : Shared) (v : Value), BindsTo s fd ⟨[v], []⟩ [(y, v)]) ∧ ∀ base : Heap, K.In base → base.Ns mainGlobals mg → FnOk P w K mg base CX0 k fa fd [y] sp := by
  obtain ⟨f, fd, hm, F⟩ := D
  have e := h.symm.trans hm
  cases e
  have key : ∀ base : Heap, FnOk P w K mg base CX0 k fa fd [y] sp ∧ ∀ us : List Value, us.length = [y].length → bindArgs fd ⟨us, []⟩ = pure ([y].zip us) := fun base => by
    obtain ⟨f', fd', hm', G, _, hb, hA⟩ := (C base).ex
    have e := hm'.symm.trans hm
    cases e
    have e2 := hA.eq (Fun.at_ F)
    subst e2
    exact ⟨G, hb⟩
  exact ⟨fd, fun s v => .of_eq ((key default).2 [v] rfl), fun base _ _ => (key base).1⟩
end
section
variable {X : Cx} {CX : CXT} {k : Nat} {x : Str} {ps : List Str} {sp : Sp} {E : XK} {e : Expr} {es : List Expr} {t : TA} {p pos : Pos}
theorem pe_callC (C : Cal X.prog X.w X.K X.mg X.base CX k x ps sp) (hr : Room k X.A) (hg : Gl X x) (hx : Passes CX X E)
    (ha : PA X (e :: es) t) (hdb : (x == ("__debug__" : Str)) = false := by decide) (he : starEach (e :: es) X.env = (false, eval e X.env) :: starEach es X.env := by rfl) (hpl : (backTo pos (starEach es X.env)).any (·.1) = false := by rfl) :
    PE X (.Call (.Name x p) (e :: es) [] pos) (tCall sp [] E t) := by
  obtain ⟨f, fd, hm, F, hk, hb⟩ := C.bound
  exact pe_call F hr hg hm hk hb .nil hx ha hdb he hpl
theorem pe_callC0 (C : Cal X.prog X.w X.K X.mg X.base CX k x ps sp) (hr : Room k X.A) (hg : Gl X x) (hx : Passes CX X E)
    (hdb : (x == ("__debug__" : Str)) = false := by decide) : PE X (.Call (.Name x p) [] [] pos) (tCall sp [] E tNil) := by
  obtain ⟨f, fd, hm, F, hk, hb⟩ := C.bound
  exact pe_call0 F hr hg hm hk hb .nil hx hdb
/-- f(k = v): all by names -/
theorem pe_callK0 {f : Addr} {fd : FuncData} {ks : List Str} {g : List Value → List Value → List Value} {gV : List V → List V → List V} {kws : List Keyword} {tk : TA} (F : FnOk X.prog X.w X.K X.mg X.base CX k f fd ps sp) (hr : Room k X.A) (hg : Gl X x) (hm : X.mg x = some (.ref f)) (hk : PySem.W.keepIn X.K (.ref f) = true) (hb : KBinds X.K fd ps ks g gV) (hx : Passes CX X E)
    (hkw : PK X kws tk) (hall : (backToKw pos (keywordEach kws X.env)).all (·.1.isSome) = true := by rfl) (hks : (backToKw pos (keywordEach kws X.env)).filterMap (·.1) = ks := by rfl)
    (hdb : (x == ("__debug__" : Str)) = false := by decide)
    (hpl : ((backTo pos (starEach [] X.env)).any (·.1) || (backToKw pos (keywordEach kws X.env)).any (·.1.isNone)) = false := by rfl) :
    PE X (.Call (.Name x p) [] kws pos) (tCallK sp gV E tNil tk) := by
  refine ⟨fun pins s σ H Q I h => ?_⟩
  refine wpAny_Call_Name_kw (ld_glob I hg hm ?_ hdb)
  refine PySem.W.callWith_KW0 (h₀ := X.base) I.ok.mod.kin hk hall ?_ hpl
  have h : tk σ H fun zs H2 => sp (gV [] zs) H2 Q E := h
  refine thn (hkw.run pos pins s σ H _ I h) fun ws s2 ⟨zs, H2, I2, rz, q2⟩ => ⟨I2.kIn, ?_⟩
  rw [hks]
  exact run_fnk (us := []) (vs := []) F hr hb hx I2 .nil rz q2
end

/-! ### joined calls of built-ins -/
@[irreducible] def rLenU (K : PySem.W.Frag) : List V → Hp → VK → Prop := fun xs H Q => (∃ x n, xs = [x] ∧ LenV K x H n ∧ Q (.int n) H) ∨ ∃ a kvs, xs = [V.ref a] ∧ H a = some (.dK kvs) ∧ Q (.int kvs.length) H
@[irreducible] def rIsiU (K : PySem.W.Frag) : List V → Hp → VK → Prop := fun xs H Q => rIsi K xs H Q ∨ rIsiT K xs H Q
@[irreducible] def rIntU : List V → Hp → VK → Prop := fun xs H Q => (∃ i, xs = [.int i] ∧ Q (.int i) H) ∨ ∃ k, xs = [.bl k] ∧ Q (.int (if k then 1 else 0)) H
@[irreducible] def rBoolU : List V → Hp → VK → Prop := fun xs H Q => (∃ i, xs = [.int i] ∧ Q (.bl (i != 0)) H) ∨ ∃ k, xs = [.bl k] ∧ Q (.bl k) H
@[irreducible] def rAbsU : List V → Hp → VK → Prop := fun xs H Q => ∃ i, xs = [.int i] ∧ Q (.int (if i < 0 then -i else i)) H
@[irreducible] def rOrdU : List V → Hp → VK → Prop := fun xs H Q => ∃ x, xs = [.str x] ∧ x.length = 1 ∧ Q (.int (x.cps.getD 0 0 : Nat)) H
@[irreducible] def rListU (K : PySem.W.Frag) : List V → Hp → VK → Prop := fun xs H Q => ∃ p ys, xs = [.ref p] ∧ (SqL K H p ys ∨ SqT K H p ys) ∧ ∀ l, H l = none → Q (.ref l) (upd H l (.lst ys))
@[irreducible] def rTupleU (K : PySem.W.Frag) : List V → Hp → VK → Prop := fun xs H Q => ∃ p ys, xs = [.ref p] ∧ ((SqL K H p ys ∧ ∀ l, H l = none → Q (.ref l) (upd H l (.tup ys))) ∨ (SqT K H p ys ∧ Q (.ref p) H))
@[irreducible] def rAllU (K : PySem.W.Frag) : List V → Hp → VK → Prop := rAll K
@[irreducible] def rAnyU (K : PySem.W.Frag) : List V → Hp → VK → Prop := rAny K
@[irreducible] def rSumU (K : PySem.W.Frag) : List V → Hp → VK → Prop := rSum K
@[irreducible] def rAppU : V → List V → Hp → VK → Prop := rAppend
@[irreducible] def rPopU : V → List V → Hp → VK → Prop := fun x vs H Q => rPop x vs H Q ∨ rPopAt x vs H Q
@[irreducible] def rExtU : V → List V → Hp → VK → Prop := rExtend
@[irreducible] def rSlLU (K : PySem.W.Frag) : V → Option Int → Option Int → Hp → VK → Prop := rSlL K
@[irreducible] def rSlSU : V → Option Int → Option Int → Hp → VK → Prop := rSlS
@[irreducible] def rSlTU (K : PySem.W.Frag) : V → Option Int → Option Int → Hp → VK → Prop := rSlT K
section
variable {X : Cx}
theorem CallR.or {f : Value} {r r' : List V → Hp → VK → Prop} (h : CallR X f r) (h' : CallR X f r') : CallR X f (fun xs H Q => r xs H Q ∨ r' xs H Q) := by
  intro pins s σ H xs us Q I r q
  rcases q with q | q
  · exact h pins s σ H xs us Q I r q
  · exact h' pins s σ H xs us Q I r q
theorem MtR.or {id : String} {r r' : V → List V → Hp → VK → Prop} (h : MtR X id r) (h' : MtR X id r') : MtR X id (fun x xs H Q => r x xs H Q ∨ r' x xs H Q) := by
  intro pins s σ H x xs v us Q I rx rs q
  rcases q with q | q
  · exact h pins s σ H x xs v us Q I rx rs q
  · exact h' pins s σ H x xs v us Q I rx rs q
theorem u_len : CallR X (.builtin "len") (rLenU X.K) := by unfold rLenU; exact CallR.or call_len call_lenD
theorem u_isi : CallR X (.builtin "isinstance") (rIsiU X.K) := by unfold rIsiU; exact CallR.or call_isi call_isiT
theorem u_int : CallR X (.type "int") rIntU := by unfold rIntU; exact call_int1
theorem u_bool : CallR X (.type "bool") rBoolU := by unfold rBoolU; exact call_bool1
theorem u_abs : CallR X (.builtin "abs") rAbsU := by unfold rAbsU; exact call_abs
theorem u_ord : CallR X (.builtin "ord") rOrdU := by unfold rOrdU; exact call_ord
theorem u_list : CallR X (.type "list") (rListU X.K) := by unfold rListU; exact call_list_of
theorem u_tuple : CallR X (.type "tuple") (rTupleU X.K) := by unfold rTupleU; exact call_tuple_of
theorem u_all (hc : X.calm = true) : CallR X (.builtin "all") (rAllU X.K) := by unfold rAllU; exact cr_all hc
theorem u_any (hc : X.calm = true) : CallR X (.builtin "any") (rAnyU X.K) := by unfold rAnyU; exact cr_any hc
theorem u_sum (hc : X.calm = true) : CallR X (.builtin "sum") (rSumU X.K) := by unfold rSumU; exact cr_sum hc
theorem u_append : MtR X "list.append" rAppU := by unfold rAppU; exact mt_append
theorem u_pop : MtR X "list.pop" rPopU := by unfold rPopU; exact MtR.or mt_pop mt_popAt
theorem u_extend : MtR X "list.extend" rExtU := by unfold rExtU; exact mt_extend
theorem u_slL : SlR X (rSlLU X.K) := by unfold rSlLU; exact sl_list
theorem u_slS : SlR X rSlSU := by unfold rSlSU; exact sl_str
theorem u_slT : SlR X (rSlTU X.K) := by unfold rSlTU; exact sl_tup
end
def tTru (K : PySem.W.Frag) (ta : TE) : TT := fun σ H Q => ta σ H fun x H' => ∃ k, TruV K x H' k ∧ Q k H'
def rJoin (K : PySem.W.Frag) : V → List V → Hp → VK → Prop := fun x xs H Q => ∃ a p, ∃ ys : List Str, x = .str a ∧ xs = [.ref p] ∧ (SqL K H p (ys.map V.str) ∨ SqT K H p (ys.map V.str)) ∧ (ys.map (·.length)).sum + ys.length * a.length ≤ 16777216 ∧ Q (.str (Txt.join a ys)) H
def rUpper : V → List V → Hp → VK → Prop := fun x xs H Q => ∃ a, x = .str a ∧ xs = [] ∧ a.length ≤ 5592405 ∧ Q (.str (Txt.upper a)) H
section
variable {K : PySem.W.Frag} {H : Hp} {Q : VK} {i j : Int} {x y : V} {a b : Addr} {xs ys : List V}
theorem len_str {z : Str} (h : z.length ≤ 16777216) (q : Q (.int z.length) H) : rLenU K [.str z] H Q := by unfold rLenU; exact .inl ⟨_, _, rfl, ⟨sz_of' h, rfl⟩, q⟩
theorem len_lst (h : SqL K H a xs) (q : Q (.int xs.length) H) : rLenU K [.ref a] H Q := by unfold rLenU; exact .inl ⟨_, _, rfl, .inl ⟨xs, h, rfl⟩, q⟩
theorem len_tup (h : SqT K H a xs) (q : Q (.int xs.length) H) : rLenU K [.ref a] H Q := by unfold rLenU; exact .inl ⟨_, _, rfl, .inr ⟨xs, h, rfl⟩, q⟩
theorem len_dK {kvs : List (Key × V)} (h : H a = some (.dK kvs)) (q : Q (.int kvs.length) H) : rLenU K [.ref a] H Q := by unfold rLenU; exact .inr ⟨_, _, rfl, h, q⟩
theorem isi_go {t n : String} {b : Bool} (ty : TyX K H x (.type t)) (k : PySem.W.kitOne K (.type t) (.type n) = some b) (q : Q (.bl b) H) : rIsiU K [x, .ty n] H Q := by unfold rIsiU; exact .inl ⟨x, .ty n, .type t, .type n, b, rfl, .ty n, ty, k, q⟩
theorem isi2_go {t m n : String} {b c : Bool} (hp : H a = some (.tup [.ty m, .ty n])) (ty : TyX K H x (.type t)) (k1 : PySem.W.kitOne K (.type t) (.type m) = some b) (k2 : PySem.W.kitOne K (.type t) (.type n) = some c) (q : Q (.bl (b || c)) H) : rIsiU K [x, .ref a] H Q := by
  unfold rIsiU
  refine .inr ⟨x, a, _, .type t, _, b || c, rfl, hp, .cons (.ty m) (.cons (.ty n) .nil), ty, ?_, q⟩
  refine kitAny_cons k1 (fun e => ?_) (fun e => by rw [e]; rfl)
  refine kitAny_cons k2 (fun e2 => ?_) (fun e2 => by rw [e2]; exact Bool.or_true _)
  rw [e, e2]
  exact kitAny_nil
theorem int_go (q : Q (.int i) H) : rIntU [.int i] H Q := by unfold rIntU; exact .inl ⟨_, rfl, q⟩
theorem intB_go {k : Bool} (q : Q (.int (if k then 1 else 0)) H) : rIntU [.bl k] H Q := by unfold rIntU; exact .inr ⟨_, rfl, q⟩
theorem abs_go (q : Q (.int (if i < 0 then -i else i)) H) : rAbsU [.int i] H Q := by unfold rAbsU; exact ⟨_, rfl, q⟩
theorem ord_go {c : Nat} (q : Q (.int c) H) : rOrdU [.str ⟨#[c]⟩] H Q := by unfold rOrdU; exact ⟨_, rfl, rfl, q⟩
theorem list_goL (h : SqL K H a xs) (q : ∀ l, H l = none → Q (.ref l) (upd H l (.lst xs))) : rListU K [.ref a] H Q := by unfold rListU; exact ⟨_, _, rfl, .inl h, q⟩
theorem list_goT (h : SqT K H a xs) (q : ∀ l, H l = none → Q (.ref l) (upd H l (.lst xs))) : rListU K [.ref a] H Q := by unfold rListU; exact ⟨_, _, rfl, .inr h, q⟩
theorem tuple_goL (h : SqL K H a xs) (q : ∀ l, H l = none → Q (.ref l) (upd H l (.tup xs))) : rTupleU K [.ref a] H Q := by unfold rTupleU; exact ⟨_, _, rfl, .inl ⟨h, q⟩⟩
theorem tuple_goT (h : SqT K H a xs) (q : Q (.ref a) H) : rTupleU K [.ref a] H Q := by unfold rTupleU; exact ⟨_, _, rfl, .inr ⟨h, q⟩⟩
theorem all_go {bs : List Bool} (h : SqL K H a (bs.map V.bl)) (q : Q (.bl (bs.all id)) H) : rAllU K [.ref a] H Q := by unfold rAllU; exact ⟨_, _, rfl, h, q⟩
theorem any_go {bs : List Bool} (h : SqL K H a (bs.map V.bl)) (q : Q (.bl (bs.any id)) H) : rAnyU K [.ref a] H Q := by unfold rAnyU; exact ⟨_, _, rfl, h, q⟩
theorem sum_go {ns : List Int} (h : SqL K H a (ns.map V.int)) (q : Q (.int ns.sum) H) : rSumU K [.ref a] H Q := by unfold rSumU; exact ⟨_, _, rfl, h, q⟩
theorem app_go (h : H a = some (.lst xs)) (hl : xs.length < 16777216) (q : Q .non (upd H a (.lst (xs ++ [x])))) : rAppU (.ref a) [x] H Q := by unfold rAppU; exact ⟨_, _, _, rfl, rfl, h, szlt_of hl, q⟩
theorem ext_go (h : H a = some (.lst xs)) (h2 : H b = some (.lst ys)) (hl : xs.length + ys.length ≤ 16777216) (q : Q .non (upd H a (.lst (xs ++ ys)))) : rExtU (.ref a) [.ref b] H Q := by unfold rExtU; exact ⟨_, _, _, _, rfl, rfl, h, h2, sz_of' hl, q⟩
theorem pop0_go (h : H a = some (.lst (x :: xs))) (q : Q x (upd H a (.lst xs))) : rPopU (.ref a) [.int 0] H Q := by
  unfold rPopU
  exact .inr ⟨_, _, _, 0, x, rfl, rfl, h, by decide, by decide, by
    unfold seqIndex?
    have e : (0 : Int) < ((x :: xs).length : Int) := by
      show (0 : Int) < ((xs.length + 1 : Nat) : Int)
      omega
    simp [e], rfl, q⟩
theorem popE_go (h : H a = some (.lst (xs ++ [x]))) (q : Q x (upd H a (.lst xs))) : rPopU (.ref a) [] H Q := by
  unfold rPopU
  refine .inl ⟨_, _, x, rfl, rfl, h, by simp, ?_⟩
  rw [List.dropLast_concat]
  exact q
theorem ty_lst (h : SqL K H a xs) : tyV K "list" (.ref a) H := .inl ⟨rfl, _, h⟩
theorem ty_dK {kvs : List (Key × V)} (h : H a = some (.dK kvs)) : tyV K "dict" (.ref a) H := .inr (.inr (.inl ⟨rfl, .inl ⟨_, h⟩⟩))
theorem slL_go {lo hi : Option Int} (h : SqL K H a xs) (q : ∀ p, H p = none → Q (.ref p) (upd H p (.lst (cutV xs lo hi)))) : rSlLU K (.ref a) lo hi H Q := by unfold rSlLU; exact ⟨_, _, rfl, h, q⟩
theorem slS_go {lo hi : Option Int} {z : Str} (h : z.length ≤ 16777216) (q : Q (.str (cutS z lo hi)) H) : rSlSU (.str z) lo hi H Q := by unfold rSlSU; exact ⟨_, rfl, sz_of' h, q⟩
end

/-! ### heaps -/
/-- all but the places of M is kept -/
def Kp (M : List Addr) (H H' : Hp) : Prop := ∀ a o, a ∉ M → H a = some o → H' a = some o
theorem Kp.refl {M : List Addr} {H : Hp} : Kp M H H := fun _ _ _ h => h
theorem Kp.trans {M : List Addr} {H H1 H2 : Hp} (a : Kp M H H1) (b : Kp M H1 H2) : Kp M H H2 := fun x o n h => b x o n (a x o n h)
theorem Kp.at_ {M : List Addr} {H H' : Hp} {a : Addr} {o : HO} (k : Kp M H H') (n : a ∉ M) (h : H a = some o) : H' a = some o := k a o n h
theorem Same.at_ {H H' : Hp} {a : Addr} {o : HO} (k : Same H H') (h : H a = some o) : H' a = some o := k a o h
theorem Kp.sqL {M : List Addr} {K : PySem.W.Frag} {H H' : Hp} {a : Addr} {xs : List V} (k : Kp M H H') (n : a ∉ M) (h : SqL K H a xs) : SqL K H' a xs := by
  rcases h with (h | ⟨o, h⟩) | h
  · exact .inl (.inl (k _ _ n h))
  · exact .inl (.inr ⟨o, k _ _ n h⟩)
  · exact .inr h
theorem Kp.upd_in {M : List Addr} {H H' : Hp} {a : Addr} {o : HO} (k : Kp M H H') (h : a ∈ M) : Kp M H (upd H' a o) := fun x u n e => by
  rw [upd_ne (fun z => n (by rw [z]; exact h))]
  exact k x u n e
theorem Kp.upd_new {M : List Addr} {H H' : Hp} {a : Addr} {o : HO} (k : Kp M H H') (h : H a = none) : Kp M H (upd H' a o) := fun x u n e => by
  rw [upd_ne (ne_of_none e h)]
  exact k x u n e
theorem Kp.upd_new' {M : List Addr} {H H' : Hp} {a : Addr} {o : HO} (k : Kp M H H') (h : H' a = none) : Kp M H (upd H' a o) := fun x u n e => by
  rw [upd_ne (ne_of_none (k x u n e) h)]
  exact k x u n e
theorem Kp.mono {M N : List Addr} {H H' : Hp} (k : Kp M H H') (h : ∀ a, a ∈ M → a ∈ N) : Kp N H H' := fun x u n e => k x u (fun z => n (h x z)) e
/-- what is changed was not there at first -/
theorem Kp.drop {M N : List Addr} {H H1 H2 : Hp} (k : Kp M H H1) (k2 : Kp N H1 H2) (h : ∀ a, a ∈ N → a ∈ M ∨ H a = none) : Kp M H H2 := fun x u n e => by
  refine k2 x u (fun z => ?_) (k x u n e)
  rcases h x z with q | q
  · exact n q
  · rw [e] at q
    cases q
theorem Kp.none_of {M : List Addr} {H H' : Hp} {p : Addr} (k : Kp M H H') (n : p ∉ M) (h : H' p = none) : H p = none := by
  cases q : H p with
  | none => rfl
  | some o =>
    rw [k p o n q] at h
    cases h
theorem nm_cons {a b : Addr} {M : List Addr} (h : a ≠ b) (t : a ∉ M) : a ∉ b :: M := fun z => by
  rcases List.mem_cons.mp z with e | e
  · exact h e
  · exact t e
theorem st_nx {D : Ends} {σ : L2.St} {H : Hp} (q : D.nx σ H) : tNext D σ H := q
theorem iteD {c A B : Prop} [Decidable c] (h1 : c → A) (h2 : ¬ c → B) : if decide c = true then A else B := by
  by_cases h : c
  · rw [decide_eq_true h]
    exact iteT (h1 h)
  · rw [decide_eq_false h]
    exact iteF (h2 h)
theorem Kp.of_same {M : List Addr} {H H' : Hp} (a : Same H H') : Kp M H H' := fun x o _ h => a x o h

/-! ### comprehensions: what is made so far is told -/
def Acc (D : Addr) (Pv : Nat → List V → Hp → Prop) (i : Nat) (H : Hp) : Prop := ∃ acc, acc.length ≤ i ∧ H D = some (.lst acc) ∧ Pv i acc H
theorem lc_acc {J : It} {n : Nat} {G : Hp → Prop} {Y : Nat → Hp → V → Hp → Prop} (w : Walk J n G Y) {g : TG} {tt : TT} {te : TE} {vs : List Nat} {σ : L2.St} {H1 : Hp} {D : Addr} {Qd : Hp → Prop} (Pv : Nat → List V → Hp → Prop)
    (h0 : Pv 0 [] (upd H1 D (.lst []))) (hG : ∀ i acc H, i ≤ n → Pv i acc H → G H)
    (hs : ∀ i x acc H H', i < n → acc.length ≤ i → H D = some (.lst acc) → Pv i acc H → Y i H x H' → g x (wipe σ vs) H' fun σ2 H2 => wipe σ2 vs = wipe σ vs ∧ tt σ2 H2 fun b H3 =>
      if b = true then te σ2 H3 fun y H4 => ∃ acc, H4 D = some (.lst acc) ∧ acc.length < sizeLine ∧ Acc D Pv (i + 1) (upd H4 D (.lst (acc ++ [y]))) else Acc D Pv (i + 1) H3)
    (hd : ∀ acc H, acc.length ≤ n → H D = some (.lst acc) → Pv n acc H → Qd H) :
    ∃ W : Nat → Nat → Hp → Prop, (∃ m, W 0 m (upd H1 D (.lst []))) ∧ ∀ i m H, W i m H →
      (J.stop i H ∧ Qd H) ∨ (J.go i H ∧ ∃ Nx : Hp → Prop, (∀ H', Nx H' → ∃ m', m' < m ∧ W (i + 1) m' H') ∧ ∀ x H', J.yld i H x H' → g x (wipe σ vs) H' fun σ2 H2 => wipe σ2 vs = wipe σ vs ∧ tt σ2 H2 fun b H3 =>
        if b = true then te σ2 H3 fun y H4 => ∃ acc, H4 D = some (.lst acc) ∧ acc.length < sizeLine ∧ Nx (upd H4 D (.lst (acc ++ [y]))) else Nx H3) :=
  lc_it w (Acc D Pv) ⟨[], Nat.zero_le _, upd_same, h0⟩ (fun i H hi ⟨acc, _, _, p⟩ => hG i acc H hi p) (fun i x H H' hi ⟨acc, hl, hD, p⟩ y => hs i x acc H H' hi hl hD p y) (fun H ⟨acc, hl, hD, p⟩ => hd acc H hl hD p)
theorem acc_go {D : Addr} {Pv : Nat → List V → Hp → Prop} {i : Nat} {H : Hp} {acc : List V} {y : V} (hl : acc.length ≤ i) (hi : i < 16777215) (hD : H D = some (.lst acc)) (p : Pv (i + 1) (acc ++ [y]) (upd H D (.lst (acc ++ [y])))) :
    ∃ acc, H D = some (.lst acc) ∧ acc.length < sizeLine ∧ Acc D Pv (i + 1) (upd H D (.lst (acc ++ [y]))) := by
  refine ⟨acc, hD, Nat.lt_of_le_of_lt (show acc.length ≤ 16777215 by omega) (by decide), acc ++ [y], ?_, upd_same, p⟩
  rw [List.length_append]
  show acc.length + 1 ≤ i + 1
  omega
theorem acc_skip {D : Addr} {Pv : Nat → List V → Hp → Prop} {i : Nat} {H : Hp} {acc : List V} (hl : acc.length ≤ i) (hD : H D = some (.lst acc)) (p : Pv (i + 1) acc H) : Acc D Pv (i + 1) H := ⟨acc, Nat.le_succ_of_le hl, hD, p⟩
/-! ### isinstance of built-in kinds -/
theorem ki_NoneType_str {K : PySem.W.Frag} : PySem.W.kitOne K (.type "NoneType") (.type "str") = some false := kit_ty (by decide +kernel)
theorem ki_NoneType_int {K : PySem.W.Frag} : PySem.W.kitOne K (.type "NoneType") (.type "int") = some false := kit_ty (by decide +kernel)
theorem ki_NoneType_bool {K : PySem.W.Frag} : PySem.W.kitOne K (.type "NoneType") (.type "bool") = some false := kit_ty (by decide +kernel)
theorem ki_NoneType_list {K : PySem.W.Frag} : PySem.W.kitOne K (.type "NoneType") (.type "list") = some false := kit_ty (by decide +kernel)
theorem ki_NoneType_tuple {K : PySem.W.Frag} : PySem.W.kitOne K (.type "NoneType") (.type "tuple") = some false := kit_ty (by decide +kernel)
theorem ki_NoneType_dict {K : PySem.W.Frag} : PySem.W.kitOne K (.type "NoneType") (.type "dict") = some false := kit_ty (by decide +kernel)
theorem ki_bool_str {K : PySem.W.Frag} : PySem.W.kitOne K (.type "bool") (.type "str") = some false := kit_ty (by decide +kernel)
theorem ki_bool_int {K : PySem.W.Frag} : PySem.W.kitOne K (.type "bool") (.type "int") = some true := kit_ty (by decide +kernel)
theorem ki_bool_bool {K : PySem.W.Frag} : PySem.W.kitOne K (.type "bool") (.type "bool") = some true := kit_ty (by decide +kernel)
theorem ki_bool_list {K : PySem.W.Frag} : PySem.W.kitOne K (.type "bool") (.type "list") = some false := kit_ty (by decide +kernel)
theorem ki_bool_tuple {K : PySem.W.Frag} : PySem.W.kitOne K (.type "bool") (.type "tuple") = some false := kit_ty (by decide +kernel)
theorem ki_bool_dict {K : PySem.W.Frag} : PySem.W.kitOne K (.type "bool") (.type "dict") = some false := kit_ty (by decide +kernel)
theorem ki_int_str {K : PySem.W.Frag} : PySem.W.kitOne K (.type "int") (.type "str") = some false := kit_ty (by decide +kernel)
theorem ki_int_int {K : PySem.W.Frag} : PySem.W.kitOne K (.type "int") (.type "int") = some true := kit_ty (by decide +kernel)
theorem ki_int_bool {K : PySem.W.Frag} : PySem.W.kitOne K (.type "int") (.type "bool") = some false := kit_ty (by decide +kernel)
theorem ki_int_list {K : PySem.W.Frag} : PySem.W.kitOne K (.type "int") (.type "list") = some false := kit_ty (by decide +kernel)
theorem ki_int_tuple {K : PySem.W.Frag} : PySem.W.kitOne K (.type "int") (.type "tuple") = some false := kit_ty (by decide +kernel)
theorem ki_int_dict {K : PySem.W.Frag} : PySem.W.kitOne K (.type "int") (.type "dict") = some false := kit_ty (by decide +kernel)
theorem ki_str_str {K : PySem.W.Frag} : PySem.W.kitOne K (.type "str") (.type "str") = some true := kit_ty (by decide +kernel)
theorem ki_str_int {K : PySem.W.Frag} : PySem.W.kitOne K (.type "str") (.type "int") = some false := kit_ty (by decide +kernel)
theorem ki_str_bool {K : PySem.W.Frag} : PySem.W.kitOne K (.type "str") (.type "bool") = some false := kit_ty (by decide +kernel)
theorem ki_str_list {K : PySem.W.Frag} : PySem.W.kitOne K (.type "str") (.type "list") = some false := kit_ty (by decide +kernel)
theorem ki_str_tuple {K : PySem.W.Frag} : PySem.W.kitOne K (.type "str") (.type "tuple") = some false := kit_ty (by decide +kernel)
theorem ki_str_dict {K : PySem.W.Frag} : PySem.W.kitOne K (.type "str") (.type "dict") = some false := kit_ty (by decide +kernel)
theorem ki_list_str {K : PySem.W.Frag} : PySem.W.kitOne K (.type "list") (.type "str") = some false := kit_ty (by decide +kernel)
theorem ki_list_int {K : PySem.W.Frag} : PySem.W.kitOne K (.type "list") (.type "int") = some false := kit_ty (by decide +kernel)
theorem ki_list_bool {K : PySem.W.Frag} : PySem.W.kitOne K (.type "list") (.type "bool") = some false := kit_ty (by decide +kernel)
theorem ki_list_list {K : PySem.W.Frag} : PySem.W.kitOne K (.type "list") (.type "list") = some true := kit_ty (by decide +kernel)
theorem ki_list_tuple {K : PySem.W.Frag} : PySem.W.kitOne K (.type "list") (.type "tuple") = some false := kit_ty (by decide +kernel)
theorem ki_list_dict {K : PySem.W.Frag} : PySem.W.kitOne K (.type "list") (.type "dict") = some false := kit_ty (by decide +kernel)
theorem ki_tuple_str {K : PySem.W.Frag} : PySem.W.kitOne K (.type "tuple") (.type "str") = some false := kit_ty (by decide +kernel)
theorem ki_tuple_int {K : PySem.W.Frag} : PySem.W.kitOne K (.type "tuple") (.type "int") = some false := kit_ty (by decide +kernel)
theorem ki_tuple_bool {K : PySem.W.Frag} : PySem.W.kitOne K (.type "tuple") (.type "bool") = some false := kit_ty (by decide +kernel)
theorem ki_tuple_list {K : PySem.W.Frag} : PySem.W.kitOne K (.type "tuple") (.type "list") = some false := kit_ty (by decide +kernel)
theorem ki_tuple_tuple {K : PySem.W.Frag} : PySem.W.kitOne K (.type "tuple") (.type "tuple") = some true := kit_ty (by decide +kernel)
theorem ki_tuple_dict {K : PySem.W.Frag} : PySem.W.kitOne K (.type "tuple") (.type "dict") = some false := kit_ty (by decide +kernel)
theorem ki_dict_str {K : PySem.W.Frag} : PySem.W.kitOne K (.type "dict") (.type "str") = some false := kit_ty (by decide +kernel)
theorem ki_dict_int {K : PySem.W.Frag} : PySem.W.kitOne K (.type "dict") (.type "int") = some false := kit_ty (by decide +kernel)
theorem ki_dict_bool {K : PySem.W.Frag} : PySem.W.kitOne K (.type "dict") (.type "bool") = some false := kit_ty (by decide +kernel)
theorem ki_dict_list {K : PySem.W.Frag} : PySem.W.kitOne K (.type "dict") (.type "list") = some false := kit_ty (by decide +kernel)
theorem ki_dict_tuple {K : PySem.W.Frag} : PySem.W.kitOne K (.type "dict") (.type "tuple") = some false := kit_ty (by decide +kernel)
theorem ki_dict_dict {K : PySem.W.Frag} : PySem.W.kitOne K (.type "dict") (.type "dict") = some true := kit_ty (by decide +kernel)
theorem Kp.sqT {M : List Addr} {K : PySem.W.Frag} {H H' : Hp} {a : Addr} {xs : List V} (k : Kp M H H') (n : a ∉ M) (h : SqT K H a xs) : SqT K H' a xs := by
  rcases h with (h | ⟨o, h⟩) | h
  · exact .inl (.inl (k _ _ n h))
  · exact .inl (.inr ⟨o, k _ _ n h⟩)
  · exact .inr h
theorem iteN {c A B : Prop} [Decidable c] (h1 : ¬ c → A) (h2 : c → B) : if (!decide c) = true then A else B := by
  by_cases h : c
  · rw [decide_eq_true h]
    exact iteF (h2 h)
  · rw [decide_eq_false h]
    exact iteT (h1 h)
theorem iteB {b : Bool} {A B : Prop} (h1 : b = true → A) (h2 : b = false → B) : if b = true then A else B := by
  cases b with
  | true => exact iteT (h1 rfl)
  | false => exact iteF (h2 rfl)
theorem tyX_same {K : PySem.W.Frag} {H H' : Hp} {x : V} {t : Value} (s : Same H H') (h : TyX K H x t) : TyX K H' x t := by
  cases h with
  | base b =>
    refine .base ?_
    cases b with
    | non => exact .non
    | bl y => exact .bl y
    | int i => exact .int i
    | str y => exact .str y
    | flt y => exact .flt y
    | lst e => exact .lst (s _ _ e)
    | frz e => exact .frz (s _ _ e)
    | tup e => exact .tup (s _ _ e)
    | dK e => exact .dK (s _ _ e)
    | dT e => exact .dT (s _ _ e)
    | ins e a b c d f => exact .ins (s _ _ e) a b c d f
  | byt b => exact .byt b
  | set e => exact .set (s _ _ e)
  | kList e c => exact .kList e c
  | kTuple e c => exact .kTuple e c
  | kDict e c => exact .kDict e c
  | fTuple e => exact .fTuple (s _ _ e)
  | fDict e => exact .fDict (s _ _ e)
theorem Kp.same {H H' : Hp} (k : Kp [] H H') : Same H H' := fun a o e => k a o List.not_mem_nil e
theorem str_size (z : Str) : z.cps.size = z.length := rfl
end Kb
/-! ### data: what == asks -/
namespace Kb
open PySem PySem.Spec PyProof.Rows L2
/-- small data: no deeper than n, its texts of signs that there are -/
def Sh (n : Nat) (d : PyData) : Prop := d.canLay0 = true ∧ d.depth ≤ n
theorem Sh.ok {n : Nat} {d : PyData} (h : Sh n d) (hn : n ≤ 64) : SeqAt.shaped d = true := by
  unfold SeqAt.shaped
  rw [h.1, Bool.true_and]
  exact decide_eq_true (Nat.le_trans h.2 hn)
theorem sh_non {n : Nat} : Sh n .none := ⟨by simp [PyData.canLay0], by simp [PyData.depth]⟩
theorem sh_bl {n : Nat} {b : Bool} : Sh n (.bool b) := ⟨by simp [PyData.canLay0], by simp [PyData.depth]⟩
theorem sh_int {n : Nat} {i : Int} : Sh n (.int i) := ⟨by simp [PyData.canLay0], by simp [PyData.depth]⟩
theorem sh_str {n : Nat} {x : Str} (h : ∀ c ∈ x.cps.toList, c < 1114112) : Sh n (.str x) := by
  refine ⟨?_, by simp [PyData.depth]⟩
  simp only [PyData.canLay0, PyData.strOk]
  exact Array.all_eq_true'.mpr fun c hc => decide_eq_true (h c (Array.mem_toList_iff.mpr hc))
theorem sh_all {n : Nat} : ∀ {ds : List PyData}, (∀ d ∈ ds, Sh n d) → PyData.canLayAll0 ds = true ∧ PyData.depthAll ds ≤ n
  | [], _ => ⟨by simp [PyData.canLayAll0], by simp [PyData.depthAll]⟩
  | d :: ds, h => by
    obtain ⟨a, b⟩ := h d (by simp)
    obtain ⟨c, e⟩ := sh_all fun x hx => h x (List.mem_cons_of_mem _ hx)
    exact ⟨by simp only [PyData.canLayAll0, a, c, Bool.and_self], by simp only [PyData.depthAll]; omega⟩
theorem sh_lst {n : Nat} {ds : List PyData} (h : ∀ d ∈ ds, Sh n d) : Sh (n + 1) (.list ds) := by
  obtain ⟨a, b⟩ := sh_all h
  exact ⟨by simp only [PyData.canLay0, a], by simp only [PyData.depth]; omega⟩
theorem sh_tup {n : Nat} {ds : List PyData} (h : ∀ d ∈ ds, Sh n d) : Sh (n + 1) (.tuple ds) := by
  obtain ⟨a, b⟩ := sh_all h
  exact ⟨by simp only [PyData.canLay0, a], by simp only [PyData.depth]; omega⟩
theorem sh_nil {n : Nat} : Sh (n + 1) (.list []) := sh_lst fun d h => nomatch h
theorem eqv_lnil : ∀ ds : List PyData, PyData.eqv (.list ds) (.list []) = ds.isEmpty
  | [] => by simp [PyData.eqv, PyData.eqvAll]
  | d :: ds => by simp [PyData.eqv, PyData.eqvAll]
/-- a list of ints as data -/
theorem dp_ints {K : PySem.W.Frag} {H : Hp} : ∀ ns : List Int, DpAll K H (ns.map V.int) (ns.map PyData.int)
  | [] => .nil
  | n :: ns => .cons (.int n) (dp_ints ns)
theorem sh_ints {ns : List Int} : Sh 1 (.list (ns.map PyData.int)) := sh_lst (n := 0) fun d h => by
  obtain ⟨i, _, rfl⟩ := List.mem_map.mp h
  exact sh_int
theorem eqvAll_ints : ∀ xs ys : List Int, PyData.eqvAll (xs.map PyData.int) (ys.map PyData.int) = decide (xs = ys)
  | [], [] => by simp [PyData.eqvAll]
  | [], y :: ys => by simp [PyData.eqvAll]
  | x :: xs, [] => by simp [PyData.eqvAll]
  | x :: xs, y :: ys => by
    have ih := eqvAll_ints xs ys
    simp only [List.map_cons, PyData.eqvAll, PyData.eqv, ih]
    by_cases h : x = y
    · subst h
      simp
    · simp [h]
theorem eqv_ints (xs ys : List Int) : PyData.eqv (.list (xs.map PyData.int)) (.list (ys.map PyData.int)) = decide (xs = ys) := by
  simp only [PyData.eqv]
  exact eqvAll_ints xs ys
end Kb
/-! ### slices -/
namespace Kb
open PySem PySem.Spec PyProof.Rows L2
def cutI {α : Type} (xs : List α) (lo hi : Option Int) : List α := (xs.drop (HT.sIx xs.length 0 lo)).take (HT.sIx xs.length xs.length hi - HT.sIx xs.length 0 lo)
theorem cutV_map {α : Type} (f : α → V) (xs : List α) (lo hi : Option Int) : cutV (xs.map f) lo hi = (cutI xs lo hi).map f := by
  unfold cutV cutI
  rw [List.length_map, List.map_take, List.map_drop]
theorem cutI_len {α : Type} (xs : List α) (lo hi : Option Int) : (cutI xs lo hi).length ≤ xs.length := by
  unfold cutI
  rw [List.length_take, List.length_drop]
  omega
theorem cutI_mem {α : Type} {xs : List α} {lo hi : Option Int} {x : α} (h : x ∈ cutI xs lo hi) : x ∈ xs := List.mem_of_mem_drop (List.mem_of_mem_take h)
end Kb
/-! ### calls by names alone -/
namespace Kb
open PySem PySem.Spec PyProof.Rows L2
theorem pe_callKw {X : Cx} {CX : CXT} {k : Nat} {x : Str} {st : Stmt} {ps ks : List Str} {sp : Sp} {E : XK} {kws : List Keyword} {tk : TA} {p pos : Pos} (D : Def X.K X.mg st x) (C : Cal X.prog X.w X.K X.mg X.base CX k x ps sp)
    (kb : ∀ (kV doc pm : Value) (an : Option Addr) (cdv ct : Value) (us ws : List Value), (us ++ (ws ++ [])).length = ps.length → bindArgs (PySem.W.fnOf x x (defArgs st) (defBody st) (defScope st) .none kV doc pm an cdv ct) ⟨us, ks.zip ws⟩ = pure (ps.zip (us ++ (ws ++ []))))
    (hr : Room k X.A) (hg : Gl X x) (hx : Passes CX X E) (hkw : PK X kws tk) (hall : (backToKw pos (keywordEach kws X.env)).all (·.1.isSome) = true := by rfl) (hks : (backToKw pos (keywordEach kws X.env)).filterMap (·.1) = ks := by rfl)
    (hdb : (x == ("__debug__" : Str)) = false := by decide)
    (hpl : ((backTo pos (starEach [] X.env)).any (·.1) || (backToKw pos (keywordEach kws X.env)).any (·.1.isNone)) = false := by rfl) :
    PE X (.Call (.Name x p) [] kws pos) (tCall sp [] E tk) := by
  obtain ⟨f, fd, hm, F, hk, _, hA⟩ := C.ex
  obtain ⟨f', fd', hm', F'⟩ := D
  have e := hm'.symm.trans hm
  cases e
  have e2 := hA.eq (Fun.at_ F')
  subst e2
  have K1 : KBinds X.K fd ps ks (fun us ws => us ++ (ws ++ [])) (fun vs zs => vs ++ (zs ++ [])) := by
    obtain ⟨oc, od, kV, doc, pm, an, cdv, ct, osl, rfl, lk, hcd⟩ := F'.ex
    exact ⟨fun s us ws _ hl => .of_eq (kb kV doc pm an cdv ct us ws hl), fun r r' => r.append (r'.append .nil)⟩
  exact pe_callK0 F hr hg hm hk K1 hx hkw hall hks hdb hpl
end Kb
/-! ### enumerate(v, start=k): v a list or a tuple that stands still -/
namespace Kb
open PySem PySem.Spec PyProof.Rows L2
/-- a thing at a that is walked by an iterator of its own: St H xs tells that it holds xs, Ar h its that the machine's object does, At h it i that the iterator stands at i -/
structure Src (K : PySem.W.Frag) (a : Addr) (S : Hp → List V → Prop) (Ar : Heap → Array Value → Prop) (At : Heap → Addr → Nat → Prop) (ob : Obj) : Prop where
  get : ∀ {X : Cx} {pins : List (Addr × Obj)} {σ : L2.St} {H : Hp} {s : Shared} {xs : List V}, X.K = K → Inv X pins σ H s → S H xs → ∃ its : List Value, Vals xs its ∧ Ar s.heap its.toArray
  inj : ∀ {X : Cx} {pins : List (Addr × Obj)} {σ : L2.St} {H : Hp} {s : Shared} {xs ys : List V}, X.K = K → Inv X pins σ H s → S H xs → S H ys → xs = ys
  lives : ∀ {h : Heap} {its : Array Value}, Ar h its → ∃ o, h.get? a = some o
  iobj : ∀ {h : Heap} {it : Addr} {i : Nat}, At h it i → ∃ o, h.get? it = some o ∧ ∀ v, o.data ≠ .cell v
  ikeep : ∀ {h h' : Heap} {it : Addr} {i : Nat}, At h it i → (∀ o, h.get? it = some o → h'.get? it = some o) → At h' it i
  draw : ∀ (prog : Program) (w : World) (A : Around) (it : Addr) (its : Array Value), A.handled = none → a ≠ it → Draws prog w A it [it, a] its.size (fun i v => its[i]? = some v) (fun i h => At h it i ∧ Ar h its)
  begin : ∀ its, Begins (.ref a) ob fun h => Ar h its
  first : ∀ {h : Heap} {it : Addr}, h.get? it = some ob → At h it 0
theorem src_list (K : PySem.W.Frag) (a : Addr) : Src K a (fun H xs => SqL K H a xs) (fun h its => h.IsList a its) (fun h it i => h.IsListIter it a i) { cls := .type "list_iterator", data := .fields #[.ref a, .int 0 0] } where
  get := fun hK I h => by
    subst hK
    obtain ⟨its, r, p, _⟩ := I.list h
    exact ⟨its, r, p.isList⟩
  inj := fun hK I h h' => by
    subst hK
    exact I.list_inj h h'
  lives := fun ⟨o, e, _⟩ => ⟨o, e⟩
  iobj := fun ⟨o, e, _, d⟩ => ⟨o, e, fun v z => by rw [d] at z; cases z⟩
  ikeep := fun st k => st.at k
  draw := fun prog w A it its hh ne => Draws.list hh it a ne its
  begin := fun its => begins_list a its
  first := fun e => ⟨_, e, rfl, rfl⟩
theorem src_tup (K : PySem.W.Frag) (a : Addr) : Src K a (fun H xs => SqT K H a xs) (fun h its => h.IsTuple a its) (fun h it i => h.IsTupleIter it a i) { cls := .type "tuple_iterator", data := .fields #[.ref a, .int 0 0] } where
  get := fun hK I h => by
    subst hK
    obtain ⟨its, r, p, _⟩ := I.tuple h
    exact ⟨its, r, p⟩
  inj := fun hK I h h' => by
    subst hK
    exact I.tuple_inj h h'
  lives := fun ⟨o, e, _⟩ => ⟨o, e⟩
  iobj := fun ⟨o, e, _, d⟩ => ⟨o, e, fun v z => by rw [d] at z; cases z⟩
  ikeep := fun st k => st.at k
  draw := fun prog w A it its hh ne => Draws.tuple hh it a ne its
  begin := fun its => begins_tuple a its
  first := fun e => ⟨_, e, rfl, rfl⟩
def ItS (S : Hp → List V → Prop) (k : Int) : It :=
  ⟨fun i H => ∃ xs x, S H xs ∧ xs[i]? = some x, fun i H v H' => ∃ T x, v = .ref T ∧ H T = none ∧ H' = upd H T (.tup [.int (k + (i : Nat)), x]) ∧ ∀ xs, S H xs → xs[i]? = some x, fun i H => ∃ xs : List V, S H xs ∧ xs.length = i⟩
section
variable {K : PySem.W.Frag} {a : Addr} {S : Hp → List V → Prop} {Ar : Heap → Array Value → Prop} {At : Heap → Addr → Nat → Prop} {ob : Obj}
theorem turn_enumS (sr : Src K a S Ar At ob) {P : Program} {w : World} {elts : List Expr} {kk : Nat} {tpos : Pos} (k : Int) (e it : Addr) (hai : a ≠ it) (hei : e ≠ it) (hea : e ≠ a) :
    Turn P w K (.Tuple elts kk tpos) (ItS S k) [e, it] e (fun i h => (∃ old, IsEnum h e it (k + (i : Nat)) old) ∧ At h it i) where
  mem := List.mem_cons_self
  obj := fun i h ⟨⟨old, he⟩, hi⟩ b hb => by
    rcases List.mem_cons.mp hb with z | z
    · subst z
      exact ⟨_, he, fun v q => nomatch q⟩
    · rw [List.mem_singleton.mp z]
      exact sr.iobj hi
  keep := fun i h h' ⟨⟨old, he⟩, hi⟩ kp => ⟨⟨old, kp e List.mem_cons_self _ he⟩, sr.ikeep hi fun o q => kp it (List.mem_cons_of_mem _ (List.mem_singleton.mpr rfl)) o q⟩
  item := fun X hP hw hK hc i pins s σ H E I hf st hg => by
    subst hP hw
    obtain ⟨xs, x, hS, hx⟩ := hg
    obtain ⟨its, rv, hA⟩ := sr.get hK I hS
    have hlen := rv.length
    have hil : i < its.toArray.size := by
      have := (List.getElem?_eq_some_iff.mp hx).1
      simp only [List.size_toArray]
      omega
    have D := sr.draw X.prog X.w X.A.in1 it its.toArray (I.ok.hd hc) hai
    have hef : e ∉ [it, a] := fun z => by
      rcases List.mem_cons.mp z with q | q
      · exact hei q
      · exact hea (List.mem_singleton.mp q)
    refine (GoesN.enumFrom (elts := elts) (x1 := kk) (pos := tpos) k D e hei hef List.mem_cons_self).goes i s _ E hil ⟨st.1, st.2, hA⟩ fun v h' tk hY st' hk _ => ?_
    obtain ⟨T, t, u, rfl, hT, hu, hTup⟩ := hY
    have hx2 : its[i]? = some u := by simpa using hu
    obtain ⟨u', hu', ru⟩ := rv.get hx
    rw [hx2] at hu'
    cases hu'
    have hk' : ∀ b o, b ∉ [e, it] → s.heap.get? b = some o → h'.get? b = some o := hk
    have new : ObjOk X.prog X.w (upd H T (.tup [.int (k + (i : Nat)), x])) h' T (.tup [.int (k + (i : Nat)), x]) := ⟨by show 2 ≤ sizeLine; decide, _, .cons ⟨_, rfl⟩ (.cons ru .nil), hTup⟩
    refine ⟨.ref T, _, I.turnedNew (t' := tk) hk' hf hT new, rfl, ⟨T, x, rfl, I.hok.fresh hT, rfl, fun ys hy => by rw [sr.inj hK I hy hS]; exact hx⟩, ⟨st'.1, st'.2.1⟩, fun b hb => ?_⟩
    obtain ⟨o, hbo⟩ : ∃ o, s.heap.get? b = some o := by
      rcases List.mem_cons.mp hb with z | z
      · rw [z]
        obtain ⟨old, q⟩ := st.1
        exact ⟨_, q⟩
      · rw [List.mem_singleton.mp z]
        obtain ⟨o, q, _⟩ := sr.iobj st.2
        exact ⟨o, q⟩
    rw [upd_ne (Nat.ne_of_lt (Nat.lt_of_lt_of_le (Heap.lt_size hbo) hT))]
    exact (hf b hb).1
  done := fun X hP hw hK hc i pins s σ H E I hf st hg => by
    subst hP hw
    obtain ⟨xs, hS, hx⟩ := hg
    obtain ⟨its, rv, hA⟩ := sr.get hK I hS
    have hlen := rv.length
    have D := sr.draw X.prog X.w X.A.in1 it its.toArray (I.ok.hd hc) hai
    have ei : i = its.toArray.size := by
      simp only [List.size_toArray]
      omega
    subst ei
    obtain ⟨f0, f1, f2, f3, f4, f5⟩ := hf it (List.mem_cons_of_mem _ (List.mem_singleton.mpr rfl))
    obtain ⟨old, he⟩ := st.1
    exact wpAny_pyNext_enum_endD D he ⟨st.2, hA⟩ fun h' eb => ⟨rfl, I.turned (t' := s.toks) (fun b o hb q => eb b o hb q) f0 f1 f3 f4 f5⟩
  self := fun A i s Q E st h => let ⟨⟨_, he⟩, _⟩ := st; wpAny_pyIter_enum he h
end
/-- enumerate(v, start=k) -/
@[irreducible] def iEnumS (K : PySem.W.Frag) (ta : TA) (tk : TE) : TI := fun σ H R => ta σ H fun vs H1 => tk σ H1 fun z H2 => ∃ a k, vs = [.ref a] ∧ z = .int k ∧ (-9223372036854775808 ≤ k ∧ k < 9223372036854775808) ∧
  ((∃ xs, SqL K H2 a xs ∧ R (ItS (fun H xs => SqL K H a xs) k) H2) ∨ ∃ xs, SqT K H2 a xs ∧ R (ItS (fun H xs => SqT K H a xs) k) H2)
section
variable {X : Cx} {e ke : Expr} {ta : TA} {tk : TE} {p pos kpos tpos : Pos} {elts : List Expr} {kk : Nat}
theorem enumS_go {K : PySem.W.Frag} {a : Addr} {S : Hp → List V → Prop} {Ar : Heap → Array Value → Prop} {At : Heap → Addr → Nat → Prop} {ob : Obj} (hK : X.K = K) (sr : Src K a S Ar At ob) {pins : List (Addr × Obj)} {s : Shared} {σ : L2.St} {H : Hp} {R : It → Hp → Prop} {xs : List V} {k : Int} {t : Tok}
    (I : Inv X pins σ H s) (hS : S H xs) (h0 : -9223372036854775808 ≤ k) (h1 : k < 9223372036854775808) (q : R (ItS S k) H) :
    wpAny (model X.prog X.w) X.A (PySem.call (.type "enumerate") [.ref a] [(Str.ofString "start", .int k t)]) (fun v s1 => wpAny (model X.prog X.w) X.A (pyIter v) (PIE X pins σ (.Tuple elts kk tpos) R) X.xe s1) X.xe s := by
  obtain ⟨its, rv, hA⟩ := sr.get hK I hS
  subst hK
  refine enum_begins_start (sr.begin its.toArray) hA (by omega) (by omega) fun h' he hit hsz hk => wpAny_pyIter_enum he ?_
  have I2 : Inv X pins σ H { s with heap := h' } := I.kept (t' := s.toks) hk
  obtain ⟨o, ho⟩ := sr.lives hA
  have hlt := Heap.lt_size ho
  refine ⟨s.heap.objs.size + 1, [s.heap.objs.size + 1, s.heap.objs.size], _, _, H, rfl, I2, turn_enumS sr k (s.heap.objs.size + 1) s.heap.objs.size (Nat.ne_of_lt hlt) (Nat.succ_ne_self _) (Nat.ne_of_gt (Nat.lt_succ_of_lt hlt)), ⟨⟨.none, ?_⟩, sr.first hit⟩, fun b hb => ?_, q⟩
  · have e0 : k + ((0 : Nat) : Int) = k := by omega
    rw [e0]
    exact he
  · have hle : s.heap.objs.size ≤ b := by
      rcases List.mem_cons.mp hb with z | z
      · rw [z]
        exact Nat.le_succ _
      · rw [List.mem_singleton.mp z]
        exact Nat.le_refl _
    exact I.fpOk hle (I.hok.fresh hle)
/-- a built-in class called with names -/
theorem callTy_kw {M : Model} {A : Around} {E : Value → Shared → Prop} {s : Shared} {env : Env} {T : String} {kws : List Keyword} {Q : Value → Shared → Prop}
    (h : wpAny M A (spliced (backTo pos (starEach [e] env))) (fun vs s1 => wpAny M A (evalAll ((backToKw pos (keywordEach kws env)).map (·.2)))
      (fun ks s2 => wpAny M A (PySem.call (.type T) vs (((backToKw pos (keywordEach kws env)).filterMap (·.1)).zip ks)) Q E s2) E s1) E s)
    (he : backTo pos (starEach [e] env) = (false, eval e env) :: backTo pos (starEach [] env)) (hp : ((backTo pos (starEach [e] env)).any (·.1) || (backToKw pos (keywordEach kws env)).any (·.1.isNone)) = false)
    (ha : (backToKw pos (keywordEach kws env)).all (·.1.isSome) = true) :
    wpAny M A (callWith pos (.type T) [] (backTo pos (starEach [e] env)) (backToKw pos (keywordEach kws env))) Q E s := by
  refine PySem.W.callWith_of (P := fun _ => True) hp (fun _ _ => ⟨.machine, .inr (.inl rfl), .now⟩) ?_
  rw [he] at h ⊢
  exact evalArgs_kwB ha (thn h fun vs s1 h1 => thn h1 fun ks s2 h2 => ⟨trivial, h2⟩)
theorem pi_enumS (hg : Gl X "enumerate") (hm : X.mg "enumerate" = none) (ha : PA X [e] ta) (hk : PE X ke tk)
    (he : backTo pos (starEach [e] X.env) = (false, eval e X.env) :: backTo pos (starEach [] X.env) := by rfl)
    (hp : ((backTo pos (starEach [e] X.env)).any (·.1) || (backToKw pos (keywordEach [⟨some "start", ke, kpos⟩] X.env)).any (·.1.isNone)) = false := by rfl)
    (hall : (backToKw pos (keywordEach [⟨some "start", ke, kpos⟩] X.env)).all (·.1.isSome) = true := by rfl) (hks : (backToKw pos (keywordEach [⟨some "start", ke, kpos⟩] X.env)).filterMap (·.1) = [Str.ofString "start"] := by rfl) :
    PI X (.Tuple elts kk tpos) (.Call (.Name "enumerate" p) [e] [⟨some "start", ke, kpos⟩] pos) (iEnumS X.K ta tk) := by
  unfold iEnumS
  refine ⟨fun pins s σ H R I h => ?_⟩
  refine wpAny_Call_Name_kw (ld_blt I hg hm boot_enumerate ?_ (by decide) (by decide))
  have hkw : PK X [⟨some "start", ke, kpos⟩] (tCons tk tNil) := pk_cons hk pk_nil
  refine callTy_kw (thn (ha.run pos pins s σ H _ I h) fun us s1 hh => ?_) he hp hall
  obtain ⟨vs, H1, I1, r1, q1⟩ := hh
  refine thn (hkw.run pos pins s1 σ H1 (fun zs H2 => match zs with
    | [z] => ∃ a k, vs = [.ref a] ∧ z = .int k ∧ (-9223372036854775808 ≤ k ∧ k < 9223372036854775808) ∧
      ((∃ xs, SqL X.K H2 a xs ∧ R (ItS (fun H xs => SqL X.K H a xs) k) H2) ∨ ∃ xs, SqT X.K H2 a xs ∧ R (ItS (fun H xs => SqT X.K H a xs) k) H2)
    | _ => False) I1 q1) fun ws s2 hh => ?_
  obtain ⟨zs, H2, I2, r2, q2⟩ := hh
  obtain ⟨z, rfl⟩ : ∃ z, zs = [z] := by
    match zs, q2 with
    | [z], _ => exact ⟨z, rfl⟩
  obtain ⟨a, k, rfl, rfl, ⟨h0, h1⟩, q2⟩ := q2
  rw [hks]
  obtain ⟨u, rfl, ru⟩ := vals1 r1
  obtain ⟨v, rfl, rv⟩ := vals1 r2
  cases ru
  obtain ⟨t, rfl⟩ := rv
  rcases q2 with ⟨xs, hS, q⟩ | ⟨xs, hS, q⟩
  · exact enumS_go rfl (src_list X.K a) I2 hS h0 h1 q
  · exact enumS_go rfl (src_tup X.K a) I2 hS h0 h1 q
end
theorem walk_enumS {S : Hp → List V → Prop} {k : Int} {xs : List V} : Walk (ItS S k) xs.length (fun H => S H xs) (fun i H v H' => ∃ T x, v = .ref T ∧ H T = none ∧ H' = upd H T (.tup [.int (k + (i : Nat)), x]) ∧ xs[i]? = some x) :=
  ⟨fun i _ hi q => ⟨xs, xs[i], q, by simp [hi]⟩, fun _ q => ⟨xs, q, rfl⟩, fun _ _ _ _ _ q ⟨T, x, a, b, c, d⟩ => ⟨T, x, a, b, c, d xs q⟩⟩
/-! ### a list or a tuple walked -/
def SqS (K : PySem.W.Frag) (H : Hp) (a : Addr) (xs : List V) : Prop := SqL K H a xs ∨ SqT K H a xs
@[irreducible] def iSeq (K : PySem.W.Frag) (te : TE) : TI := fun σ H R => te σ H fun x H1 => ∃ a, x = .ref a ∧ ((∃ xs, SqL K H1 a xs ∧ R (Itl K a) H1) ∨ ∃ xs, SqT K H1 a xs ∧ R (Itt K a) H1)
theorem pi_seq {X : Cx} {tg e : Expr} {te : TE} (he : PE X e te) : PI X tg e (iSeq X.K te) := by
  unfold iSeq
  refine ⟨fun pins s σ H R I h => ?_⟩
  refine thn (he.run pins s σ H _ I h) fun v s1 hh => ?_
  obtain ⟨x, H1, I1, r1, a, e, q⟩ := hh
  subst e
  cases r1
  rcases q with ⟨xs, hq, q⟩ | ⟨xs, hq, q⟩
  · obtain ⟨its, rv, p, hz⟩ := I1.list hq
    refine wpAny_pyIter_list p.isList ⟨s1.heap.objs.size, [s1.heap.objs.size], _, _, H1, rfl, ?_, turn_list a _, ⟨_, Heap.get?_push_size _ rfl, rfl, rfl⟩, fun b hb => ?_, q⟩
    · exact I1.kept (t' := s1.toks) fun b o e => Heap.get?_push_of_some _ e
    · rw [List.mem_singleton.mp hb]
      exact I1.fpOk (Nat.le_refl _) (I1.hok.fresh (Nat.le_refl _))
  · obtain ⟨its, rv, p, hz⟩ := I1.tuple hq
    refine wpAny_pyIter_tuple (show s1.heap.IsTuple a its.toArray from p) ⟨s1.heap.objs.size, [s1.heap.objs.size], _, _, H1, rfl, ?_, turn_tuple a _, ⟨_, Heap.get?_push_size _ rfl, rfl, rfl⟩, fun b hb => ?_, q⟩
    · exact I1.kept (t' := s1.toks) fun b o e => Heap.get?_push_of_some _ e
    · rw [List.mem_singleton.mp hb]
      exact I1.fpOk (Nat.le_refl _) (I1.hok.fresh (Nat.le_refl _))
end Kb
/-! ### == of lists of ints -/
namespace Kb
open PySem PySem.Spec PyProof.Rows L2
section
variable {K : PySem.W.Frag} {H : Hp} {Q : VK} {a b : Addr} {xs ys : List Int}
theorem eqI_go (hx : SqL K H a (xs.map V.int)) (hy : SqL K H b (ys.map V.int)) (q : Q (.bl (decide (xs = ys))) H) : rEqU K (.ref a) (.ref b) H Q :=
  eqD_go (.lst hx (dp_ints xs)) (.lst hy (dp_ints ys)) (sh_ints.ok (by decide)) (sh_ints.ok (by decide)) (by rw [eqv_ints]; exact q)
theorem neI_go (hx : SqL K H a (xs.map V.int)) (hy : SqL K H b (ys.map V.int)) (q : Q (.bl (!decide (xs = ys))) H) : rNeU K (.ref a) (.ref b) H Q :=
  neD_go (.lst hx (dp_ints xs)) (.lst hy (dp_ints ys)) (sh_ints.ok (by decide)) (sh_ints.ok (by decide)) (by rw [eqv_ints]; exact q)
theorem eqI0_go (hx : SqL K H a (xs.map V.int)) (hy : SqL K H b []) (q : Q (.bl (decide (xs = []))) H) : rEqU K (.ref a) (.ref b) H Q := eqI_go (ys := []) hx hy q
theorem neI0_go (hx : SqL K H a (xs.map V.int)) (hy : SqL K H b []) (q : Q (.bl (!decide (xs = []))) H) : rNeU K (.ref a) (.ref b) H Q := neI_go (ys := []) hx hy q
end
theorem none_of {H H' : Hp} {p : Addr} (k : Kp [] H H') (h : H' p = none) : H p = none := k.none_of List.not_mem_nil h
theorem Kp.new {H H' : Hp} {p : Addr} {o : HO} (k : Kp [] H H') (h : H' p = none) : Kp [] H (upd H' p o) := Kp.upd_new' k h
end Kb
/-! ### a list or a tuple, whichever -/
namespace Kb
open PySem PySem.Spec PyProof.Rows L2
def Inn (H : Hp) (a : Addr) (xs : List V) : Prop := H a = some (.lst xs) ∨ H a = some (.tup xs)
theorem Inn.kp {H H' : Hp} {a : Addr} {xs : List V} (h : Inn H a xs) (k : Kp [] H H') : Inn H' a xs :=
  h.elim (fun e => .inl (k.at_ List.not_mem_nil e)) fun e => .inr (k.at_ List.not_mem_nil e)
theorem Inn.kpX {L : List Addr} {H H' : Hp} {a : Addr} {xs : List V} (h : Inn H a xs) (k : Kp L H H') (n : a ∉ L) : Inn H' a xs :=
  h.elim (fun e => .inl (k.at_ n e)) fun e => .inr (k.at_ n e)
section
variable {K : PySem.W.Frag} {H : Hp} {Q : VK} {a : Addr} {xs : List V}
theorem list_goI (h : Inn H a xs) (q : ∀ p, H p = none → Q (.ref p) (upd H p (.lst xs))) : rListU K [.ref a] H Q :=
  h.elim (fun e => list_goL (SqL.of e) q) fun e => list_goT (SqT.of e) q
theorem tuple_goI (h : Inn H a xs) (q1 : H a = some (.lst xs) → rTupleU K [.ref a] H Q) (q2 : H a = some (.tup xs) → rTupleU K [.ref a] H Q) : rTupleU K [.ref a] H Q := h.elim q1 q2
theorem seq_go {te : TE} {σ : L2.St} {R : It → Hp → Prop} (q : te σ H fun x H1 => ∃ a xs, x = .ref a ∧ Inn H1 a xs ∧ ∀ J G, Walk J xs.length G (YAt xs) → (∀ H', (H1 a = H' a) → G H') → R J H1) (m : ∀ {H} {p q : V → Hp → Prop}, (∀ x H, p x H → q x H) → te σ H p → te σ H q) : iSeq K te σ H R := by
  unfold iSeq
  refine m ?_ q
  rintro x H1 ⟨a, xs, rfl, e | e, k⟩
  · exact ⟨a, rfl, .inl ⟨xs, SqL.of e, k _ _ walk_list fun H' hh => SqL.of (hh ▸ e)⟩⟩
  · exact ⟨a, rfl, .inr ⟨xs, SqT.of e, k _ _ walk_tup fun H' hh => SqT.of (hh ▸ e)⟩⟩
theorem seqV_go {n : Nat} {σ : L2.St} {R : It → Hp → Prop} (e : σ[n]? = some (some (.ref a))) (h : Inn H a xs) (q : ∀ J G, Walk J xs.length G (YAt xs) → (∀ H', (H a = H' a) → G H') → R J H) : iSeq K (tVar n) σ H R :=
  seq_go ⟨_, e, a, xs, rfl, h, q⟩ fun {H p q} hh => fun ⟨x, e, z⟩ => ⟨x, e, hh _ _ z⟩
theorem enSV_go {n : Nat} {σ : L2.St} {k : Int} {R : It → Hp → Prop} (e : σ[n]? = some (some (.ref a))) (hk : -9223372036854775808 ≤ k ∧ k < 9223372036854775808) (h : Inn H a xs)
    (q : ∀ J G, Walk J xs.length G (fun i H v H' => ∃ T x, v = .ref T ∧ H T = none ∧ H' = upd H T (.tup [.int (k + (i : Nat)), x]) ∧ xs[i]? = some x) → (∀ H', (H a = H' a) → G H') → R J H) : iEnumS K (tCons (tVar n) tNil) (tC (.int k)) σ H R := by
  unfold iEnumS
  refine ⟨_, e, a, k, rfl, rfl, hk, ?_⟩
  rcases h with e | e
  · exact .inl ⟨xs, SqL.of e, q _ _ walk_enumS fun H' hh => SqL.of (hh ▸ e)⟩
  · exact .inr ⟨xs, SqT.of e, q _ _ walk_enumS fun H' hh => SqT.of (hh ▸ e)⟩
end
theorem gTup_go {K : PySem.W.Frag} {H : Hp} {a : Addr} {xs : List V} {n : Nat} {t : TGs} {σ : L2.St} {Q : L2.St → Hp → Prop} (h : SqT K H a xs) (hl : xs.length = n) (q : t xs σ H Q) : gTup K n t (.ref a) σ H Q := ⟨a, xs, rfl, h, hl, q⟩
theorem Inn.upd {H : Hp} {a p : Addr} {xs : List V} {o : HO} (h : Inn H a xs) (n : H p = none) : Inn (upd H p o) a xs := h.kp (Kp.refl.new n)
theorem Inn.same {H H' : Hp} {a : Addr} {xs : List V} (h : Inn H a xs) (k : Kp [] H H') : H a = H' a :=
  h.elim (fun e => e.trans (k.at_ List.not_mem_nil e).symm) fun e => e.trans (k.at_ List.not_mem_nil e).symm
theorem Inn.newNe {H : Hp} {a p : Addr} {xs : List V} (h : Inn H a xs) (n : H p = none) : a ≠ p := by
  rintro rfl
  rcases h with e | e <;> rw [e] at n <;> cases n
end Kb
/-! ### lists of lists of ints -/
namespace Kb
open PySem PySem.Spec PyProof.Rows L2
def LL (H : Hp) (us : List V) (pss : List (List Int)) : Prop := us.length = pss.length ∧
  ∀ (i : Nat) (v : V), us[i]? = some v → ∃ a ps, pss[i]? = some ps ∧ v = V.ref a ∧ H a = some (.lst (ps.map V.int))
theorem LL.dp {K : PySem.W.Frag} {H : Hp} : ∀ {us : List V} {pss : List (List Int)}, LL H us pss → DpAll K H us (pss.map fun ps => PyData.list (ps.map PyData.int))
  | [], [], _ => .nil
  | [], p :: pss, h => by cases h.1
  | u :: us, [], h => by cases h.1
  | u :: us, p :: pss, h => by
    obtain ⟨a, ps, h1, rfl, h3⟩ := h.2 0 u rfl
    cases h1
    refine .cons (.lst (SqL.of h3) (dp_ints p)) (LL.dp ⟨by have := h.1; simp at this; exact this, fun i v e => ?_⟩)
    obtain ⟨a, ps, h1, h2, h3⟩ := h.2 (i + 1) v (by simpa using e)
    exact ⟨a, ps, by simpa using h1, h2, h3⟩
theorem sh_ll {pss : List (List Int)} : Sh 2 (.list (pss.map fun ps => PyData.list (ps.map PyData.int))) := sh_lst (n := 1) fun d h => by
  obtain ⟨i, _, rfl⟩ := List.mem_map.mp h
  exact sh_ints
theorem LL.kp {M : List Addr} {H H' : Hp} {us : List V} {pss : List (List Int)} (h : LL H us pss) (k : Kp M H H') (m : ∀ a ∈ M, H a = none) : LL H' us pss := ⟨h.1, fun i v e => by
  obtain ⟨a, ps, h1, h2, h3⟩ := h.2 i v e
  exact ⟨a, ps, h1, h2, k.at_ (fun z => by rw [m a z] at h3; cases h3) h3⟩⟩
theorem LL.kp0 {H H' : Hp} {us : List V} {pss : List (List Int)} (h : LL H us pss) (k : Kp [] H H') : LL H' us pss := h.kp k fun a z => nomatch z
/-- two lists of lists that hold alike are not unlike -/
theorem neLL_go {K : PySem.W.Frag} {H : Hp} {Q : VK} {a b : Addr} {us vs : List V} {pss : List (List Int)} (ha : SqL K H a us) (hb : SqL K H b vs) (hu : LL H us pss) (hv : LL H vs pss) (q : Q (.bl false) H) : rNeU K (.ref a) (.ref b) H Q :=
  neD_go (.lst ha hu.dp) (.lst hb hv.dp) (sh_ll.ok (by decide)) (sh_ll.ok (by decide)) (by rw [SeqAt.eqv_refl _ sh_ll.1]; exact q)
end Kb
/-! ### a comprehension within a comprehension -/
namespace Kb
open PySem PySem.Spec PyProof.Rows L2
theorem lookup_rel {c : Str → NameKind → Bool} : ∀ (l : List (Str × NameKind)) (x : Str), (l.lookup x = some .cell ∨ l.lookup x = some .free) →
    ((l.map fun (n, k) => if c n k then (n, NameKind.cell) else (n, k)).lookup x = some .cell ∨ (l.map fun (n, k) => if c n k then (n, NameKind.cell) else (n, k)).lookup x = some .free)
  | [], x, h => by rcases h with h | h <;> cases h
  | (n, k) :: l, x, h => by
    rw [List.lookup_cons] at h
    rw [List.map_cons]
    by_cases e : (x == n) = true
    · rw [e] at h
      dsimp only at h ⊢
      by_cases hc : c n k = true
      · rw [if_pos hc, List.lookup_cons, e]
        exact .inl rfl
      · rw [if_neg hc, List.lookup_cons, e]
        exact h
    · have e : (x == n) = false := by simpa using e
      rw [e] at h
      have ih := lookup_rel (c := c) l x h
      dsimp only
      by_cases hc : c n k = true
      · rw [if_pos hc, List.lookup_cons, e]
        exact ih
      · rw [if_neg hc, List.lookup_cons, e]
        exact ih
theorem blkOk_in {N : List Str} {scope0 scope : Scope} {env : Env} {own : List (Str × Nat)} (h : blkC N scope0 scope own = true) : BlkOk N (relabel scope0 env) scope own := by
  have b := blkOk_by h
  exact ⟨b.kind, b.uniq, b.ix, fun y hy e => lookup_rel (c := fun n k => k == .free && env.scope.kind == .function && env.kindOf n == some .cell) scope0.names y.1 (b.free y hy e), b.own⟩
end Kb
/-! ### objects of an own class: attributes, methods, making -/
namespace Kb
open PySem PySem.Spec PyProof.Rows L2
@[irreducible] def rFldU (K : PySem.W.Frag) (f : Str) : V → Hp → VK → Prop := fun x H Q => ∃ a C dx fs v, x = .ref a ∧ H a = some (.ins C dx fs) ∧ Cls K C ∧ NoAttr K C f ∧ fs.lookup f = some v ∧ Q v H
@[irreducible] def rPutU (K : PySem.W.Frag) (f : Str) : V → V → Hp → (Hp → Prop) → Prop := fun x y H Q => ∃ a C dx fs, x = .ref a ∧ H a = some (.ins C dx fs) ∧ Cls K C ∧ NoAttr K C f ∧ fs.length < 1000 ∧ Q (upd H a (.ins C dx (putF f y fs)))
@[irreducible] def rAugU (K : PySem.W.Frag) (tv : TE) (rd : V → V → Hp → VK → Prop) (f : Str) : V → L2.St → Hp → (Hp → Prop) → Prop := fun x σ H Q => ∃ a C dx fs v, x = .ref a ∧ H a = some (.ins C dx fs) ∧ Cls K C ∧ NoAttr K C f ∧ fs.lookup f = some v ∧
  tv σ H fun y H2 => rd v y H2 fun z H3 => ∃ dx' fs', H3 a = some (.ins C dx' fs') ∧ fs'.length < 1000 ∧ Q (upd H3 a (.ins C dx' (putF f z fs')))
@[irreducible] def rRcvU (C : Addr) (m : Str) : V → Hp → Prop → Prop := fun x H Z => ∃ a dx fs, x = .ref a ∧ H a = some (.ins C dx fs) ∧ fs.lookup m = none ∧ Z
def sFldU (K : PySem.W.Frag) (ta tv : TE) (f : Str) : TS := fun D σ H => tv σ H fun y H1 => ta σ H1 fun x H2 => rPutU K f x y H2 fun H3 => D.nx σ H3
def sFldAugU (K : PySem.W.Frag) (ta tv : TE) (rd : V → V → Hp → VK → Prop) (f : Str) : TS := fun D σ H => ta σ H fun x H1 => rAugU K tv rd f x σ H1 fun H4 => D.nx σ H4
def tMethU (C : Addr) (m : Str) (sp : Sp) (E : XK) (ta : TE) (t : TA) : TE := fun σ H Q => ta σ H fun x H1 => rRcvU C m x H1 (t σ H1 fun vs H2 => sp (x :: vs) H2 Q E)
section
variable {X : Cx} {o e value : Expr} {f : Str} {pos pos' tpos : Pos} {ta tv : TE}
theorem pe_fldU (he : PE X e ta) (hb : attributeBase e f X.env (eval e X.env) = eval e X.env) : PE X (.Attribute e f pos) (tUn (rFldU X.K f) ta) := by
  unfold tUn rFldU
  exact pe_fld he hb
theorem ps_fldU (ha : PE X o ta) (hv : PE X value tv) (hs : swapsWith value (some (.Attribute o f pos')) pos.line X.env = pure false) : PS X (.Assign [.Attribute o f pos'] value pos) (sFldU X.K ta tv f) := by
  unfold sFldU rPutU
  exact ps_fld ha hv hs
theorem ps_fldaugU {op : Operator} {rd : V → V → Hp → VK → Prop} (ha : PE X o ta) (hv : PE X value tv) (hop : PIp X op rd) : PS X (.AugAssign (.Attribute o f tpos) op value pos) (sFldAugU X.K ta tv rd f) := by
  unfold sFldAugU rAugU
  exact ps_fldaug ha hv hop
end
section
variable {K : PySem.W.Frag} {H : Hp} {Q : VK} {a C dx : Addr} {fs fs' : List (Str × V)} {f m : Str} {v y : V}
theorem fld_go (h : H a = some (.ins C dx fs)) (c : Cls K C) (n : NoAttr K C f) (l : fs.lookup f = some v) (q : Q v H) : rFldU K f (.ref a) H Q := by
  unfold rFldU
  exact ⟨a, C, dx, fs, v, rfl, h, c, n, l, q⟩
theorem put_go {Q : Hp → Prop} (h : H a = some (.ins C dx fs)) (c : Cls K C) (n : NoAttr K C f) (hl : fs.length < 1000) (e : putF f y fs = fs') (q : Q (upd H a (.ins C dx fs'))) : rPutU K f (.ref a) y H Q := by
  subst e
  unfold rPutU
  exact ⟨a, C, dx, fs, rfl, h, c, n, hl, q⟩
theorem aug_go {Q : Hp → Prop} {tv : TE} {rd : V → V → Hp → VK → Prop} {σ : L2.St} (h : H a = some (.ins C dx fs)) (c : Cls K C) (n : NoAttr K C f) (l : fs.lookup f = some v)
    (q : tv σ H fun y H2 => rd v y H2 fun z H3 => ∃ dx' fs', H3 a = some (.ins C dx' fs') ∧ fs'.length < 1000 ∧ Q (upd H3 a (.ins C dx' (putF f z fs')))) : rAugU K tv rd f (.ref a) σ H Q := by
  unfold rAugU
  exact ⟨a, C, dx, fs, v, rfl, h, c, n, l, q⟩
theorem augE_go {Q : Hp → Prop} {z : V} (h : H a = some (.ins C dx fs)) (hl : fs.length < 1000) (e : putF f z fs = fs') (q : Q (upd H a (.ins C dx fs'))) : ∃ dx' fs', H a = some (.ins C dx' fs') ∧ fs'.length < 1000 ∧ Q (upd H a (.ins C dx' (putF f z fs'))) := by
  subst e
  exact ⟨dx, fs, h, hl, q⟩
theorem rcv_go {Z : Prop} (h : H a = some (.ins C dx fs)) (l : fs.lookup m = none) (z : Z) : rRcvU C m (.ref a) H Z := by
  unfold rRcvU
  exact ⟨a, dx, fs, rfl, h, l, z⟩
theorem lk_here {k : Str} {v : V} {r : List (Str × V)} : List.lookup k ((k, v) :: r) = some v := by
  have e : (k == k) = true := beq_self_eq_true k
  simp only [List.lookup, e]
theorem lk_past {k g : Str} {v : V} {r : List (Str × V)} {o : Option V} (h : (k == g) = false) (q : List.lookup k r = o) : List.lookup k ((g, v) :: r) = o := by
  simp only [List.lookup, h]
  exact q
theorem put_here {f : Str} {v x : V} {r : List (Str × V)} : putF f v ((f, x) :: r) = (f, v) :: r := if_pos rfl
theorem put_past {f g : Str} {v x : V} {r r' : List (Str × V)} (h : ¬ g = f) (q : putF f v r = r') : putF f v ((g, x) :: r) = (g, x) :: r' := by
  subst q
  exact if_neg h
theorem put_nil {f : Str} {v : V} : putF f v [] = [(f, v)] := rfl
end
/-- the method m of the class at C -/
def DefM (K : PySem.W.Frag) (C : Addr) (st : Stmt) (m qual : Str) : Prop := ∃ f fd, Meth K C m f ∧ Fun K m qual st f fd
structure CalM (P : Program) (w : World) (K : PySem.W.Frag) (mg : Str → Option Value) (base : Heap) (CX : CXT) (k : Nat) (C : Addr) (m : Str) (ps : List Str) (sp : Sp) : Prop where
  ex : ∃ f fd, Meth K C m f ∧ FnOk P w K mg base CX k f fd ps sp ∧ Binds K fd ps []
section
variable {P : Program} {w : World} {K : PySem.W.Frag} {mg : Str → Option Value} {base : Heap}
theorem CalM.of {C : Addr} {m qual : Str} {st : Stmt} {N ps : List Str} {k : Nat} {sp : Sp} (D : DefM K C st m qual) (S : FnScope N ps (defScope st))
    (hb : ∀ (kV doc pm : Value) (an : Option Addr) (cdv ct : Value) (us : List Value), us.length = ps.length → bindArgs (PySem.W.fnOf m qual (defArgs st) (defBody st) (defScope st) .none kV doc pm an cdv ct) ⟨us, []⟩ = pure (ps.zip us))
    (len : ∀ vs H Q E, sp vs H Q E → vs.length = ps.length)
    (hbody : ∀ (f : Addr) (cdv : Value) (A : Around) (outer : List Env) (s : Shared) (H : Hp) (vs : List V) (Q : VK) (E : XK), Room k (A.deeper (envOfC qual (defScope st) s.heap.objs.size f cdv)) → sp vs H Q E →
      ∃ t, PSs (cxOf CX0 P w K mg base N qual (defScope st) f cdv A outer s H E).nox (defBody st) t ∧ t { nx := fun _ H' => Q .non H', rt := Q } (start N vs) H) : CalM P w K mg base CX0 (k + 1) C m ps sp := by
  obtain ⟨f, fd, hm, F⟩ := D
  refine ⟨f, fd, hm, F.ok S len (hbody f), .all ?_⟩
  obtain ⟨oc, od, kV, doc, pm, an, cdv, ct, osl, rfl, lk, hcd⟩ := F.ex
  exact hb kV doc pm an cdv ct
end
section
variable {X : Cx} {CX : CXT} {k : Nat} {C : Addr} {ps : List Str} {sp : Sp} {E : XK} {x m : Str} {p pos apos : Pos} {e o : Expr} {es : List Expr} {ta : TE} {t : TA}
theorem pe_methM {pl : Sem Bool} (he : PE X o ta) (c : Cls X.K C) (M : CalM X.prog X.w X.K X.mg X.base CX k C m ps sp) (hr : Room k X.A) (hx : Passes CX X E) (ha : PA X (e :: es) t)
    (hst : starEach (e :: es) X.env = (false, eval e X.env) :: starEach es X.env := by rfl) (hpl : (backTo pos (starEach es X.env)).any (·.1) = false := by rfl)
    (ht : eval (.Call (.Attribute o m apos) (e :: es) [] pos) X.env = (do
      let ov ← eval o X.env
      standAt apos.atName
      let (f, first) ← holding [ov] (getMethod ov m pl)
      callWith pos f first (backTo pos (starEach (e :: es) X.env)) (backToKw pos (keywordEach [] X.env))) := by rfl) :
    PE X (.Call (.Attribute o m apos) (e :: es) [] pos) (tMethU C m sp E ta t) := by
  obtain ⟨f, fd, hm, F, hb⟩ := M.ex
  have := pe_meth (pos := pos) (apos := apos) (dvs := []) (E := E) he c hm F hr hb .nil hx ha hst hpl ht
  unfold tMethU rRcvU
  unfold tMeth at this
  simpa only [List.append_nil] using this
theorem pe_methM0 {pl : Sem Bool} (he : PE X o ta) (c : Cls X.K C) (M : CalM X.prog X.w X.K X.mg X.base CX k C m ps sp) (hr : Room k X.A) (hx : Passes CX X E)
    (ht : eval (.Call (.Attribute o m apos) [] [] pos) X.env = (do
      let ov ← eval o X.env
      standAt apos.atName
      let (f, first) ← holding [ov] (getMethod ov m pl)
      callWith pos f first (backTo pos (starEach [] X.env)) (backToKw pos (keywordEach [] X.env))) := by rfl) :
    PE X (.Call (.Attribute o m apos) [] [] pos) (tMethU C m sp E ta tNil) := by
  obtain ⟨f, fd, hm, F, hb⟩ := M.ex
  have := pe_meth0 (pos := pos) (apos := apos) (dvs := []) (E := E) he c hm F hr hb .nil hx ht
  unfold tMethU rRcvU
  unfold tMeth at this
  simpa only [List.append_nil] using this
theorem pe_makeM0 (hmk : PySem.W.makesIn X.K C = true) (hkc : PySem.W.keepIn X.K (.ref C) = true) (M : CalM X.prog X.w X.K X.mg X.base CX k C "__init__" ps sp) (hr : Room (k + 1) X.A) (hg : Gl X x) (hm : X.mg x = some (.ref C)) (hx : Passes CX X E)
    (hdb : (x == ("__debug__" : Str)) = false := by decide) : PE X (.Call (.Name x p) [] [] pos) (tMake C sp [] E tNil) := by
  obtain ⟨f, fd, hme, F, hb⟩ := M.ex
  exact pe_make0 ⟨hmk, hme.at_, hme.fn, hkc⟩ F hr hg hm hb .nil hx hdb
theorem pe_makeM (hmk : PySem.W.makesIn X.K C = true) (hkc : PySem.W.keepIn X.K (.ref C) = true) (M : CalM X.prog X.w X.K X.mg X.base CX k C "__init__" ps sp) (hr : Room (k + 1) X.A) (hg : Gl X x) (hm : X.mg x = some (.ref C)) (hx : Passes CX X E) (ha : PA X (e :: es) t)
    (hdb : (x == ("__debug__" : Str)) = false := by decide) (he : starEach (e :: es) X.env = (false, eval e X.env) :: starEach es X.env := by rfl) (hpl : (backTo pos (starEach es X.env)).any (·.1) = false := by rfl) :
    PE X (.Call (.Name x p) (e :: es) [] pos) (tMake C sp [] E t) := by
  obtain ⟨f, fd, hme, F, hb⟩ := M.ex
  exact pe_make ⟨hmk, hme.at_, hme.fn, hkc⟩ F hr hg hm hb .nil hx ha hdb he hpl
end
end Kb

open L2 Kb PySem
/-! steps by name: "ne" a ≠ b, "h" H a = some o, "c" a side condition, "l" a list that is read, "s" one step of a reading -/
local macro_rules | `(tactic| walk_at "ne") => `(tactic| first
  | assumption
  | (apply Ne.symm; assumption)
  | (refine' ne_of_none ?kh ?kn; (case kn => assumption); (case kh => walk_at "h"))
  | (refine' Ne.symm (ne_of_none ?kh ?kn); (case kn => assumption); (case kh => walk_at "h"))
  | fail)
local macro_rules | `(tactic| walk_at "nm") => `(tactic| first
  | exact List.not_mem_nil
  | (refine' nm_cons ?kn ?km; (case kn => walk_at "ne"); (case km => walk_at "nm"))
  | fail)
local macro_rules | `(tactic| walk_at "h") => `(tactic| first
  | assumption
  | exact upd_same
  | (refine' (upd_ne ?kn).trans ?kh; (case kn => walk_at "ne"); (case kh => walk_at "h"))
  | (refine' Kp.at_ ?kk ?kn ?kh; (case kk => assumption); (case kn => walk_at "nm"); (case kh => walk_at "h"))
  | (refine' Same.at_ ?kk ?kh; (case kk => assumption); (case kh => walk_at "h"))
  | fail)
local macro_rules | `(tactic| walk_at "c") => `(tactic| first
  | assumption
  | rfl
  | omega
  | decide
  | (simp only [List.length_cons, List.length_nil, List.length_map, List.length_append, List.length_range, List.length_replicate]; omega)
  | fail)
local macro_rules | `(tactic| walk_at "l") => `(tactic| first
  | assumption
  | exact SqL.of (by walk_at "h")
  | (refine Kp.sqL (by assumption) ?_ ?_ <;> first | assumption | walk_at "nm" | walk_at "l")
  | fail)
local macro_rules | `(tactic| walk_at "t") => `(tactic| first
  | assumption
  | exact SqT.of (by walk_at "h")
  | (refine Kp.sqT (by assumption) ?_ ?_ <;> first | assumption | walk_at "nm" | walk_at "t")
  | fail)
local macro_rules | `(tactic| walk_at "i") => `(tactic| first
  | assumption
  | exact .inl (by walk_at "h")
  | exact .inr (by walk_at "h")
  | (refine' Inn.kp (H := ?_) ?k1 ?k2; (case k2 => assumption); (case k1 => walk_at "i"))
  | (refine' Inn.upd ?k1 ?k2; (case k2 => assumption); (case k1 => walk_at "i"))
  | fail)
local macro_rules | `(tactic| walk_at "mem") => `(tactic| first
  | exact List.mem_cons_self
  | (refine' List.mem_cons_of_mem _ ?k1; (case k1 => walk_at "mem"))
  | fail)
local macro_rules | `(tactic| walk_at "kp") => `(tactic| first
  | assumption
  | exact Kp.refl
  | (refine' Kp.upd_in ?k1 ?k2; (case k2 => walk_at "mem"); (case k1 => walk_at "kp"))
  | (refine' Kp.upd_new ?k1 ?k2; (case k2 => assumption); (case k1 => walk_at "kp"))
  | (refine' Kp.upd_new' ?k1 ?k2; (case k2 => assumption); (case k1 => walk_at "kp"))
  | (refine' Kp.upd_new ?k1 ?k2; (case k2 => walk_at "no"); (case k1 => walk_at "kp"))
  | fail)
local macro_rules | `(tactic| walk_at "no") => `(tactic| first
  | assumption
  | (refine' none_of ?k1 ?k2; (case k2 => assumption); (case k1 => walk_at "kp"))
  | fail)
local macro_rules | `(tactic| walk_at "ki") => `(tactic| first
  | exact ki_NoneType_str
  | exact ki_NoneType_int
  | exact ki_NoneType_bool
  | exact ki_NoneType_list
  | exact ki_NoneType_tuple
  | exact ki_NoneType_dict
  | exact ki_bool_str
  | exact ki_bool_int
  | exact ki_bool_bool
  | exact ki_bool_list
  | exact ki_bool_tuple
  | exact ki_bool_dict
  | exact ki_int_str
  | exact ki_int_int
  | exact ki_int_bool
  | exact ki_int_list
  | exact ki_int_tuple
  | exact ki_int_dict
  | exact ki_str_str
  | exact ki_str_int
  | exact ki_str_bool
  | exact ki_str_list
  | exact ki_str_tuple
  | exact ki_str_dict
  | exact ki_list_str
  | exact ki_list_int
  | exact ki_list_bool
  | exact ki_list_list
  | exact ki_list_tuple
  | exact ki_list_dict
  | exact ki_tuple_str
  | exact ki_tuple_int
  | exact ki_tuple_bool
  | exact ki_tuple_list
  | exact ki_tuple_tuple
  | exact ki_tuple_dict
  | exact ki_dict_str
  | exact ki_dict_int
  | exact ki_dict_bool
  | exact ki_dict_list
  | exact ki_dict_tuple
  | exact ki_dict_dict
  | fail)
local macro_rules | `(tactic| walk_at "ty") => `(tactic| first
  | assumption
  | exact .base (.int _)
  | exact .base (.str _)
  | exact .base (.bl _)
  | exact .base .non
  | (refine' .base (.lst ?k1); (case k1 => walk_at "h"))
  | (refine' .base (.tup ?k1); (case k1 => walk_at "h"))
  | (refine' .base (.dK ?k1); (case k1 => walk_at "h"))
  | fail)
local macro_rules | `(tactic| walk_at "lk") => `(tactic| first
  | exact lk_here
  | (refine' lk_past ?k1 ?k2; (case k1 => decide +kernel); (case k2 => walk_at "lk"))
  | rfl
  | fail)
local macro_rules | `(tactic| walk_at "pf") => `(tactic| first
  | exact put_here
  | exact put_nil
  | (refine' put_past ?k1 ?k2; (case k1 => decide +kernel); (case k2 => walk_at "pf"))
  | fail)
local macro_rules | `(tactic| walk_at "s1") => `(tactic| first
  | (refine' add_go  ?kq)
  | (refine' sub_go  ?kq)
  | (refine' mul_goL ?k1 ?k2 ?kq; (case k1 => walk_at "c"); (case k2 => walk_at "c"))
  | (refine' mul_goR ?k1 ?k2 ?kq; (case k1 => walk_at "c"); (case k2 => walk_at "c"))
  | (refine' mod_go ?k1 ?kq; (case k1 => walk_at "c"))
  | (refine' div_go ?k1 ?k2 ?kq; (case k1 => walk_at "c"); (case k2 => walk_at "c"))
  | (refine' eq_go  ?kq)
  | (refine' ne_go  ?kq)
  | (refine' lt_go  ?kq)
  | (refine' le_go  ?kq)
  | (refine' gt_go  ?kq)
  | (refine' ge_go  ?kq)
  | (refine' ixL_go ?k1 ?k2 ?kq; (case k1 => walk_at "l"); (case k2 => rfl))
  | (refine' ixT_go ?k1 ?k2 ?kq; (case k1 => walk_at "t"); (case k2 => rfl))
  | (refine' set_go ?k1 ?k2 ?kq; (case k1 => walk_at "h"); (case k2 => rfl))
  | (refine' eqS_go  ?kq)
  | (refine' neS_go  ?kq)
  | (refine' eqB_go  ?kq)
  | (refine' neB_go  ?kq)
  | (refine' eqN_go  ?kq)
  | (refine' neI0_go ?k1 ?k2 ?kq; (case k1 => walk_at "l"); (case k2 => walk_at "l"))
  | (refine' eqI0_go ?k1 ?k2 ?kq; (case k1 => walk_at "l"); (case k2 => walk_at "l"))
  | (refine' neI_go ?k1 ?k2 ?kq; (case k1 => walk_at "l"); (case k2 => walk_at "l"))
  | (refine' eqI_go ?k1 ?k2 ?kq; (case k1 => walk_at "l"); (case k2 => walk_at "l"))
  | (refine' len_str ?k1 ?kq; (case k1 => walk_at "c"))
  | (refine' len_lst ?k1 ?kq; (case k1 => walk_at "l"))
  | (refine' len_tup ?k1 ?kq; (case k1 => walk_at "t"))
  | (refine' len_dK ?k1 ?kq; (case k1 => walk_at "h"))
  | (refine' isi_go ?k1 ?k2 ?kq; (case k1 => walk_at "ty"); (case k2 => walk_at "ki"))
  | (refine' isi2_go ?k1 ?k2 ?k3 ?k4 ?kq; (case k1 => walk_at "h"); (case k2 => walk_at "ty"); (case k3 => walk_at "ki"); (case k4 => walk_at "ki"))
  | (refine' int_go  ?kq)
  | (refine' intB_go  ?kq)
  | (refine' pow_go ?k1 ?k2 ?k3 ?kq; (case k1 => walk_at "c"); (case k2 => walk_at "c"); (case k3 => walk_at "c"))
  | (refine' neg_go  ?kq)
  | (refine' app_go ?k1 ?k2 ?kq; (case k1 => walk_at "h"); (case k2 => walk_at "c"))
  | (refine' addL_go ?k1 ?k2 ?k3 ?kq; (case k1 => walk_at "h"); (case k2 => walk_at "h"); (case k3 => walk_at "c"))
  | (refine' addS_go ?k1 ?kq; (case k1 => walk_at "c"))
  | (refine' rep_go ?k1 ?k2 ?k3 ?k4 ?kq; (case k1 => walk_at "h"); (case k2 => walk_at "c"); (case k3 => walk_at "c"); (case k4 => walk_at "c"))
  | (refine' iadd_go  ?kq)
  | (refine' iaddL_go ?k1 ?k2 ?k3 ?kq; (case k1 => walk_at "h"); (case k2 => walk_at "h"); (case k3 => walk_at "c"))
  | (refine' isub_go  ?kq)
  | (refine' imod_go ?k1 ?kq; (case k1 => walk_at "c"))
  | (refine' ltS_go  ?kq)
  | (refine' gtS_go  ?kq)
  | (refine' isN_go  ?kq)
  | (refine' notN_go  ?kq)
  | (refine' inC_go  ?kq)
  | (refine' notInC_go  ?kq)
  | (refine' list_goL ?k1 ?kq; (case k1 => walk_at "l"))
  | (refine' list_goT ?k1 ?kq; (case k1 => walk_at "t"))
  | (refine' tuple_goL ?k1 ?kq; (case k1 => walk_at "l"))
  | (refine' tuple_goT ?k1 ?kq; (case k1 => walk_at "t"))
  | (refine' list_goI ?k1 ?kq; (case k1 => walk_at "i"))
  | (refine' pop0_go ?k1 ?kq; (case k1 => walk_at "h"))
  | (refine' popE_go ?k1 ?kq; (case k1 => walk_at "h"))
  | (refine' slL_go ?k1 ?kq; (case k1 => walk_at "l"))
  | (refine' slS_go ?k1 ?kq; (case k1 => walk_at "c"))
  | (refine' ord_go  ?kq)
  | (refine' abs_go  ?kq)
  | (refine' fld_go ?k1 ?k2 ?k3 ?k4 ?kq; (case k1 => walk_at "h"); (case k2 => assumption); (case k3 => assumption); (case k4 => walk_at "lk"))
  | (refine' put_go ?k1 ?k2 ?k3 ?k4 ?k5 ?kq; (case k1 => walk_at "h"); (case k2 => assumption); (case k3 => assumption); (case k5 => walk_at "pf"); (case k4 => first | decide | (simp only [List.length_cons, List.length_nil]; decide)))
  | (refine' aug_go ?k1 ?k2 ?k3 ?k4 ?kq; (case k1 => walk_at "h"); (case k2 => assumption); (case k3 => assumption); (case k4 => walk_at "lk"))
  | (refine' rcv_go ?k1 ?k2 ?kq; (case k1 => walk_at "h"); (case k2 => walk_at "lk"))
  | fail)
local macro_rules | `(tactic| walk_at "s") => `(tactic| first
  | refine ⟨_, rfl, ?_⟩
  | refine iteD (fun _ => ?_) (fun _ => ?_)
  | refine iteN (fun _ => ?_) (fun _ => ?_)
  | refine iteT ?_
  | refine iteF ?_
  | walk_at "s1"
  | with_reducible refine st_nx ?_
  | (dsimp only; with_reducible refine st_nx ?_)
  | (refine' gTup_go ?k1 ?k2 ?kq; (case k1 => walk_at "t"); (case k2 => rfl))
  | refine And.intro (sz_of' (by walk_at "c")) ?_
  | refine And.intro (by walk_at "c") ?_
  | refine ⟨_, _, rfl, ?_⟩
  | refine ⟨_, _, _, rfl, ?_⟩
  | refine ⟨_, _, _, _, rfl, ?_⟩
  | refine ⟨.inl ⟨rfl, _, by walk_at "l"⟩, ?_⟩
  | refine ⟨⟨_, rfl⟩, ?_⟩
  | (refine fun (p : Addr) (np : _ = none) => ?_)
  | (refine fun (x dx : Addr) (nx : _ = none) (nd : _ = none) (ne : _ ≠ _) => ?_)
  | (refine' augE_go ?k1 ?k2 ?k3 ?kq; (case k1 => walk_at "h"); (case k3 => walk_at "pf"); (case k2 => first | decide | (simp only [List.length_cons, List.length_nil]; decide)))
  | refine iteB (fun _ => ?_) (fun _ => ?_)
  | (refine' seqV_go ?k1 ?k2 (fun J G w hG => ?kq); (case k1 => rfl); (case k2 => walk_at "i"))
  | (refine' enSV_go ?k1 ?k2 ?k3 (fun J G w hG => ?kq); (case k1 => rfl); (case k2 => exact ⟨by decide, by decide⟩); (case k3 => walk_at "i"))
  | fail)
local macro_rules | `(tactic| walk_at "go") => `(tactic| repeat' walk_at "s")
/-! ## streams: what the defs promise -/
namespace Stm
open PySem PySem.Spec PyProof.Rows L2 Kb
/-- the kinds of things that are met -/
def Kd (t : String) : Prop := t = "NoneType" ∨ t = "bool" ∨ t = "int" ∨ t = "str" ∨ t = "list" ∨ t = "tuple" ∨ t = "dict"
def isB : V → Bool
  | .int i => decide (0 ≤ i ∧ i ≤ 255)
  | _ => false
def Knw (K : PySem.W.Frag) (H : Hp) (v : V) : Prop := ∃ t, TyX K H v (.type t) ∧ Kd t
/-- b is whether x is a row of bytes -/
def BA (K : PySem.W.Frag) (H : Hp) (x : V) (b : Bool) : Prop :=
  (∃ a vs, x = .ref a ∧ Inn H a vs ∧ (∀ v ∈ vs, Knw K H v) ∧ b = vs.all isB) ∨
  (∃ t, TyX K H x (.type t) ∧ (t = "NoneType" ∨ t = "bool" ∨ t = "int" ∨ t = "str" ∨ t = "dict") ∧ b = false)
def sp_is_bytes (K : PySem.W.Frag) : Sp := fun vs H Q _ => ∃ x b, vs = [x] ∧ BA K H x b ∧ ∀ H', Kp [] H H' → Q (.bl b) H'
/-- a list or a tuple of ints -/
@[reducible] def Ints (H : Hp) (a : Addr) (ns : List Int) : Prop := Inn H a (ns.map V.int)
/-- a new list of ints is told -/
def NewI (H : Hp) (Q : VK) (ns : List Int) : Prop := ∀ H' p, H p = none → Kp [] H H' → H' p = some (.lst (ns.map V.int)) → Q (.ref p) H'
def wsum : Int → List Int → Int
  | _, [] => 0
  | k, b :: bs => k * b + wsum (k + 1) bs
def chk (bs : List Int) : List Int := bs ++ [bs.sum % 65521 / 256, bs.sum % 65521 % 256, wsum 1 bs % 65521 / 256, wsum 1 bs % 65521 % 256]
def sp_checked (K : PySem.W.Frag) : Sp := fun vs H Q _ => ∃ a bs, vs = [.ref a] ∧ Ints H a bs ∧ bs.length ≤ 2000000 ∧ NewI H Q (chk bs)
def rstep (s : List Int × List Int) (b : Int) : List Int × List Int :=
  if b = 0 then (s.1 ++ ([(s.2.length : Int) + 1] ++ s.2), [])
  else if s.2.length + 1 = 254 then (s.1 ++ ([((s.2 ++ [b]).length : Int) + 1] ++ (s.2 ++ [b])), []) else (s.1, s.2 ++ [b])
def rst (bs : List Int) : List Int × List Int := bs.foldl rstep ([], [])
def inRuns (bs : List Int) : List Int :=
  if (rst bs).2 ≠ [] ∨ bs = [] ∨ bs.getLast? = some 0 then (rst bs).1 ++ ([((rst bs).2.length : Int) + 1] ++ (rst bs).2) else (rst bs).1
def sp_in_runs (K : PySem.W.Frag) : Sp := fun vs H Q _ => ∃ a bs, vs = [.ref a] ∧ H a = some (.lst (bs.map V.int)) ∧ bs.length ≤ 1000000 ∧ NewI H Q (inRuns bs)
def strm (pss : List (List Int)) : List Int := pss.flatMap fun p => inRuns (chk p) ++ [0]
def Okb (bs : List Int) : Prop := ∀ b ∈ bs, 0 ≤ b ∧ b ≤ 255
/-- parts at hand: rows of bytes -/
def Parts (H : Hp) (us : List V) (pss : List (List Int)) : Prop := us.length = pss.length ∧ ∀ (i : Nat) (v : V), us[i]? = some v → ∃ a ps, pss[i]? = some ps ∧ v = V.ref a ∧ Ints H a ps ∧ Okb ps ∧ ps.length ≤ 100000
def sp_streamed (K : PySem.W.Frag) : Sp := fun vs H Q _ => ∃ a us pss, vs = [.ref a] ∧ Inn H a us ∧ Parts H us pss ∧ (strm pss).length ≤ 8000000 ∧ NewI H Q (strm pss)
end Stm

/-! ## the laws' own defs that several laws share: promises -/
namespace Stm
open PySem PySem.Spec PyProof.Rows L2 Kb
/-- the state of the draws: a list S of the cells' list C and three numbers -/
def St (H : Hp) (S C : Addr) : Prop := S ≠ C ∧ ∃ (cs : List Int) (w x n : Int), H S = some (.lst [.ref C, .int w, .int x, .int n]) ∧ H C = some (.lst (cs.map V.int)) ∧ cs.length ≤ 1000
@[irreducible] def sp_law_take (K : PySem.W.Frag) : Sp := fun vs H Q _ => ∃ S C m, vs = [.ref S, .int m] ∧ St H S C ∧ 0 < m ∧ m < 1073741824 ∧ ∀ H' r, Kp [S, C] H H' → St H' S C → 0 ≤ r → r < m → Q (.int r) H'
/-- a new list of bytes, at most n long, is told -/
def NewB (H : Hp) (Q : VK) (S C : Addr) (n : Nat) : Prop := ∀ H' p bs, H p = none → Kp [S, C] H H' → St H' S C → H' p = some (.lst (bs.map V.int)) → Okb bs → bs.length ≤ n → Q (.ref p) H'
@[irreducible] def sp_law_stretch (K : PySem.W.Frag) : Sp := fun vs H Q _ => ∃ S C, vs = [.ref S] ∧ St H S C ∧ NewB H Q S C 600
@[irreducible] def sp_law_part (K : PySem.W.Frag) : Sp := fun vs H Q _ => ∃ S C, vs = [.ref S] ∧ St H S C ∧ NewB H Q S C 2000
end Stm
namespace Stm
open PySem PySem.Spec PyProof.Rows L2 Kb
/-- drawing since H0: all that stood there stands but the state -/
def SC (H0 : Hp) (S C : Addr) (H : Hp) : Prop := Kp [S, C] H0 H ∧ St H S C
end Stm

/-! ## streams: what the runs are -/
namespace Stm
def enc (cs : List (List Int)) : List Int := cs.flatMap fun c => ((c.length : Int) + 1) :: c
def dec : List (List Int) → List Int
  | [] => []
  | c :: cs => c ++ (if c.length < 254 ∧ cs ≠ [] then [0] else []) ++ dec cs
/-- chunks as a row of runs has them; ahead is the size that was read last -/
def good : Int → List (List Int) → Prop
  | _, [] => True
  | ah, c :: cs => c.length ≤ 254 ∧ (∀ b ∈ c, b ≠ 0) ∧ ¬ (c = [] ∧ ah = 255 ∧ cs = []) ∧ good (c.length + 1) cs
def decF (cs : List (List Int)) : List Int := cs.flatMap fun c => c ++ (if c.length < 254 then [0] else [])
def cstep (s : List (List Int) × List Int) (b : Int) : List (List Int) × List Int :=
  if b = 0 then (s.1 ++ [s.2], []) else if s.2.length + 1 = 254 then (s.1 ++ [s.2 ++ [b]], []) else (s.1, s.2 ++ [b])
theorem enc_snoc (cs : List (List Int)) (c : List Int) : enc (cs ++ [c]) = enc cs ++ ([(c.length : Int) + 1] ++ c) := by
  unfold enc
  rw [List.flatMap_append, List.flatMap_singleton]
  rfl
theorem decF_snoc (cs : List (List Int)) (c : List Int) : decF (cs ++ [c]) = decF cs ++ (c ++ (if c.length < 254 then [0] else [])) := by
  unfold decF
  rw [List.flatMap_append, List.flatMap_singleton]
theorem dec_snoc : ∀ (cs : List (List Int)) (c : List Int), dec (cs ++ [c]) = decF cs ++ c
  | [], c => by simp [dec, decF]
  | d :: cs, c => by
    rw [List.cons_append]
    unfold dec
    rw [dec_snoc cs c]
    have e : decF (d :: cs) = d ++ (if d.length < 254 then [0] else []) ++ decF cs := by simp [decF]
    rw [e]
    have : cs ++ [c] ≠ [] := by simp
    simp [this]
theorem good_snoc : ∀ (cs : List (List Int)) (ah : Int) (c : List Int), (∀ d ∈ cs, d.length ≤ 254 ∧ ∀ b ∈ d, b ≠ 0) → c.length ≤ 254 → (∀ b ∈ c, b ≠ 0) →
    (c = [] → (cs = [] → ah ≠ 255) ∧ ∀ ds d, cs = ds ++ [d] → d.length ≠ 254) → good ah (cs ++ [c])
  | [], ah, c, h, hl, hn, hc => ⟨hl, hn, fun ⟨a, b, _⟩ => (hc a).1 rfl b, trivial⟩
  | d :: cs, ah, c, h, hl, hn, hc => by
    refine ⟨(h d List.mem_cons_self).1, (h d List.mem_cons_self).2, fun ⟨_, _, z⟩ => by simp at z, ?_⟩
    refine good_snoc cs _ c (fun e he => h e (List.mem_cons_of_mem _ he)) hl hn fun z => ⟨fun e => ?_, fun ds x e => (hc z).2 (d :: ds) x (by rw [e]; rfl)⟩
    have := (hc z).2 [] d (by rw [e]; rfl)
    omega
/-- the fold that makes the runs, with its chunks -/
def cst (bs : List Int) : List (List Int) × List Int := bs.foldl cstep ([], [])
theorem cst_snoc (xs : List Int) (b : Int) : cst (xs ++ [b]) = cstep (cst xs) b := by
  unfold cst
  rw [List.foldl_append]
  rfl
structure CI (xs : List Int) (s : List (List Int) × List Int) : Prop where
  r : rst xs = (enc s.1, s.2)
  d : xs = decF s.1 ++ s.2
  n : ∀ c ∈ s.1, c.length ≤ 254 ∧ ∀ b ∈ c, b ≠ 0
  l : s.2.length ≤ 253
  z : ∀ b ∈ s.2, b ≠ 0
  e : s.2 = [] → xs = [] ∨ ∃ ds d, s.1 = ds ++ [d] ∧ ((d.length = 254 ∧ xs.getLast? ≠ some 0) ∨ (d.length ≤ 253 ∧ xs.getLast? = some 0))
theorem rst_snoc' (xs : List Int) (b : Int) : rst (xs ++ [b]) = rstep (rst xs) b := by
  unfold rst
  rw [List.foldl_append]
  rfl
theorem CI.step {xs : List Int} {s : List (List Int) × List Int} (h : CI xs s) (b : Int) : CI (xs ++ [b]) (cstep s b) := by
  obtain ⟨s1, s2⟩ := s
  obtain ⟨r, d, n, l, z, e⟩ := h
  dsimp only at *
  unfold cstep
  by_cases h0 : b = 0
  · rw [if_pos h0]
    refine ⟨?_, ?_, ?_, Nat.zero_le _, (fun _ h => nomatch h), fun _ => .inr ⟨s1, s2, rfl, .inr ⟨l, by rw [List.getLast?_concat, h0]⟩⟩⟩
    · rw [rst_snoc', r]
      unfold rstep
      rw [if_pos h0]
      dsimp only
      rw [enc_snoc]
    · dsimp only
      rw [decF_snoc, if_pos (show s2.length < 254 by omega), d, h0]
      simp
    · intro c hc
      rcases List.mem_append.mp hc with hc | hc
      · exact n c hc
      · cases List.mem_singleton.mp hc
        exact ⟨Nat.le_trans l (by decide), z⟩
  · rw [if_neg h0]
    have zb : ∀ c ∈ s2 ++ [b], c ≠ 0 := fun c hc => by
      rcases List.mem_append.mp hc with hc | hc
      · exact z c hc
      · cases List.mem_singleton.mp hc
        exact h0
    by_cases h1 : s2.length + 1 = 254
    · rw [if_pos h1]
      refine ⟨?_, ?_, ?_, Nat.zero_le _, (fun _ h => nomatch h), fun _ => .inr ⟨s1, s2 ++ [b], rfl, .inl ⟨by simp; omega, by rw [List.getLast?_concat]; exact fun e => h0 (Option.some.inj e)⟩⟩⟩
      · rw [rst_snoc', r]
        unfold rstep
        rw [if_neg h0, if_pos h1]
        dsimp only
        rw [enc_snoc]
      · dsimp only
        rw [decF_snoc, if_neg (by simp; omega), d]
        simp
      · intro c hc
        rcases List.mem_append.mp hc with hc | hc
        · exact n c hc
        · cases List.mem_singleton.mp hc
          exact ⟨by simp; omega, zb⟩
    · rw [if_neg h1]
      refine ⟨?_, ?_, n, by simp; omega, zb, fun h => by simp at h⟩
      · rw [rst_snoc', r]
        unfold rstep
        rw [if_neg h0, if_neg h1]
      · dsimp only
        rw [d]
        simp
theorem ci_fold : ∀ (ys xs : List Int) (s : List (List Int) × List Int), CI xs s → ∃ t, CI (xs ++ ys) t
  | [], xs, s, h => ⟨s, by rw [List.append_nil]; exact h⟩
  | y :: ys, xs, s, h => by
    have := ci_fold ys (xs ++ [y]) _ (h.step y)
    rw [List.append_assoc] at this
    exact this
/-- a row in runs: chunks that are read back as the row -/
theorem runs_ex (bs : List Int) : ∃ cs, inRuns bs = enc cs ∧ dec cs = bs ∧ good 0 cs ∧ cs ≠ [] := by
  obtain ⟨⟨s1, s2⟩, r, d, n, l, z, e⟩ := ci_fold bs [] ([], []) ⟨rfl, rfl, (fun _ h => nomatch h), Nat.zero_le _, (fun _ h => nomatch h), fun _ => .inl rfl⟩
  rw [List.nil_append] at *
  dsimp only at *
  by_cases hc : s2 ≠ [] ∨ bs = [] ∨ bs.getLast? = some 0
  · refine ⟨s1 ++ [s2], ?_, ?_, good_snoc s1 0 s2 n (by omega) z fun h0 => ⟨fun _ => by decide, fun ds x hx hl => ?_⟩, by simp⟩
    · unfold inRuns
      rw [r, if_pos hc, enc_snoc]
    · rw [dec_snoc, ← d]
    · rcases e h0 with rfl | ⟨ds', x', h1, h2⟩
      · rw [hx, decF_snoc] at d
        have := congrArg List.length d
        simp at this
        omega
      · rw [hx] at h1
        obtain ⟨_, e2⟩ := List.append_inj' h1 rfl
        have e3 := (List.cons.inj e2).1
        subst e3
        rcases h2 with ⟨_, h2⟩ | ⟨h2, _⟩
        · rcases hc with h | rfl | h
          · exact h h0
          · rw [hx, decF_snoc] at d
            have := congrArg List.length d
            simp at this
            omega
          · exact h2 h
        · omega
  · have h0 : s2 = [] := Classical.byContradiction fun h => hc (.inl h)
    have h1 : bs ≠ [] := fun h => hc (.inr (.inl h))
    have h2 : bs.getLast? ≠ some 0 := fun h => hc (.inr (.inr h))
    rcases e h0 with h | ⟨ds, x, rfl, h⟩
    · exact absurd h h1
    · rcases h with ⟨hl, _⟩ | ⟨_, h⟩
      · refine ⟨ds ++ [x], ?_, ?_, good_snoc ds 0 x (fun c hc => n c (List.mem_append_left _ hc)) (by omega) (n x (List.mem_append_right _ List.mem_cons_self)).2 (fun h => by rw [h] at hl; cases hl), by simp⟩
        · unfold inRuns
          rw [r, if_neg hc]
        · rw [decF_snoc, if_neg (by omega), h0] at d
          rw [dec_snoc, d]
          simp
      · exact absurd h h2
end Stm
namespace Stm
theorem dec_mem {b : Int} : ∀ {cs : List (List Int)} {c : List Int}, c ∈ cs → b ∈ c → b ∈ dec cs
  | d :: cs, c, hc, hb => by
    unfold dec
    rcases List.mem_cons.mp hc with rfl | hc
    · exact List.mem_append_left _ (List.mem_append_left _ hb)
    · exact List.mem_append_right _ (dec_mem hc hb)
theorem good_mem : ∀ {cs : List (List Int)} {ah : Int} {c : List Int}, good ah cs → c ∈ cs → c.length ≤ 254 ∧ ∀ b ∈ c, b ≠ 0
  | d :: cs, ah, c, g, hc => by
    rcases List.mem_cons.mp hc with rfl | hc
    · exact ⟨g.1, g.2.1⟩
    · exact good_mem g.2.2.2 hc
theorem enc_bytes {cs : List (List Int)} {ah : Int} (g : good ah cs) (ok : ∀ b ∈ dec cs, 0 ≤ b ∧ b ≤ 255) : ∀ b ∈ enc cs, 1 ≤ b ∧ b ≤ 255 := by
  intro b hb
  unfold enc at hb
  obtain ⟨c, hc, hb⟩ := List.mem_flatMap.mp hb
  have := good_mem g hc
  rcases List.mem_cons.mp hb with rfl | hb
  · omega
  · have h1 := ok b (dec_mem hc hb)
    have h2 := this.2 b hb
    omega
theorem chk_okb {ps : List Int} (h : Okb ps) : Okb (chk ps) := by
  intro b hb
  unfold chk at hb
  rcases List.mem_append.mp hb with hb | hb
  · exact h b hb
  · have e1 := Int.emod_nonneg ps.sum (show (65521 : Int) ≠ 0 by decide)
    have e2 := Int.emod_lt_of_pos ps.sum (show (0 : Int) < 65521 by decide)
    have e3 := Int.emod_nonneg (wsum 1 ps) (show (65521 : Int) ≠ 0 by decide)
    have e4 := Int.emod_lt_of_pos (wsum 1 ps) (show (0 : Int) < 65521 by decide)
    simp only [List.mem_cons, List.not_mem_nil, or_false] at hb
    generalize ps.sum % 65521 = u at *
    generalize wsum 1 ps % 65521 = v at *
    rcases hb with rfl | rfl | rfl | rfl <;> omega
theorem runs_bytes {bs : List Int} (h : Okb bs) : ∀ b ∈ inRuns bs, 1 ≤ b ∧ b ≤ 255 := by
  obtain ⟨cs, e1, e2, g, _⟩ := runs_ex bs
  rw [e1]
  exact enc_bytes g (by rw [e2]; exact h)
theorem runs_ne (bs : List Int) : inRuns bs ≠ [] := by
  obtain ⟨cs, e1, e2, g, n⟩ := runs_ex bs
  rw [e1]
  match cs, n with
  | c :: cs, _ => intro h; cases h
theorem rstep_lenM {s : List Int × List Int} {b : Int} {n : Nat} (h : s.1.length + s.2.length ≤ 2 * n ∧ s.2.length ≤ 253) : (rstep s b).1.length + (rstep s b).2.length ≤ 2 * (n + 1) ∧ (rstep s b).2.length ≤ 253 := by
  unfold rstep
  split
  · simp only [List.length_append, List.length_cons, List.length_nil]
    omega
  · split
    · simp only [List.length_append, List.length_cons, List.length_nil]
      omega
    · simp only [List.length_append, List.length_cons, List.length_nil]
      omega
theorem rst_lenM : ∀ (ys : List Int) (s : List Int × List Int) (n : Nat), s.1.length + s.2.length ≤ 2 * n ∧ s.2.length ≤ 253 → (ys.foldl rstep s).1.length + (ys.foldl rstep s).2.length ≤ 2 * (n + ys.length)
  | [], s, n, h => h.1
  | y :: ys, s, n, h => by
    have := rst_lenM ys (rstep s y) (n + 1) (rstep_lenM h)
    rw [List.foldl_cons, List.length_cons]
    exact Nat.le_trans this (by omega)
theorem runs_len (bs : List Int) : (inRuns bs).length ≤ 2 * bs.length + 1 := by
  have := rst_lenM bs ([], []) 0 ⟨Nat.le_refl _, Nat.zero_le _⟩
  rw [Nat.zero_add] at this
  have : (rst bs).1.length + (rst bs).2.length ≤ 2 * bs.length := this
  unfold inRuns
  split
  · simp only [List.length_append, List.length_cons, List.length_nil]
    omega
  · omega
theorem strm_cons (p : List Int) (pss : List (List Int)) : strm (p :: pss) = inRuns (chk p) ++ [0] ++ strm pss := by simp [strm]
theorem strm_bytes : ∀ {pss : List (List Int)}, (∀ p ∈ pss, Okb p) → Okb (strm pss)
  | [], _ => fun _ h => nomatch h
  | p :: pss, h => by
    rw [strm_cons]
    intro b hb
    rcases List.mem_append.mp hb with hb | hb
    · rcases List.mem_append.mp hb with hb | hb
      · have := runs_bytes (chk_okb (h p List.mem_cons_self)) b hb
        omega
      · cases List.mem_singleton.mp hb
        decide
    · exact strm_bytes (fun q hq => h q (List.mem_cons_of_mem _ hq)) b hb
theorem strm_le : ∀ {pss : List (List Int)} {n : Nat}, (∀ p ∈ pss, p.length ≤ n) → (strm pss).length ≤ pss.length * (2 * n + 10)
  | [], n, _ => Nat.zero_le _
  | p :: pss, n, h => by
    rw [strm_cons, List.length_append, List.length_append]
    have h1 := runs_len (chk p)
    have h2 : (chk p).length = p.length + 4 := by simp [chk]
    have h3 := h p List.mem_cons_self
    have h4 := strm_le (pss := pss) (n := n) fun q hq => h q (List.mem_cons_of_mem _ hq)
    have h5 : (p :: pss).length * (2 * n + 10) = pss.length * (2 * n + 10) + (2 * n + 10) := by rw [List.length_cons, Nat.add_mul, Nat.one_mul]
    rw [h5]
    simp only [List.length_cons, List.length_nil]
    omega
end Stm
namespace Stm
open PySem PySem.Spec PyProof.Rows L2 Kb
theorem atI_app (pre : List Int) (x : Int) (ys : List Int) : atI ((pre ++ x :: ys).map V.int) (pre.length : Int) = some (.int x) :=
  atI_nat (by simp)
theorem sIx_nat (n d : Nat) (k : Nat) (h : k ≤ n) : HT.sIx n d (some (k : Int)) = k := by
  rw [HT.sIx_nat]
  omega
theorem cutI_mid {α : Type} (pre : List α) (x : α) (c ys : List α) : cutI (pre ++ x :: (c ++ ys)) (some ((pre.length : Int) + 1)) (some ((pre.length : Int) + ((c.length : Int) + 1))) = c := by
  have e1 : ((pre.length : Int) + 1) = ((pre.length + 1 : Nat) : Int) := by omega
  have e2 : ((pre.length : Int) + ((c.length : Int) + 1)) = ((pre.length + (c.length + 1) : Nat) : Int) := by omega
  unfold cutI
  rw [e1, e2, sIx_nat _ _ _ (by simp), sIx_nat _ _ _ (by simp)]
  have e3 : pre ++ x :: (c ++ ys) = (pre ++ [x]) ++ (c ++ ys) := by simp
  rw [e3, List.drop_left' (by simp), List.take_left' (by omega)]
theorem dec_cons (c : List Int) (cs : List (List Int)) : dec (c :: cs) = c ++ (if c.length < 254 ∧ cs ≠ [] then [0] else []) ++ dec cs := rfl
theorem enc_cons (c : List Int) (cs : List (List Int)) : enc (c :: cs) = ((c.length : Int) + 1) :: (c ++ enc cs) := rfl
theorem enc_len0 {cs : List (List Int)} (h : (enc cs).length = 0) : cs = [] := by
  match cs, h with
  | [], _ => rfl
  | c :: cs, h => rw [enc_cons] at h; simp at h
end Stm

namespace Stm
open PySem PySem.Spec PyProof.Rows L2 Kb
def t_is_bytes (K : PySem.W.Frag) : TS :=
 (tSeq (tIfS (tNot (tTru K (tCB (rIsiU K) (tCons (tVar 0) (tCons (tTup (tCons (tC (.ty "list")) (tCons (tC (.ty "tuple")) tNil))) tNil)))))
 (tRet (tC (.bl false)))
 tNext)
 (tSeq (tFor (iSeq K (tVar 0)) (gName 1)
 (tIfS (tOr (tNot (tTru K (tCB (rIsiU K) (tCons (tVar 1) (tCons (tC (.ty "int")) tNil))))) (tOr (tTru K (tCB (rIsiU K) (tCons (tVar 1) (tCons (tC (.ty "bool")) tNil)))) (tOr (tTest (tOp rLtU (tVar 1) (tC (.int 0)))) (tTest (tOp rGtU (tVar 1) (tC (.int 255)))))))
 (tRet (tC (.bl false)))
 tNext))
 (tRet (tC (.bl true)))))

def t_checked (K : PySem.W.Frag) : TS :=
 (tSeq (tAsg2 (tC (.int 0)) (gName 1) (gName 2))
 (tSeq (tFor (iEnumS K (tCons (tVar 0) tNil) (tC (.int 1))) (gTup K 2 (gCons (gName 3) (gCons (gName 4) gNil)))
 (tSeq (tAug 1 (tVar 4) rIAddU)
 (tAug 2 (tOp (rMulU K) (tVar 3) (tVar 4)) rIAddU)))
 (tSeq (tAug 1 (tC (.int 65521)) rIModU)
 (tSeq (tAug 2 (tC (.int 65521)) rIModU)
 (tRet (tOp (rAddU K) (tCB (rListU K) (tCons (tVar 0) tNil)) (tLst (tCons (tOp rDivU (tVar 1) (tC (.int 256))) (tCons (tOp rModU (tVar 1) (tC (.int 256))) (tCons (tOp rDivU (tVar 2) (tC (.int 256))) (tCons (tOp rModU (tVar 2) (tC (.int 256))) tNil)))))))))))

def t_in_runs (K : PySem.W.Frag) : TS :=
 (tSeq (tAsg (tLst tNil) (gName 1))
 (tSeq (tAsg (tLst tNil) (gName 2))
 (tSeq (tFor (iList K (tVar 0)) (gName 3)
 (tSeq (tIfS (tTest (tOp (rNeU K) (tVar 3) (tC (.int 0))))
 (tDrop (tBM K "list" rAppU (tVar 2) (tCons (tVar 3) tNil)))
 tNext)
 (tIfS (tOr (tTest (tOp (rEqU K) (tVar 3) (tC (.int 0)))) (tTest (tOp (rEqU K) (tCB (rLenU K) (tCons (tVar 2) tNil)) (tC (.int 254)))))
 (tSeq (tAug 1 (tOp (rAddU K) (tLst (tCons (tOp (rAddU K) (tCB (rLenU K) (tCons (tVar 2) tNil)) (tC (.int 1))) tNil)) (tVar 2)) rIAddU)
 (tAsg (tLst tNil) (gName 2)))
 tNext)))
 (tSeq (tIfS (tOr (tTest (tOp (rNeU K) (tVar 2) (tLst tNil))) (tOr (tTest (tOp (rEqU K) (tVar 0) (tLst tNil))) (tTest (tOp (rEqU K) (tOp (rIxU K) (tVar 0) (tUn rNegU (tC (.int 1)))) (tC (.int 0))))))
 (tAug 1 (tOp (rAddU K) (tLst (tCons (tOp (rAddU K) (tCB (rLenU K) (tCons (tVar 2) tNil)) (tC (.int 1))) tNil)) (tVar 2)) rIAddU)
 tNext)
 (tRet (tVar 1))))))

def t_streamed (K : PySem.W.Frag) : TS :=
 (tSeq (tAsg (tLst tNil) (gName 1))
 (tSeq (tFor (iSeq K (tVar 0)) (gName 2)
 (tSeq (tIfS (tNot (tTru K (tCall (sp_is_bytes K) [] E0 (tCons (tVar 2) tNil))))
 tNever
 tNext)
 (tAug 1 (tOp (rAddU K) (tCall (sp_in_runs K) [] E0 (tCons (tCall (sp_checked K) [] E0 (tCons (tVar 2) tNil)) tNil)) (tLst (tCons (tC (.int 0)) tNil))) rIAddU)))
 (tRet (tVar 1))))

end Stm

/-! ## streams: the readings -/
namespace Stm
open PySem PySem.Spec PyProof.Rows L2 Kb
theorem len_is_bytes (K : PySem.W.Frag) : ∀ vs H Q E, sp_is_bytes K vs H Q E → vs.length = ["data"].length := by
  rintro _ _ _ _ ⟨_, _, rfl, _⟩; rfl
theorem len_checked (K : PySem.W.Frag) : ∀ vs H Q E, sp_checked K vs H Q E → vs.length = ["part"].length := by
  rintro _ _ _ _ ⟨_, _, rfl, _⟩; rfl
theorem len_in_runs (K : PySem.W.Frag) : ∀ vs H Q E, sp_in_runs K vs H Q E → vs.length = ["data"].length := by
  rintro _ _ _ _ ⟨_, _, rfl, _⟩; rfl
theorem len_streamed (K : PySem.W.Frag) : ∀ vs H Q E, sp_streamed K vs H Q E → vs.length = ["parts"].length := by
  rintro _ _ _ _ ⟨_, _, _, rfl, _⟩; rfl
theorem kd_int {K : PySem.W.Frag} {t : String} (h : Kd t) : PySem.W.kitOne K (.type t) (.type "int") = some (t == "int" || t == "bool") := by
  rcases h with rfl | rfl | rfl | rfl | rfl | rfl | rfl <;> exact kit_ty (by decide +kernel)
theorem kd_bool {K : PySem.W.Frag} {t : String} (h : Kd t) : PySem.W.kitOne K (.type t) (.type "bool") = some (t == "bool") := by
  rcases h with rfl | rfl | rfl | rfl | rfl | rfl | rfl <;> exact kit_ty (by decide +kernel)
theorem ty_int_of' {K : PySem.W.Frag} {H : Hp} {v : V} {t : Value} (h : TyX K H v t) (e : t = .type "int") : ∃ i, v = .int i := by
  cases h with
  | base b =>
    cases b with
    | int i => exact ⟨i, rfl⟩
    | _ => exact absurd e (by first | (intro z; cases z; done) | (intro z; injection z with z; revert z; decide))
  | _ => exact absurd e (by first | (intro z; cases z; done) | (intro z; injection z with z; revert z; decide))
theorem ty_int_of {K : PySem.W.Frag} {H : Hp} {v : V} (h : TyX K H v (.type "int")) : ∃ i, v = .int i := ty_int_of' h rfl
theorem ty_not' {K : PySem.W.Frag} {H : Hp} {v : V} {t : Value} (h : TyX K H v t) (n : t ≠ .type "int") : isB v = false := by
  cases h with
  | base b =>
    cases b <;> first | rfl | exact absurd rfl n
  | _ => rfl
theorem ty_not {K : PySem.W.Frag} {H : Hp} {v : V} {t : String} (h : TyX K H v (.type t)) (n : t ≠ "int") : isB v = false := ty_not' h fun e => n (by injection e)
theorem p_is_bytes (K : PySem.W.Frag) (vs : List V) (H : Hp) (Q : VK) (E : XK) (h : sp_is_bytes K vs H Q E) : t_is_bytes K { nx := fun _ H' => Q .non H', rt := Q } (start ["data", "byte"] vs) H := by
  obtain ⟨x, b, rfl, hx, q⟩ := h
  rcases hx with ⟨a, vs, rfl, hs, hk, rfl⟩ | ⟨t, ht, hkd, rfl⟩
  · have key : ∀ T : String, (T = "list" ∨ T = "tuple") → TyX K H (.ref a) (.type T) → t_is_bytes K { nx := fun _ H' => Q .non H', rt := Q } (start ["data", "byte"] [V.ref a]) H := by
      intro T hT hty
      walk_at "go"
      rename_i p np
      refine isi2_go upd_same (tyX_same (Kp.refl.new np).same hty) (b := T == "list") (c := T == "tuple") ?_ ?_ ?_
      · rcases hT with rfl | rfl <;> exact kit_ty (by decide +kernel)
      · rcases hT with rfl | rfl <;> exact kit_ty (by decide +kernel)
      have e : (T == "list" || T == "tuple") = true := by rcases hT with rfl | rfl <;> decide
      rw [e]
      walk_at "go"
      rename_i J G w hG
      refine for_it w (fun i σ H' => (∃ u, σ = [some (.ref a), u]) ∧ Kp [] H H' ∧ ∀ v ∈ vs.take i, isB v = true) ⟨⟨_, rfl⟩, Kp.refl.new np, by simp⟩ (fun i σ H' _ h => hG H' ((upd_ne (hs.newNe np)).trans (hs.same h.2.1))) ?_ (fun σ H' h => ?_)
      · rintro i x σ H1 H2 hi ⟨⟨u, rfl⟩, hk1, hall⟩ ⟨rfl, hx⟩
        obtain ⟨t, ty, hkd⟩ := hk x (List.mem_of_getElem? hx)
        have ty := tyX_same hk1.same ty
        have no : t ≠ "int" → Q (.bl false) H2 := fun n => by
          have e : vs.all isB = false := by
            rw [List.all_eq_false]
            exact ⟨x, List.mem_of_getElem? hx, by rw [ty_not ty n]; decide⟩
          rw [← e]
          exact q _ hk1
        rcases hkd with rfl | rfl | rfl | rfl | rfl | rfl | rfl
        case inr.inr.inl =>
          obtain ⟨n, rfl⟩ := ty_int_of ty
          have bad : ¬ (0 ≤ n ∧ n ≤ 255) → Q (.bl false) H2 := fun hn => by
            have e : vs.all isB = false := by
              rw [List.all_eq_false]
              exact ⟨_, List.mem_of_getElem? hx, by simp [isB]; omega⟩
            rw [← e]
            exact q _ hk1
          walk_at "go"
          · exact bad (by omega)
          · exact bad (by omega)
          · intro v hv
            rw [List.take_add_one, hx] at hv
            rcases List.mem_append.mp hv with hv | hv
            · exact hall v hv
            · cases List.mem_singleton.mp hv
              simp only [isB]
              exact decide_eq_true (by omega)
        all_goals
          walk_at "go"
          exact no (by decide)
      · obtain ⟨⟨u, rfl⟩, hk1, hall⟩ := h
        walk_at "go"
        have e : vs.all isB = true := by
          rw [List.all_eq_true]
          intro v hv
          exact hall v (by rw [List.take_length]; exact hv)
        rw [← e]
        exact q _ hk1
    rcases hs with hs | hs
    · exact key "list" (.inl rfl) (.base (.lst hs))
    · exact key "tuple" (.inr rfl) (.base (.tup hs))
  · walk_at "go"
    rename_i p np
    refine isi2_go upd_same (tyX_same (Kp.refl.new np).same ht) (b := false) (c := false) ?_ ?_ ?_
    · rcases hkd with rfl | rfl | rfl | rfl | rfl <;> exact kit_ty (by decide +kernel)
    · rcases hkd with rfl | rfl | rfl | rfl | rfl <;> exact kit_ty (by decide +kernel)
    walk_at "go"
    exact q _ (Kp.refl.new np)
theorem sum_snoc (xs : List Int) (b : Int) : (xs ++ [b]).sum = xs.sum + b := by simp
theorem wsum_snoc : ∀ (xs : List Int) (k b : Int), wsum k (xs ++ [b]) = wsum k xs + (k + xs.length) * b
  | [], k, b => by simp [wsum]
  | x :: xs, k, b => by
    rw [List.cons_append]
    unfold wsum
    rw [wsum_snoc xs]
    simp only [List.length_cons]
    have e : k + 1 + (xs.length : Int) = k + ((xs.length + 1 : Nat) : Int) := by omega
    rw [e]
    omega
theorem map_get {xs : List Int} {i : Nat} {x : V} (h : (xs.map V.int)[i]? = some x) : ∃ b, xs[i]? = some b ∧ x = .int b := by
  rw [List.getElem?_map] at h
  obtain ⟨b, h1, h2⟩ := Option.map_eq_some_iff.mp h
  exact ⟨b, h1, h2.symm⟩
theorem p_checked (K : PySem.W.Frag) (vs : List V) (H : Hp) (Q : VK) (E : XK) (h : sp_checked K vs H Q E) : t_checked K { nx := fun _ H' => Q .non H', rt := Q } (start ["part", "total", "weighed", "number", "byte"] vs) H := by
  obtain ⟨a, bs, rfl, ha, hl, q⟩ := h
  walk_at "go"
  rename_i J G w hG
  refine for_it w (fun i σ H' => (∃ u v, σ = [some (.ref a), some (.int (bs.take i).sum), some (.int (wsum 1 (bs.take i))), u, v]) ∧ Kp [] H H') ⟨⟨_, _, rfl⟩, Kp.refl⟩ (fun i σ H' _ h => hG H' (ha.same h.2)) ?_ (fun σ H' h => ?_)
  · rintro i x σ H1 H2 hi ⟨⟨u, v, rfl⟩, hk1⟩ ⟨T, y, rfl, hT, rfl, hx⟩
    obtain ⟨b, hb, rfl⟩ := map_get hx
    rw [List.length_map] at hi
    walk_at "go"
    have e : bs.take (i + 1) = bs.take i ++ [b] := by rw [List.take_add_one, hb]; rfl
    have el : (bs.take i).length = i := by rw [List.length_take]; omega
    rw [e, sum_snoc, wsum_snoc, el]
    exact ⟨⟨_, _, rfl⟩, hk1.new hT⟩
  · obtain ⟨⟨u, v, rfl⟩, hk1⟩ := h
    rw [List.length_map, List.take_length]
    walk_at "go"
    rename_i p1 n1 p2 n2 p3 n3
    exact q _ p3 (none_of ((hk1.new n1).new n2) n3) (((hk1.new n1).new n2).new n3) (by rw [upd_same, chk, List.map_append]; rfl)
theorem rst_snoc (xs : List Int) (b : Int) : rst (xs ++ [b]) = rstep (rst xs) b := by
  unfold rst
  rw [List.foldl_append]
  rfl
theorem rstep_len {s : List Int × List Int} {b : Int} {n : Nat} (h : s.1.length + s.2.length ≤ 2 * n ∧ s.2.length ≤ 253) : (rstep s b).1.length + (rstep s b).2.length ≤ 2 * (n + 1) ∧ (rstep s b).2.length ≤ 253 := by
  unfold rstep
  split
  · simp only [List.length_append, List.length_cons, List.length_nil]
    omega
  · split
    · simp only [List.length_append, List.length_cons, List.length_nil]
      omega
    · simp only [List.length_append, List.length_cons, List.length_nil]
      omega
theorem rst_lenG : ∀ (ys : List Int) (s : List Int × List Int) (n : Nat), s.1.length + s.2.length ≤ 2 * n ∧ s.2.length ≤ 253 → (ys.foldl rstep s).1.length + (ys.foldl rstep s).2.length ≤ 2 * (n + ys.length) ∧ (ys.foldl rstep s).2.length ≤ 253
  | [], s, n, h => h
  | y :: ys, s, n, h => by
    have := rst_lenG ys (rstep s y) (n + 1) (rstep_len h)
    rw [List.foldl_cons, List.length_cons]
    refine ⟨Nat.le_trans this.1 (by omega), this.2⟩
theorem rst_len (xs : List Int) : (rst xs).1.length + (rst xs).2.length ≤ 2 * xs.length ∧ (rst xs).2.length ≤ 253 := by
  have := rst_lenG xs ([], []) 0 ⟨Nat.le_refl _, Nat.zero_le _⟩
  rw [Nat.zero_add] at this
  exact this
theorem rstep0 {s : List Int × List Int} {b : Int} (h : b = 0) : rstep s b = (s.1 ++ ([(s.2.length : Int) + 1] ++ s.2), []) := by unfold rstep; rw [if_pos h]
theorem rstepF {s : List Int × List Int} {b : Int} (h : ¬ b = 0) (h2 : s.2.length + 1 = 254) : rstep s b = (s.1 ++ ([((s.2 ++ [b]).length : Int) + 1] ++ (s.2 ++ [b])), []) := by unfold rstep; rw [if_neg h, if_pos h2]
theorem rstepN {s : List Int × List Int} {b : Int} (h : ¬ b = 0) (h2 : ¬ s.2.length + 1 = 254) : rstep s b = (s.1, s.2 ++ [b]) := by unfold rstep; rw [if_neg h, if_neg h2]
theorem p_in_runs (K : PySem.W.Frag) (vs : List V) (H : Hp) (Q : VK) (E : XK) (h : sp_in_runs K vs H Q E) : t_in_runs K { nx := fun _ H' => Q .non H', rt := Q } (start ["data", "found", "run", "byte"] vs) H := by
  obtain ⟨a, bs, rfl, ha, hl, q⟩ := h
  walk_at "go"
  rename_i f nf r nr
  have nf' : f ≠ r := by
    rintro rfl
    rw [upd_same] at nr
    cases nr
  have nr0 : H r = none := by rwa [upd_ne nf'.symm] at nr
  refine ⟨⟨_, by walk_at "l"⟩, ?_⟩
  refine for_it (walk_list (xs := bs.map V.int)) (fun i σ H' => ∃ r u, σ = [some (.ref a), some (.ref f), some (.ref r), u] ∧ Kp [] H H' ∧ H' f = some (.lst ((rst (bs.take i)).1.map V.int)) ∧ H' r = some (.lst ((rst (bs.take i)).2.map V.int)) ∧ H r = none ∧ f ≠ r) ⟨r, _, rfl, (Kp.refl.new nf).new nr, by walk_at "h", by walk_at "h", nr0, nf'⟩ (fun i σ H' _ h => ?_) ?_ (fun σ H' h => ?_)
  · obtain ⟨r, u, _, k, _⟩ := h
    exact SqL.of (by walk_at "h")
  · rintro i x σ H1 H2 hi ⟨r, u, rfl, hk1, hf, hr, hr0, hne⟩ ⟨rfl, hx⟩
    obtain ⟨b, hb, rfl⟩ := map_get hx
    rw [List.length_map] at hi
    have e : bs.take (i + 1) = bs.take i ++ [b] := by rw [List.take_add_one, hb]; rfl
    have el : (bs.take i).length = i := by rw [List.length_take]; omega
    have hlen := rst_len (bs.take i)
    rw [el] at hlen
    rw [e, rst_snoc]
    generalize rst (bs.take i) = s at *
    obtain ⟨s1, s2⟩ := s
    dsimp only at hf hr hlen
    walk_at "go"
    all_goals try (exfalso; omega)
    · rename_i h1 _ h2 p3 n3 p2 n2 p1 n1
      have h2 : s2.length + 1 = 254 := by
        rw [List.length_append, List.length_map, List.length_singleton] at h2
        omega
      rw [rstepF h1 h2]
      refine ⟨by walk_at "kp", (show _ = some _ from by walk_at "h").trans (by simp), upd_same, by walk_at "no", by walk_at "ne"⟩
    · rename_i h1 _ h2
      have h2 : ¬ s2.length + 1 = 254 := by
        rw [List.length_append, List.length_map, List.length_singleton] at h2
        omega
      rw [rstepN h1 h2]
      refine ⟨by walk_at "kp", by walk_at "h", upd_same.trans (by simp), hr0, hne⟩
    · rename_i h1 _ p3 n3 p2 n2 p1 n1
      rw [rstep0 h1]
      refine ⟨by walk_at "kp", (show _ = some _ from by walk_at "h").trans (by simp), upd_same, by walk_at "no", by walk_at "ne"⟩
  · obtain ⟨r, u, rfl, hk1, hf, hr, hr0, hne⟩ := h
    rw [List.length_map, List.take_length] at hf hr
    have hlen := rst_len bs
    walk_at "go"
    · rename_i p4 n4 h1 p2 n2 p1 n1
      refine q _ f nf (by walk_at "kp") ?_
      rw [upd_same, inRuns, if_pos (.inl h1)]
      simp
    · rename_i p4 n4 _ p3 n3 h1 p2 n2 p1 n1
      refine q _ f nf (by walk_at "kp") ?_
      rw [upd_same, inRuns, if_pos (.inr (.inl h1))]
      simp
    · rename_i p4 n4 h1 p3 n3 h2
      obtain ⟨ys, z, rfl⟩ : ∃ ys z, bs = ys ++ [z] := ⟨bs.dropLast, bs.getLast h2, (List.dropLast_concat_getLast h2).symm⟩
      have ea : (ys ++ [z]).map V.int = ys.map V.int ++ [V.int z] := by simp
      rw [ea] at ha
      refine ixL_go (SqL.of (by walk_at "h")) (atI_last _ _) ?_
      walk_at "go"
      · rename_i h3 p2 n2 p1 n1
        refine q _ f nf (by walk_at "kp") ?_
        rw [upd_same, inRuns, if_pos (.inr (.inr (by rw [List.getLast?_concat, h3])))]
        simp
      · rename_i h3
        refine q _ f nf (by walk_at "kp") ?_
        have n : ¬ ((rst (ys ++ [z])).2 ≠ [] ∨ ys ++ [z] = [] ∨ (ys ++ [z]).getLast? = some 0) := by
          rintro (h | h | h)
          · exact h h1
          · exact h2 h
          · rw [List.getLast?_concat] at h
            exact h3 (Option.some.inj h)
        rw [inRuns, if_neg n]
        walk_at "h"
theorem strm_len (pss : List (List Int)) (i : Nat) : (strm (pss.take i)).length ≤ (strm pss).length := by
  have e : strm pss = strm (pss.take i) ++ strm (pss.drop i) := by
    unfold strm
    rw [← List.flatMap_append, List.take_append_drop]
  rw [e, List.length_append]
  omega
theorem strm_snoc (pss : List (List Int)) (p : List Int) : strm (pss ++ [p]) = strm pss ++ (inRuns (chk p) ++ [0]) := by
  unfold strm
  rw [List.flatMap_append, List.flatMap_singleton]
theorem Parts.kp {H H' : Hp} {us : List V} {pss : List (List Int)} (h : Parts H us pss) (k : Kp [] H H') : Parts H' us pss := ⟨h.1, fun i v e => by
  obtain ⟨a, ps, h1, h2, h3, h4, h5⟩ := h.2 i v e
  exact ⟨a, ps, h1, h2, h3.kp k, h4, h5⟩⟩
theorem ba_ok {K : PySem.W.Frag} {H : Hp} {a : Addr} {ps : List Int} (h : Ints H a ps) (ok : Okb ps) : BA K H (.ref a) true := by
  refine .inl ⟨a, _, rfl, h, fun v hv => ?_, ?_⟩
  · obtain ⟨i, _, rfl⟩ := List.mem_map.mp hv
    exact ⟨"int", .base (.int i), .inr (.inr (.inl rfl))⟩
  · symm
    rw [List.all_eq_true]
    intro v hv
    obtain ⟨i, hi, rfl⟩ := List.mem_map.mp hv
    exact decide_eq_true (ok i hi)
theorem chk_len (ps : List Int) : (chk ps).length = ps.length + 4 := by simp [chk]
theorem p_streamed (K : PySem.W.Frag) (vs : List V) (H : Hp) (Q : VK) (E : XK) (h : sp_streamed K vs H Q E) : t_streamed K { nx := fun _ H' => Q .non H', rt := Q } (start ["parts", "found", "part"] vs) H := by
  obtain ⟨a, us, pss, rfl, ha, hp, hl, q⟩ := h
  walk_at "go"
  rename_i f nf J G w hG
  refine for_it w (fun i σ H' => (∃ u, σ = [some (.ref a), some (.ref f), u]) ∧ Kp [] H H' ∧ H' f = some (.lst ((strm (pss.take i)).map V.int))) ⟨⟨_, rfl⟩, Kp.refl.new nf, upd_same⟩ (fun i σ H' _ h => hG H' ?_) ?_ (fun σ H' h => ?_)
  · exact (upd_ne (ha.newNe nf)).trans (ha.same h.2.1)
  · rintro i x σ H1 H2 hi ⟨⟨u, rfl⟩, hk1, hf⟩ ⟨rfl, hx⟩
    obtain ⟨b, ps, hps, rfl, hb, hok, hpl⟩ := (hp.kp hk1).2 i x hx
    have e : pss.take (i + 1) = pss.take i ++ [ps] := by rw [List.take_add_one, hps]; rfl
    have hl1 := strm_len pss (i + 1)
    rw [e, strm_snoc, List.length_append, List.length_append] at hl1
    rw [e, strm_snoc]
    walk_at "go"
    refine ⟨.ref b, true, rfl, ba_ok hb hok, fun H3 k3 => ?_⟩
    walk_at "go"
    refine ⟨b, ps, rfl, hb.kp k3, by omega, fun H4 p np k4 hp4 => ?_⟩
    walk_at "go"
    refine ⟨p, chk ps, rfl, hp4, by rw [chk_len]; omega, fun H5 p2 np2 k5 hp5 => ?_⟩
    have hf5 := k5.at_ List.not_mem_nil (k4.at_ List.not_mem_nil (k3.at_ List.not_mem_nil hf))
    walk_at "go"
    have k := ((hk1.trans k3).trans k4).trans k5
    exact ⟨by walk_at "kp", upd_same.trans (by simp)⟩
  · obtain ⟨⟨u, rfl⟩, hk1, hf⟩ := h
    rw [hp.1, List.take_length] at hf
    walk_at "go"
    exact q _ f nf hk1 hf
end Stm

namespace Stm
open PySem PySem.Spec PyProof.Rows L2 Kb
def t_law_take (K : PySem.W.Frag) : TS :=
 (tSeq (tIfS (tAnd (tTest (tOp (rEqU K) (tOp (rIxU K) (tVar 0) (tC (.int 1))) (tC (.int 0)))) (tAnd (tTest (tOp (rEqU K) (tOp rModU (tOp (rIxU K) (tVar 0) (tC (.int 3))) (tC (.int 5))) (tC (.int 0)))) (tTest (tOp (rNeU K) (tOp (rIxU K) (tVar 0) (tC (.int 0))) (tLst tNil)))))
 (tSeq (tAsg (tBM K "list" rPopU (tOp (rIxU K) (tVar 0) (tC (.int 0))) (tCons (tC (.int 0)) tNil)) (gName 2))
 (tSeq (tIfS (tTest (tOp rLtU (tVar 2) (tC (.int 0))))
 (tAsg (tOp rSubU (tC (.int 0)) (tOp (rMulU K) (tC (.int 3)) (tVar 2))) (gName 2))
 tNext)
 (tIfS (tTest (tOp rGeU (tVar 2) (tOp rPowU (tC (.int 10)) (tC (.int 18)))))
 (tAsg (tVar 2) (gSub (tVar 0) (tC (.int 1)) rSetU))
 (tAsg (tOp rModU (tOp (rAddU K) (tOp (rMulU K) (tOp (rIxU K) (tVar 0) (tC (.int 2))) (tC (.int 31))) (tVar 2)) (tC (.int 2147483647))) (gSub (tVar 0) (tC (.int 2)) rSetU)))))
 tNext)
 (tSeq (tIfS (tTest (tOp rGtU (tOp (rIxU K) (tVar 0) (tC (.int 1))) (tC (.int 0))))
 (tSeq (tAsg (tOp rModU (tOp (rIxU K) (tVar 0) (tC (.int 1))) (tVar 1)) (gName 3))
 (tSeq (tAsg (tOp rDivU (tOp (rIxU K) (tVar 0) (tC (.int 1))) (tVar 1)) (gSub (tVar 0) (tC (.int 1)) rSetU))
 (tRet (tVar 3))))
 tNext)
 (tSeq (tAsg (tOp (rAddU K) (tOp (rIxU K) (tVar 0) (tC (.int 3))) (tC (.int 1))) (gSub (tVar 0) (tC (.int 3)) rSetU))
 (tSeq (tAsg (tOp rModU (tOp (rAddU K) (tOp (rIxU K) (tVar 0) (tC (.int 2))) (tOp (rMulU K) (tC (.int 104729)) (tOp (rIxU K) (tVar 0) (tC (.int 3))))) (tC (.int 2147483647))) (gName 4))
 (tSeq (tAsg (tOp rModU (tOp rPowU (tVar 4) (tC (.int 5))) (tC (.int 2147483647))) (gName 4))
 (tSeq (tAsg (tOp rModU (tOp (rMulU K) (tVar 4) (tOp (rAddU K) (tOp rDivU (tVar 4) (tC (.int 1009))) (tC (.int 69621)))) (tC (.int 2147483399))) (gName 4))
 (tRet (tOp rModU (tOp rDivU (tVar 4) (tC (.int 16))) (tVar 1)))))))))

end Stm

/-! ## the laws' own defs that several laws share: readings -/
namespace Stm
open PySem PySem.Spec PyProof.Rows L2 Kb
theorem len_law_take (K : PySem.W.Frag) : ∀ vs H Q E, sp_law_take K vs H Q E → vs.length = ["_law_state", "_law_many"].length := by
  intro _ _ _ _ h
  unfold sp_law_take at h
  obtain ⟨_, _, _, rfl, _⟩ := h
  rfl
theorem p_law_take (K : PySem.W.Frag) (vs : List V) (H : Hp) (Q : VK) (E : XK) (h : sp_law_take K vs H Q E) : t_law_take K { nx := fun _ H' => Q .non H', rt := Q } (start ["_law_state", "_law_many", "_law_cell", "_law_digit", "_law_one"] vs) H := by
  unfold sp_law_take at h
  obtain ⟨S, C, m, rfl, ⟨hne, cs, w, x, n, hS, hC, hcl⟩, hm0, hm1, q⟩ := h
  have hne' := hne.symm
  have fin : ∀ H' c' w' x' n' r, Kp [S, C] H H' → H' S = some (.lst [.ref C, .int w', .int x', .int n']) → H' C = some (.lst (List.map V.int c')) → c'.length ≤ 1000 → Q (.int (r % m)) H' := fun H' c' w' x' n' r k h1 h2 h3 =>
    q H' _ k ⟨hne, c', w', x', n', h1, h2, h3⟩ (Int.emod_nonneg _ (by omega)) (Int.emod_lt_of_pos _ hm0)
  rcases cs with _ | ⟨c, cs⟩
  · walk_at "go"
    all_goals try (exfalso; simp at *; omega)
    all_goals exact fin _ [] _ _ _ _ (by walk_at "kp") (by walk_at "h") (by walk_at "h") (by decide)
  · have hcl' : cs.length ≤ 1000 := by simp at hcl; omega
    walk_at "go"
    all_goals try (exfalso; simp at *; done)
    all_goals first
      | exact fin _ cs _ _ _ _ (by walk_at "kp") (by walk_at "h") (by walk_at "h") hcl'
      | exact fin _ (c :: cs) _ _ _ _ (by walk_at "kp") (by walk_at "h") (by walk_at "h") hcl
section
variable {K : PySem.W.Frag} {Q : VK} {E : XK} {H0 H : Hp} {S C : Addr}
theorem SC.new {p : Addr} {o : HO} (sc : SC H0 S C H) (n : H p = none) : SC H0 S C (upd H p o) := by
  obtain ⟨k, hne, cs, w, x, m, hS, hC, hl⟩ := sc
  exact ⟨k.upd_new' n, hne, cs, w, x, m, (upd_ne (ne_of_none hS n)).trans hS, (upd_ne (ne_of_none hC n)).trans hC, hl⟩
theorem SC.nm {p : Addr} (sc : SC H0 S C H) (n : H p = none) : p ∉ [S, C] := by
  obtain ⟨k, hne, cs, w, x, m, hS, hC, hl⟩ := sc
  intro h
  rcases List.mem_cons.mp h with rfl | h
  · rw [hS] at n; cases n
  · cases List.mem_singleton.mp h
    rw [hC] at n; cases n
theorem SC.was {p : Addr} (sc : SC H0 S C H) (n : H p = none) : H0 p = none := sc.1.none_of (sc.nm n) n
theorem SC.upd {p : Addr} {o : HO} (sc : SC H0 S C H) (n : H0 p = none) (m : p ∉ [S, C]) : SC H0 S C (upd H p o) := by
  obtain ⟨k, hne, cs, w, x, z, hS, hC, hl⟩ := sc
  have h1 : S ≠ p := fun e => m (by rw [e]; exact List.mem_cons_self)
  have h2 : C ≠ p := fun e => m (by rw [e]; exact List.mem_cons_of_mem _ List.mem_cons_self)
  exact ⟨k.upd_new n, hne, cs, w, x, z, (upd_ne h1).trans hS, (upd_ne h2).trans hC, hl⟩
theorem take_go {m : Int} (sc : SC H0 S C H) (h0 : 0 < m) (h1 : m < 1073741824) (q : ∀ H' r, SC H0 S C H' → Kp [S, C] H H' → 0 ≤ r → r < m → Q (.int r) H') : sp_law_take K [.ref S, .int m] H Q E := by
  unfold sp_law_take
  exact ⟨S, C, m, rfl, sc.2, h0, h1, fun H' r k st a b => q H' r ⟨sc.1.trans k, st⟩ k a b⟩
theorem stretch_go (sc : SC H0 S C H) (q : ∀ H' p bs, H p = none → SC H0 S C H' → Kp [S, C] H H' → H' p = some (.lst (bs.map V.int)) → Okb bs → bs.length ≤ 600 → Q (.ref p) H') : sp_law_stretch K [.ref S] H Q E := by
  unfold sp_law_stretch
  exact ⟨S, C, rfl, sc.2, fun H' p bs n k st h o l => q H' p bs n ⟨sc.1.trans k, st⟩ k h o l⟩
theorem part_go (sc : SC H0 S C H) (q : ∀ H' p bs, H p = none → SC H0 S C H' → Kp [S, C] H H' → H' p = some (.lst (bs.map V.int)) → Okb bs → bs.length ≤ 2000 → Q (.ref p) H') : sp_law_part K [.ref S] H Q E := by
  unfold sp_law_part
  exact ⟨S, C, rfl, sc.2, fun H' p bs n k st h o l => q H' p bs n ⟨sc.1.trans k, st⟩ k h o l⟩
end
theorem ix_mem {α : Type} {xs : List α} {i : Int} (h0 : 0 ≤ i) (h1 : i < xs.length) : ∃ x, x ∈ xs ∧ atI xs i = some x := by
  have h : i.toNat < xs.length := by omega
  refine ⟨xs[i.toNat], List.getElem_mem h, ?_⟩
  have e : (i.toNat : Int) = i := by omega
  have := atI_nat (List.getElem?_eq_getElem h)
  rw [e] at this
  exact this
theorem ix_int {xs : List Int} {i : Int} (h0 : 0 ≤ i) (h1 : i < xs.length) : ∃ x, x ∈ xs ∧ atI (xs.map V.int) i = some (.int x) := by
  obtain ⟨x, hx, e⟩ := ix_mem (xs := xs.map V.int) (i := i) h0 (by rw [List.length_map]; exact h1)
  obtain ⟨y, hy, rfl⟩ := List.mem_map.mp hx
  exact ⟨y, hy, e⟩
theorem ixB_go {K : PySem.W.Frag} {H : Hp} {Q : VK} {a : Addr} {xs : List Int} {i : Int} (h : H a = some (.lst (xs.map V.int))) (h0 : 0 ≤ i) (h1 : i < xs.length) (q : ∀ x, x ∈ xs → Q (.int x) H) : rIxU K (.ref a) (.int i) H Q := by
  obtain ⟨x, hx, e⟩ := ix_int h0 h1
  exact ixL_go (SqL.of h) e (q x hx)
theorem okb_app {xs ys : List Int} (h : Okb xs) (g : Okb ys) : Okb (xs ++ ys) := fun b hb => (List.mem_append.mp hb).elim (h b) (g b)
theorem okb_nil : Okb [] := fun _ h => by cases h
theorem okb_one {b : Int} (h0 : 0 ≤ b) (h1 : b ≤ 255) : Okb [b] := fun c h => by cases List.mem_singleton.mp h; exact ⟨h0, h1⟩
theorem rep_ints (n : Nat) (b : Int) : (List.replicate n [V.int b]).flatten = (List.replicate n b).map V.int := by
  induction n with
  | zero => rfl
  | succ n ih => rw [List.replicate_succ, List.flatten_cons, ih]; rfl
theorem okb_rep {n : Nat} {b : Int} (h0 : 0 ≤ b) (h1 : b ≤ 255) : Okb (List.replicate n b) := fun c h => by rw [(List.mem_replicate.mp h).2]; exact ⟨h0, h1⟩
end Stm

/-! ### own exception classes: made, raised, caught, looked at -/
namespace Kb
open PySem PySem.Spec PyProof.Rows L2
/-- where the top has what it calls x -/
def cAt (K : PySem.W.Frag) (x : Str) : Addr := match PySem.W.nsIn K mainGlobals x with
  | some (some (.ref a)) => a
  | _ => default
theorem cAt_of {K : PySem.W.Frag} {x : Str} {a : Addr} (h : PySem.W.nsIn K mainGlobals x = some (some (.ref a))) : cAt K x = a := by
  unfold cAt
  rw [h]
section
variable {P : Program} {w : World} {K : PySem.W.Frag} {mg : Str → Option Value} {base : Heap}
theorem Cal.ofX {x : Str} {st : Stmt} {N ps : List Str} {k : Nat} {sp : Sp} (D : Def K mg st x) (S : FnScope N ps (defScope st))
    (hb : ∀ (kV doc pm : Value) (an : Option Addr) (cdv ct : Value) (us : List Value), us.length = ps.length → bindArgs (PySem.W.fnOf x x (defArgs st) (defBody st) (defScope st) .none kV doc pm an cdv ct) ⟨us, []⟩ = pure (ps.zip us))
    (len : ∀ vs H Q E, sp vs H Q E → vs.length = ps.length)
    (hbody : ∀ (f : Addr) (cdv : Value) (A : Around) (outer : List Env) (s : Shared) (H : Hp) (vs : List V) (Q : VK) (E : XK), Room k (A.deeper (envOfC x (defScope st) s.heap.objs.size f cdv)) → sp vs H Q E →
      ∃ t, PSs (cxOf (L2.CX P w) P w K mg base N x (defScope st) f cdv A outer s H E) (defBody st) t ∧ t { nx := fun _ H' => Q .non H', rt := Q } (start N vs) H) : Cal P w K mg base (L2.CX P w) (k + 1) x ps sp := by
  obtain ⟨f, fd, hm, F⟩ := D
  refine ⟨f, fd, hm, F.okX S len (hbody f), F.kp, ?_, Fun.at_ F⟩
  obtain ⟨oc, od, kV, doc, pm, an, cdv, ct, osl, rfl, lk, hcd⟩ := F.ex
  exact hb kV doc pm an cdv ct
theorem CalM.ofX {C : Addr} {m qual : Str} {st : Stmt} {N ps : List Str} {k : Nat} {sp : Sp} (D : DefM K C st m qual) (S : FnScope N ps (defScope st))
    (hb : ∀ (kV doc pm : Value) (an : Option Addr) (cdv ct : Value) (us : List Value), us.length = ps.length → bindArgs (PySem.W.fnOf m qual (defArgs st) (defBody st) (defScope st) .none kV doc pm an cdv ct) ⟨us, []⟩ = pure (ps.zip us))
    (len : ∀ vs H Q E, sp vs H Q E → vs.length = ps.length)
    (hbody : ∀ (f : Addr) (cdv : Value) (A : Around) (outer : List Env) (s : Shared) (H : Hp) (vs : List V) (Q : VK) (E : XK), Room k (A.deeper (envOfC qual (defScope st) s.heap.objs.size f cdv)) → sp vs H Q E →
      ∃ t, PSs (cxOf (L2.CX P w) P w K mg base N qual (defScope st) f cdv A outer s H E) (defBody st) t ∧ t { nx := fun _ H' => Q .non H', rt := Q } (start N vs) H) : CalM P w K mg base (L2.CX P w) (k + 1) C m ps sp := by
  obtain ⟨f, fd, hm, F⟩ := D
  refine ⟨f, fd, hm, F.okX S len (hbody f), .all ?_⟩
  obtain ⟨oc, od, kV, doc, pm, an, cdv, ct, osl, rfl, lk, hcd⟩ := F.ex
  exact hb kV doc pm an cdv ct
/-- the __init__ of an exception's class -/
def DefI (K : PySem.W.Frag) (C : Addr) (st : Stmt) (qual : Str) : Prop := ∃ f fd, PySem.W.findIn K (.ref C) "__init__" = some (some (.ref f)) ∧ PySem.W.typeIn K (.ref f) = some (.type "function") ∧ Fun K "__init__" qual st f fd
structure CalI (P : Program) (w : World) (K : PySem.W.Frag) (mg : Str → Option Value) (base : Heap) (k : Nat) (C : Addr) (ps : List Str) (sp : Sp) : Prop where
  ex : ∃ f fd, PySem.W.findIn K (.ref C) "__init__" = some (some (.ref f)) ∧ PySem.W.typeIn K (.ref f) = some (.type "function") ∧ FnOk P w K mg base CX0 k f fd ps sp ∧ Binds K fd ps []
theorem CalI.of {C : Addr} {qual : Str} {st : Stmt} {N ps : List Str} {k : Nat} {sp : Sp} (D : DefI K C st qual) (S : FnScope N ps (defScope st))
    (hb : ∀ (kV doc pm : Value) (an : Option Addr) (cdv ct : Value) (us : List Value), us.length = ps.length → bindArgs (PySem.W.fnOf "__init__" qual (defArgs st) (defBody st) (defScope st) .none kV doc pm an cdv ct) ⟨us, []⟩ = pure (ps.zip us))
    (len : ∀ vs H Q E, sp vs H Q E → vs.length = ps.length)
    (hbody : ∀ (f : Addr) (cdv : Value) (A : Around) (outer : List Env) (s : Shared) (H : Hp) (vs : List V) (Q : VK) (E : XK), Room k (A.deeper (envOfC qual (defScope st) s.heap.objs.size f cdv)) → sp vs H Q E →
      ∃ t, PSs (cxOf CX0 P w K mg base N qual (defScope st) f cdv A outer s H E).nox (defBody st) t ∧ t { nx := fun _ H' => Q .non H', rt := Q } (start N vs) H) : CalI P w K mg base (k + 1) C ps sp := by
  obtain ⟨f, fd, h1, h2, F⟩ := D
  refine ⟨f, fd, h1, h2, F.ok S len (hbody f), .all ?_⟩
  obtain ⟨oc, od, kV, doc, pm, an, cdv, ct, osl, rfl, lk, hcd⟩ := F.ex
  exact hb kV doc pm an cdv ct
end
/-- what the written part says of an own exception's class -/
structure XCls (K : PySem.W.Frag) (C : Addr) : Prop where
  o : OexC K C
  xf : XfC K C
  cl : (PySem.W.clsIn K C).isSome = true
  ha : PySem.W.findIn K (.ref C) "__class__" = some (some (.builtin "object.__class__"))
  hn : PySem.W.specialIn K (.builtin "object.__class__") "__get__" = some (some (.builtin "getset_descriptor.__get__"))
  ht : PySem.W.takesIn K (.builtin "object.__class__") = some true
  hm : PySem.W.mroIn K C (.type "object") = some true
/-- an exception's __init__ whose fields are told by its arguments -/
@[irreducible] def spInit (C : Addr) (n : Nat) (fs : List V → List (Str × V)) : Sp := fun vs H Q _ => ∃ a ws, vs = .ref a :: ws ∧ ws.length = n ∧ H a = some (exo a C none) ∧ ∀ d, H d = none → d ≠ a → Q .non (upd (upd H d (exd d (fs ws))) a (exo a C (some d)))
theorem spInit_len {C : Addr} {n : Nat} {fs : List V → List (Str × V)} (vs : List V) (H : Hp) (Q : VK) (E : XK) (h : spInit C n fs vs H Q E) : vs.length = n + 1 := by
  unfold spInit at h
  obtain ⟨a, ws, rfl, h, _⟩ := h
  rw [List.length_cons, h]
theorem mkO_go {C : Addr} {n : Nat} {fs : List V → List (Str × V)} {vs : List V} {H : Hp} {Z : XK} (hn : vs.length = n) (hl : n ≤ 1000) (h : ∀ d, H d = none → Z (.ref C) (some d) (upd H d (.xd (fs vs)))) :
    vs.length ≤ 1000 ∧ ∀ a, H a = none → spInit C n fs (.ref a :: (vs ++ [])) (upd H a (exo a C none))
      (fun v H2 => v = .non ∧ ∃ (d : Addr) (fs : List (Str × V)), H2 a = some (exo a C (some d)) ∧ H2 d = some (exd d fs) ∧ H d = none ∧ Z (.ref C) (some d) (upd (del H2 a) d (.xd fs))) (fun _ _ _ => False) := by
  refine ⟨by omega, fun a ha => ?_⟩
  unfold spInit
  refine ⟨a, vs, by rw [List.append_nil], hn, upd_same, fun d hd da => ⟨rfl, d, fs vs, upd_same, (upd_ne da).trans upd_same, (upd_ne da).symm.trans hd, ?_⟩⟩
  have hd0 : H d = none := (upd_ne da).symm.trans hd
  have e : upd (del (upd (upd (upd H a (exo a C none)) d (exd d (fs vs))) a (exo a C (some d))) a) d (.xd (fs vs)) = upd H d (.xd (fs vs)) := by
    funext b
    by_cases hb : b = d
    · rw [hb, upd_same, upd_same]
    · rw [upd_ne hb, upd_ne hb]
      by_cases hba : b = a
      · rw [hba, del_same, ha]
      · rw [del_ne hba, upd_ne hba, upd_ne hb, upd_ne hba]
  rw [e]
  exact h d hd0
/-- raise x(e, ..) -/
def tRaiseI (C : Addr) (sp : Sp) (W : WX) (ta : TA) : TS := fun _ σ H => tMkO C sp [] ta σ H fun cls d H' => W cls d σ H'
section
variable {X : Cx} {C : Addr} {x : Str} {k : Nat} {ps : List Str} {sp : Sp} {W : WX} {e : Expr} {es : List Expr} {ta : TA} {p pos pos2 : Pos}
theorem ps_raiseI (hc : X.calm = true) (T : XCls X.K C) (M : CalI X.prog X.w X.K X.mg X.base k C ps sp) (hr : Room (k + 1) X.A) (tk : Takes X W) (hg : Gl X x) (hm : X.mg x = some (.ref C)) (ha : PA X (e :: es) ta)
    (hdb : (x == ("__debug__" : Str)) = false := by decide) (he : starEach (e :: es) X.env = (false, eval e X.env) :: starEach es X.env := by rfl) (hpl : (backTo pos (starEach es X.env)).any (·.1) = false := by rfl) :
    PS X (.Raise (some (.Call (.Name x p) (e :: es) [] pos)) none pos2) (tRaiseI C sp W ta) := by
  obtain ⟨f, fd, h1, h2, F, hb⟩ := M.ex
  exact ps_raise hc tk (pmk_oex T.o h1 h2 F hr hb .nil (fun _ _ _ _ _ _ _ h => h.elim) hg hm ha hdb he hpl)
end
/-- o.m(e, ..), what it raises wished for at the slots as they stand -/
def tMethUS (C : Addr) (m : Str) (sp : Sp) (E : L2.St → XK) (ta : TE) (t : TA) : TE := fun σ H Q => tMethU C m sp (E σ) ta t σ H Q
section
variable {X : Cx} {CX : CXT} {k : Nat} {C : Addr} {ps : List Str} {sp : Sp} {E : L2.St → XK} {x m : Str} {p pos apos : Pos} {e o : Expr} {es : List Expr} {ta : TE} {t : TA}
theorem pe_methMS {pl : Sem Bool} (he : PE X o ta) (c : Cls X.K C) (M : CalM X.prog X.w X.K X.mg X.base CX k C m ps sp) (hr : Room k X.A) (hx : ∀ σ, PassesAt CX X σ (E σ)) (ha : PA X (e :: es) t)
    (hst : starEach (e :: es) X.env = (false, eval e X.env) :: starEach es X.env := by rfl) (hpl : (backTo pos (starEach es X.env)).any (·.1) = false := by rfl)
    (ht : eval (.Call (.Attribute o m apos) (e :: es) [] pos) X.env = (do
      let ov ← eval o X.env
      standAt apos.atName
      let (f, first) ← holding [ov] (getMethod ov m pl)
      callWith pos f first (backTo pos (starEach (e :: es) X.env)) (backToKw pos (keywordEach [] X.env))) := by rfl) :
    PE X (.Call (.Attribute o m apos) (e :: es) [] pos) (tMethUS C m sp E ta t) := by
  obtain ⟨f, fd, hm, F, hb⟩ := M.ex
  refine ⟨fun pins s σ H Q I h => ?_⟩
  unfold tMethUS tMethU rRcvU at h
  refine PySem.W.methodCall_KW (pl := pl) (thn (he.run pins s σ H _ I h) fun u s1 ⟨x, H1, I1, rx, a, dx, fs, ex, ea, l, q⟩ => ?_) ht
  subst ex
  obtain rfl : u = Value.ref a := rx
  refine getmeth_ok I1 ea c hm l ?_
  refine PySem.W.callWith_K (first := [.ref a]) (h₀ := X.base) I.ok.mod.kin hm.kp (thn (ha.run pos pins s1 σ H1 _ I1 q) fun us s2 ⟨vs, H2, I2, r, q2⟩ => ⟨I2.kIn, ?_⟩) hst hpl
  exact run_fnS (us := .ref a :: us) (vs := .ref a :: vs) F hr hb (hx σ) I2 (.cons rfl r) q2
theorem pe_callCS (C : Cal X.prog X.w X.K X.mg X.base CX k x ps sp) (hr : Room k X.A) (hg : Gl X x) (hx : ∀ σ, PassesAt CX X σ (E σ))
    (ha : PA X (e :: es) t) (hdb : (x == ("__debug__" : Str)) = false := by decide) (he : starEach (e :: es) X.env = (false, eval e X.env) :: starEach es X.env := by rfl) (hpl : (backTo pos (starEach es X.env)).any (·.1) = false := by rfl) :
    PE X (.Call (.Name x p) (e :: es) [] pos) (tCallS sp E t) := by
  obtain ⟨f, fd, hm, F, hk, hb⟩ := C.bound
  exact pe_callS F hr hg hm hk hb hx ha hdb he hpl
end
/-- try: .. except c as n: .. -/
def tTryAs (K : PySem.W.Frag) (c : Value) (i : Nat) (tb : WX → TS) (ts : Addr → Value → Option Addr → TS) : TS := fun D σ H => tb (wAs K c i ts (fun _ _ _ _ => False) D) D σ H
theorem takes_none {X : Cx} : Takes X (fun _ _ _ _ => False) := fun _ _ h => by
  obtain ⟨_, _, _, _, _, _, _, _, _, _, _, _, _, _, _, _, z⟩ := h
  exact z.elim
/-- isinstance(e, c), e the caught exception with its dict -/
def rIsXd (K : PySem.W.Frag) (a : Addr) (cls : Value) (d : Option Addr) : List V → Hp → VK → Prop := fun xs H Q => ∃ (C : Addr) (c : V) (cv : Value) (b : Bool) (dd : Addr) (fs : List (Str × V)),
  xs = [.ref a, c] ∧ cls = .ref C ∧ d = some dd ∧ H dd = some (.xd fs) ∧ XCls K C ∧ (∀ u, RelV c u → u = cv) ∧ PySem.W.kitOne K (.ref C) cv = some b ∧ Q (.bl b) H
theorem call_isXd {X : Cx} {a : Addr} {oe : Obj} {cls : Value} {d : Option Addr} {pn : List (Addr × Obj)} (hz : Zc cls d oe) (hf : ∃ vs, oe.data = .fields vs) : CallR (X.suite a ((a, oe) :: pn)) (.builtin "isinstance") (rIsXd X.K a cls d) := by
  intro pins s σ H xs us Q I r h
  obtain ⟨C, c, cv, b, dd, fs, rfl, rfl, rfl, ea, T, hcv, e, q⟩ := h
  cases r with
  | cons rx rr =>
    cases rr with
    | cons rt rr =>
      cases rr
      cases rx
      have ec := hcv _ rt
      subst ec
      obtain ⟨hget, _⟩ := I.pin (a, oe) (List.mem_append.mpr (.inl List.mem_cons_self))
      obtain ⟨vs, hv⟩ := hf
      have hx : ObjOk X.prog X.w H s.heap dd (.xd fs) := I.hok dd _ ea
      obtain ⟨mA, hns, hr⟩ := hx
      obtain ⟨od, ho, hl⟩ := lookIn_ns hns
      have J : PySem.W.InstAt s.heap a oe C (some od) := ⟨hget, hz.1, by unfold PySem.W.notCls; rw [hv] <;> rfl, by rw [hz.2]; exact ho⟩
      exact PySem.W.kia_one (PySem.W.kitx_exc T.cl T.xf.ga T.xf.gg T.xf.exC T.ha T.hn T.ht T.hm) I.kIn J e (fun z => nomatch z) fun tk => ⟨.bl b, H, I.kept (t' := tk) fun _ _ z => z, rfl, q⟩
theorem pe_gref {X : Cx} {x : Str} {a : Addr} {pos : Pos} (hg : Gl X x) (hm : X.mg x = some (.ref a)) (hd : (x == ("__debug__" : Str)) = false := by decide) : PE X (.Name x pos) (tC (.ref a)) := pe_glob hg hm rfl hd
end Kb

/-! steps of the streams' laws: draws -/
local macro_rules | `(tactic| walk_at "sc") => `(tactic| first
  | assumption
  | (refine' Stm.SC.new ?k1 ?k2; (case k2 => assumption); (case k1 => walk_at "sc"))
  | (refine' Stm.SC.upd ?k1 ?k2 ?k3; (case k2 => assumption); (case k3 => assumption); (case k1 => walk_at "sc"))
  | fail)
local macro_rules | `(tactic| walk_at "tk") => `(tactic| first
  | (refine' Stm.take_go ?k1 ?k2 ?k3 (fun H1 r1 sc1 k1 h0 h1 => ?kq); (case k1 => walk_at "sc"); (case k2 => walk_at "c"); (case k3 => walk_at "c"))
  | (refine' Stm.stretch_go ?k1 (fun H1 p1 b1 n1 sc1 k1 h1 o1 l1 => ?kq); (case k1 => walk_at "sc"))
  | (refine' Stm.part_go ?k1 (fun H1 p1 b1 n1 sc1 k1 h1 o1 l1 => ?kq); (case k1 => walk_at "sc"))
  | fail)
local macro_rules | `(tactic| walk_at "nm") => `(tactic| first
  | assumption
  | exact List.not_mem_nil
  | (refine' Stm.SC.nm ?k1 ?k2; (case k2 => assumption); (case k1 => walk_at "sc"))
  | (refine' nm_cons ?kn ?km; (case kn => walk_at "ne"); (case km => walk_at "nm"))
  | fail)
local macro_rules | `(tactic| walk_at "go") => `(tactic| repeat' first | walk_at "tk" | walk_at "s")

/-! ## streams read: promises -/
namespace Stm
open PySem PySem.Spec PyProof.Rows L2 Kb
/-- runs read: fuel n, none where they are torn -/
def outF : Nat → List Int → Option (List Int)
  | 0, _ => some []
  | _, [] => some []
  | n + 1, s :: rest => if (rest.length : Int) + 1 < s then none else
      (outF n (rest.drop (s.toNat - 1))).map fun d => rest.take (s.toNat - 1) ++ (if s ≤ 254 ∧ rest.drop (s.toNat - 1) ≠ [] then [0] else []) ++ d
def outR (bs : List Int) : Option (List Int) := outF bs.length bs
def Pos1 (bs : List Int) : Prop := ∀ b ∈ bs, 1 ≤ b ∧ b ≤ 255
def sp_out_of_runs (K : PySem.W.Frag) : Sp := fun vs H Q _ => ∃ a bs, vs = [.ref a] ∧ H a = some (.lst (bs.map V.int)) ∧ Pos1 bs ∧ bs.length ≤ 1000000 ∧
  (outR bs = none → ∀ H', Kp [] H H' → Q .non H') ∧ ∀ ds, outR bs = some ds → NewI H Q ds
/-- what a piece tells: its part, or that it is torn -/
def told (bs : List Int) : Option (List Int) := match outR bs with
  | none => none
  | some ds => if 4 ≤ ds.length ∧ chk (ds.take (ds.length - 4)) = ds then some (ds.take (ds.length - 4)) else none
/-- a part or a torn piece at hand: place, part or none, length of the piece -/
structure Tl where
  place : Int
  part : Option (List Int)
  size : Nat
def tlAt (H : Hp) (v : V) (t : Tl) : Prop := ∃ T, v = .ref T ∧ match t.part with
  | some ps => ∃ l, H T = some (.tup [.str (PySem.Str.ofString "part"), .int t.place, .ref l]) ∧ H l = some (.lst (ps.map V.int))
  | none => H T = some (.tup [.str (PySem.Str.ofString "torn"), .int t.place, .int (t.size : Nat)])
/-- the addresses of what is told are new since H -/
def tlNew (H H' : Hp) (v : V) : Prop := ∀ T, v = .ref T → H T = none ∧ ∀ xs l, H' T = some (.tup xs) → V.ref l ∈ xs → H l = none
def tell (bs : List Int) (place : Int) : Tl := ⟨place, told bs, bs.length⟩
def sp_piece_told (K : PySem.W.Frag) : Sp := fun vs H Q _ => ∃ a bs place, vs = [.ref a, .int place] ∧ H a = some (.lst (bs.map V.int)) ∧ Pos1 bs ∧ bs.length ≤ 1000000 ∧
  ∀ H' v, Kp [] H H' → tlAt H' v (tell bs place) → tlNew H H' v → Q v H'
/-- a feeder at F: what it holds, where it stands -/
def Fdr (C : Addr) (H : Hp) (F h : Addr) (held : List Int) (place : Int) : Prop := F ≠ h ∧ ∃ dx, H F = some (.ins C dx [("held", .ref h), ("place", .int place)]) ∧ H h = some (.lst (held.map V.int))
def sp_Feeder___init__ (K : PySem.W.Frag) (C : Addr) : Sp := fun vs H Q _ => ∃ F dx, vs = [.ref F] ∧ H F = some (.ins C dx []) ∧ ∀ H' h, H h = none → Kp [F] H H' → Fdr C H' F h [] 0 → Q .non H'
def fstep (s : List Tl × List Int × Int) (b : Int) : List Tl × List Int × Int :=
  if b ≠ 0 then (s.1, s.2.1 ++ [b], s.2.2) else (if s.2.1 ≠ [] then s.1 ++ [tell s.2.1 s.2.2] else s.1, [], s.2.2 + (s.2.1.length + 1))
def fst (held : List Int) (place : Int) (bs : List Int) : List Tl × List Int × Int := bs.foldl fstep ([], held, place)
def Tls (H H' : Hp) (us : List V) (ts : List Tl) : Prop := us.length = ts.length ∧ ∀ (i : Nat) (v : V), us[i]? = some v → ∃ t, ts[i]? = some t ∧ tlAt H' v t ∧ tlNew H H' v
/-- what is told stands outside of M -/
def tlOut (M : List Addr) (H' : Hp) (v : V) : Prop := ∀ T, v = .ref T → T ∉ M ∧ ∀ xs l, H' T = some (.tup xs) → V.ref l ∈ xs → l ∉ M
def TlsM (M : List Addr) (H H' : Hp) (us : List V) (ts : List Tl) : Prop := us.length = ts.length ∧ ∀ (i : Nat) (v : V), us[i]? = some v → ∃ t, ts[i]? = some t ∧ tlAt H' v t ∧ tlNew H H' v ∧ tlOut M H' v
/-- fields of an exception with one -/
def fs1 (f : Str) : List V → List (Str × V)
  | [w] => [(f, w)]
  | _ => []
def sp_NoBytes___init__ (K : PySem.W.Frag) : Sp := spInit (cAt K "NoBytes") 1 (fs1 "why")
def feedGood (K : PySem.W.Frag) (C : Addr) : Sp := fun vs H Q _ => ∃ F h held place x bs, vs = [.ref F, .ref x] ∧ Fdr C H F h held place ∧ Inn H x (bs.map V.int) ∧ x ≠ F ∧ x ≠ h ∧ Okb bs ∧ Pos1 held ∧ bs.length + held.length ≤ 1000000 ∧
  ∀ H' p us h', H p = none → Kp [F, h] H H' → H' p = some (.lst us) → TlsM [h', p, F] H H' us (fst held place bs).1 → (h' = h ∨ H h' = none) → p ≠ h' → Pos1 (fst held place bs).2.1 → Fdr C H' F h' (fst held place bs).2.1 (fst held place bs).2.2 → Q (.ref p) H'
/-- feed: of bytes; or of what is none, which is refused -/
def sp_Feeder_feed (K : PySem.W.Frag) (C : Addr) : Sp := fun vs H Q E => feedGood K C vs H Q E ∨ ∃ f x, vs = [f, x] ∧ BA K H x false ∧ ∀ H' d, Kp [] H H' → H' d = none → E (.ref (cAt K "NoBytes")) (some d) (upd H' d (.xd [("why", .str (PySem.Str.ofString "wire"))]))
def sp_Feeder_done (K : PySem.W.Frag) (C : Addr) : Sp := fun vs H Q _ => ∃ F h held place, vs = [.ref F] ∧ Fdr C H F h held place ∧ held.length ≤ 1000000 ∧
  ∀ H' p us h', H p = none → Kp [F] H H' → H' p = some (.lst us) → Tls H H' us (if held ≠ [] then [⟨place, none, held.length⟩] else []) → H h' = none → Fdr C H' F h' [] 0 → Q (.ref p) H'
/-- all that a whole stream tells -/
def unst (bs : List Int) : List Tl := let s := fst [] 0 bs; s.1 ++ (if s.2.1 ≠ [] then [⟨s.2.2, none, s.2.1.length⟩] else [])
def sp_unstreamed (K : PySem.W.Frag) : Sp := fun vs H Q _ => ∃ x bs, vs = [.ref x] ∧ Inn H x (bs.map V.int) ∧ Okb bs ∧ bs.length ≤ 1000000 ∧
  ∀ H' p us, H p = none → Kp [] H H' → H' p = some (.lst us) → Tls H H' us (unst bs) → Q (.ref p) H'
end Stm

namespace Stm
open PySem PySem.Spec PyProof.Rows L2 Kb
structure Own (K : PySem.W.Frag) (C : Addr) : Prop where
  cl : Cls K C
  n_held : NoAttr K C "held"
  n_place : NoAttr K C "place"
def t_NoBytes___init__ (K : PySem.W.Frag) : TS :=
 (tOst K "why" (tVar 0) (tVar 1))

def t_out_of_runs (K : PySem.W.Frag) : TS :=
 (tSeq (tAsg (tLst tNil) (gName 1))
 (tSeq (tAsg (tC (.int 0)) (gName 2))
 (tSeq (tWhile (tTest (tOp rLtU (tVar 2) (tCB (rLenU K) (tCons (tVar 0) tNil))))
 (tSeq (tAsg (tOp (rIxU K) (tVar 0) (tVar 2)) (gName 3))
 (tSeq (tIfS (tTest (tOp rGtU (tOp (rAddU K) (tVar 2) (tVar 3)) (tCB (rLenU K) (tCons (tVar 0) tNil))))
 (tRet (tC .non))
 tNext)
 (tSeq (tAug 1 (tSl (rSlLU K) (tVar 0) (tPart (tOp (rAddU K) (tVar 2) (tC (.int 1)))) (tPart (tOp (rAddU K) (tVar 2) (tVar 3)))) rIAddU)
 (tSeq (tAug 2 (tVar 3) rIAddU)
 (tIfS (tAnd (tTest (tOp rLeU (tVar 3) (tC (.int 254)))) (tTest (tOp rLtU (tVar 2) (tCB (rLenU K) (tCons (tVar 0) tNil)))))
 (tDrop (tBM K "list" rAppU (tVar 1) (tCons (tC (.int 0)) tNil)))
 tNext))))))
 (tRet (tVar 1)))))

def t_piece_told (K : PySem.W.Frag) : TS :=
 (tSeq (tAsg (tCall (sp_out_of_runs K) [] E0 (tCons (tVar 0) tNil)) (gName 2))
 (tSeq (tIfS (tOr (tTest (tOp rIsNU (tVar 2) (tC .non))) (tOr (tTest (tOp rLtU (tCB (rLenU K) (tCons (tVar 2) tNil)) (tC (.int 4)))) (tTest (tOp (rNeU K) (tCall (sp_checked K) [] E0 (tCons (tSl (rSlLU K) (tVar 2) tNoPart (tPart (tUn rNegU (tC (.int 4))))) tNil)) (tVar 2)))))
 (tRet (tTup (tCons (tC (.str (PySem.Str.ofString "torn"))) (tCons (tVar 1) (tCons (tCB (rLenU K) (tCons (tVar 0) tNil)) tNil)))))
 tNext)
 (tRet (tTup (tCons (tC (.str (PySem.Str.ofString "part"))) (tCons (tVar 1) (tCons (tSl (rSlLU K) (tVar 2) tNoPart (tPart (tUn rNegU (tC (.int 4))))) tNil)))))))

def t_Feeder___init__ (K : PySem.W.Frag) (C : Addr) : TS :=
 (tSeq (sFldU K (tVar 0) (tLst tNil) "held")
 (sFldU K (tVar 0) (tC (.int 0)) "place"))

def t_Feeder_feed (K : PySem.W.Frag) (C : Addr) (E : XK) : TS :=
 (tSeq (tIfS (tNot (tTru K (tCall (sp_is_bytes K) [] E0 (tCons (tVar 1) tNil))))
 (tRaiseI (cAt K "NoBytes") (sp_NoBytes___init__ K) (fun cls d _ H => E cls d H) (tCons (tC (.str (PySem.Str.ofString "wire"))) tNil))
 tNext)
 (tSeq (tAsg (tLst tNil) (gName 2))
 (tSeq (tFor (iSeq K (tVar 1)) (gName 3)
 (tSeq (tIfS (tTest (tOp (rNeU K) (tVar 3) (tC (.int 0))))
 (tSeq (tDrop (tBM K "list" rAppU (tUn (rFldU K "held") (tVar 0)) (tCons (tVar 3) tNil)))
 tCont)
 tNext)
 (tSeq (tIfS (tTest (tOp (rNeU K) (tUn (rFldU K "held") (tVar 0)) (tLst tNil)))
 (tDrop (tBM K "list" rAppU (tVar 2) (tCons (tCall (sp_piece_told K) [] E0 (tCons (tUn (rFldU K "held") (tVar 0)) (tCons (tUn (rFldU K "place") (tVar 0)) tNil))) tNil)))
 tNext)
 (tSeq (sFldAugU K (tVar 0) (tOp (rAddU K) (tCB (rLenU K) (tCons (tUn (rFldU K "held") (tVar 0)) tNil)) (tC (.int 1))) rIAddU "place")
 (sFldU K (tVar 0) (tLst tNil) "held")))))
 (tRet (tVar 2)))))

def t_Feeder_done (K : PySem.W.Frag) (C : Addr) : TS :=
 (tSeq (tAsg (tLst tNil) (gName 1))
 (tSeq (tIfS (tTest (tOp (rNeU K) (tUn (rFldU K "held") (tVar 0)) (tLst tNil)))
 (tDrop (tBM K "list" rAppU (tVar 1) (tCons (tTup (tCons (tC (.str (PySem.Str.ofString "torn"))) (tCons (tUn (rFldU K "place") (tVar 0)) (tCons (tCB (rLenU K) (tCons (tUn (rFldU K "held") (tVar 0)) tNil)) tNil)))) tNil)))
 tNext)
 (tSeq (sFldU K (tVar 0) (tLst tNil) "held")
 (tSeq (sFldU K (tVar 0) (tC (.int 0)) "place")
 (tRet (tVar 1))))))

def t_unstreamed (K : PySem.W.Frag) (C : Addr) : TS :=
 (tSeq (tAsg (tMake C (sp_Feeder___init__ K C) [] E0 tNil) (gName 1))
 (tRet (tOp (rAddU K) (tMethU C "feed" (sp_Feeder_feed K C) E0 (tVar 1) (tCons (tVar 0) tNil)) (tMethU C "done" (sp_Feeder_done K C) E0 (tVar 1) tNil))))

end Stm

/-! ## streams read: readings -/
namespace Stm
open PySem PySem.Spec PyProof.Rows L2 Kb
theorem len_NoBytes___init__ (K : PySem.W.Frag) : ∀ vs H Q E, sp_NoBytes___init__ K vs H Q E → vs.length = ["self", "why"].length := fun vs H Q E h => spInit_len vs H Q E h
theorem p_NoBytes___init__ (K : PySem.W.Frag) (T : XCls K (cAt K "NoBytes")) (n : PySem.W.findIn K (.ref (cAt K "NoBytes")) "why" = some none) (vs : List V) (H : Hp) (Q : VK) (E : XK) (h : sp_NoBytes___init__ K vs H Q E) : t_NoBytes___init__ K { nx := fun _ H' => Q .non H', rt := Q } (start ["self", "why"] vs) H := by
  unfold sp_NoBytes___init__ spInit at h
  obtain ⟨a, ws, rfl, hw, hH, q⟩ := h
  rcases ws with _ | ⟨w, _ | ⟨y, ws⟩⟩
  · cases hw
  · exact ⟨_, rfl, _, rfl, a, _, rfl, T.o, n, .inl ⟨hH, fun dx hd hne => q dx hd hne⟩⟩
  · cases hw
theorem len_out_of_runs (K : PySem.W.Frag) : ∀ vs H Q E, sp_out_of_runs K vs H Q E → vs.length = ["piece"].length := by
  rintro _ _ _ _ ⟨_, _, rfl, _⟩; rfl
theorem outF_mono : ∀ (n : Nat) (xs : List Int), xs.length ≤ n → outF n xs = outF xs.length xs
  | 0, [], _ => rfl
  | n + 1, [], _ => rfl
  | n + 1, s :: rest, h => by
    have h1 : rest.length ≤ n := by simpa using h
    have hd : (rest.drop (s.toNat - 1)).length ≤ rest.length := by rw [List.length_drop]; omega
    show outF (n + 1) (s :: rest) = outF (rest.length + 1) (s :: rest)
    unfold outF
    rw [outF_mono n _ (Nat.le_trans hd h1), outF_mono rest.length _ hd]
theorem outR_cons (s : Int) (rest : List Int) : outR (s :: rest) = if (rest.length : Int) + 1 < s then none else
      (outR (rest.drop (s.toNat - 1))).map fun d => rest.take (s.toNat - 1) ++ (if s ≤ 254 ∧ rest.drop (s.toNat - 1) ≠ [] then [0] else []) ++ d := by
  have hd : (rest.drop (s.toNat - 1)).length ≤ rest.length := by rw [List.length_drop]; omega
  show outF (rest.length + 1) (s :: rest) = _
  unfold outF
  rw [outF_mono rest.length _ hd]
  rfl
theorem cutI_mid2 (pre rest : List Int) (x s : Int) (h1 : 1 ≤ s) (h2 : s ≤ rest.length + 1) : cutI (pre ++ x :: rest) (some ((pre.length : Int) + 1)) (some ((pre.length : Int) + s)) = rest.take (s.toNat - 1) := by
  have hl : (rest.take (s.toNat - 1)).length = s.toNat - 1 := by rw [List.length_take]; omega
  have := cutI_mid pre x (rest.take (s.toNat - 1)) (rest.drop (s.toNat - 1))
  rw [List.take_append_drop, hl] at this
  have e : (((s.toNat - 1 : Nat) : Int) + 1) = s := by omega
  rw [e] at this
  exact this
theorem p_out_of_runs (K : PySem.W.Frag) (vs : List V) (H : Hp) (Q : VK) (E : XK) (h : sp_out_of_runs K vs H Q E) : t_out_of_runs K { nx := fun _ H' => Q .non H', rt := Q } (start ["piece", "found", "at", "size"] vs) H := by
  obtain ⟨a, bs, rfl, ha, hpos, hl, qn, qs⟩ := h
  walk_at "go"
  rename_i L nL
  -- pre is read, rest is to be read; fnd is what was found
  obtain ⟨W, hW⟩ : ∃ W : Nat → L2.St → Hp → Prop, W = fun m σ H' => ∃ pre rest fnd u, m = List.length rest ∧ bs = pre ++ rest ∧ σ = [some (.ref a), some (.ref L), some (.int ((pre.length : Nat) : Int)), u] ∧ H' L = some (.lst (fnd.map V.int)) ∧ (outR rest).map (fnd ++ ·) = outR bs ∧ Kp [] H H' ∧ fnd.length ≤ 2 * pre.length := ⟨_, rfl⟩
  refine ⟨W, ⟨_, by rw [hW]; exact ⟨[], bs, [], none, rfl, rfl, rfl, upd_same, by cases outR bs <;> rfl, Kp.refl.new nL, Nat.zero_le _⟩⟩, ?_⟩
  intro m σ Ha hw
  rw [hW] at hw
  obtain ⟨pre, rest, fnd, u, rfl, hX, rfl, hL, hd, hk, hfl⟩ := hw
  have haa := hk.at_ List.not_mem_nil ha
  rcases rest with _ | ⟨s, rest⟩
  · rw [List.append_nil] at hX
    walk_at "go"
    · rename_i h1
      rw [List.length_map, hX] at h1
      omega
    · exact qs fnd (by rw [← hd]; simp [outR, outF]) _ L nL hk hL
  · have hs := hpos s (by rw [hX]; simp)
    have hix := atI_app pre s rest
    rw [← hX] at hix
    have hXl : bs.length = pre.length + (1 + rest.length) := by rw [hX]; simp; omega
    rw [outR_cons] at hd
    walk_at "go"
    · refine ⟨fun σ' H' => ∃ m', m' < List.length (s :: rest) ∧ W m' σ' H', fun _ _ h => h, ?_⟩
      walk_at "go"
      refine ixL_go (SqL.of haa) hix ?_
      walk_at "go"
      · rename_i h1
        rw [List.length_map] at h1
        rw [if_pos (by omega)] at hd
        exact qn hd.symm _ hk
      have hle : s ≤ rest.length + 1 := by
        have h1 : ¬ ((List.map V.int bs).length : Int) < (pre.length : Int) + s := by assumption
        rw [List.length_map] at h1
        omega
      have hcl : (rest.take (s.toNat - 1)).length = s.toNat - 1 := by rw [List.length_take]; omega
      have hdl : (rest.drop (s.toNat - 1)).length = rest.length - (s.toNat - 1) := List.length_drop
      have hcut := cutI_mid2 pre rest s s hs.1 hle
      rw [← hX] at hcut
      rw [cutV_map, hcut]
      rw [if_neg (by omega)] at hd
      have hX2 : bs = (pre ++ s :: rest.take (s.toNat - 1)) ++ rest.drop (s.toNat - 1) := by
        rw [hX, List.append_assoc, List.cons_append, List.take_append_drop]
      have hne : rest.drop (s.toNat - 1) ≠ [] ↔ s < rest.length + 1 := by
        constructor
        · intro h
          have := List.length_pos_iff.mpr h
          omega
        · intro h e
          rw [e] at hdl
          simp at hdl
          omega
      have fin : ∀ f' Hx, Kp [] H Hx → Hx L = some (.lst (f'.map V.int)) → f' = fnd ++ rest.take (s.toNat - 1) ++ (if s ≤ 254 ∧ rest.drop (s.toNat - 1) ≠ [] then [0] else []) → ∃ m', m' < (s :: rest).length ∧ W m' [some (.ref a), some (.ref L), some (.int ((pre.length : Int) + s)), some (.int s)] Hx := by
        intro f' Hx z1 z2 z3
        refine ⟨(rest.drop (s.toNat - 1)).length, by rw [hdl, List.length_cons]; omega, ?_⟩
        rw [hW]
        have el : (((pre ++ s :: rest.take (s.toNat - 1)).length : Nat) : Int) = (pre.length : Int) + s := by
          rw [List.length_append, List.length_cons, hcl]
          omega
        refine ⟨pre ++ s :: rest.take (s.toNat - 1), rest.drop (s.toNat - 1), f', _, rfl, hX2, by rw [el], z2, ?_, z1, ?_⟩
        · rw [← hd, Option.map_map]
          congr 1
          funext d
          rw [z3]
          simp
        · rw [z3]
          simp only [List.length_append, List.length_cons, hcl]
          split <;> simp <;> omega
      have hp' : (fnd ++ rest.take (s.toNat - 1)).length ≤ 4000000 := by rw [List.length_append, hcl]; omega
      have hml : (List.map V.int bs).length = bs.length := List.length_map ..
      generalize hct : rest.take (s.toNat - 1) = ct at *
      walk_at "go"
      all_goals
        rcases Decidable.em (s ≤ 254 ∧ s < rest.length + 1) with hh | hh
        · first
            | (exfalso; omega)
            | exact fin (fnd ++ ct ++ [0]) _ (by walk_at "kp") (upd_same.trans (by simp)) (by rw [if_pos ⟨hh.1, hne.mpr hh.2⟩])
        · first
            | (exfalso; omega)
            | exact fin (fnd ++ ct) _ (by walk_at "kp") (upd_same.trans (by simp)) (by rw [if_neg fun z => hh ⟨z.1, hne.mp z.2⟩]; simp)
    · rename_i h1
      rw [List.length_map] at h1
      omega
theorem len_piece_told (K : PySem.W.Frag) : ∀ vs H Q E, sp_piece_told K vs H Q E → vs.length = ["piece", "place"].length := by
  rintro _ _ _ _ ⟨_, _, _, rfl, _⟩; rfl
theorem outR_len : ∀ (n : Nat) (bs ds : List Int), bs.length ≤ n → outR bs = some ds → ds.length ≤ 2 * bs.length
  | _, [], ds, _, h => by cases h; exact Nat.zero_le _
  | n + 1, s :: rest, ds, hl, h => by
    rw [outR_cons] at h
    split at h
    · cases h
    · obtain ⟨d, h1, rfl⟩ := Option.map_eq_some_iff.mp h
      have hd : (rest.drop (s.toNat - 1)).length = rest.length - (s.toNat - 1) := List.length_drop
      have ht : (rest.take (s.toNat - 1)).length = min (s.toNat - 1) rest.length := List.length_take
      have hl2 : rest.length ≤ n := by simpa using hl
      have := outR_len n _ d (by rw [hd]; omega) h1
      simp only [List.length_append, List.length_cons, ht]
      rw [hd] at this
      split <;> simp <;> omega
theorem cut_end (ds : List Int) : cutI ds none (some (-4)) = ds.take (ds.length - 4) := by
  unfold cutI
  have e1 : HT.sIx ds.length 0 none = 0 := rfl
  have e2 : HT.sIx ds.length ds.length (some (-4)) = ds.length - 4 := by
    show (if (-4 : Int) < 0 then ((-4 : Int) + (ds.length : Int)).toNat else min (-4 : Int).toNat ds.length) = _
    rw [if_pos (by decide)]
    omega
  rw [e1, e2]
  simp
theorem p_piece_told (K : PySem.W.Frag) (vs : List V) (H : Hp) (Q : VK) (E : XK) (h : sp_piece_told K vs H Q E) : t_piece_told K { nx := fun _ H' => Q .non H', rt := Q } (start ["piece", "place", "data"] vs) H := by
  obtain ⟨a, bs, place, rfl, ha, hpos, hl, q⟩ := h
  have torn : ∀ H' p, H' p = none → Kp [] H H' → told bs = none → Q (.ref p) (upd H' p (.tup [.str (PySem.Str.ofString "torn"), .int place, .int (bs.length : Nat)])) := fun H' p np k ht => by
    refine q _ _ (k.new np) ⟨p, rfl, ?_⟩ fun T e => ?_
    · rw [show (tell bs place).part = none from ht]
      exact upd_same
    · cases e
      refine ⟨none_of k np, fun xs l hx hm => ?_⟩
      rw [upd_same] at hx
      cases hx
      simp at hm
  walk_at "go"
  refine ⟨a, bs, rfl, ha, hpos, hl, fun hn H1 k1 => ?_, fun ds hds H1 p1 n1 k1 h1 => ?_⟩
  · walk_at "go"
    rename_i p np
    rw [List.length_map]
    exact torn _ p np k1 (by unfold told; rw [hn])
  · have hdl := outR_len _ _ _ (Nat.le_refl _) hds
    have hml : (List.map V.int ds).length = ds.length := List.length_map ..
    walk_at "go"
    · rename_i h4 p np
      rw [List.length_map] at h4 ⊢
      exact torn _ p np k1 (by unfold told; rw [hds]; exact if_neg fun z => by omega)
    · rename_i h4 p2 n2
      rw [cutV_map, cut_end] at *
      refine ⟨p2, ds.take (ds.length - 4), rfl, .inl upd_same, by rw [List.length_take]; omega, fun H2 p3 n3 k3 h3 => ?_⟩
      have h12 : H2 p1 = some (.lst (ds.map V.int)) := by walk_at "h"
      walk_at "go"
      · rename_i hne p4 n4
        rw [List.length_map]
        exact torn _ p4 n4 ((k1.new n2).trans k3) (by unfold told; rw [hds]; exact if_neg fun z => hne z.2)
      · rename_i heq p4 n4 p5 n5
        have hp1 : told bs = some (ds.take (ds.length - 4)) := by unfold told; rw [hds]; exact if_pos ⟨by omega, heq⟩
        have k2 := (k1.new n2).trans k3
        refine q _ _ ((k2.new n4).new n5) ⟨p5, rfl, ?_⟩ fun T e => ?_
        · rw [show (tell bs place).part = some (ds.take (ds.length - 4)) from hp1]
          exact ⟨p4, upd_same, (upd_ne (ne_of_none upd_same n5)).trans (upd_same.trans (by rw [cutV_map, cut_end]))⟩
        · cases e
          refine ⟨none_of (k2.new n4) n5, fun xs l hx hm => ?_⟩
          rw [upd_same] at hx
          cases hx
          simp at hm
          rw [hm]
          exact none_of k2 n4
theorem len_Feeder___init__ (K : PySem.W.Frag) (C : Addr) : ∀ vs H Q E, sp_Feeder___init__ K C vs H Q E → vs.length = ["self"].length := by
  rintro _ _ _ _ ⟨_, _, rfl, _⟩; rfl
theorem p_Feeder___init__ (K : PySem.W.Frag) (C : Addr) (O : Own K C) (vs : List V) (H : Hp) (Q : VK) (E : XK) (h : sp_Feeder___init__ K C vs H Q E) : t_Feeder___init__ K C { nx := fun _ H' => Q .non H', rt := Q } (start ["self"] vs) H := by
  obtain ⟨F, dx, rfl, hF, q⟩ := h
  obtain ⟨cl, nh, np⟩ := O
  walk_at "go"
  rename_i p n0
  exact q _ p n0 (by walk_at "kp") ⟨ne_of_none hF n0, dx, upd_same, by walk_at "h"⟩
theorem tls_nil {H H' : Hp} : Tls H H' [] [] := ⟨rfl, fun i v e => nomatch e⟩
theorem tls_snoc {H H' : Hp} {us : List V} {ts : List Tl} {v : V} {t : Tl} (h : Tls H H' us ts) (a : tlAt H' v t) (n : tlNew H H' v) : Tls H H' (us ++ [v]) (ts ++ [t]) := by
  refine ⟨by rw [List.length_append, List.length_append, h.1]; rfl, fun i w e => ?_⟩
  by_cases hi : i < us.length
  · rw [List.getElem?_append_left hi] at e
    obtain ⟨u, h1, h2, h3⟩ := h.2 i w e
    exact ⟨u, by rw [List.getElem?_append_left (by rw [← h.1]; exact hi)]; exact h1, h2, h3⟩
  · rw [List.getElem?_append_right (by omega)] at e
    have e0 : i - us.length = 0 := by
      have := (List.getElem?_eq_some_iff.mp e).1
      simp at this
      omega
    rw [e0] at e
    cases e
    exact ⟨t, by rw [List.getElem?_append_right (by rw [← h.1]; omega), ← h.1, e0]; rfl, a, n⟩
theorem tls_one {H H' : Hp} {v : V} {t : Tl} (a : tlAt H' v t) (n : tlNew H H' v) : Tls H H' [v] [t] := tls_snoc tls_nil a n
theorem len_Feeder_done (K : PySem.W.Frag) (C : Addr) : ∀ vs H Q E, sp_Feeder_done K C vs H Q E → vs.length = ["self"].length := by
  rintro _ _ _ _ ⟨_, _, _, _, rfl, _⟩; rfl
theorem p_Feeder_done (K : PySem.W.Frag) (C : Addr) (O : Own K C) (vs : List V) (H : Hp) (Q : VK) (E : XK) (h : sp_Feeder_done K C vs H Q E) : t_Feeder_done K C { nx := fun _ H' => Q .non H', rt := Q } (start ["self", "found"] vs) H := by
  obtain ⟨F, h, held, place, rfl, ⟨hne, dx, hF, hh⟩, hl, q⟩ := h
  obtain ⟨cl, nh, np⟩ := O
  walk_at "go"
  · rename_i p3 n3 p2 n2 hn p1 n1 p0 n0
    rw [List.length_map] at *
    rw [if_pos hn] at q
    have n1' : H p1 = none := by walk_at "no"
    have z : ∀ x : Addr, H x = none → x ≠ F := fun x hx e => by rw [e, hF] at hx; cases hx
    have n0' : H p0 = none := by walk_at "no"
    have p13 : p1 ≠ p3 := (ne_of_none (by walk_at "h" : upd (upd H p3 (.lst [])) p2 (.lst []) p3 = some (.lst [])) n1).symm
    have p03 : p0 ≠ p3 := fun e => by rw [e, upd_same] at n0; cases n0
    have p01 : p0 ≠ p1 := fun e => by rw [e, upd_ne p13, upd_same] at n0; cases n0
    refine q _ p3 [V.ref p1] p0 n3 (by walk_at "kp") ?_ (tls_one ⟨p1, rfl, ?_⟩ fun T e => ?_) n0' ⟨(z _ n0').symm, dx, upd_same, ?_⟩
    · rw [upd_ne (z _ n3), upd_ne (z _ n3), upd_ne p03.symm]
      exact upd_same
    · show _ = _
      rw [upd_ne (z _ n1'), upd_ne (z _ n1'), upd_ne p01.symm, upd_ne p13]
      exact upd_same
    · cases e
      refine ⟨n1', fun xs l hx hm => ?_⟩
      rw [upd_ne (z _ n1'), upd_ne (z _ n1'), upd_ne p01.symm, upd_ne p13, upd_same] at hx
      cases hx
      simp at hm
    · rw [upd_ne (z _ n0'), upd_ne (z _ n0')]
      exact upd_same
  · rename_i p3 n3 p2 n2 hn p0 n0
    rw [if_neg (fun h => h hn)] at q
    have z : ∀ x : Addr, H x = none → x ≠ F := fun x hx e => by rw [e, hF] at hx; cases hx
    have n0' : H p0 = none := by walk_at "no"
    have p03 : p0 ≠ p3 := (ne_of_none (by walk_at "h" : upd (upd H p3 (.lst [])) p2 (.lst []) p3 = some (.lst [])) n0).symm
    refine q _ p3 [] p0 n3 (by walk_at "kp") ?_ tls_nil n0' ⟨(z _ n0').symm, dx, upd_same, ?_⟩
    · rw [upd_ne (z _ n3), upd_ne (z _ n3), upd_ne p03.symm]
      walk_at "h"
    · rw [upd_ne (z _ n0'), upd_ne (z _ n0')]
      exact upd_same
theorem upd_some {H : Hp} {a x : Addr} {o : HO} (h : H x ≠ none) : upd H a o x ≠ none := by
  by_cases e : x = a
  · rw [e, upd_same]
    exact fun z => nomatch z
  · rw [upd_ne e]
    exact h
theorem kp_some {M : List Addr} {H H' : Hp} {x : Addr} (k : Kp M H H') (n : x ∉ M) (h : H x ≠ none) : H' x ≠ none := by
  cases e : H x with
  | none => exact absurd e h
  | some o =>
    rw [k.at_ n e]
    exact fun z => nomatch z
theorem len_Feeder_feed (K : PySem.W.Frag) (C : Addr) : ∀ vs H Q E, sp_Feeder_feed K C vs H Q E → vs.length = ["self", "data"].length := by
  rintro _ _ _ _ (⟨_, _, _, _, _, _, rfl, _⟩ | ⟨_, _, rfl, _⟩) <;> rfl
theorem fst_snoc (held : List Int) (place : Int) (xs : List Int) (b : Int) : fst held place (xs ++ [b]) = fstep (fst held place xs) b := by
  unfold fst
  rw [List.foldl_append]
  rfl
theorem tl_same {M : List Addr} {H' H2 : Hp} {T : Addr} {t : Tl} (k : Kp M H' H2) (h : tlAt H' (.ref T) t) (hT : T ∉ M) : ∀ xs, H2 T = some (.tup xs) → H' T = some (.tup xs) := fun xs hx => by
  obtain ⟨T', e, h⟩ := h
  cases e
  split at h
  · obtain ⟨l, h1, h2⟩ := h
    rw [k.at_ hT h1] at hx
    rw [h1, hx]
  · rw [k.at_ hT h] at hx
    rw [h, hx]
theorem tl_kp {M : List Addr} {H H' H2 : Hp} {v : V} {t : Tl} (k : Kp M H' H2) (h : tlAt H' v t) (n : tlNew H H' v) (o : tlOut M H' v) : tlAt H2 v t ∧ tlNew H H2 v ∧ tlOut M H2 v := by
  have h0 := h
  obtain ⟨T, rfl, h⟩ := h
  obtain ⟨hT, hl⟩ := o T rfl
  have same := tl_same k h0 hT
  refine ⟨⟨T, rfl, ?_⟩, fun T' e => ?_, fun T' e => ?_⟩
  · split at h
    · rename_i ps hp
      obtain ⟨l, h1, h2⟩ := h
      exact ⟨l, k.at_ hT h1, k.at_ (hl _ l h1 (by simp)) h2⟩
    · exact k.at_ hT h
  · cases e
    exact ⟨(n T rfl).1, fun xs l hx hm => (n T rfl).2 xs l (same xs hx) hm⟩
  · cases e
    exact ⟨hT, fun xs l hx hm => hl xs l (same xs hx) hm⟩
theorem tl_add {M : List Addr} {H' : Hp} {v : V} {t : Tl} {p : Addr} (h : tlAt H' v t) (o : tlOut M H' v) (np : H' p = none) : tlOut (p :: M) H' v := fun T e => by
  subst e
  obtain ⟨T', e, h⟩ := h
  cases e
  obtain ⟨hT, hl⟩ := o T rfl
  split at h
  · obtain ⟨l0, h1, h2⟩ := h
    refine ⟨nm_cons (ne_of_none h1 np) hT, fun xs l hx hm => nm_cons ?_ (hl xs l hx hm)⟩
    rw [h1] at hx
    cases hx
    simp at hm
    rw [hm]
    exact ne_of_none h2 np
  · refine ⟨nm_cons (ne_of_none h np) hT, fun xs l hx hm => ?_⟩
    rw [h] at hx
    cases hx
    simp at hm
theorem tl_out {M : List Addr} {H H' : Hp} {v : V} (n : tlNew H H' v) (m : ∀ a ∈ M, H a ≠ none) : tlOut M H' v := fun T e => ⟨fun z => m T z (n T e).1, fun xs l hx hm z => m l z ((n T e).2 xs l hx hm)⟩
theorem TlsM.nil {M : List Addr} {H H' : Hp} : TlsM M H H' [] [] := ⟨rfl, fun i v e => nomatch e⟩
theorem TlsM.tls {M : List Addr} {H H' : Hp} {us : List V} {ts : List Tl} (h : TlsM M H H' us ts) : Tls H H' us ts := ⟨h.1, fun i v e => by
  obtain ⟨t, h1, h2, h3, _⟩ := h.2 i v e
  exact ⟨t, h1, h2, h3⟩⟩
theorem TlsM.kp {M : List Addr} {H H' H2 : Hp} {us : List V} {ts : List Tl} (h : TlsM M H H' us ts) (k : Kp M H' H2) : TlsM M H H2 us ts := ⟨h.1, fun i v e => by
  obtain ⟨t, h1, h2, h3, h4⟩ := h.2 i v e
  exact ⟨t, h1, tl_kp k h2 h3 h4⟩⟩
theorem TlsM.add {M : List Addr} {H H' : Hp} {us : List V} {ts : List Tl} {p : Addr} (h : TlsM M H H' us ts) (n : H' p = none) : TlsM (p :: M) H H' us ts := ⟨h.1, fun i v e => by
  obtain ⟨t, h1, h2, h3, h4⟩ := h.2 i v e
  exact ⟨t, h1, h2, h3, tl_add h2 h4 n⟩⟩
theorem TlsM.mono {M N : List Addr} {H H' : Hp} {us : List V} {ts : List Tl} (h : TlsM M H H' us ts) (m : ∀ a, a ∈ N → a ∈ M) : TlsM N H H' us ts := ⟨h.1, fun i v e => by
  obtain ⟨t, h1, h2, h3, h4⟩ := h.2 i v e
  exact ⟨t, h1, h2, h3, fun T e => ⟨fun z => (h4 T e).1 (m _ z), fun xs l hx hm z => (h4 T e).2 xs l hx hm (m _ z)⟩⟩⟩
theorem TlsM.snoc {M : List Addr} {H H' : Hp} {us : List V} {ts : List Tl} {v : V} {t : Tl} (h : TlsM M H H' us ts) (a : tlAt H' v t) (n : tlNew H H' v) (o : tlOut M H' v) : TlsM M H H' (us ++ [v]) (ts ++ [t]) := by
  refine ⟨by rw [List.length_append, List.length_append, h.1]; rfl, fun i w e => ?_⟩
  by_cases hi : i < us.length
  · rw [List.getElem?_append_left hi] at e
    obtain ⟨u, h1, h2, h3⟩ := h.2 i w e
    exact ⟨u, by rw [List.getElem?_append_left (by rw [← h.1]; exact hi)]; exact h1, h2, h3⟩
  · rw [List.getElem?_append_right (by omega)] at e
    have e0 : i - us.length = 0 := by
      have := (List.getElem?_eq_some_iff.mp e).1
      simp at this
      omega
    rw [e0] at e
    cases e
    exact ⟨t, by rw [List.getElem?_append_right (by rw [← h.1]; omega), ← h.1, e0]; rfl, a, n, o⟩
/-- newness since an earlier heap -/
theorem tlNew_since {M : List Addr} {H0 H H' : Hp} {v : V} (n : tlNew H H' v) (k : Kp M H0 H) (o : tlOut M H' v) : tlNew H0 H' v := fun T e => by
  obtain ⟨h1, h2⟩ := n T e
  exact ⟨k.none_of (o T e).1 h1, fun xs l hx hm => k.none_of ((o T e).2 xs l hx hm) (h2 xs l hx hm)⟩
theorem p_Feeder_feed (K : PySem.W.Frag) (C : Addr) (O : Own K C) (vs : List V) (H : Hp) (Q : VK) (E : XK) (h : sp_Feeder_feed K C vs H Q E) : t_Feeder_feed K C E { nx := fun _ H' => Q .non H', rt := Q } (start ["self", "data", "found", "byte"] vs) H := by
  rcases h with h | ⟨f, x, rfl, hb, q⟩
  rotate_left
  · walk_at "go"
    refine ⟨x, false, rfl, hb, fun H1 k1 => ?_⟩
    walk_at "go"
    exact (mkO_go (C := cAt K "NoBytes") (n := 1) (fs := fs1 "why") (vs := [.str (PySem.Str.ofString "wire")]) (H := H1) (Z := E) rfl (by decide) fun d hd => q H1 d k1 hd).2 _ (by assumption)
  obtain ⟨F, h, held, place, x, bs, rfl, ⟨hFh, dx, hF, hh⟩, hx, xF, xh, ok, hpos, hl, q⟩ := h
  obtain ⟨cl, nh, np⟩ := O
  walk_at "go"
  refine ⟨.ref x, true, rfl, ba_ok hx ok, fun H1 k1 => ?_⟩
  have hF1 := k1.at_ List.not_mem_nil hF
  have hh1 := k1.at_ List.not_mem_nil hh
  have hx1 : Inn H1 x (bs.map V.int) := hx.kp k1
  walk_at "go"
  rename_i p n1 J G w hG
  have n0 : H p = none := none_of k1 n1
  have pF : p ≠ F := (ne_of_none hF n0).symm
  have ph : p ≠ h := (ne_of_none hh n0).symm
  obtain ⟨PV, hPV⟩ : ∃ PV : Nat → L2.St → Hp → Prop, PV = fun i σ H' => ∃ u h' us dx', σ = [some (.ref F), some (.ref x), some (.ref p), u] ∧ Kp [F, h] H H' ∧ H' p = some (.lst us) ∧ TlsM [h', p, F] H H' us (fst held place (bs.take i)).1 ∧ (h' = h ∨ H h' = none) ∧ p ≠ h' ∧ F ≠ h' ∧
      H' F = some (.ins C dx' [("held", .ref h'), ("place", .int (fst held place (bs.take i)).2.2)]) ∧ H' h' = some (.lst ((fst held place (bs.take i)).2.1.map V.int)) ∧ Pos1 (fst held place (bs.take i)).2.1 ∧ (fst held place (bs.take i)).2.1.length ≤ held.length + i ∧ us.length ≤ i ∧ H' h ≠ none := ⟨_, rfl⟩
  refine for_it w PV (by rw [hPV]; exact ⟨_, h, [], dx, rfl, (k1.mono fun a z => nomatch z).upd_new n0, upd_same, .nil, .inl rfl, ph, hFh, (upd_ne pF.symm).trans hF1, (upd_ne ph.symm).trans hh1, hpos, Nat.le_refl _, Nat.le_refl _, upd_some (by rw [hh1]; exact fun z => nomatch z)⟩) (fun i σ H' _ z => hG H' ?_) ?_ (fun σ H' z => ?_)
  · rw [hPV] at z
    obtain ⟨u, h', us, dx', _, k, _⟩ := z
    have xp : x ≠ p := hx.newNe n0
    have e1 : Inn H' x (bs.map V.int) := hx.kpX k (nm_cons xF (nm_cons xh List.not_mem_nil))
    rw [upd_ne xp]
    rcases hx with e | e
    · rw [k1.at_ List.not_mem_nil e, k.at_ (nm_cons xF (nm_cons xh List.not_mem_nil)) e]
    · rw [k1.at_ List.not_mem_nil e, k.at_ (nm_cons xF (nm_cons xh List.not_mem_nil)) e]
  · rintro i y σ Ha Hb hi z0 ⟨eHb, hy⟩
    rw [hPV] at z0
    rw [eHb]
    obtain ⟨u, h', us, dx', rfl, k, hp, ht, hh', ph', Fh', hFa, hha, hps, hhl, hul, hhn⟩ := z0
    obtain ⟨b, hb, rfl⟩ := map_get hy
    rw [List.length_map] at hi
    have e : bs.take (i + 1) = bs.take i ++ [b] := by rw [List.take_add_one, hb]; rfl
    have hb2 := ok b (List.mem_of_getElem? hb)
    have fin : ∀ u h' us dx' H' t, t = fstep (fst held place (bs.take i)) b → Kp [F, h] H H' → H' p = some (.lst us) → TlsM [h', p, F] H H' us t.1 → (h' = h ∨ H h' = none) → p ≠ h' → F ≠ h' →
        H' F = some (.ins C dx' [("held", .ref h'), ("place", .int t.2.2)]) → H' h' = some (.lst (t.2.1.map V.int)) → Pos1 t.2.1 → t.2.1.length ≤ held.length + (i + 1) → us.length ≤ i + 1 → H' h ≠ none → PV (i + 1) [some (.ref F), some (.ref x), some (.ref p), u] H' := by
      intro u h' us dx' H' t et z1 z2 z3 z4 z5 z6 z7 z8 z9 z10 z11 z12
      rw [hPV]
      rw [← fst_snoc, ← e] at et
      subst et
      exact ⟨u, h', us, dx', rfl, z1, z2, z3, z4, z5, z6, z7, z8, z9, z10, z11, z12⟩
    clear hPV
    generalize fst held place (bs.take i) = s at *
    obtain ⟨s1, s2, s3⟩ := s
    dsimp only at hFa hha hps hhl ht
    walk_at "go"
    · rename_i h0
      have kp' : ∀ o, Kp [F, h] H (upd Ha h' o) := fun o => by
        rcases hh' with z | z
        · rw [z]
          exact k.upd_in (List.mem_cons_of_mem _ List.mem_cons_self)
        · exact k.upd_new z
      exact fin _ h' us dx' _ (s1, s2 ++ [b], s3) (if_pos h0).symm (kp' _) ((upd_ne ph').trans hp) (ht.kp (Kp.refl.upd_in List.mem_cons_self)) hh' ph' Fh' ((upd_ne Fh').trans hFa) (upd_same.trans (by simp)) (fun c hc => by
        rcases List.mem_append.mp hc with hc | hc
        · exact hps c hc
        · cases List.mem_singleton.mp hc
          omega) (by simp; omega) (by omega) (upd_some hhn)
    · rename_i h0 e0 ne0 h2
      have hpn : Ha p ≠ none := by rw [hp]; exact fun z => nomatch z
      have hFn : Ha F ≠ none := by rw [hFa]; exact fun z => nomatch z
      have hhn' : Ha h' ≠ none := by rw [hha]; exact fun z => nomatch z
      refine ⟨h', s2, s3, rfl, by walk_at "h", hps, by omega, fun H4 v k4 a4 n4 => ?_⟩
      have k5 : Kp [F, h] H H4 := (k.upd_new' ne0).trans (k4.mono fun a z => nomatch z)
      have o4 : tlOut [h', p, F] H4 v := tl_out n4 fun a z => by
        simp at z
        rcases z with rfl | rfl | rfl <;> exact upd_some (by assumption)
      have o5 : tlOut [F, h] H4 v := tl_out n4 fun a z => by
        simp at z
        rcases z with rfl | rfl <;> exact upd_some (by assumption)
      have t4 := ((ht.kp (Kp.refl.upd_new' (o := .lst []) ne0)).kp (k4.mono fun a z => nomatch z)).snoc a4 (tlNew_since n4 (k.upd_new' ne0) o5) o4
      have hF4 : H4 F = _ := k4.at_ List.not_mem_nil ((upd_ne (ne_of_none hFa ne0)).trans hFa)
      have hp4 : H4 p = _ := k4.at_ List.not_mem_nil ((upd_ne (ne_of_none hp ne0)).trans hp)
      have hh4 : H4 h' = _ := k4.at_ List.not_mem_nil ((upd_ne (ne_of_none hha ne0)).trans hha)
      have hn4 : H4 h ≠ none := kp_some k4 List.not_mem_nil (upd_some hhn)
      walk_at "go"
      rename_i p0 np0
      rw [List.length_map] at *
      have pF0 : p0 ≠ F := fun e => by rw [e, upd_same] at np0; cases np0
      rw [upd_ne pF0] at np0
      have pp0 : p0 ≠ p := fun e => by rw [e, upd_same] at np0; cases np0
      rw [upd_ne pp0] at np0
      have ph0 : p0 ≠ h := fun e => hn4 (e ▸ np0)
      have n0' : H p0 = none := k5.none_of (nm_cons pF0 (nm_cons ph0 List.not_mem_nil)) np0
      have et : fstep (s1, s2, s3) b = (s1 ++ [tell s2 s3], [], s3 + ((s2.length : Int) + 1)) := by
        unfold fstep
        rw [if_neg fun z => z h0, if_pos h2]
      refine fin _ p0 (us ++ [v]) dx' _ _ et.symm (by walk_at "kp") ?_ ?_ (.inr n0') pp0.symm pF0.symm upd_same ((upd_ne pF0).trans upd_same) (fun c hc => nomatch hc) (Nat.zero_le _) (by rw [List.length_append]; simp; omega) (upd_some (upd_some (upd_some (upd_some hn4))))
      · rw [upd_ne pF, upd_ne pp0.symm, upd_ne pF]
        exact upd_same
      · have m1 : p ∈ [h', p, F] := by simp
        have m2 : F ∈ [h', p, F] := by simp
        have t5 := ((t4.kp (Kp.refl.upd_in (o := .lst (us ++ [v])) m1)).kp (Kp.refl.upd_in (o := .ins C dx' [("held", V.ref h'), ("place", V.int (s3 + ((s2.length : Int) + 1)))]) m2)).add (p := p0) (by rw [upd_ne pF0, upd_ne pp0]; exact np0)
        exact ((t5.kp (Kp.refl.upd_in List.mem_cons_self)).kp (Kp.refl.upd_in (List.mem_cons_of_mem _ m2))).mono fun a z => by
          simp at z
          rcases z with rfl | rfl | rfl <;> simp
    · rename_i h0 e0 ne0 h2 p0 np0
      rw [List.length_map] at *
      have pF0 : p0 ≠ F := fun e => by rw [e, upd_same] at np0; cases np0
      rw [upd_ne pF0] at np0
      have np1 : Ha p0 = none := by
        by_cases z : p0 = e0
        · rw [z]; exact ne0
        · rwa [upd_ne z] at np0
      have pp0 : p0 ≠ p := (ne_of_none hp np1).symm
      have ph0 : p0 ≠ h := fun e => hhn (e ▸ np1)
      have n0' : H p0 = none := k.none_of (nm_cons pF0 (nm_cons ph0 List.not_mem_nil)) np1
      have ne0' : H e0 = none := k.none_of (nm_cons (ne_of_none hFa ne0).symm (nm_cons (fun e => hhn (e ▸ ne0)) List.not_mem_nil)) ne0
      have et : fstep (s1, s2, s3) b = (s1, [], s3 + ((s2.length : Int) + 1)) := by
        unfold fstep
        rw [if_neg fun z => z h0, if_neg fun z => z h2]
      refine fin _ p0 us dx' _ _ et.symm (by walk_at "kp") ?_ ?_ (.inr n0') pp0.symm pF0.symm upd_same ((upd_ne pF0).trans upd_same) (fun c hc => nomatch hc) (Nat.zero_le _) (by omega) (upd_some (upd_some (upd_some (upd_some hhn))))
      · rw [upd_ne pF, upd_ne pp0.symm, upd_ne pF, upd_ne (ne_of_none hp ne0)]
        exact hp
      · have m2 : F ∈ [h', p, F] := by simp
        have t5 := ((ht.kp (Kp.refl.upd_new' (o := .lst []) ne0)).kp (Kp.refl.upd_in (o := .ins C dx' [("held", V.ref h'), ("place", V.int (s3 + ((s2.length : Int) + 1)))]) m2)).add (p := p0) (by rw [upd_ne pF0]; exact np0)
        exact ((t5.kp (Kp.refl.upd_in List.mem_cons_self)).kp (Kp.refl.upd_in (List.mem_cons_of_mem _ m2))).mono fun a z => by
          simp at z
          rcases z with rfl | rfl | rfl <;> simp
  · rw [hPV] at z
    obtain ⟨u, h', us, dx', rfl, k, hp, ht, hh', ph', Fh', hFa, hha, hps', _⟩ := z
    rw [List.length_map, List.take_length] at *
    walk_at "go"
    exact q _ p us h' n0 k hp ht hh' ph' hps' ⟨Fh', dx', hFa, hha⟩
theorem len_unstreamed (K : PySem.W.Frag) : ∀ vs H Q E, sp_unstreamed K vs H Q E → vs.length = ["data"].length := by
  rintro _ _ _ _ ⟨_, _, rfl, _⟩; rfl
theorem tls_move {M : List Addr} {H0 Hb H' H2 : Hp} {us : List V} {ts : List Tl} (h : Tls Hb H' us ts) (k : Kp M H' H2) (m : ∀ a ∈ M, Hb a ≠ none) (k0 : Kp [] H0 Hb) : Tls H0 H2 us ts := ⟨h.1, fun i v e => by
  obtain ⟨t, h1, h2, h3⟩ := h.2 i v e
  obtain ⟨a, b, c⟩ := tl_kp k h2 h3 (tl_out h3 m)
  exact ⟨t, h1, a, tlNew_since b k0 fun T e => ⟨List.not_mem_nil, fun _ _ _ _ => List.not_mem_nil⟩⟩⟩
theorem tls_app {H H' : Hp} {us vs : List V} {ts rs : List Tl} (h : Tls H H' us ts) (g : Tls H H' vs rs) : Tls H H' (us ++ vs) (ts ++ rs) := by
  refine ⟨by rw [List.length_append, List.length_append, h.1, g.1], fun i w e => ?_⟩
  by_cases hi : i < us.length
  · rw [List.getElem?_append_left hi] at e
    obtain ⟨u, h1, h2, h3⟩ := h.2 i w e
    exact ⟨u, by rw [List.getElem?_append_left (by rw [← h.1]; exact hi)]; exact h1, h2, h3⟩
  · rw [List.getElem?_append_right (by omega)] at e
    obtain ⟨u, h1, h2, h3⟩ := g.2 _ w e
    exact ⟨u, by rw [List.getElem?_append_right (by rw [← h.1]; omega), ← h.1]; exact h1, h2, h3⟩
theorem fst_lens : ∀ (bs : List Int) (s : List Tl × List Int × Int), (bs.foldl fstep s).1.length ≤ s.1.length + bs.length ∧ (bs.foldl fstep s).2.1.length ≤ s.2.1.length + bs.length
  | [], s => ⟨Nat.le_refl _, Nat.le_refl _⟩
  | b :: bs, s => by
    have h := fst_lens bs (fstep s b)
    have h2 : (fstep s b).1.length ≤ s.1.length + 1 ∧ (fstep s b).2.1.length ≤ s.2.1.length + 1 := by
      unfold fstep
      split
      · exact ⟨Nat.le_succ _, by simp⟩
      · dsimp only
        split <;> exact ⟨by simp, Nat.zero_le _⟩
    rw [List.foldl_cons, List.length_cons]
    omega
theorem p_unstreamed (K : PySem.W.Frag) (C : Addr) (O : Own K C) (vs : List V) (H : Hp) (Q : VK) (E : XK) (h : sp_unstreamed K vs H Q E) : t_unstreamed K C { nx := fun _ H' => Q .non H', rt := Q } (start ["data", "feeder"] vs) H := by
  obtain ⟨x, bs, rfl, hx, ok, hl, q⟩ := h
  obtain ⟨cl, nh, np⟩ := O
  walk_at "go"
  rename_i F dx nF nd ne
  have k0 : Kp [] H (upd (upd H dx (.own F)) F (.ins C dx [])) := (Kp.refl.upd_new' nd).upd_new nF
  refine ⟨F, dx, rfl, upd_same, fun H1 h1 nh1 k1 ⟨hne, dx1, hF1, hh1⟩ => ?_⟩
  have k01 : Kp [] H H1 := k0.drop k1 fun a z => by
    rw [List.mem_singleton.mp z]
    exact .inr nF
  have nh0 : H h1 = none := none_of k0 nh1
  walk_at "go"
  refine .inl ⟨F, h1, [], 0, x, bs, rfl, ⟨hne, dx1, hF1, hh1⟩, hx.kp k01, hx.newNe nF, hx.newNe nh0, ok, (fun _ z => nomatch z), by simp; exact hl, fun H2 p us h2 np2 k2 hp2 ht2m hh2 ph2 _ ⟨hne2, dx2, hF2, hh2'⟩ => ?_⟩
  have ht2 := ht2m.tls
  have hlen := fst_lens bs ([], [], 0)
  have k02 : Kp [] H H2 := k01.drop k2 fun a z => by
    simp at z
    rcases z with rfl | rfl
    · exact .inr nF
    · exact .inr nh0
  walk_at "go"
  refine ⟨F, h2, _, _, rfl, ⟨hne2, dx2, hF2, hh2'⟩, ?_, fun H3 p3 us3 h3 np3 k3 hp3 ht3 nh3 _ => ?_⟩
  · have : (fst [] 0 bs).2.1.length ≤ 0 + bs.length := hlen.2
    omega
  have pF : p ≠ F := fun e => by rw [e, hF1] at np2; cases np2
  have k03 : Kp [] H H3 := k02.drop k3 fun a z => by
    rw [List.mem_singleton.mp z]
    exact .inr nF
  have hp3' : H3 p = some (.lst us) := k3.at_ (nm_cons pF List.not_mem_nil) hp2
  have hul : us.length ≤ 1000000 := by
    rw [ht2.1]
    have : (fst [] 0 bs).1.length ≤ 0 + bs.length := hlen.1
    omega
  have hul3 : us3.length ≤ 1 := by
    rw [ht3.1]
    split <;> simp
  walk_at "go"
  rename_i p4 n4
  refine q _ p4 (us ++ us3) (none_of k03 n4) (k03.new n4) upd_same ?_
  unfold unst
  have a1 := tls_move (M := [F]) (H0 := H) ht2 k3 (fun a z => by rw [List.mem_singleton.mp z, hF1]; exact fun z => nomatch z) k01
  exact tls_app (tls_move (M := []) a1 (Kp.refl.upd_new' n4) (fun a z => absurd z List.not_mem_nil) Kp.refl) (tls_move (M := []) ht3 (Kp.refl.upd_new' n4) (fun a z => absurd z List.not_mem_nil) k02)
end Stm

/-! ## streams read: the law -/
namespace Stm
open PySem PySem.Spec PyProof.Rows L2 Kb
theorem outR_enc : ∀ (cs : List (List Int)) (ah : Int), good ah cs → outR (enc cs) = some (dec cs)
  | [], _, _ => rfl
  | c :: cs, ah, g => by
    have ih := outR_enc cs _ g.2.2.2
    rw [enc_cons, outR_cons]
    have e1 : (((c.length : Int) + 1).toNat - 1) = c.length := by omega
    rw [if_neg (by simp; omega), e1, List.drop_left' rfl, List.take_left' rfl, ih, dec_cons]
    have e2 : ((c.length : Int) + 1 ≤ 254 ∧ enc cs ≠ []) ↔ (c.length < 254 ∧ cs ≠ []) := by
      constructor
      · rintro ⟨h1, h2⟩
        exact ⟨by omega, fun z => h2 (by rw [z]; rfl)⟩
      · rintro ⟨h1, h2⟩
        exact ⟨by omega, fun z => h2 (enc_len0 (by rw [z]; rfl))⟩
    simp only [Option.map_some, e2]
theorem told_runs (ps : List Int) : told (inRuns (chk ps)) = some ps := by
  obtain ⟨cs, e1, e2, g, _⟩ := runs_ex (chk ps)
  unfold told
  rw [e1, outR_enc cs 0 g, e2]
  have hl : (chk ps).length = ps.length + 4 := by simp [chk]
  have ht : (chk ps).take ((chk ps).length - 4) = ps := by
    rw [hl]
    unfold chk
    rw [List.take_left' (by omega)]
  dsimp only
  rw [ht, if_pos ⟨by omega, rfl⟩]
theorem fst_zeros : ∀ (z : Nat) (t : List Tl) (k : Int), (List.replicate z (0 : Int)).foldl fstep (t, [], k) = (t, [], k + z)
  | 0, t, k => by simp
  | z + 1, t, k => by
    rw [List.replicate_succ, List.foldl_cons, show fstep (t, [], k) 0 = (t, [], k + 1) from rfl, fst_zeros z]
    congr 2
    omega
theorem fst_run : ∀ (xs : List Int) (t : List Tl) (h : List Int) (k : Int), (∀ b ∈ xs, b ≠ 0) → xs.foldl fstep (t, h, k) = (t, h ++ xs, k)
  | [], t, h, k, _ => by simp
  | x :: xs, t, h, k, n => by
    rw [List.foldl_cons, show fstep (t, h, k) x = (t, h ++ [x], k) from if_pos (n x List.mem_cons_self), fst_run xs _ _ _ fun b hb => n b (List.mem_cons_of_mem _ hb)]
    simp
def dat (js : List (Nat × List Int)) : List Int := js.flatMap fun j => List.replicate j.1 0 ++ (inRuns (chk j.2) ++ [0])
def dues : Int → List (Nat × List Int) → List (Int × List Int)
  | _, [] => []
  | k, j :: js => (k + j.1, j.2) :: dues (k + j.1 + ((inRuns (chk j.2)).length + 1)) js
def mkT (d : Int × List Int) : Tl := ⟨d.1, some d.2, (inRuns (chk d.2)).length⟩
theorem dat_cons (j : Nat × List Int) (js : List (Nat × List Int)) : dat (j :: js) = List.replicate j.1 0 ++ (inRuns (chk j.2) ++ [0]) ++ dat js := rfl
theorem dat_snoc (js : List (Nat × List Int)) (j : Nat × List Int) : dat (js ++ [j]) = dat js ++ (List.replicate j.1 0 ++ (inRuns (chk j.2) ++ [0])) := by
  unfold dat
  rw [List.flatMap_append, List.flatMap_singleton]
theorem dues_snoc : ∀ (js : List (Nat × List Int)) (k : Int) (j : Nat × List Int), dues k (js ++ [j]) = dues k js ++ [(k + (dat js).length + j.1, j.2)]
  | [], k, j => by simp [dues, dat]
  | i :: js, k, j => by
    rw [List.cons_append]
    unfold dues
    rw [dues_snoc js, List.cons_append]
    have e : k + i.1 + ((inRuns (chk i.2)).length + 1) + ((dat js).length : Int) + j.1 = k + ((dat (i :: js)).length : Int) + j.1 := by
      rw [dat_cons]
      simp only [List.length_append, List.length_replicate, List.length_cons, List.length_nil]
      omega
    rw [e]
theorem dues_len : ∀ (js : List (Nat × List Int)) (k : Int), (dues k js).length = js.length
  | [], _ => rfl
  | j :: js, k => by
    unfold dues
    rw [List.length_cons, List.length_cons, dues_len js]
theorem fst_dat : ∀ (js : List (Nat × List Int)) (t : List Tl) (k : Int), (∀ j ∈ js, Okb j.2) → (dat js).foldl fstep (t, [], k) = (t ++ (dues k js).map mkT, [], k + (dat js).length)
  | [], t, k, _ => by simp [dat, dues]
  | j :: js, t, k, ok => by
    have hb := runs_bytes (chk_okb (ok j List.mem_cons_self))
    have hne := runs_ne (chk j.2)
    rw [dat_cons, List.foldl_append, List.foldl_append, fst_zeros, List.foldl_append, fst_run (inRuns (chk j.2)) t [] _ fun b z => by have := hb b z; omega]
    have e : List.foldl fstep (t, [] ++ inRuns (chk j.2), k + j.1) [0] = (t ++ [mkT (k + j.1, j.2)], [], k + j.1 + ((inRuns (chk j.2)).length + 1)) := by
      show fstep _ 0 = _
      unfold fstep
      rw [if_neg fun z => z rfl, List.nil_append, if_pos hne]
      unfold tell mkT
      rw [told_runs]
    rw [e, fst_dat js _ _ fun i hi => ok i (List.mem_cons_of_mem _ hi)]
    have e2 : dues k (j :: js) = (k + j.1, j.2) :: dues (k + j.1 + ((inRuns (chk j.2)).length + 1)) js := rfl
    rw [e2]
    refine Prod.ext (by simp) (Prod.ext rfl ?_)
    simp only [List.length_append, List.length_replicate, List.length_cons, List.length_nil]
    omega
theorem unst_dat (js : List (Nat × List Int)) (z : Nat) (ok : ∀ j ∈ js, Okb j.2) : unst (dat js ++ List.replicate z 0) = (dues 0 js).map mkT := by
  have e : fst [] 0 (dat js ++ List.replicate z 0) = ((dues 0 js).map mkT, [], 0 + ((dat js).length : Int) + (z : Int)) := by
    unfold fst
    rw [List.foldl_append, fst_dat js [] 0 ok, fst_zeros]
    simp
  unfold unst
  rw [e]
  simp
end Stm

/-! slices of int lists, by their length -/
namespace Stm
open PySem PySem.Spec PyProof.Rows L2 Kb
theorem slI_go {K : PySem.W.Frag} {H : Hp} {Q : VK} {a : Addr} {xs : List Int} {lo hi : Option Int} (h : SqL K H a (xs.map V.int)) (q : ∀ p ys, ys = cutI xs lo hi → ys.length ≤ xs.length → (∀ b ∈ ys, b ∈ xs) → H p = none → Q (.ref p) (upd H p (.lst (ys.map V.int)))) : rSlLU K (.ref a) lo hi H Q :=
  slL_go h fun p np => by
    rw [cutV_map]
    exact q p _ rfl (cutI_len _ _ _) (fun b hb => cutI_mem hb) np
theorem okb_sub {xs ys : List Int} (h : Okb xs) (s : ∀ b ∈ ys, b ∈ xs) : Okb ys := fun b hb => h b (s b hb)
theorem cutI_to {α : Type} (xs : List α) (k : Nat) : cutI xs none (some (k : Int)) = xs.take k := by
  unfold cutI
  have e1 : HT.sIx xs.length 0 none = 0 := rfl
  have e2 : HT.sIx xs.length xs.length (some (k : Int)) = min k xs.length := by
    show (if (k : Int) < 0 then ((k : Int) + (xs.length : Int)).toNat else min (k : Int).toNat xs.length) = _
    rw [if_neg (by omega)]
    rfl
  rw [e1, e2, Nat.sub_zero, List.drop_zero]
  by_cases h : k ≤ xs.length
  · rw [Nat.min_eq_left h]
  · rw [Nat.min_eq_right (by omega), List.take_length, List.take_of_length_le (by omega)]
theorem cutI_from {α : Type} (xs : List α) (k : Nat) : cutI xs (some (k : Int)) none = xs.drop k := by
  unfold cutI
  have e1 : HT.sIx xs.length xs.length none = xs.length := rfl
  have e2 : HT.sIx xs.length 0 (some (k : Int)) = min k xs.length := by
    show (if (k : Int) < 0 then ((k : Int) + (xs.length : Int)).toNat else min (k : Int).toNat xs.length) = _
    rw [if_neg (by omega)]
    rfl
  rw [e1, e2]
  by_cases h : k ≤ xs.length
  · rw [Nat.min_eq_left h, List.take_of_length_le (by rw [List.length_drop]; omega)]
  · rw [Nat.min_eq_right (by omega), Nat.sub_self, List.take_zero, List.drop_eq_nil_of_le (by omega)]
theorem setB_go {a : Addr} {H : Hp} {i x : Int} {xs : List Int} {Q : Hp → Prop} (h : H a = some (.lst (xs.map V.int))) (h0 : 0 ≤ i) (h1 : i < xs.length) (q : ∀ ys : List Int, ys = xs.set i.toNat x → ys.length = xs.length → (∀ b ∈ ys, b ∈ xs ∨ b = x) → Q (upd H a (.lst (ys.map V.int)))) : rSetU (.ref a) (.int i) (.int x) H Q := by
  refine set_go (k := i.toNat) h (by unfold ixN; rw [List.length_map, if_pos h0, if_pos h1]) ?_
  have := q (xs.set i.toNat x) rfl (List.length_set ..) fun b hb => List.mem_or_eq_of_mem_set hb
  rwa [List.map_set] at this
def dTl (t : Tl) : PyData := match t.part with
  | some ps => .tuple [.str (PySem.Str.ofString "part"), .int t.place, .list (ps.map PyData.int)]
  | none => .tuple [.str (PySem.Str.ofString "torn"), .int t.place, .int (t.size : Nat)]
theorem dp_tl {K : PySem.W.Frag} {H : Hp} {v : V} {t : Tl} (h : tlAt H v t) : Dp K H v (dTl t) := by
  obtain ⟨T, rfl, h⟩ := h
  obtain ⟨pl, pt, sz⟩ := t
  cases pt with
  | some ps =>
    obtain ⟨l, h1, h2⟩ := h
    exact .tup (SqT.of h1) (.cons (.str _) (.cons (.int _) (.cons (.lst (SqL.of h2) (dp_ints ps)) .nil)))
  | none => exact .tup (SqT.of h) (.cons (.str _) (.cons (.int _) (.cons (.int _) .nil)))
theorem sh_tl (t : Tl) : Sh 2 (dTl t) := by
  obtain ⟨pl, pt, sz⟩ := t
  cases pt with
  | some ps =>
    refine sh_tup (n := 1) fun d h => ?_
    simp at h
    rcases h with rfl | rfl | rfl
    · exact sh_str (by decide)
    · exact sh_int
    · exact sh_ints
  | none =>
    refine sh_tup (n := 1) fun d h => ?_
    simp at h
    rcases h with rfl | rfl | rfl
    · exact sh_str (by decide)
    · exact sh_int
    · exact sh_int
theorem Tls.dp {K : PySem.W.Frag} {Hn H : Hp} : ∀ {us : List V} {ts : List Tl}, Tls Hn H us ts → DpAll K H us (ts.map dTl)
  | [], [], _ => .nil
  | [], p :: pss, h => by cases h.1
  | u :: us, [], h => by cases h.1
  | u :: us, t :: ts, h => by
    obtain ⟨t', h1, h2, h3⟩ := h.2 0 u rfl
    cases h1
    refine .cons (dp_tl h2) (Tls.dp (Hn := Hn) ⟨by have := h.1; simp at this; exact this, fun i v e => ?_⟩)
    obtain ⟨t2, h4, h5, h6⟩ := h.2 (i + 1) v (by simpa using e)
    exact ⟨t2, by simpa using h4, h5, h6⟩
theorem sh_tls (ts : List Tl) : Sh 3 (.list (ts.map dTl)) := sh_lst (n := 2) fun d h => by
  obtain ⟨t, _, rfl⟩ := List.mem_map.mp h
  exact sh_tl t
/-- what is told twice alike is equal -/
theorem eqTls_go {K : PySem.W.Frag} {H Hn Hm : Hp} {Q : VK} {a b : Addr} {us vs : List V} {ts : List Tl} (ha : H a = some (.lst us)) (hb : H b = some (.lst vs)) (hu : Tls Hn H us ts) (hv : Tls Hm H vs ts) (q : Q (.bl true) H) : rEqU K (.ref a) (.ref b) H Q :=
  eqD_go (.lst (SqL.of ha) hu.dp) (.lst (SqL.of hb) hv.dp) ((sh_tls ts).ok (by decide)) ((sh_tls ts).ok (by decide)) (by rw [SeqAt.eqv_refl _ (sh_tls ts).1]; exact q)
end Stm

/-! lists whose things hold one by one -/
namespace Stm
open PySem PySem.Spec PyProof.Rows L2 Kb
def A2 {α : Type} (R : V → α → Prop) (us : List V) (cs : List α) : Prop := us.length = cs.length ∧ ∀ (i : Nat) (v : V), us[i]? = some v → ∃ c, cs[i]? = some c ∧ R v c
section
variable {α : Type} {R S : V → α → Prop} {us vs : List V} {cs ds : List α}
theorem A2.nil : A2 R [] [] := ⟨rfl, fun i v h => nomatch h⟩
theorem A2.mono (h : A2 R us cs) (m : ∀ v c, v ∈ us → c ∈ cs → R v c → S v c) : A2 S us cs := ⟨h.1, fun i v e => by
  obtain ⟨c, h1, h2⟩ := h.2 i v e
  exact ⟨c, h1, m v c (List.mem_of_getElem? e) (List.mem_of_getElem? h1) h2⟩⟩
theorem A2.app (h : A2 R us cs) (g : A2 R vs ds) : A2 R (us ++ vs) (cs ++ ds) := by
  refine ⟨by rw [List.length_append, List.length_append, h.1, g.1], fun i w e => ?_⟩
  by_cases hi : i < us.length
  · rw [List.getElem?_append_left hi] at e
    obtain ⟨c, h1, h2⟩ := h.2 i w e
    exact ⟨c, by rw [List.getElem?_append_left (by rw [← h.1]; exact hi)]; exact h1, h2⟩
  · rw [List.getElem?_append_right (by omega)] at e
    obtain ⟨c, h1, h2⟩ := g.2 _ w e
    exact ⟨c, by rw [List.getElem?_append_right (by rw [← h.1]; omega), ← h.1]; exact h1, h2⟩
theorem A2.one {v : V} {c : α} (h : R v c) : A2 R [v] [c] := ⟨rfl, fun i w e => by
  rcases i with _ | i
  · cases e
    exact ⟨c, rfl, h⟩
  · cases e⟩
theorem A2.snoc {v : V} {c : α} (h : A2 R us cs) (r : R v c) : A2 R (us ++ [v]) (cs ++ [c]) := h.app (.one r)
theorem A2.take (h : A2 R us cs) (n : Nat) : A2 R (us.take n) (cs.take n) := ⟨by rw [List.length_take, List.length_take, h.1], fun i v e => by
  rw [List.getElem?_take] at e ⊢
  split at e
  · rename_i hi
    obtain ⟨c, h1, h2⟩ := h.2 i v e
    exact ⟨c, by rw [if_pos hi]; exact h1, h2⟩
  · cases e⟩
theorem A2.drop (h : A2 R us cs) (n : Nat) : A2 R (us.drop n) (cs.drop n) := ⟨by rw [List.length_drop, List.length_drop, h.1], fun i v e => by
  rw [List.getElem?_drop] at e ⊢
  exact h.2 _ v e⟩
theorem A2.at_ {i : Nat} {c : α} (h : A2 R us cs) (e : cs[i]? = some c) : ∃ v, us[i]? = some v ∧ R v c := by
  have hi : i < us.length := by rw [h.1]; exact (List.getElem?_eq_some_iff.mp e).1
  obtain ⟨c', h1, h2⟩ := h.2 i us[i] (List.getElem?_eq_getElem hi)
  rw [e] at h1
  cases h1
  exact ⟨us[i], List.getElem?_eq_getElem hi, h2⟩
end
/-- v is at an address out of M, where f tells c -/
def rObj {α : Type} (f : α → HO) (M : List Addr) (H : Hp) (v : V) (c : α) : Prop := ∃ a, v = .ref a ∧ H a = some (f c) ∧ a ∉ M
section
variable {α : Type} {f : α → HO} {M N : List Addr} {H H' : Hp} {us : List V} {cs : List α}
theorem A2.kp (h : A2 (rObj f M H) us cs) (k : Kp M H H') : A2 (rObj f M H') us cs := h.mono fun v c _ _ ⟨a, e, ha, m⟩ => ⟨a, e, k.at_ m ha, m⟩
theorem A2.kp0 (h : A2 (rObj f M H) us cs) (k : Kp [] H H') : A2 (rObj f M H') us cs := h.kp (k.mono fun a z => absurd z List.not_mem_nil)
theorem A2.addM {p : Addr} (h : A2 (rObj f M H) us cs) (n : H p = none) : A2 (rObj f (p :: M) H) us cs := h.mono fun v c _ _ ⟨a, e, ha, m⟩ => ⟨a, e, ha, nm_cons (ne_of_none ha n) m⟩
theorem A2.subM (h : A2 (rObj f M H) us cs) (m : ∀ a ∈ N, a ∈ M) : A2 (rObj f N H) us cs := h.mono fun v c _ _ ⟨a, e, ha, z⟩ => ⟨a, e, ha, fun y => z (m a y)⟩
theorem A2.sub0 (h : A2 (rObj f M H) us cs) : A2 (rObj f [] H) us cs := h.subM fun a z => absurd z List.not_mem_nil
theorem A2.new {p : Addr} {o : HO} (h : A2 (rObj f M H) us cs) (n : H p = none) : A2 (rObj f M (upd H p o)) us cs := h.kp0 (Kp.refl.new n)
end
/-! slices of any list by a number that is not below 0 -/
theorem cut_to {α : Type} (xs : List α) {r : Int} (h : 0 ≤ r) : cutI xs none (some r) = xs.take r.toNat := by
  have := cutI_to xs r.toNat
  rwa [show ((r.toNat : Nat) : Int) = r by omega] at this
theorem cut_from {α : Type} (xs : List α) {r : Int} (h : 0 ≤ r) : cutI xs (some r) none = xs.drop r.toNat := by
  have := cutI_from xs r.toNat
  rwa [show ((r.toNat : Nat) : Int) = r by omega] at this
theorem slTo_go {K : PySem.W.Frag} {H : Hp} {Q : VK} {a : Addr} {xs : List V} {r : Int} (h : SqL K H a xs) (h0 : 0 ≤ r) (q : ∀ p, H p = none → Q (.ref p) (upd H p (.lst (xs.take r.toNat)))) : rSlLU K (.ref a) none (some r) H Q :=
  slL_go h fun p np => by
    rw [show cutV xs none (some r) = xs.take r.toNat from cut_to xs h0]
    exact q p np
theorem slFrom_go {K : PySem.W.Frag} {H : Hp} {Q : VK} {a : Addr} {xs : List V} {r : Int} (h : SqL K H a xs) (h0 : 0 ≤ r) (q : ∀ p, H p = none → Q (.ref p) (upd H p (.lst (xs.drop r.toNat)))) : rSlLU K (.ref a) (some r) none H Q :=
  slL_go h fun p np => by
    rw [show cutV xs (some r) none = xs.drop r.toNat from cut_from xs h0]
    exact q p np
theorem slT1_go {K : PySem.W.Frag} {H : Hp} {Q : VK} {a : Addr} {x : V} {xs : List V} (h : SqT K H a (x :: xs)) (q : ∀ p, H p = none → Q (.ref p) (upd H p (.tup xs))) : rSlTU K (.ref a) (some 1) none H Q := by
  unfold rSlTU
  refine ⟨a, x :: xs, rfl, h, fun z => ?_, fun p np => ?_⟩
  · have e2 : HT.sIx (x :: xs).length 0 (some (1 : Int)) = min 1 (x :: xs).length := by
      show (if (1 : Int) < 0 then ((1 : Int) + ((x :: xs).length : Int)).toNat else min (1 : Int).toNat (x :: xs).length) = _
      rw [if_neg (by omega)]
      rfl
    rw [e2, List.length_cons] at z
    omega
  · rw [show cutV (x :: xs) (some 1) none = xs from cut_from (x :: xs) (r := 1) (by decide)]
    exact q p np
theorem eqv_tints (xs ys : List Int) : PyData.eqv (.tuple (xs.map PyData.int)) (.tuple (ys.map PyData.int)) = decide (xs = ys) := by
  simp only [PyData.eqv]
  exact eqvAll_ints xs ys
theorem sh_tints {ns : List Int} : Sh 1 (.tuple (ns.map PyData.int)) := sh_tup (n := 0) fun d h => by
  obtain ⟨i, _, rfl⟩ := List.mem_map.mp h
  exact sh_int
/-- two tuples of ints -/
theorem neTI_go {K : PySem.W.Frag} {H : Hp} {Q : VK} {a b : Addr} {xs ys : List Int} (hx : H a = some (.tup (xs.map V.int))) (hy : H b = some (.tup (ys.map V.int))) (q : Q (.bl (!decide (xs = ys))) H) : rNeU K (.ref a) (.ref b) H Q :=
  neD_go (.tup (SqT.of hx) (dp_ints xs)) (.tup (SqT.of hy) (dp_ints ys)) (sh_tints.ok (by decide)) (sh_tints.ok (by decide)) (by rw [eqv_tints]; exact q)
def rNotT : V → V → Hp → VK → Prop := fun x y H Q => ∃ i, x = .int i ∧ y = .bl true ∧ Q (.bl true) H
theorem u_notT {X : Cx} : OpR X (compareOp .IsNot) rNotT := by
  intro pins s σ H x y v u Q I rx ry h
  obtain ⟨i, rfl, rfl, q⟩ := h
  obtain ⟨t, rfl⟩ := (show ∃ t, v = Value.int i t from rx)
  cases (show u = Value.bool true from ry)
  exact wpAny_isNot_other rfl (fun z => nomatch z) ⟨.bl true, H, I, rfl, q⟩
theorem tlAt.kp0 {H H' : Hp} {v : V} {t : Tl} (h : tlAt H v t) (k : Kp [] H H') : tlAt H' v t := by
  obtain ⟨T, rfl, h⟩ := h
  obtain ⟨pl, pt, sz⟩ := t
  cases pt with
  | some ps =>
    obtain ⟨l, h1, h2⟩ := h
    exact ⟨T, rfl, l, k.at_ List.not_mem_nil h1, k.at_ List.not_mem_nil h2⟩
  | none => exact ⟨T, rfl, k.at_ List.not_mem_nil h⟩
end Stm

/-! ## k54: promises -/
namespace K54
open PySem PySem.Spec PyProof.Rows L2 Kb Stm
structure XK2 (K : PySem.W.Frag) : Prop where
  x : XCls K (cAt K "NoBytes")
  why : PySem.W.findIn K (.ref (cAt K "NoBytes")) "why" = some none
  kw : PySem.W.kitOne K (.ref (cAt K "NoBytes")) (.ref (cAt K "WireError")) = some true
  kv : PySem.W.kitOne K (.ref (cAt K "NoBytes")) (.type "ValueError") = some true
  em : PySem.W.exmOne K (.ref (cAt K "NoBytes")) (.ref (cAt K "NoBytes")) = some true
@[irreducible] def sp_law_block (K : PySem.W.Frag) : Sp := fun vs H Q _ => ∃ S C, vs = [.ref S] ∧ St H S C ∧ NewB H Q S C 2000
/-- how many pieces are told behind each number of bytes -/
def endd (bs : List Int) : List Int := (List.range (bs.length + 1)).map fun k => ((fst [] 0 (bs.take k)).1.length : Int)
def sp_law_ended (K : PySem.W.Frag) : Sp := fun vs H Q _ => ∃ a bs, vs = [.ref a] ∧ H a = some (.lst (bs.map V.int)) ∧ bs.length ≤ 1000000 ∧ NewI H Q (endd bs)
def sp_law_wrong (K : PySem.W.Frag) : Sp := fun vs H Q _ => ∃ S C, vs = [.ref S] ∧ St H S C ∧ ∀ H' x, Kp [S, C] H H' → St H' S C → BA K H' x false → Q x H'
def sp_law_refused (K : PySem.W.Frag) : Sp := fun vs H Q _ => ∃ F x h held place, vs = [.ref F, x] ∧ Fdr (cAt K "Feeder") H F h held place ∧ BA K H x false ∧ ∀ H', Kp [] H H' → Q (.bl true) H'
/-- told, out of M -/
def rTl (M : List Addr) (H : Hp) (v : V) (t : Tl) : Prop := tlAt H v t ∧ tlOut M H v
/-- what a feeder holds behind n bytes -/
def Fed (C : Addr) (H : Hp) (F h : Addr) (bs : List Int) (n : Nat) : Prop := Fdr C H F h (fst [] 0 (bs.take n)).2.1 (fst [] 0 (bs.take n)).2.2
def sp_law_fed (K : PySem.W.Frag) : Sp := fun vs H Q _ => ∃ (S C F h A W Eb : Addr) (bs : List Int) (n : Nat) (us : List V), vs = [.ref S, .ref F, .ref A, .int (n : Int), .ref W, .ref Eb] ∧ St H S C ∧ Fed (cAt K "Feeder") H F h bs n ∧ F ∉ [S, C] ∧ h ∉ [S, C] ∧
  H A = some (.lst (bs.map V.int)) ∧ A ∉ [S, C, F, h] ∧ Okb bs ∧ bs.length ≤ 100000 ∧ n ≤ bs.length ∧ H W = some (.lst us) ∧ W ∉ [S, C, F, h] ∧ A2 (rTl [S, C, F, h] H) us (unst bs) ∧ H Eb = some (.lst ((endd bs).map V.int)) ∧ Eb ∉ [S, C, F, h] ∧
  ∀ H' (m : Nat) h', Kp [S, C, F, h] H H' → St H' S C → Fed (cAt K "Feeder") H' F h' bs m → m ≤ bs.length → (h' = h ∨ H h' = none) → Q (.int (m : Int)) H'
def sp_law_rest (K : PySem.W.Frag) : Sp := fun vs H Q _ => ∃ (F h A W Eb : Addr) (bs : List Int) (n : Nat) (us : List V), vs = [.ref F, .ref A, .int (n : Int), .ref W, .ref Eb] ∧ Fed (cAt K "Feeder") H F h bs n ∧
  H A = some (.lst (bs.map V.int)) ∧ A ∉ [F, h] ∧ Okb bs ∧ bs.length ≤ 100000 ∧ n ≤ bs.length ∧ H W = some (.lst us) ∧ W ∉ [F, h] ∧ A2 (rTl [F, h] H) us (unst bs) ∧ H Eb = some (.lst ((endd bs).map V.int)) ∧ Eb ∉ [F, h] ∧
  ∀ H' h', Kp [F, h] H H' → Fdr (cAt K "Feeder") H' F h' [] 0 → (h' = h ∨ H h' = none) → Q (.bl true) H'
def sp_law (K : PySem.W.Frag) : Sp := fun vs H Q _ => ∃ (a : Addr) (ns : List Int), vs = [.ref a] ∧ SqL K H a (ns.map V.int) ∧ ns.length ≤ 63 ∧ ∀ H', Q (.bl true) H'
end K54

namespace K54
open PySem PySem.Spec PyProof.Rows L2 Kb Stm
def t_law_block (K : PySem.W.Frag) : TS :=
 (tSeq (tAsg (tCall (sp_law_take K) [] E0 (tCons (tVar 0) (tCons (tC (.int 5)) tNil))) (gName 1))
 (tSeq (tIfS (tTest (tOp (rEqU K) (tVar 1) (tC (.int 0))))
 (tRet (tLc (iRng1 (tCons (tCall (sp_law_take K) [] E0 (tCons (tVar 0) (tCons (tC (.int 10)) tNil))) tNil)) (gName 5) tYes (tCall (sp_law_take K) [] E0 (tCons (tVar 0) (tCons (tC (.int 256)) tNil))) [5]))
 tNext)
 (tSeq (tAsg (tLc (iRng1 (tCons (tCall (sp_law_take K) [] E0 (tCons (tVar 0) (tCons (tC (.int 31)) tNil))) tNil)) (gName 5) tYes (tCall (sp_law_take K) [] E0 (tCons (tVar 0) (tCons (tC (.int 256)) tNil))) [5]) (gName 2))
 (tSeq (tIfS (tTest (tOp (rEqU K) (tVar 1) (tC (.int 1))))
 (tAsg (tOp (rMulU K) (tLst (tCons (tOp (rAddU K) (tC (.int 1)) (tCall (sp_law_take K) [] E0 (tCons (tVar 0) (tCons (tC (.int 255)) tNil)))) tNil)) (tOp (rAddU K) (tC (.int 250)) (tCall (sp_law_take K) [] E0 (tCons (tVar 0) (tCons (tC (.int 7)) tNil))))) (gName 2))
 tNext)
 (tSeq (tAsg (tCall (sp_streamed K) [] E0 (tCons (tLst (tCons (tVar 2) tNil)) tNil)) (gName 3))
 (tSeq (tAsg (tCall (sp_law_take K) [] E0 (tCons (tVar 0) (tCons (tCB (rLenU K) (tCons (tVar 3) tNil)) tNil))) (gName 4))
 (tSeq (tIfS (tTest (tOp (rEqU K) (tVar 1) (tC (.int 2))))
 (tRet (tSl (rSlLU K) (tVar 3) tNoPart (tPart (tUn rNegU (tC (.int 1))))))
 tNext)
 (tSeq (tIfS (tTest (tOp (rEqU K) (tVar 1) (tC (.int 3))))
 (tRet (tOp (rAddU K) (tSl (rSlLU K) (tVar 3) tNoPart (tPart (tVar 4))) (tSl (rSlLU K) (tVar 3) (tPart (tOp (rAddU K) (tVar 4) (tC (.int 1)))) tNoPart)))
 tNext)
 (tRet (tVar 3))))))))))

def t_law_ended (K : PySem.W.Frag) : TS :=
 (tSeq (tAsg (tLst (tCons (tC (.int 0)) tNil)) (gName 1))
 (tSeq (tAsg (tC (.int 0)) (gName 2))
 (tSeq (tFor (iList K (tVar 0)) (gName 3)
 (tIfS (tTest (tOp (rNeU K) (tVar 3) (tC (.int 0))))
 (tSeq (tAsg (tOp (rAddU K) (tVar 2) (tC (.int 1))) (gName 2))
 (tDrop (tBM K "list" rAppU (tVar 1) (tCons (tOp (rIxU K) (tVar 1) (tUn rNegU (tC (.int 1)))) tNil))))
 (tSeq (tDrop (tBM K "list" rAppU (tVar 1) (tCons (tOp (rAddU K) (tOp (rIxU K) (tVar 1) (tUn rNegU (tC (.int 1)))) (tCB rIntU (tCons (tOp rGtU (tVar 2) (tC (.int 0))) tNil))) tNil)))
 (tAsg (tC (.int 0)) (gName 2)))))
 (tRet (tVar 1)))))

def t_law_wrong (K : PySem.W.Frag) : TS :=
 (tSeq (tAsg (tOp (rIxU K) (tLst (tCons (tC (.int 256)) (tCons (tUn rNegU (tC (.int 1))) (tCons (tC (.bl true)) (tCons (tC (.bl false)) (tCons (tC .non) (tCons (tC (.str (PySem.Str.ofString "a"))) (tCons (tOp rPowU (tC (.int 10)) (tC (.int 20))) (tCons (tLst (tCons (tC (.int 0)) tNil)) tNil))))))))) (tCall (sp_law_take K) [] E0 (tCons (tVar 0) (tCons (tC (.int 8)) tNil)))) (gName 1))
 (tSeq (tAsg (tOp (rAddU K) (tLst (tCons (tC (.int 0)) (tCons (tC (.int 5)) (tCons (tC (.int 0)) tNil)))) (tLst (tCons (tVar 1) tNil))) (gName 2))
 (tSeq (tIfS (tTest (tOp (rEqU K) (tCall (sp_law_take K) [] E0 (tCons (tVar 0) (tCons (tC (.int 4)) tNil))) (tC (.int 0))))
 (tRet (tOp (rIxU K) (tLst (tCons (tC .non) (tCons (tC (.str (PySem.Str.ofString ""))) (tCons (tC (.int 0)) (tCons (tC (.str (PySem.Str.ofString "0"))) tNil))))) (tCall (sp_law_take K) [] E0 (tCons (tVar 0) (tCons (tC (.int 4)) tNil)))))
 tNext)
 (tSeq (tAsg (tCall (sp_law_take K) [] E0 (tCons (tVar 0) (tCons (tC (.int 4)) tNil))) (gName 3))
 (tRet (tOp (rAddU K) (tSl (rSlLU K) (tVar 2) (tPart (tVar 3)) tNoPart) (tSl (rSlLU K) (tVar 2) tNoPart (tPart (tVar 3)))))))))

def t_law_refused (K : PySem.W.Frag) (C : Addr) : TS :=
 (tSeq (tTryAs K (.ref (cAt K "NoBytes")) 2 (fun W => (tDrop (tMethUS C "feed" (sp_Feeder_feed K C) (WE W) (tVar 0) (tCons (tVar 1) tNil)))) (fun a cls d =>
 (tRet (tAndV (tOp (rEqU K) (tXf a cls d (cAt K "NoBytes") "why" (tVar 2)) (tC (.str (PySem.Str.ofString "wire")))) (tAndV (tCB (rIsXd K a cls d) (tCons (tVar 2) (tCons (tC (.ref (cAt K "WireError"))) tNil))) (tCB (rIsXd K a cls d) (tCons (tVar 2) (tCons (tC (.ty "ValueError")) tNil))))))))
 (tRet (tC (.bl false))))

def t_law_fed (K : PySem.W.Frag) (C : Addr) : TS :=
 (tSeq (tAsg (tOp (rIxU K) (tLst (tCons (tC (.int 0)) (tCons (tC (.int 1)) (tCons (tC (.int 2)) (tCons (tC (.int 3)) (tCons (tC (.int 5)) (tCons (tC (.int 17)) (tCons (tC (.int 90)) (tCons (tC (.int 700)) tNil))))))))) (tCall (sp_law_take K) [] E0 (tCons (tVar 0) (tCons (tC (.int 8)) tNil)))) (gName 6))
 (tSeq (tIfS (tAnd (tTest (tOp (rEqU K) (tCall (sp_law_take K) [] E0 (tCons (tVar 0) (tCons (tC (.int 4)) tNil))) (tC (.int 0)))) (tNot (tTru K (tCall (sp_law_refused K) [] E0 (tCons (tVar 1) (tCons (tCall (sp_law_wrong K) [] E0 (tCons (tVar 0) tNil)) tNil))))))
 (tRet (tUn rNegU (tC (.int 1))))
 tNext)
 (tSeq (tAsg (tSl (rSlLU K) (tVar 2) (tPart (tVar 3)) (tPart (tOp (rAddU K) (tVar 3) (tVar 6)))) (gName 7))
 (tSeq (tAsg (tOp (rAddU K) (tVar 3) (tCB (rLenU K) (tCons (tVar 7) tNil))) (gName 8))
 (tSeq (tIfS (tTest (tOp (rEqU K) (tCall (sp_law_take K) [] E0 (tCons (tVar 0) (tCons (tC (.int 2)) tNil))) (tC (.int 0))))
 (tAsg (tMethU C "feed" (sp_Feeder_feed K C) E0 (tVar 1) (tCons (tCB (rTupleU K) (tCons (tVar 7) tNil)) tNil)) (gName 9))
 (tSeq (tAsg (tMethU C "feed" (sp_Feeder_feed K C) E0 (tVar 1) (tCons (tVar 7) tNil)) (gName 9))
 (tSeq (tIfS (tTest (tOp (rNeU K) (tVar 7) (tSl (rSlLU K) (tVar 2) (tPart (tVar 3)) (tPart (tVar 8)))))
 (tRet (tUn rNegU (tC (.int 1))))
 tNext)
 (tDrop (tBM K "list" rAppU (tVar 7) (tCons (tC (.int 0)) tNil))))))
 (tSeq (tIfS (tOr (tNot (tTru K (tCB (rIsiU K) (tCons (tVar 9) (tCons (tC (.ty "list")) tNil))))) (tTest (tOp (rNeU K) (tVar 9) (tSl (rSlLU K) (tVar 4) (tPart (tOp (rIxU K) (tVar 5) (tVar 3))) (tPart (tOp (rIxU K) (tVar 5) (tVar 8)))))))
 (tRet (tUn rNegU (tC (.int 1))))
 tNext)
 (tSeq (tFor (iList K (tVar 9)) (gName 10)
 (tIfS (tTest (tOp (rEqU K) (tOp (rIxU K) (tVar 10) (tC (.int 0))) (tC (.str (PySem.Str.ofString "part")))))
 (tDrop (tBM K "list" rAppU (tOp (rIxU K) (tVar 10) (tC (.int 2))) (tCons (tC (.int 3)) tNil)))
 tNext))
 (tSeq (tDrop (tBM K "list" rAppU (tVar 9) (tCons (tC .non) tNil)))
 (tRet (tVar 8))))))))))

def t_law_rest (K : PySem.W.Frag) (C : Addr) : TS :=
 (tSeq (tIfS (tTest (tOp (rNeU K) (tMethU C "feed" (sp_Feeder_feed K C) E0 (tVar 0) (tCons (tSl (rSlLU K) (tVar 1) (tPart (tVar 2)) tNoPart) tNil)) (tSl (rSlLU K) (tVar 3) (tPart (tOp (rIxU K) (tVar 4) (tVar 2))) (tPart (tOp (rIxU K) (tVar 4) (tCB (rLenU K) (tCons (tVar 1) tNil)))))))
 (tRet (tC (.bl false)))
 tNext)
 (tRet (tAndV (tOp (rEqU K) (tMethU C "done" (sp_Feeder_done K C) E0 (tVar 0) tNil) (tSl (rSlLU K) (tVar 3) (tPart (tOp (rIxU K) (tVar 4) (tCB (rLenU K) (tCons (tVar 1) tNil)))) tNoPart)) (tOp (rEqU K) (tMethU C "done" (sp_Feeder_done K C) E0 (tVar 0) tNil) (tLst tNil)))))

def t_law (K : PySem.W.Frag) (C : Addr) : TS :=
 (tSeq (tAsg (tLst (tCons (tCB (rListU K) (tCons (tSl (rSlLU K) (tVar 0) tNoPart (tPart (tC (.int 63)))) tNil)) (tCons (tC (.int 0)) (tCons (tC (.int 0)) (tCons (tC (.int 0)) tNil))))) (gName 1))
 (tSeq (tAsg (tLst tNil) (gName 2))
 (tSeq (tFor (iRng1 (tCons (tCall (sp_law_take K) [] E0 (tCons (tVar 1) (tCons (tC (.int 7)) tNil))) tNil)) (gName 3)
 (tAsg (tOp (rAddU K) (tVar 2) (tCall (sp_law_block K) [] E0 (tCons (tVar 1) tNil))) (gName 2)))
 (tSeq (tAsg (tCall (sp_law_take K) [] E0 (tCons (tVar 1) (tCons (tOp (rAddU K) (tCB (rLenU K) (tCons (tVar 2) tNil)) (tC (.int 1))) tNil))) (gName 4))
 (tSeq (tAsg (tSl (rSlLU K) (tVar 2) (tPart (tVar 4)) tNoPart) (gName 5))
 (tSeq (tAsg (tCall (sp_unstreamed K) [] E0 (tCons (tCB (rListU K) (tCons (tVar 2) tNil)) tNil)) (gName 6))
 (tSeq (tAsg (tCall (sp_unstreamed K) [] E0 (tCons (tCB (rListU K) (tCons (tVar 5) tNil)) tNil)) (gName 7))
 (tSeq (tAsg (tCall (sp_law_ended K) [] E0 (tCons (tVar 2) tNil)) (gName 8))
 (tSeq (tAsg (tCall (sp_law_ended K) [] E0 (tCons (tVar 5) tNil)) (gName 9))
 (tSeq (tAsg (tMake C (sp_Feeder___init__ K C) [] E0 tNil) (gName 10))
 (tSeq (tAsg (tMake C (sp_Feeder___init__ K C) [] E0 tNil) (gName 11))
 (tSeq (tAsg (tC (.int 0)) (gName 12))
 (tSeq (tAsg (tC (.int 0)) (gName 13))
 (tSeq (tFor (iRng1 (tCons (tC (.int 12)) tNil)) (gName 3)
 (tSeq (tAsg (tCall (sp_law_fed K) [] E0 (tCons (tVar 1) (tCons (tVar 10) (tCons (tVar 2) (tCons (tVar 12) (tCons (tVar 6) (tCons (tVar 8) tNil))))))) (gName 12))
 (tSeq (tAsg (tCall (sp_law_fed K) [] E0 (tCons (tVar 1) (tCons (tVar 11) (tCons (tVar 5) (tCons (tVar 13) (tCons (tVar 7) (tCons (tVar 9) tNil))))))) (gName 13))
 (tIfS (tOr (tTest (tOp rLtU (tVar 12) (tC (.int 0)))) (tTest (tOp rLtU (tVar 13) (tC (.int 0)))))
 (tRet (tC (.bl false)))
 tNext))))
 (tSeq (tIfS (tNot (tTru K (tCall (sp_law_rest K) [] E0 (tCons (tVar 10) (tCons (tVar 2) (tCons (tVar 12) (tCons (tVar 6) (tCons (tVar 8) tNil))))))))
 (tRet (tC (.bl false)))
 tNext)
 (tSeq (tIfS (tNot (tTru K (tCall (sp_law_rest K) [] E0 (tCons (tVar 11) (tCons (tVar 5) (tCons (tVar 13) (tCons (tVar 7) (tCons (tVar 9) tNil))))))))
 (tRet (tC (.bl false)))
 tNext)
 (tSeq (tAsg (tOp (rAddU K) (tMethU C "feed" (sp_Feeder_feed K C) E0 (tVar 10) (tCons (tSl (rSlLU K) (tVar 2) tNoPart (tPart (tVar 4))) tNil)) (tMethU C "done" (sp_Feeder_done K C) E0 (tVar 10) tNil)) (gName 14))
 (tSeq (tIfS (tTest (tOp (rNeU K) (tVar 14) (tCall (sp_unstreamed K) [] E0 (tCons (tSl (rSlLU K) (tVar 2) tNoPart (tPart (tVar 4))) tNil))))
 (tRet (tC (.bl false)))
 tNext)
 (tRet (tAndV (tOp (rEqU K) (tOp (rAddU K) (tMethU C "feed" (sp_Feeder_feed K C) E0 (tVar 10) (tCons (tVar 5) tNil)) (tMethU C "done" (sp_Feeder_done K C) E0 (tVar 10) tNil)) (tVar 7)) (tOp (rEqU K) (tOp (rAddU K) (tMethU C "feed" (sp_Feeder_feed K C) E0 (tVar 11) (tCons (tVar 2) tNil)) (tMethU C "done" (sp_Feeder_done K C) E0 (tVar 11) tNil)) (tVar 6))))))))))))))))))))))
end K54

/-! slices by a number, of lists and tuples (over Ext2) -/
local macro_rules | `(tactic| walk_at "s1") => `(tactic| first
  | (refine' Stm.slTo_go ?k1 ?k2 (fun p np => ?kq); (case k1 => walk_at "l"); (case k2 => omega))
  | (refine' Stm.slFrom_go ?k1 ?k2 (fun p np => ?kq); (case k1 => walk_at "l"); (case k2 => omega))
  | (refine' Stm.slT1_go ?k1 (fun p np => ?kq); (case k1 => walk_at "t"))
  | fail)
local macro_rules | `(tactic| walk_at "c") => `(tactic| first
  | omega
  | (simp only [List.length_cons, List.length_nil, List.length_map, List.length_append, List.length_range, List.length_replicate, List.length_take, List.length_drop]; omega)
  | fail)

/-! slices of int lists told by their length (over Ext) -/
local macro_rules | `(tactic| walk_at "s1") => `(tactic| first
  | (refine' Stm.slI_go ?k1 (fun p ys ey ly sy np => ?kq); (case k1 => walk_at "l"))
  | fail)

/-! ## k54: readings -/
namespace K54
open PySem PySem.Spec PyProof.Rows L2 Kb Stm
theorem newB_fin {H : Hp} {Q : VK} {S C : Addr} {n : Nat} (q : NewB H Q S C n) (Hx : Hp) (p : Addr) (bs : List Int) (o : HO) (sc : SC H S C Hx) (np : Hx p = none) (e : o = HO.lst (bs.map V.int)) (ok : Okb bs) (l : bs.length ≤ n) : Q (.ref p) (upd Hx p o) := by
  subst e
  exact q _ p bs (sc.was np) (sc.new np).1 (sc.new np).2 upd_same ok l
theorem sc_kp {H0 H H' : Hp} {S C : Addr} (sc : SC H0 S C H) (k : Kp [] H H') : SC H0 S C H' := by
  obtain ⟨k0, hne, cs, w, x, m, hS, hC, hl⟩ := sc
  exact ⟨k0.trans (k.mono fun a z => absurd z List.not_mem_nil), hne, cs, w, x, m, k.at_ List.not_mem_nil hS, k.at_ List.not_mem_nil hC, hl⟩
theorem len_law_block (K : PySem.W.Frag) : ∀ vs H Q E, sp_law_block K vs H Q E → vs.length = ["_law_state"].length := by
  intro _ _ _ _ h
  unfold sp_law_block at h
  obtain ⟨_, _, rfl, _⟩ := h
  rfl
/-- the text of block from the stream on -/
def b_block (K : PySem.W.Frag) : TS :=
 (tSeq (tAsg (tCall (sp_streamed K) [] E0 (tCons (tLst (tCons (tVar 2) tNil)) tNil)) (gName 3))
 (tSeq (tAsg (tCall (sp_law_take K) [] E0 (tCons (tVar 0) (tCons (tCB (rLenU K) (tCons (tVar 3) tNil)) tNil))) (gName 4))
 (tSeq (tIfS (tTest (tOp (rEqU K) (tVar 1) (tC (.int 2))))
 (tRet (tSl (rSlLU K) (tVar 3) tNoPart (tPart (tUn rNegU (tC (.int 1))))))
 tNext)
 (tSeq (tIfS (tTest (tOp (rEqU K) (tVar 1) (tC (.int 3))))
 (tRet (tOp (rAddU K) (tSl (rSlLU K) (tVar 3) tNoPart (tPart (tVar 4))) (tSl (rSlLU K) (tVar 3) (tPart (tOp (rAddU K) (tVar 4) (tC (.int 1)))) tNoPart)))
 tNext)
 (tRet (tVar 3))))))
theorem p_law_block (K : PySem.W.Frag) (vs : List V) (H : Hp) (Q : VK) (E : XK) (h : sp_law_block K vs H Q E) : t_law_block K { nx := fun _ H' => Q .non H', rt := Q } (start ["_law_state", "_law_way", "_law_part", "_law_block_here", "_law_at", "_law_k"] vs) H := by
  unfold sp_law_block at h
  obtain ⟨S, C, rfl, st, q⟩ := h
  have sc : SC H S C H := ⟨Kp.refl, st⟩
  have fin := newB_fin q
  walk_at "go"
  · rename_i H1 r1 sc1 k1 h01 h11 h0 H2 r2 sc2 k2 h02 h12 D nD
    have nD0 := sc2.was nD
    have nDm := sc2.nm nD
    refine lc_acc walk_range (fun i acc H' => SC H S C H' ∧ ∃ cs, acc = cs.map V.int ∧ Okb cs) ⟨sc2.new nD, [], rfl, okb_nil⟩ (fun _ _ _ _ _ => trivial) (fun i x acc Hc Hb hi hl4 hD hP hY => ?_) (fun acc Hc hl4 hD hP => ?_)
    · obtain ⟨scb, cs, rfl, okc⟩ := hP
      obtain ⟨rfl, rfl⟩ := hY
      refine ⟨rfl, ?_⟩
      walk_at "go"
      rename_i He re sce ke h0e h1e
      exact acc_go hl4 (by omega) (ke.at_ nDm hD) ⟨sce.upd nD0 nDm, _, by rw [List.map_append]; rfl, okb_app okc (okb_one h0e (by omega))⟩
    · obtain ⟨scb, cs, rfl, okc⟩ := hP
      rw [List.length_map] at hl4
      walk_at "go"
      exact q _ D cs nD0 scb.1 scb.2 hD okc (by omega)
  · rename_i H1 r1 sc1 k1 h01 h11 h0 H2 r2 sc2 k2 h02 h12 D nD
    have nD0 := sc2.was nD
    have nDm := sc2.nm nD
    refine lc_acc walk_range (fun i acc H' => SC H S C H' ∧ ∃ cs, acc = cs.map V.int ∧ Okb cs) ⟨sc2.new nD, [], rfl, okb_nil⟩ (fun _ _ _ _ _ => trivial) (fun i x acc Hc Hb hi hl4 hD hP hY => ?_) (fun acc Hc hl4 hD hP => ?_)
    · obtain ⟨scb, cs, rfl, okc⟩ := hP
      obtain ⟨rfl, rfl⟩ := hY
      refine ⟨rfl, ?_⟩
      walk_at "go"
      rename_i He re sce ke h0e h1e
      exact acc_go hl4 (by omega) (ke.at_ nDm hD) ⟨sce.upd nD0 nDm, _, by rw [List.map_append]; rfl, okb_app okc (okb_one h0e (by omega))⟩
    · obtain ⟨scb, cs, rfl, okc⟩ := hP
      rw [List.length_map] at hl4
      -- the part, drawn or of one byte alone
      have rest : ∀ (Hx : Hp) (P : Addr) (ps : List Int), SC H S C Hx → Hx P = some (.lst (ps.map V.int)) → P ∉ [S, C] → Okb ps → ps.length ≤ 256 →
          b_block K { nx := fun _ H' => Q .non H', rt := Q } [some (.ref S), some (.int r1), some (.ref P), none, none, none] Hx := fun Hx P ps scx hP mP okp hl => by
        unfold b_block
        have hst : (strm [ps]).length ≤ 700 := by
          have := strm_le (pss := [ps]) (n := 256) fun p hp => by rw [List.mem_singleton.mp hp]; exact hl
          refine Nat.le_trans ?_ (show 522 ≤ 700 by decide)
          simpa using this
        have hne : 0 < (strm [ps]).length := by
          rw [strm_cons]
          simp
          omega
        walk_at "go"
        rename_i L nL
        refine ⟨L, [.ref P], [ps], rfl, .inl upd_same, ⟨rfl, fun i v e => ?_⟩, by omega, fun H3 f nf k3 hf => ?_⟩
        · rcases i with _ | i
          · cases e
            exact ⟨P, ps, rfl, rfl, .inl ((upd_ne (ne_of_none hP nL)).trans hP), okp, by omega⟩
          · cases e
        have sc3 := sc_kp (scx.new nL) k3
        have okf : Okb (strm [ps]) := fun b hb => by
          rw [strm_cons] at hb
          rcases List.mem_append.mp hb with hb | hb
          · rcases List.mem_append.mp hb with hb | hb
            · have := runs_bytes (chk_okb okp) b hb
              omega
            · have := List.mem_singleton.mp hb
              omega
          · cases hb
        generalize strm [ps] = fs at *
        have hml : (List.map V.int fs).length = fs.length := List.length_map ..
        walk_at "go"
        · rename_i H5 r5 sc5 k5 h05 h15 h2 p5 y5 e5 l5 s5 n5
          exact fin _ p5 y5 _ sc5 n5 rfl (okb_sub okf s5) (by omega)
        · rename_i H5 r5 sc5 k5 h05 h15 h2 h3 p5 y5 e5 l5 s5 n5 p6 y6 e6 l6 s6 n6 p7 n7
          exact fin _ p7 (y5 ++ y6) _ ((sc5.new n5).new n6) n7 (by rw [List.map_append]) (okb_app (okb_sub okf s5) (okb_sub okf s6)) (by rw [List.length_append]; omega)
        · rename_i H5 r5 sc5 k5 h05 h15 h2 h3
          exact q _ f fs (sc_kp (scx.new nL) Kp.refl |>.was nf) sc5.1 sc5.2 (k5.at_ ((scx.new nL).nm nf) hf) okf (by omega)
      walk_at "go"
      · rename_i hw H5 r5 sc5 k5 h05 h15 p5 n5 H6 r6 sc6 k6 h06 h16 p6 n6 p7 n7
        rw [rep_ints] at *
        obtain ⟨x, hx, _, hh⟩ := rest _ p6 (List.replicate (250 + r6).toNat (1 + r5)) (sc6.new n6) upd_same (sc6.nm n6) (okb_rep (by omega) (by omega)) (by rw [List.length_replicate]; omega)
        cases hx
        exact hh _ n7
      · rename_i hw p7 n7
        obtain ⟨x, hx, _, hh⟩ := rest _ D cs scb hD nDm okc (by omega)
        cases hx
        exact hh _ n7
theorem len_law_ended (K : PySem.W.Frag) : ∀ vs H Q E, sp_law_ended K vs H Q E → vs.length = ["_law_data"].length := by
  rintro _ _ _ _ ⟨_, _, rfl, _⟩; rfl
theorem endd_snoc (xs : List Int) (b : Int) : endd (xs ++ [b]) = endd xs ++ [((fst [] 0 (xs ++ [b])).1.length : Int)] := by
  unfold endd
  rw [List.length_append, List.length_singleton, List.range_succ, List.map_append, List.map_singleton]
  congr 1
  · refine List.map_congr_left fun k hk => ?_
    rw [List.mem_range] at hk
    rw [List.take_append_of_le_length (by omega)]
  · rw [List.take_of_length_le (by simp)]
theorem p_law_ended (K : PySem.W.Frag) (vs : List V) (H : Hp) (Q : VK) (E : XK) (h : sp_law_ended K vs H Q E) : t_law_ended K { nx := fun _ H' => Q .non H', rt := Q } (start ["_law_data", "_law_ended_here", "_law_size", "_law_byte"] vs) H := by
  obtain ⟨a, bs, rfl, ha, hl, q⟩ := h
  walk_at "go"
  rename_i L nL
  refine ⟨⟨_, by walk_at "l"⟩, ?_⟩
  obtain ⟨W, hW⟩ : ∃ W : Nat → L2.St → Hp → Prop, W = fun i σ H' => ∃ u es, σ = [some (.ref a), some (.ref L), some (.int ((fst [] 0 (bs.take i)).2.1.length : Int)), u] ∧ Kp [] H H' ∧ H' L = some (.lst ((endd (bs.take i)).map V.int)) ∧ endd (bs.take i) = es ++ [((fst [] 0 (bs.take i)).1.length : Int)] ∧ es.length ≤ i := ⟨_, rfl⟩
  refine for_it (walk_list (xs := bs.map V.int)) W ?_ (fun i σ H' _ h => ?_) ?_ (fun σ Ha h => ?_)
  · rw [hW]
    exact ⟨_, [], rfl, Kp.refl.new nL, upd_same, rfl, Nat.le_refl _⟩
  · rw [hW] at h
    obtain ⟨u, es, _, k, _⟩ := h
    exact SqL.of (by walk_at "h")
  · rintro i x σ Ha Hb hi h ⟨rfl, hx⟩
    rw [hW] at h
    obtain ⟨u, es, rfl, k, hL, he, hel⟩ := h
    obtain ⟨b, hb, rfl⟩ := map_get hx
    rw [List.length_map] at hi
    have e : bs.take (i + 1) = bs.take i ++ [b] := by rw [List.take_add_one, hb]; rfl
    have en : fst [] 0 (bs.take (i + 1)) = fstep (fst [] 0 (bs.take i)) b := by rw [e, fst_snoc]
    have ed : endd (bs.take (i + 1)) = endd (bs.take i) ++ [((fst [] 0 (bs.take (i + 1))).1.length : Int)] := by rw [e, endd_snoc]
    have hel2 : (endd (bs.take i)).length ≤ i + 1 := by rw [he, List.length_append]; simp; omega
    have hL2 : Hb L = some (.lst (es.map V.int ++ [.int ((fst [] 0 (bs.take i)).1.length : Int)])) := by
      rw [hL, he, List.map_append]
      rfl
    have nextW : ∀ u H', Kp [] H H' → H' L = some (.lst (es.map V.int ++ [.int ((fst [] 0 (bs.take i)).1.length : Int)] ++ [.int ((fst [] 0 (bs.take (i + 1))).1.length : Int)])) → W (i + 1) [some (.ref a), some (.ref L), some (.int ((fst [] 0 (bs.take (i + 1))).2.1.length : Int)), u] H' := fun u H' k1 h1 => by
      rw [hW]
      refine ⟨u, endd (bs.take i), rfl, k1, ?_, ed, hel2⟩
      rw [h1, ed, List.map_append, he, List.map_append]
      rfl
    clear hW hL
    generalize fst [] 0 (bs.take (i + 1)) = t at *
    generalize hs : fst [] 0 (bs.take i) = s at *
    obtain ⟨s1, s2, s3⟩ := s
    dsimp only at hL2
    have hml : (List.map V.int es ++ [V.int (s1.length : Int)]).length ≤ i + 1 := by rw [List.length_append, List.length_map]; simp; omega
    walk_at "go"
    · rename_i h0
      refine ixL_go (SqL.of hL2) (atI_last _ _) ?_
      walk_at "go"
      have et : t = (s1, s2 ++ [b], s3) := en.trans (if_pos h0)
      rw [et] at nextW
      have ev : ((s2 ++ [b]).length : Int) = (s2.length : Int) + 1 := by simp
      show W (i + 1) [some (.ref a), some (.ref L), some (.int ((s2.length : Int) + 1)), _] _
      rw [← ev]
      exact nextW _ _ (k.upd_new nL) upd_same
    · rename_i h0
      refine ixL_go (SqL.of hL2) (atI_last _ _) ?_
      walk_at "go"
      have et : t = (if s2 ≠ [] then s1 ++ [tell s2 s3] else s1, [], s3 + (s2.length + 1)) := en.trans (if_neg fun z => z h0)
      have ev : (t.1.length : Int) = (s1.length : Int) + (if decide (0 < (s2.length : Int)) = true then 1 else 0) := by
        rw [et]
        dsimp only
        by_cases h2 : s2 = []
        · rw [if_neg fun z => z h2, h2]
          simp
        · have := List.length_pos_iff.mpr h2
          rw [if_pos h2, if_pos (decide_eq_true (by omega))]
          simp
      have e2 : t.2.1 = [] := by rw [et]
      rw [ev, e2] at nextW
      exact nextW _ _ (k.upd_new nL) upd_same
  · rw [hW] at h
    obtain ⟨u, es, rfl, k, hL, he, hel⟩ := h
    rw [List.length_map, List.take_length] at *
    walk_at "go"
    exact q _ L nL k hL
end K54
namespace K54
open PySem PySem.Spec PyProof.Rows L2 Kb Stm
theorem ixV_go {K : PySem.W.Frag} {H : Hp} {Q : VK} {a : Addr} {xs : List V} {i : Int} (h : H a = some (.lst xs)) (h0 : 0 ≤ i) (h1 : i < xs.length) (q : ∀ x, x ∈ xs → Q x H) : rIxU K (.ref a) (.int i) H Q := by
  obtain ⟨x, hx, e⟩ := ix_mem h0 h1
  exact ixL_go (SqL.of h) e (q x hx)
theorem len_law_wrong (K : PySem.W.Frag) : ∀ vs H Q E, sp_law_wrong K vs H Q E → vs.length = ["_law_state"].length := by
  rintro _ _ _ _ ⟨_, _, rfl, _⟩; rfl
theorem kn_int {K : PySem.W.Frag} {H : Hp} {i : Int} : Knw K H (.int i) := ⟨"int", .base (.int _), .inr (.inr (.inl rfl))⟩
theorem p_law_wrong (K : PySem.W.Frag) (vs : List V) (H : Hp) (Q : VK) (E : XK) (h : sp_law_wrong K vs H Q E) : t_law_wrong K { nx := fun _ H' => Q .non H', rt := Q } (start ["_law_state", "_law_wrong_here", "_law_row", "_law_at"] vs) H := by
  obtain ⟨S, C, rfl, st, q⟩ := h
  have sc : SC H S C H := ⟨Kp.refl, st⟩
  walk_at "go"
  rename_i p1 n1 p2 n2 H1 r1 sc1 k1 h01 h11
  have m1 := sc.nm n1
  have m2 := (sc.new (o := .lst [.int 0]) n1).nm n2
  refine ixV_go (k1.at_ m2 upd_same) h01 (by simpa using h11) fun x hx => ?_
  have h1p : H1 p1 = some (.lst [.int 0]) := k1.at_ m1 ((upd_ne (ne_of_none upd_same n2)).trans upd_same)
  have hxk : isB x = false ∧ ∀ H', H' p1 = some (.lst [.int 0]) → Knw K H' x := by
    simp only [List.mem_cons, List.not_mem_nil, or_false] at hx
    rcases hx with rfl | rfl | rfl | rfl | rfl | rfl | rfl | rfl
    · exact ⟨rfl, fun H' _ => kn_int⟩
    · exact ⟨rfl, fun H' _ => kn_int⟩
    · exact ⟨rfl, fun H' _ => ⟨"bool", .base (.bl _), .inr (.inl rfl)⟩⟩
    · exact ⟨rfl, fun H' _ => ⟨"bool", .base (.bl _), .inr (.inl rfl)⟩⟩
    · exact ⟨rfl, fun H' _ => ⟨"NoneType", .base .non, .inl rfl⟩⟩
    · exact ⟨rfl, fun H' _ => ⟨"str", .base (.str _), .inr (.inr (.inr (.inl rfl)))⟩⟩
    · exact ⟨by decide, fun H' _ => kn_int⟩
    · exact ⟨rfl, fun H' h => ⟨"list", .base (.lst h), .inr (.inr (.inr (.inr (.inl rfl))))⟩⟩
  clear hx
  walk_at "go"
  · rename_i p3 n3 p4 n4 p5 n5 H2 r2 sc2 k2 h02 h12 h0 p6 n6 H3 r3 sc3 k3 h03 h13
    refine ixV_go (k3.at_ (sc2.nm n6) upd_same) h03 (by simpa using h13) fun y hy => ?_
    have hb : BA K H3 y false := by
      simp only [List.mem_cons, List.not_mem_nil, or_false] at hy
      rcases hy with rfl | rfl | rfl | rfl
      · exact .inr ⟨"NoneType", .base .non, .inl rfl, rfl⟩
      · exact .inr ⟨"str", .base (.str _), .inr (.inr (.inr (.inl rfl))), rfl⟩
      · exact .inr ⟨"int", .base (.int _), .inr (.inr (.inl rfl)), rfl⟩
      · exact .inr ⟨"str", .base (.str _), .inr (.inr (.inr (.inl rfl))), rfl⟩
    exact q _ y sc3.1 sc3.2 hb
  · rename_i p3 n3 p4 n4 p5 n5 H2 r2 sc2 k2 h02 h12 h0 H3 r3 sc3 k3 h03 h13 p6 n6 p7 n7 p8 n8
    have s8 := ((sc3.new n6).new n7).new (o := .lst (List.drop r3.toNat [.int 0, .int 5, .int 0, x] ++ List.take r3.toNat [.int 0, .int 5, .int 0, x])) n8
    have h13 : H3 p1 = some (.lst [.int 0]) := by walk_at "h"
    have hp8 : upd (upd (upd H3 p6 (.lst (List.drop r3.toNat [.int 0, .int 5, .int 0, x]))) p7 (.lst (List.take r3.toNat [.int 0, .int 5, .int 0, x]))) p8 (.lst (List.drop r3.toNat [.int 0, .int 5, .int 0, x] ++ List.take r3.toNat [.int 0, .int 5, .int 0, x])) p1 = some (.lst [.int 0]) := by walk_at "h"
    refine q _ (.ref p8) s8.1 s8.2 (.inl ⟨p8, _, rfl, .inl upd_same, fun v hv => ?_, ?_⟩)
    · have hv2 : v ∈ [V.int 0, .int 5, .int 0, x] := (List.mem_append.mp hv).elim List.mem_of_mem_drop List.mem_of_mem_take
      simp only [List.mem_cons, List.not_mem_nil, or_false] at hv2
      rcases hv2 with rfl | rfl | rfl | rfl
      · exact kn_int
      · exact kn_int
      · exact kn_int
      · exact hxk.2 _ hp8
    · refine (List.all_eq_false.mpr ⟨x, ?_, by rw [hxk.1]; decide⟩).symm
      have hx4 : x ∈ List.take r3.toNat [V.int 0, .int 5, .int 0, x] ++ List.drop r3.toNat [V.int 0, .int 5, .int 0, x] := by
        rw [List.take_append_drop]
        simp
      rcases List.mem_append.mp hx4 with h | h
      · exact List.mem_append_right _ h
      · exact List.mem_append_left _ h
theorem len_law_refused (K : PySem.W.Frag) : ∀ vs H Q E, sp_law_refused K vs H Q E → vs.length = ["_law_feeder", "_law_piece"].length := by
  rintro _ _ _ _ ⟨_, _, _, _, _, rfl, _⟩; rfl
theorem relV_ref {a : Addr} {u : Value} (r : RelV (.ref a) u) : u = .ref a := r
theorem p_law_refused (K : PySem.W.Frag) (C : Addr) (O : Own K C) (ca : cAt K "Feeder" = C) (B : XK2 K) (vs : List V) (H : Hp) (Q : VK) (E : XK) (h : sp_law_refused K vs H Q E) : t_law_refused K C { nx := fun _ H' => Q .non H', rt := Q } (start ["_law_feeder", "_law_piece", "e"] vs) H := by
  obtain ⟨F, x, h, held, place, rfl, ⟨hne, dx, hF, hh⟩, hb, q⟩ := h
  rw [ca] at hF
  unfold t_law_refused tTryAs tMethUS
  walk_at "go"
  refine .inr ⟨_, _, rfl, hb, fun H1 d k1 hd => ?_⟩
  refine ⟨true, B.em, fun _ a na => ?_, fun z => nomatch z⟩
  walk_at "go"
  refine ⟨d, _, _, rfl, upd_same, lk_here, ?_⟩
  walk_at "go"
  · refine ⟨_, .ref (cAt K "WireError"), _, true, d, _, rfl, rfl, rfl, upd_same, B.x, fun u r => r, B.kw, ?_⟩
    walk_at "go"
    refine ⟨_, .ty "ValueError", _, true, d, _, rfl, rfl, rfl, upd_same, B.x, fun u r => r, B.kv, ?_⟩
    walk_at "go"
    exact q _ (k1.new hd)
end K54
/-! the feeder is fed -/
namespace K54
open PySem PySem.Spec PyProof.Rows L2 Kb Stm
/-- the text of fed behind the feeding -/
@[irreducible] def b_end (K : PySem.W.Frag) : TS :=
 (tSeq (tIfS (tOr (tNot (tTru K (tCB (rIsiU K) (tCons (tVar 9) (tCons (tC (.ty "list")) tNil))))) (tTest (tOp (rNeU K) (tVar 9) (tSl (rSlLU K) (tVar 4) (tPart (tOp (rIxU K) (tVar 5) (tVar 3))) (tPart (tOp (rIxU K) (tVar 5) (tVar 8)))))))
 (tRet (tUn rNegU (tC (.int 1))))
 tNext)
 (tSeq (tFor (iList K (tVar 9)) (gName 10)
 (tIfS (tTest (tOp (rEqU K) (tOp (rIxU K) (tVar 10) (tC (.int 0))) (tC (.str (PySem.Str.ofString "part")))))
 (tDrop (tBM K "list" rAppU (tOp (rIxU K) (tVar 10) (tC (.int 2))) (tCons (tC (.int 3)) tNil)))
 tNext))
 (tSeq (tDrop (tBM K "list" rAppU (tVar 9) (tCons (tC .non) tNil)))
 (tRet (tVar 8)))))
/-- the text of fed from the piece on -/
@[irreducible] def b_fed (K : PySem.W.Frag) (C : Addr) : TS :=
 (tSeq (tAsg (tSl (rSlLU K) (tVar 2) (tPart (tVar 3)) (tPart (tOp (rAddU K) (tVar 3) (tVar 6)))) (gName 7))
 (tSeq (tAsg (tOp (rAddU K) (tVar 3) (tCB (rLenU K) (tCons (tVar 7) tNil))) (gName 8))
 (tSeq (tIfS (tTest (tOp (rEqU K) (tCall (sp_law_take K) [] E0 (tCons (tVar 0) (tCons (tC (.int 2)) tNil))) (tC (.int 0))))
 (tAsg (tMethU C "feed" (sp_Feeder_feed K C) E0 (tVar 1) (tCons (tCB (rTupleU K) (tCons (tVar 7) tNil)) tNil)) (gName 9))
 (tSeq (tAsg (tMethU C "feed" (sp_Feeder_feed K C) E0 (tVar 1) (tCons (tVar 7) tNil)) (gName 9))
 (tSeq (tIfS (tTest (tOp (rNeU K) (tVar 7) (tSl (rSlLU K) (tVar 2) (tPart (tVar 3)) (tPart (tVar 8)))))
 (tRet (tUn rNegU (tC (.int 1))))
 tNext)
 (tDrop (tBM K "list" rAppU (tVar 7) (tCons (tC (.int 0)) tNil))))))
 (b_end K))))
theorem foldl_fst : ∀ (ys : List Int) (t : List Tl) (h : List Int) (k : Int), ys.foldl fstep (t, h, k) = (t ++ (fst h k ys).1, (fst h k ys).2)
  | [], t, h, k => by simp [fst]
  | y :: ys, t, h, k => by
    have e : fst h k (y :: ys) = ys.foldl fstep (fstep ([], h, k) y) := rfl
    rw [List.foldl_cons, e]
    by_cases hy : y ≠ 0
    · rw [show fstep (t, h, k) y = (t, h ++ [y], k) from if_pos hy, show fstep ([], h, k) y = ([], h ++ [y], k) from if_pos hy, foldl_fst ys t, foldl_fst ys []]
      simp
    · by_cases hh : h ≠ []
      · have e1 : fstep (t, h, k) y = (t ++ [tell h k], [], k + (h.length + 1)) := by
          unfold fstep
          rw [if_neg hy, if_pos hh]
        have e2 : fstep ([], h, k) y = ([tell h k], [], k + (h.length + 1)) := by
          unfold fstep
          rw [if_neg hy, if_pos hh]
          rfl
        rw [e1, e2, foldl_fst ys (t ++ _), foldl_fst ys [tell h k]]
        simp
      · have e1 : fstep (t, h, k) y = (t, [], k + (h.length + 1)) := by
          unfold fstep
          rw [if_neg hy, if_neg hh]
        have e2 : fstep ([], h, k) y = ([], [], k + (h.length + 1)) := by
          unfold fstep
          rw [if_neg hy, if_neg hh]
        rw [e1, e2, foldl_fst ys t, foldl_fst ys []]
        simp
theorem fst_app (xs ys : List Int) : fst [] 0 (xs ++ ys) = ((fst [] 0 xs).1 ++ (fst (fst [] 0 xs).2.1 (fst [] 0 xs).2.2 ys).1, (fst (fst [] 0 xs).2.1 (fst [] 0 xs).2.2 ys).2) := by
  have : fst [] 0 (xs ++ ys) = ys.foldl fstep (fst [] 0 xs) := by unfold fst; rw [List.foldl_append]
  rw [this]
  exact foldl_fst ys _ _ _
theorem endd_at (bs : List Int) {n : Nat} (h : n ≤ bs.length) : (endd bs)[n]? = some ((fst [] 0 (bs.take n)).1.length : Int) := by
  unfold endd
  rw [List.getElem?_map, List.getElem?_range (by omega)]
  rfl
theorem unst_eq (bs : List Int) : unst bs = (fst [] 0 bs).1 ++ (if (fst [] 0 bs).2.1 ≠ [] then [⟨(fst [] 0 bs).2.2, none, (fst [] 0 bs).2.1.length⟩] else []) := rfl
/-- what one feeding tells stands in what the whole tells -/
theorem unst_mid (bs ys : List Int) {n : Nat} (h : bs.take (n + ys.length) = bs.take n ++ ys) : ((unst bs).drop (fst [] 0 (bs.take n)).1.length).take ((fst [] 0 (bs.take (n + ys.length))).1.length - (fst [] 0 (bs.take n)).1.length) = (fst (fst [] 0 (bs.take n)).2.1 (fst [] 0 (bs.take n)).2.2 ys).1 := by
  have e1 : bs = bs.take (n + ys.length) ++ bs.drop (n + ys.length) := (List.take_append_drop _ _).symm
  have e2 : ∃ r, unst bs = (fst [] 0 (bs.take (n + ys.length))).1 ++ r := by
    rw [unst_eq]
    have : (fst [] 0 bs).1 = (fst [] 0 (bs.take (n + ys.length))).1 ++ (fst (fst [] 0 (bs.take (n + ys.length))).2.1 (fst [] 0 (bs.take (n + ys.length))).2.2 (bs.drop (n + ys.length))).1 := by
      conv => lhs; rw [e1, fst_app]
    rw [this, List.append_assoc]
    exact ⟨_, rfl⟩
  obtain ⟨r, hr⟩ := e2
  rw [hr, h, fst_app]
  dsimp only
  rw [List.append_assoc, List.drop_left' rfl, List.length_append, Nat.add_sub_cancel_left, List.take_left' rfl]
theorem told_len {bs ps : List Int} (h : told bs = some ps) : ps.length ≤ 2 * bs.length := by
  unfold told at h
  split at h
  · cases h
  · rename_i ds hd
    have := outR_len _ _ _ (Nat.le_refl _) hd
    split at h
    · cases h
      rw [List.length_take]
      omega
    · cases h
theorem fst_part : ∀ (ys : List Int) (s : List Tl × List Int × Int) (B : Nat), (∀ t ∈ s.1, ∀ ps, t.part = some ps → ps.length ≤ B) → 2 * (s.2.1.length + ys.length) ≤ B → ∀ t ∈ (ys.foldl fstep s).1, ∀ ps, t.part = some ps → ps.length ≤ B
  | [], s, B, h, _ => h
  | y :: ys, s, B, h, hl => by
    rw [List.foldl_cons]
    rw [List.length_cons] at hl
    refine fst_part ys (fstep s y) B ?_ ?_
    · unfold fstep
      split
      · exact h
      · dsimp only
        split
        · intro t ht ps hp
          rcases List.mem_append.mp ht with ht | ht
          · exact h t ht ps hp
          · rw [List.mem_singleton.mp ht] at hp
            have := told_len hp
            omega
        · exact h
    · unfold fstep
      split
      · dsimp only
        rw [List.length_append]
        simp
        omega
      · dsimp only
        simp
        omega
theorem tls_none {H : Hp} {us : List V} {ts : List Tl} (h : A2 (fun v t => tlAt H v t) us ts) : Tls (fun _ => none) H us ts := ⟨h.1, fun i v e => by
  obtain ⟨t, h1, h2⟩ := h.2 i v e
  exact ⟨t, h1, h2, fun T _ => ⟨rfl, fun _ _ _ _ => rfl⟩⟩⟩
theorem kpT {M : List Addr} {H H' : Hp} {us : List V} {ts : List Tl} (h : A2 (rTl M H) us ts) (k : Kp M H H') : A2 (rTl M H') us ts := h.mono fun v t _ _ ⟨a, o⟩ => by
  obtain ⟨b, _, c⟩ := tl_kp (H := fun _ => none) k a (fun T _ => ⟨rfl, fun _ _ _ _ => rfl⟩) o
  exact ⟨b, c⟩
theorem kpT0 {M : List Addr} {H H' : Hp} {us : List V} {ts : List Tl} (h : A2 (rTl M H) us ts) (k : Kp [] H H') : A2 (rTl M H') us ts := kpT h (k.mono fun a z => absurd z List.not_mem_nil)
theorem at0 {M : List Addr} {H : Hp} {us : List V} {ts : List Tl} (h : A2 (rTl M H) us ts) : A2 (fun v t => tlAt H v t) us ts := h.mono fun v t _ _ z => z.1
theorem neTls_go {K : PySem.W.Frag} {H : Hp} {Q : VK} {a b : Addr} {us vs : List V} {ts : List Tl} (ha : H a = some (.lst us)) (hb : H b = some (.lst vs)) (hu : A2 (fun v t => tlAt H v t) us ts) (hv : A2 (fun v t => tlAt H v t) vs ts) (q : Q (.bl false) H) : rNeU K (.ref a) (.ref b) H Q :=
  neD_go (.lst (SqL.of ha) (tls_none hu).dp) (.lst (SqL.of hb) (tls_none hv).dp) ((sh_tls ts).ok (by decide)) ((sh_tls ts).ok (by decide)) (by rw [SeqAt.eqv_refl _ (sh_tls ts).1]; exact q)
theorem sc_some {H0 H : Hp} {S C : Addr} (sc : SC H0 S C H) : ∀ a ∈ [S, C], H a ≠ none := by
  obtain ⟨k0, hne, cs, w, x, m, hS, hC, hl⟩ := sc
  intro a z
  simp at z
  rcases z with rfl | rfl
  · rw [hS]; exact fun z => nomatch z
  · rw [hC]; exact fun z => nomatch z
theorem cut_both {α : Type} (xs : List α) {a b : Nat} (h : a ≤ xs.length) : cutI xs (some (a : Int)) (some (b : Int)) = (xs.drop a).take (b - a) := by
  unfold cutI
  have e : ∀ (k d : Nat), HT.sIx xs.length d (some (k : Int)) = min k xs.length := fun k d => by
    show (if (k : Int) < 0 then ((k : Int) + (xs.length : Int)).toNat else min (k : Int).toNat xs.length) = _
    rw [if_neg (by omega)]
    rfl
  rw [e, e, Nat.min_eq_left h]
  by_cases hb : b ≤ xs.length
  · rw [Nat.min_eq_left hb]
  · rw [Nat.min_eq_right (by omega), List.take_of_length_le (by rw [List.length_drop]; omega), List.take_of_length_le (by rw [List.length_drop]; omega)]
theorem fed_end (K : PySem.W.Frag) {C : Addr} {H Hx : Hp} {Q : VK} {N : L2.St → Hp → Prop} {S Cc F h' W Eb P p : Addr} {bs ys : List Int} {n : Nat} {us us2 : List V} {z : V} {s2 u : Option V} (np : H p = none)
    (hp : Hx p = some (.lst us2)) (ht : TlsM [h', p, F] H Hx us2 (fst (fst [] 0 (bs.take n)).2.1 (fst [] 0 (bs.take n)).2.2 ys).1) (hW : Hx W = some (.lst us)) (hw : A2 (fun v t => tlAt Hx v t) us (unst bs)) (hE : Hx Eb = some (.lst ((endd bs).map V.int)))
    (hy : bs.take (n + ys.length) = bs.take n ++ ys) (hyl : n + ys.length ≤ bs.length) (hbl : bs.length ≤ 100000)
    (fin : ∀ H', (∀ a, Hx a ≠ none → (H a ≠ none ∨ a = h') → a ≠ p → H' a = Hx a) → Q (.int ((n : Int) + (ys.length : Int))) H') :
    b_end K { nx := N, rt := Q } [some (.ref S), some (.ref F), s2, some (.int (n : Int)), some (.ref W), some (.ref Eb), some z, some (.ref P), some (.int ((n : Int) + (ys.length : Int))), some (.ref p), u] Hx := by
  unfold b_end
  have hul2 := ht.1
  have hpb : ∀ t ∈ (fst (fst [] 0 (bs.take n)).2.1 (fst [] 0 (bs.take n)).2.2 ys).1, ∀ ps, t.part = some ps → ps.length ≤ 400000 := by
    refine fst_part ys ([], _, _) 400000 (fun _ h => nomatch h) ?_
    have h1 : (fst [] 0 (bs.take n)).2.1.length ≤ 0 + (bs.take n).length := (fst_lens (bs.take n) ([], [], 0)).2
    rw [List.length_take] at h1
    dsimp only
    omega
  have hu2 : us2.length ≤ 200000 := by
    rw [hul2]
    have h1 : (fst (fst [] 0 (bs.take n)).2.1 (fst [] 0 (bs.take n)).2.2 ys).1.length ≤ 0 + ys.length := (fst_lens ys ([], _, _)).1
    omega
  have hmid := unst_mid bs ys hy
  have e1 := endd_at bs (n := n) (by omega)
  have e2 := endd_at bs (n := n + ys.length) hyl
  have hEl : (endd bs).length = bs.length + 1 := by unfold endd; rw [List.length_map, List.length_range]
  have hne : ∀ {a b : Addr} {o : HO}, Hx a = some o → Hx b = none → a ≠ b := fun h1 h2 => ne_of_none h1 h2
  walk_at "go"
  refine ixL_go (SqL.of hE) (atI_nat (by rw [List.getElem?_map, e1]; rfl)) ?_
  walk_at "go"
  refine ixL_go (SqL.of hE) (x := .int ((fst [] 0 (bs.take (n + ys.length))).1.length : Int)) (by rw [show (n : Int) + (ys.length : Int) = ((n + ys.length : Nat) : Int) by omega]; exact atI_nat (by rw [List.getElem?_map, e2]; rfl)) ?_
  walk_at "go"
  rename_i p4 n4
  have hula : (fst [] 0 (bs.take n)).1.length ≤ us.length := by
    rw [hw.1, unst_eq, List.length_append]
    have h1 : bs.take n ++ bs.drop n = bs := List.take_append_drop _ _
    have h2 : (fst [] 0 (bs.take n ++ bs.drop n)).1.length = (fst [] 0 bs).1.length := by rw [h1]
    rw [fst_app] at h2
    rw [List.length_append] at h2
    omega
  have k4 : Kp [] Hx (upd Hx p4 (.lst (cutV us (some ((fst [] 0 (bs.take n)).1.length : Int)) (some ((fst [] 0 (bs.take (n + ys.length))).1.length : Int))))) := Kp.refl.new n4
  refine neTls_go (ts := (fst (fst [] 0 (bs.take n)).2.1 (fst [] 0 (bs.take n)).2.2 ys).1) (k4.at_ List.not_mem_nil hp) upd_same ⟨ht.1, fun i v e => ?_⟩ ?_ ?_
  · obtain ⟨t, h1, h2, _⟩ := ht.2 i v e
    exact ⟨t, h1, h2.kp0 k4⟩
  · rw [show ∀ lo hi, cutV us lo hi = cutI us lo hi from fun _ _ => rfl, cut_both us hula, ← hmid]
    exact ((hw.mono fun v t _ _ z => z.kp0 (Kp.refl.new n4)).drop _).take _
  have hst : ∀ (i : Nat) (v : V), us2[i]? = some v → ∃ T, v = .ref T ∧ ((∃ a b, Hx T = some (.tup [.str (PySem.Str.ofString "torn"), a, b])) ∨ ∃ a l xs, Hx T = some (.tup [.str (PySem.Str.ofString "part"), a, .ref l]) ∧ Hx l = some (.lst xs) ∧ xs.length ≤ 400000 ∧ H l = none ∧ l ≠ h' ∧ l ≠ p) := fun i v e => by
    obtain ⟨t, h1, ⟨T, rfl, h2⟩, h3, h4⟩ := ht.2 i v e
    refine ⟨T, rfl, ?_⟩
    have hb := hpb t (List.mem_of_getElem? h1)
    obtain ⟨pl, pt, sz⟩ := t
    cases pt with
    | none => exact .inl ⟨_, _, h2⟩
    | some ps =>
      obtain ⟨l, h5, h6⟩ := h2
      have o := (h4 T rfl).2 _ l h5 (by simp)
      exact .inr ⟨_, l, _, h5, h6, by rw [List.length_map]; exact hb ps rfl, (h3 T rfl).2 _ l h5 (by simp), fun z => o (by rw [z]; simp), fun z => o (by rw [z]; simp)⟩
  walk_at "go"
  refine ⟨⟨_, SqL.of (k4.at_ List.not_mem_nil hp)⟩, ?_⟩
  refine for_it (walk_list (xs := us2)) (fun i σ H' => (∃ u, σ = [some (.ref S), some (.ref F), s2, some (.int (n : Int)), some (.ref W), some (.ref Eb), some z, some (.ref P), some (.int ((n : Int) + (ys.length : Int))), some (.ref p), u]) ∧ (∀ a, Hx a ≠ none → (H a ≠ none ∨ a = h' ∨ a = p) → H' a = Hx a) ∧ (∀ T xs, Hx T = some (.tup xs) → H' T = some (.tup xs)) ∧ ∀ l xs, Hx l = some (.lst xs) → ∃ ys, H' l = some (.lst ys) ∧ ys.length ≤ xs.length + i)
    ⟨⟨_, rfl⟩, fun a h _ => upd_ne fun z => h (by rw [z]; exact n4), fun T xs e => k4.at_ List.not_mem_nil e, fun l xs e => ⟨xs, k4.at_ List.not_mem_nil e, Nat.le_refl _⟩⟩ (fun i σ H' _ h => ?_) ?_ (fun σ Hz h => ?_)
  · exact SqL.of ((h.2.1 p (by rw [hp]; exact fun z => nomatch z) (.inr (.inr rfl))).trans hp)
  · rintro i x σ Ha Hb hi ⟨⟨u, rfl⟩, g1, g2, g3⟩ ⟨rfl, hx⟩
    obtain ⟨T, rfl, h⟩ := hst i x hx
    rcases h with ⟨a, b, hT⟩ | ⟨a, l, xs, hT, hl, hxl, hn, lh, lp⟩
    · have hTb := g2 T _ hT
      walk_at "go"
      · exact absurd (by assumption : PySem.Str.ofString "torn" = PySem.Str.ofString "part") (by decide)
      · intro l xs e
        obtain ⟨ys', a1, a2⟩ := g3 l xs e
        exact ⟨ys', a1, by omega⟩
    · have hTb := g2 T _ hT
      obtain ⟨zs, hz, hzl⟩ := g3 l _ hl
      walk_at "go"
      · refine ⟨fun b h1 h2 => (upd_ne fun z => ?_).trans (g1 b h1 h2), fun T' xs' e => (upd_ne fun z => by rw [z, hl] at e; cases e).trans (g2 T' xs' e), fun l' xs' e => ?_⟩
        · rcases h2 with h2 | h2 | h2
          · exact h2 (by rw [z]; exact hn)
          · exact lh (z.symm.trans h2)
          · exact lp (z.symm.trans h2)
        · by_cases z : l' = l
          · rw [z] at e ⊢
            rw [hl] at e
            cases e
            exact ⟨_, upd_same, by rw [List.length_append]; simp; omega⟩
          · obtain ⟨ys', a1, a2⟩ := g3 l' xs' e
            exact ⟨ys', (upd_ne z).trans a1, by omega⟩
  · obtain ⟨⟨u, rfl⟩, g1, _, _⟩ := h
    have hpz : Hz p = some (.lst us2) := (g1 p (by rw [hp]; exact fun z => nomatch z) (.inr (.inr rfl))).trans hp
    walk_at "go"
    exact fin _ fun a h1 h2 h3 => (upd_ne h3).trans (g1 a h1 (h2.elim .inl fun z => .inr (.inl z)))
theorem cut_piece {bs y : List Int} {n : Nat} {z : Int} (hn : n ≤ bs.length) (hz : 0 ≤ z) (e : y = cutI bs (some (n : Int)) (some ((n : Int) + z))) : bs.take (n + y.length) = bs.take n ++ y ∧ n + y.length ≤ bs.length ∧ y.length ≤ z.toNat := by
  rw [show (n : Int) + z = ((n + z.toNat : Nat) : Int) by omega, cut_both bs hn, Nat.add_sub_cancel_left] at e
  have hl : y.length = min z.toNat (bs.length - n) := by rw [e, List.length_take, List.length_drop]
  refine ⟨?_, by omega, by omega⟩
  rw [List.take_add]
  congr 1
  rw [hl]
  by_cases h : z.toNat ≤ bs.length - n
  · rw [Nat.min_eq_left h, e]
  · rw [Nat.min_eq_right (by omega), e, List.take_of_length_le (by rw [List.length_drop]; omega), List.take_of_length_le (by rw [List.length_drop]; omega)]
theorem fst_pos : ∀ (ys : List Int) (s : List Tl × List Int × Int), Okb ys → Pos1 s.2.1 → Pos1 (ys.foldl fstep s).2.1
  | [], s, _, h => h
  | y :: ys, s, ok, h => by
    rw [List.foldl_cons]
    refine fst_pos ys _ (fun b hb => ok b (List.mem_cons_of_mem _ hb)) ?_
    have := ok y List.mem_cons_self
    unfold fstep
    split
    · intro b hb
      rcases List.mem_append.mp hb with hb | hb
      · exact h b hb
      · rw [List.mem_singleton.mp hb]
        omega
    · exact fun b hb => nomatch hb
theorem fed_tail (K : PySem.W.Frag) {C : Addr} (O : Own K C) {H : Hp} {Q : VK} {N : L2.St → Hp → Prop} {S Cc F h A W Eb : Addr} {bs : List Int} {n : Nat} {us : List V} {z : Int} {s7 s8 s9 s10 : Option V}
    (st : St H S Cc) (fd : Fed C H F h bs n) (mF : F ∉ [S, Cc]) (mh : h ∉ [S, Cc]) (hA : H A = some (.lst (bs.map V.int))) (mA : A ∉ [S, Cc, F, h]) (ok : Okb bs) (hbl : bs.length ≤ 100000) (hn : n ≤ bs.length) (hW : H W = some (.lst us)) (mW : W ∉ [S, Cc, F, h])
    (hw : A2 (rTl [S, Cc, F, h] H) us (unst bs)) (hE : H Eb = some (.lst ((endd bs).map V.int))) (mE : Eb ∉ [S, Cc, F, h]) (hz : 0 ≤ z ∧ z ≤ 700)
    (fin : ∀ H' (m : Nat) h', Kp [S, Cc, F, h] H H' → St H' S Cc → Fed C H' F h' bs m → m ≤ bs.length → (h' = h ∨ H h' = none) → Q (.int (m : Int)) H') :
    b_fed K C { nx := N, rt := Q } [some (.ref S), some (.ref F), some (.ref A), some (.int (n : Int)), some (.ref W), some (.ref Eb), some (.int z), s7, s8, s9, s10] H := by
  have sc : SC H S Cc H := ⟨Kp.refl, st⟩
  obtain ⟨cl, nh, np⟩ := id O
  have hml : (List.map V.int bs).length = bs.length := List.length_map ..
  have fd0 := fd
  obtain ⟨hFh, dx, hF, hh⟩ := fd
  have hheld : (fst [] 0 (bs.take n)).2.1.length ≤ 0 + (bs.take n).length := (fst_lens (bs.take n) ([], [], 0)).2
  rw [List.length_take] at hheld
  have aft : ∀ (y : List Int) (H2 H3 Hx : Hp) (p h' P : Addr) (us2 : List V) (u : Option V), y = cutI bs (some (n : Int)) (some ((n : Int) + z)) → SC H S Cc H2 → H2 p = none → Kp [F, h] H2 H3 → H3 p = some (.lst us2) → TlsM [h', p, F] H2 H3 us2 (fst (fst [] 0 (bs.take n)).2.1 (fst [] 0 (bs.take n)).2.2 y).1 →
      (h' = h ∨ H2 h' = none) → p ≠ h' → Fdr C H3 F h' (fst (fst [] 0 (bs.take n)).2.1 (fst [] 0 (bs.take n)).2.2 y).2.1 (fst (fst [] 0 (bs.take n)).2.1 (fst [] 0 (bs.take n)).2.2 y).2.2 → H P = none → H2 P ≠ none → Kp [P] H3 Hx →
      b_end K { nx := N, rt := Q } [some (.ref S), some (.ref F), some (.ref A), some (.int (n : Int)), some (.ref W), some (.ref Eb), some (.int z), some (.ref P), some (.int ((n : Int) + (y.length : Int))), some (.ref p), u] Hx := by
    intro y H2 H3 Hx p h' P us2 u ey sc2 np2 k3 hp3 ht3 hh' ph' fd3 nP aP kx
    obtain ⟨hy, hyl, hyz⟩ := cut_piece hn hz.1 ey
    have np0 : H p = none := sc2.was np2
    have keep : ∀ a o, H a = some o → a ∉ [S, Cc, F, h] → Hx a = some o := fun a o e m => by
      refine kx.at_ (nm_cons (fun z => by rw [z, nP] at e; cases e) List.not_mem_nil) (k3.at_ (fun z => m ?_) (sc2.1.at_ (fun z => m ?_) e))
      · simp at z ⊢
        exact .inr (.inr z)
      · simp at z ⊢
        rcases z with z | z
        · exact .inl z
        · exact .inr (.inl z)
    have hwx : A2 (fun v t => tlAt Hx v t) us (unst bs) := hw.mono fun v t _ _ ⟨⟨T, e, ha⟩, o⟩ => by
      refine ⟨T, e, ?_⟩
      obtain ⟨pl, pt, sz⟩ := t
      cases pt with
      | none => exact keep _ _ ha (o T e).1
      | some ps =>
        obtain ⟨l, h1, h2⟩ := ha
        exact ⟨l, keep _ _ h1 (o T e).1, keep _ _ h2 ((o T e).2 _ l h1 (by simp))⟩
    obtain ⟨hFh', dx', hF3, hh3⟩ := fd3
    have Pp : p ≠ P := fun z => aP (by rw [← z]; exact np2)
    have Ph' : h' ≠ P := fun z => by
      rcases hh' with e | e
      · rw [← z, e, hh] at nP
        cases nP
      · exact aP (by rw [← z]; exact e)
    have PF : F ≠ P := fun z => by rw [← z, hF] at nP; cases nP
    have hpx : Hx p = some (.lst us2) := kx.at_ (nm_cons Pp List.not_mem_nil) hp3
    have hFx := kx.at_ (nm_cons PF List.not_mem_nil) hF3
    have hhx := kx.at_ (nm_cons Ph' List.not_mem_nil) hh3
    have htx : TlsM [h', p, F] H Hx us2 (fst (fst [] 0 (bs.take n)).2.1 (fst [] 0 (bs.take n)).2.2 y).1 := ⟨ht3.1, fun i v e => by
      obtain ⟨t, h1, h2, h3, h4⟩ := ht3.2 i v e
      have oS : tlOut [S, Cc] H3 v := tl_out h3 (sc_some sc2)
      have oP : tlOut [P] H3 v := tl_out h3 fun a z => by rw [List.mem_singleton.mp z]; exact aP
      have nH := tlNew_since h3 sc2.1 oS
      obtain ⟨a1, a2, a3⟩ := tl_kp kx h2 nH oP
      refine ⟨t, h1, a1, a2, fun T e => ⟨(h4 T e).1, fun xs l hx hm => ?_⟩⟩
      rw [e] at h2
      exact (h4 T e).2 xs l (tl_same kx h2 (oP T e).1 xs hx) hm⟩
    refine fed_end K (C := C) (Cc := Cc) (H := H) np0 hpx htx (keep _ _ hW mW) hwx (keep _ _ hE mE) hy hyl hbl fun H' g => ?_
    have kk : Kp [S, Cc, F, h] H H' := fun a o m e => (g a (by rw [keep a o e m]; exact fun z => nomatch z) (.inl (by rw [e]; exact fun z => nomatch z)) (fun z => by rw [z, np0] at e; cases e)).trans (keep a o e m)
    have e1 := fst_app (bs.take n) y
    rw [← hy] at e1
    have hp' : h' ≠ p := ph'.symm
    obtain ⟨hne, cs, w, x, m, hS, hC, hcl⟩ := sc2.2
    have sF : S ≠ F := fun z => mF (by rw [← z]; exact List.mem_cons_self)
    have cF : Cc ≠ F := fun z => mF (by rw [← z]; exact List.mem_cons_of_mem _ List.mem_cons_self)
    have sh : S ≠ h := fun z => mh (by rw [← z]; exact List.mem_cons_self)
    have ch : Cc ≠ h := fun z => mh (by rw [← z]; exact List.mem_cons_of_mem _ List.mem_cons_self)
    have alive := sc_some sc
    have S0 : H S ≠ none := alive S List.mem_cons_self
    have C0 : H Cc ≠ none := alive Cc (List.mem_cons_of_mem _ List.mem_cons_self)
    have sP : S ≠ P := fun z => S0 (by rw [z]; exact nP)
    have cP : Cc ≠ P := fun z => C0 (by rw [z]; exact nP)
    have hSx := kx.at_ (nm_cons sP List.not_mem_nil) (k3.at_ (nm_cons sF (nm_cons sh List.not_mem_nil)) hS)
    have hCx := kx.at_ (nm_cons cP List.not_mem_nil) (k3.at_ (nm_cons cF (nm_cons ch List.not_mem_nil)) hC)
    have S1 : S ≠ p := fun z => S0 (by rw [z]; exact np0)
    have C1 : Cc ≠ p := fun z => C0 (by rw [z]; exact np0)
    have F1 : F ≠ p := fun z => by rw [z, np0] at hF; cases hF
    have := fin H' (n + y.length) h' kk ⟨hne, cs, w, x, m, (g S (by rw [hSx]; exact fun z => nomatch z) (.inl S0) S1).trans hSx, (g Cc (by rw [hCx]; exact fun z => nomatch z) (.inl C0) C1).trans hCx, hcl⟩
      ⟨hFh', dx', by rw [e1]; exact (g F (by rw [hFx]; exact fun z => nomatch z) (.inl (by rw [hF]; exact fun z => nomatch z)) F1).trans hFx, by rw [e1]; exact (g h' (by rw [hhx]; exact fun z => nomatch z) (.inr rfl) hp').trans hhx⟩ hyl (hh'.imp id sc2.was)
    rwa [show ((n + y.length : Nat) : Int) = (n : Int) + (y.length : Int) by omega] at this
  have okn : Okb (bs.take n) := fun b hb => ok b (List.mem_of_mem_take hb)
  have hpos : Pos1 (fst [] 0 (bs.take n)).2.1 := fst_pos (bs.take n) ([], [], 0) okn (fun _ h => nomatch h)
  unfold b_fed
  walk_at "go"
  · rename_i p1 y ey ly sy n1 H1 r1 sc1 k1 h01 h11 h0 t nt
    obtain ⟨hy, hyl, hyz⟩ := cut_piece hn hz.1 ey
    have m1 := sc.nm n1
    have hF1 := sc1.1.at_ mF hF
    have hh1 := sc1.1.at_ mh hh
    have hP1 : H1 p1 = some (.lst (y.map V.int)) := k1.at_ m1 upd_same
    rw [List.length_map]
    refine .inl ⟨F, h, _, _, t, y, rfl, ⟨hFh, dx, (upd_ne (ne_of_none hF1 nt)).trans hF1, (upd_ne (ne_of_none hh1 nt)).trans hh1⟩, .inr upd_same, (ne_of_none hF1 nt).symm, (ne_of_none hh1 nt).symm, okb_sub ok sy, hpos, by omega, fun H3 p us2 h' np3 k3 hp3 ht3 hh' ph' hps' fd3 => ?_⟩
    exact aft y _ H3 H3 p h' p1 us2 _ ey (sc1.new nt) np3 k3 hp3 ht3 hh' ph' fd3 n1 (by rw [upd_ne (ne_of_none hP1 nt), hP1]; exact fun z => nomatch z) Kp.refl
  · rename_i p1 y ey ly sy n1 H1 r1 sc1 k1 h01 h11 h0
    obtain ⟨hy, hyl, hyz⟩ := cut_piece hn hz.1 ey
    have m1 := sc.nm n1
    have hF1 := sc1.1.at_ mF hF
    have hh1 := sc1.1.at_ mh hh
    have hP1 : H1 p1 = some (.lst (y.map V.int)) := k1.at_ m1 upd_same
    have pF : p1 ≠ F := fun z => by rw [z, hF] at n1; cases n1
    have ph : p1 ≠ h := fun z => by rw [z, hh] at n1; cases n1
    have mA' : A ∉ [S, Cc] ∧ A ∉ [F, h] := ⟨fun z => mA (by simp at z ⊢; rcases z with z | z; exact .inl z; exact .inr (.inl z)), fun z => mA (by simp at z ⊢; exact .inr (.inr z))⟩
    have hA1 := sc1.1.at_ mA'.1 hA
    rw [List.length_map]
    refine .inl ⟨F, h, _, _, p1, y, rfl, ⟨hFh, dx, hF1, hh1⟩, .inl hP1, pF, ph, okb_sub ok sy, hpos, by omega, fun H3 p us2 h' np3 k3 hp3 ht3 hh' ph' hps' fd3 => ?_⟩
    have hA3 := k3.at_ mA'.2 hA1
    have hP3 := k3.at_ (nm_cons pF (nm_cons ph List.not_mem_nil)) hP1
    have pp : p ≠ p1 := fun z => by rw [z, hP1] at np3; cases np3
    have ec : ∀ y', y' = cutI bs (some (n : Int)) (some ((n : Int) + (y.length : Int))) → y' = y := fun y' e => by
      rw [show (n : Int) + (y.length : Int) = ((n + y.length : Nat) : Int) by omega, cut_both bs hn, Nat.add_sub_cancel_left] at e
      rw [List.take_add] at hy
      rw [e]
      exact List.append_cancel_left hy
    walk_at "go"
    · rename_i p4 y4 e4 l4 s4 n4 hne
      exact absurd (ec y4 e4).symm hne
    · rename_i p4 y4 e4 l4 s4 n4 heq
      exact aft y H1 H3 _ p h' p1 us2 _ ey sc1 np3 k3 hp3 ht3 hh' ph' fd3 n1 (by rw [hP1]; exact fun z => nomatch z) (((Kp.refl.new n4).mono fun a z => absurd z List.not_mem_nil).upd_in List.mem_cons_self)
theorem law_fed_eq (K : PySem.W.Frag) (C : Addr) : t_law_fed K C =
 (tSeq (tAsg (tOp (rIxU K) (tLst (tCons (tC (.int 0)) (tCons (tC (.int 1)) (tCons (tC (.int 2)) (tCons (tC (.int 3)) (tCons (tC (.int 5)) (tCons (tC (.int 17)) (tCons (tC (.int 90)) (tCons (tC (.int 700)) tNil))))))))) (tCall (sp_law_take K) [] E0 (tCons (tVar 0) (tCons (tC (.int 8)) tNil)))) (gName 6))
 (tSeq (tIfS (tAnd (tTest (tOp (rEqU K) (tCall (sp_law_take K) [] E0 (tCons (tVar 0) (tCons (tC (.int 4)) tNil))) (tC (.int 0)))) (tNot (tTru K (tCall (sp_law_refused K) [] E0 (tCons (tVar 1) (tCons (tCall (sp_law_wrong K) [] E0 (tCons (tVar 0) tNil)) tNil))))))
 (tRet (tUn rNegU (tC (.int 1))))
 tNext)
 (b_fed K C))) := by
  unfold t_law_fed b_fed b_end
  rfl
theorem len_law_fed (K : PySem.W.Frag) : ∀ vs H Q E, sp_law_fed K vs H Q E → vs.length = ["_law_state", "_law_feeder", "_law_data", "_law_at", "_law_whole", "_law_ended_here"].length := by
  rintro _ _ _ _ ⟨_, _, _, _, _, _, _, _, _, _, rfl, _⟩; rfl
theorem p_law_fed (K : PySem.W.Frag) (C : Addr) (O : Own K C) (ca : cAt K "Feeder" = C) (vs : List V) (H : Hp) (Q : VK) (E : XK) (h : sp_law_fed K vs H Q E) : t_law_fed K C { nx := fun _ H' => Q .non H', rt := Q } (start ["_law_state", "_law_feeder", "_law_data", "_law_at", "_law_whole", "_law_ended_here", "_law_size", "_law_piece", "_law_behind", "_law_found", "_law_one"] vs) H := by
  obtain ⟨S, Cc, F, h, A, W, Eb, bs, n, us, rfl, st, fd, mF, mh, hA, mA, ok, hbl, hn, hW, mW, hw, hE, mE, q⟩ := h
  rw [ca] at fd q
  have sc : SC H S Cc H := ⟨Kp.refl, st⟩
  have rest : ∀ Hx (z : Int), SC H S Cc Hx → 0 ≤ z ∧ z ≤ 700 → b_fed K C { nx := fun _ H' => Q .non H', rt := Q } [some (.ref S), some (.ref F), some (.ref A), some (.int (n : Int)), some (.ref W), some (.ref Eb), some (.int z), none, none, none, none] Hx := fun Hx z sx hz => by
    obtain ⟨hFh, dx, hF, hh⟩ := fd
    have sub : ∀ {a : Addr}, a ∉ [S, Cc, F, h] → a ∉ [S, Cc] := fun m z => m (by simp at z ⊢; rcases z with z | z; exact .inl z; exact .inr (.inl z))
    have kS : Kp [S, Cc, F, h] H Hx := sx.1.mono fun a z => by simp at z ⊢; rcases z with z | z; exact .inl z; exact .inr (.inl z)
    refine fed_tail K O sx.2 ⟨hFh, dx, sx.1.at_ mF hF, sx.1.at_ mh hh⟩ mF mh (sx.1.at_ (sub mA) hA) mA ok hbl hn (sx.1.at_ (sub mW) hW) mW (kpT hw kS) (sx.1.at_ (sub mE) hE) mE hz fun H' m h' kk st' fd' hm hh' => ?_
    exact q H' m h' (kS.trans kk) st' fd' hm (hh'.imp id fun e => by
      by_cases z : h' ∈ [S, Cc]
      · exact absurd e (sc_some sx h' z)
      · exact sx.1.none_of z e)
  rw [law_fed_eq]
  walk_at "go"
  rename_i p1 n1 H1 r1 sc1 k1 h01 h11
  refine ixB_go (xs := [0, 1, 2, 3, 5, 17, 90, 700]) (k1.at_ (sc.nm n1) upd_same) h01 (by simpa using h11) fun z hz => ?_
  have hz2 : 0 ≤ z ∧ z ≤ 700 := by simp at hz; omega
  walk_at "go"
  · rename_i H2 r2 sc2 k2 h02 h12 h0
    refine ⟨S, Cc, rfl, sc2.2, fun H3 x k3 st3 hb => ?_⟩
    have sc3 : SC H S Cc H3 := ⟨sc2.1.trans k3, st3⟩
    obtain ⟨hFh, dx, hF, hh⟩ := id fd
    walk_at "go"
    refine ⟨F, x, h, _, _, rfl, by rw [ca]; exact ⟨hFh, dx, sc3.1.at_ mF hF, sc3.1.at_ mh hh⟩, hb, fun H4 k4 => ?_⟩
    have sc4 : SC H S Cc H4 := by
      obtain ⟨k0, hne, cs, w, x, m, hS, hC, hl⟩ := sc3
      exact ⟨k0.trans (k4.mono fun a z => absurd z List.not_mem_nil), hne, cs, w, x, m, k4.at_ List.not_mem_nil hS, k4.at_ List.not_mem_nil hC, hl⟩
    walk_at "go"
    exact rest H4 z sc4 hz2
  · rename_i H2 r2 sc2 k2 h02 h12 h0
    exact rest H2 z sc2 hz2
end K54
namespace K54
open PySem PySem.Spec PyProof.Rows L2 Kb Stm
theorem len_law_rest (K : PySem.W.Frag) : ∀ vs H Q E, sp_law_rest K vs H Q E → vs.length = ["_law_feeder", "_law_data", "_law_at", "_law_whole", "_law_ended_here"].length := by
  rintro _ _ _ _ ⟨_, _, _, _, _, _, _, _, rfl, _⟩; rfl
theorem p_law_rest (K : PySem.W.Frag) (C : Addr) (O : Own K C) (ca : cAt K "Feeder" = C) (vs : List V) (H : Hp) (Q : VK) (E : XK) (h : sp_law_rest K vs H Q E) : t_law_rest K C { nx := fun _ H' => Q .non H', rt := Q } (start ["_law_feeder", "_law_data", "_law_at", "_law_whole", "_law_ended_here"] vs) H := by
  obtain ⟨F, h, A, W, Eb, bs, n, us, rfl, fd, hA, mA, ok, hbl, hn, hW, mW, hw, hE, mE, q⟩ := h
  rw [ca] at fd q
  obtain ⟨cl, nh, np⟩ := id O
  have hml : (List.map V.int bs).length = bs.length := List.length_map ..
  obtain ⟨hFh, dx, hF, hh⟩ := fd
  have hheld : (fst [] 0 (bs.take n)).2.1.length ≤ 0 + (bs.take n).length := (fst_lens (bs.take n) ([], [], 0)).2
  rw [List.length_take] at hheld
  have okn : Okb (bs.take n) := fun b hb => ok b (List.mem_of_mem_take hb)
  have hpos : Pos1 (fst [] 0 (bs.take n)).2.1 := fst_pos (bs.take n) ([], [], 0) okn (fun _ h => nomatch h)
  walk_at "go"
  rename_i p1 y ey ly sy n1
  rw [cutI_from] at ey
  have hy : bs.take (n + y.length) = bs.take n ++ y := by
    rw [ey, List.length_drop, List.take_append_drop, List.take_of_length_le (by omega)]
  have hyl : n + y.length = bs.length := by rw [ey, List.length_drop]; omega
  have pF : p1 ≠ F := fun z => by rw [z, hF] at n1; cases n1
  have ph : p1 ≠ h := fun z => by rw [z, hh] at n1; cases n1
  refine .inl ⟨F, h, _, _, p1, y, rfl, ⟨hFh, dx, (upd_ne pF.symm).trans hF, (upd_ne ph.symm).trans hh⟩, .inl upd_same, pF, ph, okb_sub ok sy, hpos, by omega, fun H3 p us2 h' np3 k3 hp3 ht3 hh' ph' hps' fd3 => ?_⟩
  have k03 : Kp [F, h] H H3 := ((Kp.refl.new n1).mono fun a z => absurd z List.not_mem_nil).trans k3
  have hmid := unst_mid bs y hy
  have e1 := endd_at bs (n := n) hn
  have e2 := endd_at bs (n := n + y.length) (by omega)
  have hE3 := k03.at_ mE hE
  have hW3 := k03.at_ mW hW
  have hA3 := k03.at_ mA hA
  have hw3 := kpT hw k03
  rw [hyl] at e2 hmid hy
  rw [List.take_length] at e2 hmid hy
  have eall := fst_app (bs.take n) y
  rw [← hy] at eall
  have hula : (fst [] 0 (bs.take n)).1.length ≤ us.length := by
    rw [hw.1, unst_eq, List.length_append, eall, List.length_append]
    omega
  have hulb : (fst [] 0 bs).1.length ≤ us.length := by
    rw [hw.1, unst_eq, List.length_append]
    omega
  walk_at "go"
  refine ixL_go (SqL.of hE3) (atI_nat (by rw [List.getElem?_map, e1]; rfl)) ?_
  walk_at "go"
  rw [hml]
  refine ixL_go (SqL.of hE3) (atI_nat (by rw [List.getElem?_map, e2]; rfl)) ?_
  walk_at "go"
  rename_i p4 n4
  have k4 : Kp [] H3 (upd H3 p4 (.lst (cutV us (some ((fst [] 0 (bs.take n)).1.length : Int)) (some ((fst [] 0 bs).1.length : Int))))) := Kp.refl.new n4
  refine neTls_go (ts := (fst (fst [] 0 (bs.take n)).2.1 (fst [] 0 (bs.take n)).2.2 y).1) (k4.at_ List.not_mem_nil hp3) upd_same ⟨ht3.1, fun i v e => ?_⟩ ?_ ?_
  · obtain ⟨t, h1, h2, _⟩ := ht3.2 i v e
    exact ⟨t, h1, h2.kp0 k4⟩
  · rw [show ∀ lo hi, cutV us lo hi = cutI us lo hi from fun _ _ => rfl, cut_both us hula, ← hmid]
    exact ((hw3.mono fun v t _ _ z => z.1.kp0 (Kp.refl.new n4)).drop _).take _
  obtain ⟨hFh', dx', hF3, hh3⟩ := fd3
  have hF4 := k4.at_ List.not_mem_nil hF3
  have hh4 := k4.at_ List.not_mem_nil hh3
  have hE4 := k4.at_ List.not_mem_nil hE3
  have hW4 := k4.at_ List.not_mem_nil hW3
  have hA4 := k4.at_ List.not_mem_nil hA3
  have k04 : Kp [F, h] H (upd H3 p4 (.lst (cutV us (some ((fst [] 0 (bs.take n)).1.length : Int)) (some ((fst [] 0 bs).1.length : Int))))) := k03.trans (k4.mono fun a z => absurd z List.not_mem_nil)
  have hhl : (fst (fst [] 0 (bs.take n)).2.1 (fst [] 0 (bs.take n)).2.2 y).2.1.length ≤ (fst [] 0 (bs.take n)).2.1.length + y.length := (fst_lens y ([], _, _)).2
  walk_at "go"
  refine ⟨F, h', _, _, rfl, ⟨hFh', dx', hF4, hh4⟩, by omega, fun H5 p5 us5 h5 np5 k5 hp5 ht5 nh5 fd5 => ?_⟩
  have sub : ∀ {a : Addr}, a ∉ [F, h] → a ∉ [F] := fun m z => m (by rw [List.mem_singleton.mp z]; exact List.mem_cons_self)
  have hE5 := k5.at_ (sub mE) hE4
  have hW5 := k5.at_ (sub mW) hW4
  have hA5 := k5.at_ (sub mA) hA4
  have k05 : Kp [F, h] H H5 := k04.trans (k5.mono fun a z => by rw [List.mem_singleton.mp z]; exact List.mem_cons_self)
  have hw5 := kpT hw k05
  walk_at "go"
  rw [hml]
  refine ixL_go (SqL.of hE5) (atI_nat (by rw [List.getElem?_map, e2]; rfl)) ?_
  walk_at "go"
  rename_i p6 n6
  have edrop : (unst bs).drop (fst [] 0 bs).1.length = if (fst [] 0 bs).2.1 ≠ [] then [⟨(fst [] 0 bs).2.2, none, (fst [] 0 bs).2.1.length⟩] else [] := by
    rw [unst_eq, List.drop_left' rfl]
  have ets : (if (fst (fst [] 0 (bs.take n)).2.1 (fst [] 0 (bs.take n)).2.2 y).2.1 ≠ [] then [(⟨(fst (fst [] 0 (bs.take n)).2.1 (fst [] 0 (bs.take n)).2.2 y).2.2, none, (fst (fst [] 0 (bs.take n)).2.1 (fst [] 0 (bs.take n)).2.2 y).2.1.length⟩ : Tl)] else []) = (unst bs).drop (fst [] 0 bs).1.length := by
    rw [edrop, eall]
  rw [ets] at ht5
  have k6 : Kp [] H5 (upd H5 p6 (.lst (us.drop ((fst [] 0 bs).1.length : Int).toNat))) := Kp.refl.new n6
  obtain ⟨hF5n, dx5, hF5, hh5⟩ := fd5
  refine eqTls_go (k6.at_ List.not_mem_nil hp5) upd_same (tls_move (M := []) ht5 k6 (fun a z => absurd z List.not_mem_nil) Kp.refl) (tls_none (by rw [Int.toNat_natCast]; exact (hw5.mono fun v t _ _ z => z.1.kp0 k6).drop _)) ?_
  walk_at "go"
  refine ⟨F, h5, _, _, rfl, ⟨hF5n, dx5, k6.at_ List.not_mem_nil hF5, k6.at_ List.not_mem_nil hh5⟩, by decide, fun H7 p7 us7 h7 np7 k7 hp7 ht7 nh7 fd7 => ?_⟩
  have e7 : us7 = [] := by
    have := ht7.1
    exact List.length_eq_zero_iff.mp (by simpa using this)
  rw [e7] at hp7
  have k07 : Kp [F, h] H H7 := (k05.trans (k6.mono fun a z => absurd z List.not_mem_nil)).trans (k7.mono fun a z => by rw [List.mem_singleton.mp z]; exact List.mem_cons_self)
  walk_at "go"
  rename_i p8 n8
  refine eqI0_go (xs := []) (SqL.of ((upd_ne (ne_of_none hp7 n8)).trans hp7)) (SqL.of upd_same) ?_
  rw [decide_eq_true rfl]
  obtain ⟨a1, a2, a3, a4⟩ := fd7
  refine q _ h7 (k07.trans ((Kp.refl.new n8).mono fun a z => absurd z List.not_mem_nil)) ⟨a1, a2, (upd_ne (ne_of_none a3 n8)).trans a3, (upd_ne (ne_of_none a4 n8)).trans a4⟩ ?_
  by_cases z : h7 = h
  · exact .inl z
  · by_cases zF : h7 = F
    · exact absurd zF.symm a1
    · exact .inr (k05.none_of (nm_cons zF (nm_cons z List.not_mem_nil)) (none_of k6 nh7))
end K54
namespace K54
open PySem PySem.Spec PyProof.Rows L2 Kb Stm
theorem block_go {K : PySem.W.Frag} {Q : VK} {E : XK} {H0 H : Hp} {S C : Addr} (sc : SC H0 S C H) (q : ∀ H' p bs, H p = none → SC H0 S C H' → Kp [S, C] H H' → H' p = some (.lst (bs.map V.int)) → Okb bs → bs.length ≤ 2000 → Q (.ref p) H') : sp_law_block K [.ref S] H Q E := by
  unfold sp_law_block
  exact ⟨S, C, rfl, sc.2, fun H' p bs n k st h o l => q H' p bs n ⟨sc.1.trans k, st⟩ k h o l⟩
theorem subT {M N : List Addr} {H : Hp} {us : List V} {ts : List Tl} (h : A2 (rTl M H) us ts) (m : ∀ a ∈ N, a ∈ M) : A2 (rTl N H) us ts := h.mono fun v t _ _ ⟨a, o⟩ => ⟨a, fun T e => ⟨fun z => (o T e).1 (m _ z), fun xs l hx hm z => (o T e).2 xs l hx hm (m _ z)⟩⟩
theorem addT {M : List Addr} {H : Hp} {us : List V} {ts : List Tl} {p : Addr} (h : A2 (rTl M H) us ts) (n : H p = none) : A2 (rTl (p :: M) H) us ts := h.mono fun v t _ _ ⟨a, o⟩ => ⟨a, tl_add a o n⟩
theorem ofT {M : List Addr} {Hn H : Hp} {us : List V} {ts : List Tl} (h : Tls Hn H us ts) (m : ∀ a ∈ M, Hn a ≠ none) : A2 (rTl M H) us ts := ⟨h.1, fun i v e => by
  obtain ⟨t, h1, h2, h3⟩ := h.2 i v e
  exact ⟨t, h1, h2, tl_out h3 m⟩⟩
/-- out of what changes, since G -/
theorem swapT {M N : List Addr} {G H : Hp} {us : List V} {ts : List Tl} (h : A2 (rTl M G) us ts) (k : Kp M G H) (m : ∀ a ∈ N, a ∈ M ∨ G a = none) : A2 (rTl N H) us ts := h.mono fun v t _ _ ⟨⟨T, e, ha⟩, o⟩ => by
  have oT := o T e
  have al : ∀ a o', G a = some o' → a ∉ M → a ∉ N := fun a o' e nm z => (m a z).elim nm fun y => by rw [e] at y; cases y
  have hat : tlAt G v t := ⟨T, e, ha⟩
  obtain ⟨a1, _, a3⟩ := tl_kp (H := fun _ => none) k hat (fun T _ => ⟨rfl, fun _ _ _ _ => rfl⟩) o
  obtain ⟨pl, pt, sz⟩ := t
  refine ⟨a1, fun T' e' => ?_⟩
  rw [e] at e'
  cases e'
  cases pt with
  | none =>
    refine ⟨al T _ ha oT.1, fun xs l hx hm => ?_⟩
    have ha' : G T = some (.tup [.str (PySem.Str.ofString "torn"), .int pl, .int (sz : Nat)]) := ha
    rw [k.at_ oT.1 ha'] at hx
    cases hx
    simp at hm
  | some ps =>
    obtain ⟨l0, h1, h2⟩ := ha
    refine ⟨al T _ h1 oT.1, fun xs l hx hm => ?_⟩
    rw [k.at_ oT.1 h1] at hx
    cases hx
    simp at hm
    rw [hm]
    exact al l0 _ h2 (oT.2 _ l0 h1 (by simp))
theorem fd_go (K : PySem.W.Frag) {C : Addr} (O : Own K C) {σ : L2.St} {i : Nat} {H : Hp} {F h x : Addr} {bs : List Int} {Qk : VK} (hv : σ[i]? = some (some (.ref F))) (fd : Fdr C H F h [] 0) (hx : Inn H x (bs.map V.int)) (xF : x ≠ F) (xh : x ≠ h) (ok : Okb bs) (hl : bs.length ≤ 100000)
    (q : ∀ H' p us h', Kp [F, h] H H' → H' p = some (.lst us) → A2 (fun v t => tlAt H' v t) us (unst bs) → Fdr C H' F h' [] 0 → (h' = h ∨ H h' = none) → Qk (.ref p) H') :
    sp_Feeder_feed K C [.ref F, .ref x] H (fun y H2 => tMethU C "done" (sp_Feeder_done K C) E0 (tVar i) tNil σ H2 fun z H3 => rAddU K y z H3 Qk) E0 := by
  obtain ⟨cl, nh, np⟩ := id O
  have fd0 := fd
  obtain ⟨hFh, dx, hF, hh⟩ := fd0
  refine .inl ⟨F, h, [], 0, x, bs, rfl, fd, hx, xF, xh, ok, (fun _ z => nomatch z), by simp; omega, fun H2 p us h2 np2 k2 hp2 ht2 hh2 ph2 hps ⟨hFh2, dx2, hF2, hh2'⟩ => ?_⟩
  refine ⟨_, hv, ?_⟩
  have hlen := fst_lens bs ([], [], 0)
  walk_at "go"
  refine ⟨F, h2, _, _, rfl, ⟨hFh2, dx2, hF2, hh2'⟩, ?_, fun H3 p3 us3 h3 np3 k3 hp3 ht3 nh3 fd3 => ?_⟩
  · have : (fst [] 0 bs).2.1.length ≤ 0 + bs.length := hlen.2
    omega
  have pF : p ≠ F := fun e => by rw [e, hF] at np2; cases np2
  have hp3' : H3 p = some (.lst us) := k3.at_ (nm_cons pF List.not_mem_nil) hp2
  have hul : us.length ≤ 100000 := by
    rw [ht2.1]
    have : (fst [] 0 bs).1.length ≤ 0 + bs.length := hlen.1
    omega
  have hul3 : us3.length ≤ 1 := by
    rw [ht3.1]
    split <;> simp
  walk_at "go"
  rename_i p4 n4
  have k03 : Kp [F, h] H H3 := k2.trans (k3.mono fun a z => by rw [List.mem_singleton.mp z]; exact List.mem_cons_self)
  have k4 : Kp [] H3 (upd H3 p4 (.lst (us ++ us3))) := Kp.refl.new n4
  obtain ⟨a1, a2, a3, a4⟩ := fd3
  have n3 : h3 = h ∨ H h3 = none := by
    by_cases zh : h3 = h
    · exact .inl zh
    · by_cases zF : h3 = F
      · rw [zF, hF2] at nh3
        cases nh3
      · exact .inr (k2.none_of (nm_cons zF (nm_cons zh List.not_mem_nil)) nh3)
  have t2 := tls_move (M := [F]) (H0 := H) ht2.tls k3 (fun a z => by rw [List.mem_singleton.mp z, hF]; exact fun z => nomatch z) Kp.refl
  have u2 : A2 (fun v t => tlAt (upd H3 p4 (.lst (us ++ us3))) v t) us (fst [] 0 bs).1 := (at0 (ofT (M := []) t2 fun a z => absurd z List.not_mem_nil)).mono fun v t _ _ z => z.kp0 k4
  have u3 : A2 (fun v t => tlAt (upd H3 p4 (.lst (us ++ us3))) v t) us3 (if (fst [] 0 bs).2.1 ≠ [] then [⟨(fst [] 0 bs).2.2, none, (fst [] 0 bs).2.1.length⟩] else []) := (at0 (ofT (M := []) ht3 fun a z => absurd z List.not_mem_nil)).mono fun v t _ _ z => z.kp0 k4
  exact q _ p4 (us ++ us3) h3 (k03.trans (k4.mono fun a z => absurd z List.not_mem_nil)) upd_same (u2.app u3) ⟨a1, a2, k4.at_ List.not_mem_nil a3, k4.at_ List.not_mem_nil a4⟩ n3
theorem len_law (K : PySem.W.Frag) : ∀ vs H Q E, sp_law K vs H Q E → vs.length = ["_law_script"].length := by
  rintro _ _ _ _ ⟨_, _, rfl, _⟩; rfl
set_option maxHeartbeats 4000000 in
theorem p_law (K : PySem.W.Frag) (C : Addr) (O : Own K C) (ca : cAt K "Feeder" = C) (vs : List V) (H : Hp) (Q : VK) (E : XK) (h : sp_law K vs H Q E) : t_law K C { nx := fun _ H' => Q .non H', rt := Q } (start ["_law_script", "_law_state", "_law_data", "_law_k", "_law_cut", "_law_late", "_law_whole", "_law_late_whole", "_law_ended_here", "_law_late_ended", "_law_one", "_law_other", "_law_at", "_law_late_at", "_law_early"] vs) H := by
  obtain ⟨a, ns, rfl, hS, hn, q⟩ := h
  obtain ⟨cl, nh, np⟩ := id O
  walk_at "go"
  rename_i p1 y1 ey ly sy n1 p2 n2 p3 n3 p4 n4
  obtain ⟨G, hG⟩ : ∃ G, G = upd (upd (upd H p1 (.lst (y1.map V.int))) p2 (.lst (y1.map V.int))) p3 (.lst [.ref p2, .int 0, .int 0, .int 0]) := ⟨_, rfl⟩
  have st : St G p3 p2 := by
    rw [hG]
    exact ⟨(fun e => by rw [e] at n3; rw [upd_same] at n3; cases n3), y1, 0, 0, 0, upd_same, by walk_at "h", by omega⟩
  rw [← hG] at n4 ⊢
  have sc : SC G p3 p2 G := ⟨Kp.refl, st⟩
  clear n1 n2 n3 hG hS
  walk_at "go"
  rename_i H1 r1 sc1 k1 h01 h11
  have m4 := sc.nm n4
  refine for_it walk_range (fun i σ H' => ∃ u3 D bs, σ = [some (.ref a), some (.ref p3), some (.ref D), u3, none, none, none, none, none, none, none, none, none, none, none] ∧ SC G p3 p2 H' ∧ H' D = some (.lst (bs.map V.int)) ∧ D ∉ [p3, p2] ∧ Okb bs ∧ bs.length ≤ 2000 * i) ⟨_, p4, [], rfl, sc1, k1.at_ m4 upd_same, m4, okb_nil, Nat.zero_le _⟩ (fun _ _ _ _ _ => trivial) ?_ (fun σ Ha h => ?_)
  · rintro i x σ Ha Hb hi ⟨u3, D, bs, rfl, sca, hD, mD, ok, hl⟩ ⟨rfl, rfl⟩
    have hi8 : i < 7 := by omega
    walk_at "go"
    refine block_go sca fun H2 p b np sc2 k2 h2 o2 l2 => ?_
    have hD2 := k2.at_ mD hD
    walk_at "go"
    rename_i p5 n5
    exact ⟨_, p5, bs ++ b, rfl, sc2.new n5, upd_same.trans (by rw [List.map_append]), sc2.nm n5, okb_app ok o2, by rw [List.length_append]; omega⟩
  · obtain ⟨u3, D, bs, rfl, sca, hD, mD, ok, hl⟩ := h
    have hml : (List.map V.int bs).length = bs.length := List.length_map ..
    have hbl : bs.length ≤ 14000 := by omega
    walk_at "go"
    rename_i H1 r1 sc1 k1 h01 h11 L late el ll sl nL p6 n6
    rw [cut_from bs h01] at el
    have okl : Okb late := okb_sub ok sl
    have hL1 : upd H1 L (.lst (late.map V.int)) L = some (.lst (late.map V.int)) := upd_same
    have mD' : D ∉ [p3, p2] := mD
    have mL : L ∉ [p3, p2] := sc1.nm nL
    have sc2 := (sc1.new (o := .lst (late.map V.int)) nL).new (o := .lst (bs.map V.int)) n6
    have hD2 : upd (upd H1 L (.lst (late.map V.int))) p6 (.lst (bs.map V.int)) D = some (.lst (bs.map V.int)) := by walk_at "h"
    have hL2 : upd (upd H1 L (.lst (late.map V.int))) p6 (.lst (bs.map V.int)) L = some (.lst (late.map V.int)) := by walk_at "h"
    refine ⟨p6, bs, rfl, .inl upd_same, ok, by omega, fun H2 W1 us1 nW1 k2 hW1 tW1 => ?_⟩
    have mW1 := sc2.nm nW1
    have tA := ofT tW1 (sc_some sc2)
    have sc3 := sc_kp sc2 k2
    have hD3 := k2.at_ List.not_mem_nil hD2
    have hL3 := k2.at_ List.not_mem_nil hL2
    clear hL1 hD2 hL2 sc2
    walk_at "go"
    rename_i p7 n7
    have sc4 := sc3.new (o := .lst (late.map V.int)) n7
    refine ⟨p7, late, rfl, .inl upd_same, okl, by omega, fun H3 W2 us2 nW2 k3 hW2 tW2 => ?_⟩
    have mW2 := sc4.nm nW2
    have tB := ofT tW2 (sc_some sc4)
    have k23 : Kp [] H2 H3 := (Kp.refl.new n7).trans k3
    have hD4 := k23.at_ List.not_mem_nil hD3
    have hL4 := k23.at_ List.not_mem_nil hL3
    have hW14 := k23.at_ List.not_mem_nil hW1
    replace tA := kpT0 tA k23
    have sc5 := sc_kp sc4 k3
    clear sc4 sc3 hD3 hL3
    walk_at "go"
    refine ⟨D, bs, rfl, hD4, by omega, fun H4 E1 nE1 k4 hE1 => ?_⟩
    have mE1 := sc5.nm nE1
    have sc6 := sc_kp sc5 k4
    have hL5 := k4.at_ List.not_mem_nil hL4
    walk_at "go"
    refine ⟨L, late, rfl, hL5, by omega, fun H5 E2 nE2 k5 hE2 => ?_⟩
    have mE2 := sc6.nm nE2
    have sc7 := sc_kp sc6 k5
    have k45 := k4.trans k5
    have hD6 := k45.at_ List.not_mem_nil hD4
    have hL6 := k5.at_ List.not_mem_nil hL5
    have hW16 := k45.at_ List.not_mem_nil hW14
    have hW26 := k45.at_ List.not_mem_nil hW2
    have hE16 := k5.at_ List.not_mem_nil hE1
    replace tA := kpT0 tA k45
    replace tB := kpT0 tB k45
    clear hD4 hL4 hW14 hW2 hE1 hL5 sc5 sc6
    walk_at "go"
    rename_i F1 dx1 nF1 nd1 ne1
    refine ⟨F1, dx1, rfl, upd_same, fun H6 h1 nh1 k6 fd1 => ?_⟩
    have kA : Kp [] H5 H6 := ((Kp.refl.upd_new' nd1).upd_new nF1).drop k6 fun a z => .inr (by rw [List.mem_singleton.mp z]; exact nF1)
    have nh1' : H5 h1 = none := none_of ((Kp.refl.upd_new' nd1).upd_new nF1) nh1
    walk_at "go"
    rename_i F2 dx2 nF2 nd2 ne2
    refine ⟨F2, dx2, rfl, upd_same, fun H7 h2 nh2 k7 fd2 => ?_⟩
    have kB : Kp [] H6 H7 := ((Kp.refl.upd_new' nd2).upd_new nF2).drop k7 fun a z => .inr (by rw [List.mem_singleton.mp z]; exact nF2)
    have nh26 : H6 h2 = none := none_of ((Kp.refl.upd_new' nd2).upd_new nF2) nh2
    have nF2' : H5 F2 = none := none_of kA nF2
    have nh2' : H5 h2 = none := none_of kA nh26
    obtain ⟨f1n, dy1, hF1, hh1⟩ := fd1
    have hF17 := kB.at_ List.not_mem_nil hF1
    have hh17 := kB.at_ List.not_mem_nil hh1
    obtain ⟨f2n, dy2, hF27, hh27⟩ := fd2
    have F12 : F1 ≠ F2 := ne_of_none hF1 nF2
    have h1F2 : h1 ≠ F2 := ne_of_none hh1 nF2
    have h12 : h1 ≠ h2 := ne_of_none hh1 nh26
    have F1h2 : F1 ≠ h2 := ne_of_none hF1 nh26
    have k57 := kA.trans kB
    have sS := sc_some sc7
    have mF1 := sc7.nm nF1
    have mh1 := sc7.nm nh1'
    have mF2 := sc7.nm nF2'
    have mh2 := sc7.nm nh2'
    obtain ⟨M0, hM0⟩ : ∃ M0, M0 = [p3, p2, F1, h1, F2, h2] := ⟨_, rfl⟩
    have nM : ∀ a ∈ M0, a ∈ [p3, p2] ∨ H5 a = none := fun a z => by
      rw [hM0] at z
      simp at z ⊢
      rcases z with z | z | z | z | z | z
      · exact .inl (.inl z)
      · exact .inl (.inr z)
      · exact .inr (by rw [z]; exact nF1)
      · exact .inr (by rw [z]; exact nh1')
      · exact .inr (by rw [z]; exact nF2')
      · exact .inr (by rw [z]; exact nh2')
    have outM : ∀ {x : Addr} {o : HO}, H5 x = some o → x ∉ [p3, p2] → x ∉ M0 := fun e m z => (nM _ z).elim m fun y => by rw [e] at y; cases y
    have oD := outM hD6 mD'
    have oL := outM hL6 mL
    have oW1 := outM hW16 mW1
    have oW2 := outM hW26 mW2
    have oE1 := outM hE16 mE1
    have oE2 := outM hE2 mE2
    have tA7 := swapT tA (k57.mono fun a z => absurd z List.not_mem_nil) nM
    have tB7 := swapT tB (k57.mono fun a z => absurd z List.not_mem_nil) nM
    have hD7 := k57.at_ List.not_mem_nil hD6
    have hL7 := k57.at_ List.not_mem_nil hL6
    have hW17 := k57.at_ List.not_mem_nil hW16
    have hW27 := k57.at_ List.not_mem_nil hW26
    have hE17 := k57.at_ List.not_mem_nil hE16
    have hE27 := k57.at_ List.not_mem_nil hE2
    have st7 : St H7 p3 p2 := (sc_kp sc7 k57).2
    have i1 : p3 ∈ M0 := by rw [hM0]; simp
    have i2 : p2 ∈ M0 := by rw [hM0]; simp
    have iF1 : F1 ∈ M0 := by rw [hM0]; simp
    have ih1 : h1 ∈ M0 := by rw [hM0]; simp
    have iF2 : F2 ∈ M0 := by rw [hM0]; simp
    have ih2 : h2 ∈ M0 := by rw [hM0]; simp
    clear nM outM tA tB hD6 hL6 hW16 hW26 hE16 hE2 k6 k7 hF1 hh1 hM0
    have so : ∀ {x g : Addr} {o : HO}, H7 x = some o → x ∉ M0 → (g ∈ M0 ∨ H7 g = none) → x ≠ g := fun e m hg z => hg.elim (fun y => m (by rw [z]; exact y)) fun y => by rw [z, y] at e; cases e
    have so4 : ∀ {x F g : Addr} {o : HO}, H7 x = some o → x ∉ M0 → F ∈ M0 → (g ∈ M0 ∨ H7 g = none) → x ∉ [p3, p2, F, g] := fun e m hF hg z => by
      simp at z
      rcases z with z | z | z | z
      · exact m (by rw [z]; exact i1)
      · exact m (by rw [z]; exact i2)
      · exact m (by rw [z]; exact hF)
      · exact so e m hg z
    have inM : ∀ {F g a : Addr}, F ∈ M0 → (g ∈ M0 ∨ H7 g = none) → a ∈ [p3, p2, F, g] → a ∈ M0 ∨ H7 a = none := fun hF hg z => by
      simp at z
      rcases z with z | z | z | z
      · exact .inl (by rw [z]; exact i1)
      · exact .inl (by rw [z]; exact i2)
      · exact .inl (by rw [z]; exact hF)
      · rw [z]; exact hg
    have nx : ∀ {H' : Hp} {g g' : Addr}, Kp M0 H7 H' → (g ∈ M0 ∨ H7 g = none) → (g' = g ∨ H' g' = none) → (g' ∈ M0 ∨ H7 g' = none) := fun {H' g g'} kk hg h => by
      rcases h with h | h
      · rw [h]; exact hg
      · by_cases z : g' ∈ M0
        · exact .inl z
        · exact .inr (kk.none_of z h)
    have al2 : ∀ {H' : Hp}, St H' p3 p2 → H' p3 ≠ none ∧ H' p2 ≠ none := fun st' => by
      obtain ⟨_, cs, w, x, m, hS, hC, _⟩ := st'
      exact ⟨(by rw [hS]; exact (fun z => nomatch z)), (by rw [hC]; exact (fun z => nomatch z))⟩
    have nS : ∀ {H' : Hp} {g g' : Addr}, St H' p3 p2 → g ∉ [p3, p2] → (g' = g ∨ H' g' = none) → g' ∉ [p3, p2] := fun {H' g g'} st' hg h z => by
      rcases h with h | h
      · exact hg (by rw [← h]; exact z)
      · obtain ⟨b1, b2⟩ := al2 st'
        simp at z
        rcases z with z | z
        · exact b1 (by rw [← z]; exact h)
        · exact b2 (by rw [← z]; exact h)
    have nN : ∀ {H' : Hp} {g g' b : Addr}, H' b ≠ none → g ≠ b → (g' = g ∨ H' g' = none) → g' ≠ b := fun {H' g g' b} hb hg h z => by
      rcases h with h | h
      · exact hg (by rw [← h]; exact z)
      · exact hb (by rw [← z]; exact h)
    obtain ⟨Wl, hWl⟩ : ∃ Wl : Nat → L2.St → Hp → Prop, Wl = fun i σ H' => ∃ (v3 : Option V) (n1 n2 : Nat) (g1 g2 : Addr), σ = [some (.ref a), some (.ref p3), some (.ref D), v3, some (.int r1), some (.ref L), some (.ref W1), some (.ref W2), some (.ref E1), some (.ref E2), some (.ref F1), some (.ref F2), some (.int (n1 : Int)), some (.int (n2 : Int)), none] ∧ Kp M0 H7 H' ∧ St H' p3 p2 ∧
      Fed C H' F1 g1 bs n1 ∧ Fed C H' F2 g2 late n2 ∧ n1 ≤ bs.length ∧ n2 ≤ late.length ∧ (g1 ∈ M0 ∨ H7 g1 = none) ∧ (g2 ∈ M0 ∨ H7 g2 = none) ∧ g1 ∉ [p3, p2] ∧ g2 ∉ [p3, p2] ∧ g1 ≠ F2 ∧ g2 ≠ F1 ∧ g1 ≠ g2 := ⟨_, rfl⟩
    have ll2 : late.length ≤ 14000 := by omega
    walk_at "go"
    refine for_it walk_range Wl ?_ (fun _ _ _ _ _ => trivial) ?_ (fun σ Hz h => ?_)
    · rw [hWl]
      exact ⟨_, 0, 0, h1, h2, rfl, Kp.refl, st7, ⟨f1n, dy1, hF17, hh17⟩, ⟨f2n, dy2, hF27, hh27⟩, Nat.zero_le _, Nat.zero_le _, .inl ih1, .inl ih2, mh1, mh2, h1F2, F1h2.symm, h12⟩
    · rintro i x σ Ha' Hb hi h ⟨rfl, rfl⟩
      rw [hWl] at h
      obtain ⟨v3, n1, n2, g1, g2, rfl, kk, stk, fe1, fe2, le1, le2, q1, q2, q3, q4, q5, q6, q7⟩ := h
      walk_at "go"
      refine ⟨p3, p2, F1, g1, D, W1, E1, bs, n1, us1, rfl, stk, by rw [ca]; exact fe1, mF1, q3, kk.at_ oD hD7, so4 hD7 oD iF1 q1, ok, by omega, le1, kk.at_ oW1 hW17, so4 hW17 oW1 iF1 q1, swapT tA7 kk fun a z => inM iF1 q1 z, kk.at_ oE1 hE17, so4 hE17 oE1 iF1 q1, fun H8 m1 g1' k8 st8 fe8 hm8 hg8 => ?_⟩
      rw [ca] at fe8
      have kk8 := kk.drop k8 fun a z => inM iF1 q1 z
      have fe2' := fe2
      obtain ⟨z1, z2, z3, z4⟩ := fe2
      have aF2 : Hb F2 ≠ none := by rw [z3]; exact fun z => nomatch z
      have ag2 : Hb g2 ≠ none := by rw [z4]; exact fun z => nomatch z
      have w1 := nx kk q1 hg8
      have w3 := nS stk q3 hg8
      have w5 := nN aF2 q5 hg8
      have w7 := nN ag2 q7 hg8
      have oF2 : F2 ∉ [p3, p2, F1, g1] := fun z => by
        simp at z
        rcases z with z | z | z | z
        · exact mF2 (by rw [z]; exact List.mem_cons_self)
        · exact mF2 (by rw [z]; exact List.mem_cons_of_mem _ List.mem_cons_self)
        · exact F12 z.symm
        · exact q5 z.symm
      have og2 : g2 ∉ [p3, p2, F1, g1] := fun z => by
        simp at z
        rcases z with z | z | z | z
        · exact q4 (by rw [z]; exact List.mem_cons_self)
        · exact q4 (by rw [z]; exact List.mem_cons_of_mem _ List.mem_cons_self)
        · exact q6 z
        · exact q7 z.symm
      have fe28 : Fed C H8 F2 g2 late n2 := ⟨z1, z2, k8.at_ oF2 z3, k8.at_ og2 z4⟩
      clear z3 z4 fe2'
      walk_at "go"
      refine ⟨p3, p2, F2, g2, L, W2, E2, late, n2, us2, rfl, st8, by rw [ca]; exact fe28, mF2, q4, kk8.at_ oL hL7, so4 hL7 oL iF2 q2, okl, by omega, le2, kk8.at_ oW2 hW27, so4 hW27 oW2 iF2 q2, swapT tB7 kk8 fun a z => inM iF2 q2 z, kk8.at_ oE2 hE27, so4 hE27 oE2 iF2 q2, fun H9 m2 g2' k9 st9 fe9 hm9 hg9 => ?_⟩
      rw [ca] at fe9
      have kk9 := kk8.drop k9 fun a z => inM iF2 q2 z
      obtain ⟨y1, y2, y3, y4⟩ := fe8
      have aF1 : H8 F1 ≠ none := by rw [y3]; exact fun z => nomatch z
      have ag1 : H8 g1' ≠ none := by rw [y4]; exact fun z => nomatch z
      have v1 := nx kk8 q2 hg9
      have v3 := nS st8 q4 hg9
      have v5 := nN aF1 q6 hg9
      have v7 := nN ag1 w7.symm hg9
      have oF1 : F1 ∉ [p3, p2, F2, g2] := fun z => by
        simp at z
        rcases z with z | z | z | z
        · exact mF1 (by rw [z]; exact List.mem_cons_self)
        · exact mF1 (by rw [z]; exact List.mem_cons_of_mem _ List.mem_cons_self)
        · exact F12 z
        · exact q6 z.symm
      have og1 : g1' ∉ [p3, p2, F2, g2] := fun z => by
        simp at z
        rcases z with z | z | z | z
        · exact w3 (by rw [z]; exact List.mem_cons_self)
        · exact w3 (by rw [z]; exact List.mem_cons_of_mem _ List.mem_cons_self)
        · exact w5 z
        · exact w7 z
      have fe19 : Fed C H9 F1 g1' bs m1 := ⟨y1, y2, k9.at_ oF1 y3, k9.at_ og1 y4⟩
      walk_at "go"
      · exfalso; omega
      · show Wl (i + 1) _ _
        rw [hWl]
        exact ⟨_, m1, m2, g1', g2', rfl, kk9, st9, fe19, fe9, hm8, hm9, w1, v1, w3, v3, w5, v5, v7.symm⟩
    · rw [hWl] at h
      obtain ⟨v3, n1, n2, g1, g2, rfl, kk, stk, fe1, fe2, le1, le2, q1, q2, q3, q4, q5, q6, q7⟩ := h
      clear hWl
      have so2 : ∀ {x F g : Addr} {o : HO}, H7 x = some o → x ∉ M0 → F ∈ M0 → (g ∈ M0 ∨ H7 g = none) → x ∉ [F, g] := fun e m hF hg z => so4 e m hF hg (List.mem_cons_of_mem _ (List.mem_cons_of_mem _ z))
      have inM2 : ∀ {F g a : Addr}, F ∈ M0 → (g ∈ M0 ∨ H7 g = none) → a ∈ [F, g] → a ∈ M0 ∨ H7 a = none := fun hF hg z => inM hF hg (List.mem_cons_of_mem _ (List.mem_cons_of_mem _ z))
      have n2' : ∀ {a b c : Addr}, a ≠ b → a ≠ c → a ∉ [b, c] := fun h1 h2 => nm_cons h1 (nm_cons h2 List.not_mem_nil)
      walk_at "go"
      refine ⟨F1, g1, D, W1, E1, bs, n1, us1, rfl, by rw [ca]; exact fe1, kk.at_ oD hD7, so2 hD7 oD iF1 q1, ok, by omega, le1, kk.at_ oW1 hW17, so2 hW17 oW1 iF1 q1, swapT tA7 kk fun a z => inM2 iF1 q1 z, kk.at_ oE1 hE17, so2 hE17 oE1 iF1 q1, fun H8 g1' k8 fd8 hg8 => ?_⟩
      rw [ca] at fd8
      have kk8 := kk.drop k8 fun a z => inM2 iF1 q1 z
      obtain ⟨z1, z2, z3, z4⟩ := fe2
      have aF2 : Hz F2 ≠ none := by rw [z3]; exact fun z => nomatch z
      have ag2 : Hz g2 ≠ none := by rw [z4]; exact fun z => nomatch z
      have w1 := nx kk q1 hg8
      have w5 := nN aF2 q5 hg8
      have w7 := nN ag2 q7 hg8
      have z38 := k8.at_ (n2' F12.symm q5.symm) z3
      have z48 := k8.at_ (n2' q6 q7.symm) z4
      walk_at "go"
      refine ⟨F2, g2, L, W2, E2, late, n2, us2, rfl, by rw [ca]; exact ⟨z1, z2, z38, z48⟩, kk8.at_ oL hL7, so2 hL7 oL iF2 q2, okl, by omega, le2, kk8.at_ oW2 hW27, so2 hW27 oW2 iF2 q2, swapT tB7 kk8 fun a z => inM2 iF2 q2 z, kk8.at_ oE2 hE27, so2 hE27 oE2 iF2 q2, fun H9 g2' k9 fd9 hg9 => ?_⟩
      rw [ca] at fd9
      have kk9 := kk8.drop k9 fun a z => inM2 iF2 q2 z
      obtain ⟨y1, y2, y3, y4⟩ := fd8
      have aF1 : H8 F1 ≠ none := by rw [y3]; exact fun z => nomatch z
      have ag1 : H8 g1' ≠ none := by rw [y4]; exact fun z => nomatch z
      have v1 := nx kk8 q2 hg9
      have v5 := nN aF1 q6 hg9
      have v7 := nN ag1 w7.symm hg9
      have y39 := k9.at_ (n2' F12 q6.symm) y3
      have y49 := k9.at_ (n2' w5 w7) y4
      obtain ⟨x1, x2, x3, x4⟩ := fd9
      have hD9 := kk9.at_ oD hD7
      walk_at "go"
      rename_i p10 y10 e10 l10 s10 n10
      refine fd_go K O (i := 10) (F := F1) (h := g1') (bs := y10) rfl ⟨y1, y2, (upd_ne (ne_of_none y39 n10)).trans y39, (upd_ne (ne_of_none y49 n10)).trans y49⟩ (.inl upd_same) (ne_of_none y39 n10).symm (ne_of_none y49 n10).symm (okb_sub ok s10) (by omega) fun H10 r10 ur10 g1x k10 hr10 tr10 fd10 hg10 => ?_
      have kA10 : Kp M0 H7 (upd H9 p10 (.lst (y10.map V.int))) := kk9.trans ((Kp.refl.new n10).mono fun a z => absurd z List.not_mem_nil)
      have kk10 := kA10.drop k10 fun a z => inM2 iF1 w1 z
      have u1 := nx kA10 w1 hg10
      have x3' : upd H9 p10 (.lst (y10.map V.int)) F2 = _ := (upd_ne (ne_of_none x3 n10)).trans x3
      have x4' : upd H9 p10 (.lst (y10.map V.int)) g2' = _ := (upd_ne (ne_of_none x4 n10)).trans x4
      have u5 := nN (by rw [x3']; exact fun z => nomatch z) w5 hg10
      have u7 := nN (by rw [x4']; exact fun z => nomatch z) v7.symm hg10
      have x310 := k10.at_ (n2' F12.symm w5.symm) x3'
      have x410 := k10.at_ (n2' v5 v7) x4'
      have hD10 := kk10.at_ oD hD7
      obtain ⟨a1, a2, a3, a4⟩ := fd10
      walk_at "go"
      rename_i p11 y11 e11 l11 s11 n11
      refine ⟨p11, y11, rfl, .inl upd_same, okb_sub ok s11, by omega, fun H11 r11 ur11 nr11 k11 hr11 tr11 => ?_⟩
      have k1011 : Kp [] H10 H11 := (Kp.refl.new n11).trans k11
      refine neTls_go (ts := unst y10) (k1011.at_ List.not_mem_nil hr10) hr11 (tr10.mono fun v t _ _ z => z.kp0 k1011) (by rw [e10, ← e11]; exact at0 (ofT (M := []) tr11 fun a z => absurd z List.not_mem_nil)) ?_
      have kk11 := kk10.trans (k1011.mono fun a z => absurd z List.not_mem_nil)
      have a311 := k1011.at_ List.not_mem_nil a3
      have a411 := k1011.at_ List.not_mem_nil a4
      have x311 := k1011.at_ List.not_mem_nil x310
      have x411 := k1011.at_ List.not_mem_nil x410
      walk_at "go"
      refine fd_go K O (i := 10) (F := F1) (h := g1x) (bs := late) rfl ⟨a1, a2, a311, a411⟩ (.inl (kk11.at_ oL hL7)) (so hL7 oL (.inl iF1)) (so hL7 oL u1) okl (by omega) fun H12 r12 ur12 g1y k12 hr12 tr12 fd12 hg12 => ?_
      have kk12 := kk11.drop k12 fun a z => inM2 iF1 u1 z
      have x312 := k12.at_ (n2' F12.symm u5.symm) x311
      have x412 := k12.at_ (n2' v5 u7.symm) x411
      refine ⟨_, rfl, ?_⟩
      refine eqTls_go (ts := unst late) hr12 (kk12.at_ oW2 hW27) (tls_none tr12) (tls_none (at0 (swapT (N := []) tB7 kk12 fun a z => absurd z List.not_mem_nil))) ?_
      walk_at "go"
      refine fd_go K O (i := 11) (F := F2) (h := g2') (bs := bs) rfl ⟨x1, x2, x312, x412⟩ (.inl (kk12.at_ oD hD7)) (so hD7 oD (.inl iF2)) (so hD7 oD v1) ok (by omega) fun H13 r13 ur13 g2y k13 hr13 tr13 fd13 hg13 => ?_
      have kk13 := kk12.drop k13 fun a z => inM2 iF2 v1 z
      refine ⟨_, rfl, ?_⟩
      refine eqTls_go (ts := unst bs) hr13 (kk13.at_ oW1 hW17) (tls_none tr13) (tls_none (at0 (swapT (N := []) tA7 kk13 fun a z => absurd z List.not_mem_nil))) ?_
      exact q _
theorem law_end (K : PySem.W.Frag) (H : Hp) (a : Addr) (ns : List Int) (hl : ns.length ≤ 63) (hb : ∀ z ∈ ns, Builtin.Int.intBits z ≤ 1048576) (hS : SqL K H a (ns.map V.int)) : sp_law K [.ref a] H (fun v _ => v = .bl true) fun _ _ _ => False :=
  ⟨a, ns, rfl, hS, hl, fun _ => rfl⟩
end K54

namespace K54
open PySem PySem.Spec PyProof.Rows L2 Kb Stm
def topS (i : Nat) : Stmt := PySem.Challenge.pw_thingwires_k54_whole_fed_in_pieces.main.body.getD i (.Pass ⟨0, 0, 0, 0⟩)
abbrev s_NoBytes___init__ : Stmt := inClass (topS 2) 0
abbrev s_is_bytes : Stmt := topS 4
abbrev s_checked : Stmt := topS 8
abbrev s_in_runs : Stmt := topS 9
abbrev s_out_of_runs : Stmt := topS 10
abbrev s_piece_told : Stmt := topS 11
abbrev s_streamed : Stmt := topS 12
abbrev s_Feeder___init__ : Stmt := inClass (topS 13) 0
abbrev s_Feeder_feed : Stmt := inClass (topS 13) 1
abbrev s_Feeder_done : Stmt := inClass (topS 13) 2
abbrev s_unstreamed : Stmt := topS 14
abbrev s_law_take : Stmt := topS 16
abbrev s_law_block : Stmt := topS 17
abbrev s_law_ended : Stmt := topS 18
abbrev s_law_wrong : Stmt := topS 19
abbrev s_law_refused : Stmt := topS 20
abbrev s_law_fed : Stmt := topS 21
abbrev s_law_rest : Stmt := topS 22
abbrev s_law : Stmt := topS 23
structure Txt (K : PySem.W.Frag) (mg : Str → Option Value) (C : Addr) : Prop where
  m_ValueError : mg "ValueError" = none
  m_bool : mg "bool" = none
  m_enumerate : mg "enumerate" = none
  m_int : mg "int" = none
  m_isinstance : mg "isinstance" = none
  m_len : mg "len" = none
  m_list : mg "list" = none
  m_range : mg "range" = none
  m_tuple : mg "tuple" = none
  c_PRIME : ∃ t, mg "PRIME" = some (.int 65521 t)
  c_LONGEST : ∃ t, mg "LONGEST" = some (.int 254 t)
  g_WireError : mg "WireError" = some (.ref (cAt K "WireError"))
  g_NoBytes : mg "NoBytes" = some (.ref (cAt K "NoBytes"))
  x_NoBytes : XCls K (cAt K "NoBytes")
  xn_NoBytes_why : PySem.W.findIn K (.ref (cAt K "NoBytes")) "why" = some none
  kit_NoBytes_WireError : PySem.W.kitOne K (.ref (cAt K "NoBytes")) (.ref (cAt K "WireError")) = some true
  kit_NoBytes_ValueError : PySem.W.kitOne K (.ref (cAt K "NoBytes")) (.type "ValueError") = some true
  exm_NoBytes_NoBytes : PySem.W.exmOne K (.ref (cAt K "NoBytes")) (.ref (cAt K "NoBytes")) = some true
  xk : XK2 K
  own : Own K C
  g_Feeder : mg "Feeder" = some (.ref C)
  mk_Feeder : PySem.W.makesIn K C = true
  kc_Feeder : PySem.W.keepIn K (.ref C) = true
  ca_Feeder : cAt K "Feeder" = C
  d_NoBytes___init__ : DefI K (cAt K "NoBytes") s_NoBytes___init__ "NoBytes.__init__"
  d_is_bytes : Def K mg s_is_bytes "is_bytes"
  d_checked : Def K mg s_checked "checked"
  d_in_runs : Def K mg s_in_runs "in_runs"
  d_out_of_runs : Def K mg s_out_of_runs "out_of_runs"
  d_piece_told : Def K mg s_piece_told "piece_told"
  d_streamed : Def K mg s_streamed "streamed"
  d_Feeder___init__ : DefM K C s_Feeder___init__ "__init__" "Feeder.__init__"
  d_Feeder_feed : DefM K C s_Feeder_feed "feed" "Feeder.feed"
  d_Feeder_done : DefM K C s_Feeder_done "done" "Feeder.done"
  d_unstreamed : Def K mg s_unstreamed "unstreamed"
  d_law_take : Def K mg s_law_take "_law_take"
  d_law_block : Def K mg s_law_block "_law_block"
  d_law_ended : Def K mg s_law_ended "_law_ended"
  d_law_wrong : Def K mg s_law_wrong "_law_wrong"
  d_law_refused : Def K mg s_law_refused "_law_refused"
  d_law_fed : Def K mg s_law_fed "_law_fed"
  d_law_rest : Def K mg s_law_rest "_law_rest"
  d_law : Def K mg s_law "law"
theorem sc_NoBytes___init__ : FnScope ["self", "why"] ["self", "why"] (defScope s_NoBytes___init__) := ⟨rfl, rfl, rfl, by decide +kernel, rfl, by decide +kernel, by decide +kernel⟩
theorem ok_NoBytes___init__ {P : Program} {w : World} {K : PySem.W.Frag} {mg : Str → Option Value} {base : Heap} {C : Addr} (T : Txt K mg C) : CalI P w K mg base 1 (cAt K "NoBytes") ["self", "why"] (sp_NoBytes___init__ K) := by
  refine CalI.of (st := s_NoBytes___init__) T.d_NoBytes___init__ sc_NoBytes___init__ (fun _ _ _ _ _ _ us hl => match us, hl with | [_, _], _ => rfl) (len_NoBytes___init__ K) fun f cdv A outer s H vs Q E hr h => ⟨t_NoBytes___init__ K, ?_, p_NoBytes___init__ K T.x_NoBytes T.xn_NoBytes_why vs H Q E h⟩
  exact (pss_one (ps_ost (pv 0) (pv 1) rfl))

theorem sc_is_bytes : FnScope ["data", "byte"] ["data"] (defScope s_is_bytes) := ⟨rfl, rfl, rfl, by decide +kernel, rfl, by decide +kernel, by decide +kernel⟩
theorem ok_is_bytes {P : Program} {w : World} {K : PySem.W.Frag} {mg : Str → Option Value} {base : Heap} {C : Addr} (T : Txt K mg C) : Cal P w K mg base CX0 1 "is_bytes" ["data"] (sp_is_bytes K) := by
  refine Cal.of (st := s_is_bytes) T.d_is_bytes sc_is_bytes (fun _ _ _ _ _ _ us hl => match us, hl with | [_], _ => rfl) (len_is_bytes K) fun f cdv A outer s H vs Q E hr h => ⟨t_is_bytes K, ?_, p_is_bytes K vs H Q E h⟩
  exact (pss_cons (ps_if (pt_not (pt_truth (pe_callB u_isi (by rfl) T.m_isinstance (by decide +kernel) (pa_cons (pv 0) (pa_cons (pe_tup (pa_cons (pe_bltn (v := .ty "list") (by rfl) T.m_list (by decide +kernel) rfl) (pa_cons (pe_bltn (v := .ty "tuple") (by rfl) T.m_tuple (by decide +kernel) rfl) pa_nil))) pa_nil))) (by intro _; rfl)))
 (pss_one (ps_ret pe_bl))
 pss_nil)
 (pss_cons (ps_for PassesOwn.never rfl (pi_seq (pv 0)) (pg_name (i := 1) sc_is_bytes.nd rfl (by first | exact Or.inl rfl | exact Or.inr rfl))
 (pss_one (ps_if (PW.pt (pw_or (pt_not (pt_truth (pe_callB u_isi (by rfl) T.m_isinstance (by decide +kernel) (pa_cons (pv 1) (pa_cons (pe_bltn (v := .ty "int") (by rfl) T.m_int (by decide +kernel) rfl) pa_nil))) (by intro _; rfl))) (pw_or (pt_truth (pe_callB u_isi (by rfl) T.m_isinstance (by decide +kernel) (pa_cons (pv 1) (pa_cons (pe_bltn (v := .ty "bool") (by rfl) T.m_bool (by decide +kernel) rfl) pa_nil))) (by intro _; rfl)) (pw_or (pt_cmpR u_lt (pv 1) pe_int (nomark _)) (pw_or1 (pt_cmpR u_gt (pv 1) pe_int (nomark _)))))))
 (pss_one (ps_ret pe_bl))
 pss_nil)))
 (pss_one (ps_ret pe_bl))))

theorem sc_checked : FnScope ["part", "total", "weighed", "number", "byte"] ["part"] (defScope s_checked) := ⟨rfl, rfl, rfl, by decide +kernel, rfl, by decide +kernel, by decide +kernel⟩
theorem ok_checked {P : Program} {w : World} {K : PySem.W.Frag} {mg : Str → Option Value} {base : Heap} {C : Addr} (T : Txt K mg C) : Cal P w K mg base CX0 1 "checked" ["part"] (sp_checked K) := by
  refine Cal.of (st := s_checked) T.d_checked sc_checked (fun _ _ _ _ _ _ us hl => match us, hl with | [_], _ => rfl) (len_checked K) fun f cdv A outer s H vs Q E hr h => ⟨t_checked K, ?_, p_checked K vs H Q E h⟩
  exact (pss_cons (ps_asg2 pe_int (pg_name (i := 1) sc_checked.nd rfl (by first | exact Or.inl rfl | exact Or.inr rfl)) (pg_name (i := 2) sc_checked.nd rfl (by first | exact Or.inl rfl | exact Or.inr rfl)))
 (pss_cons (ps_for PassesOwn.never rfl (pi_enumS (by rfl) T.m_enumerate (pa_cons (pv 0) pa_nil) pe_int) (pg_tup (by rfl) (pgs_cons (pg_name (i := 3) sc_checked.nd rfl (by first | exact Or.inl rfl | exact Or.inr rfl)) (pgs_cons (pg_name (i := 4) sc_checked.nd rfl (by first | exact Or.inl rfl | exact Or.inr rfl)) pgs_nil)))
 (pss_cons (ps_aug (i := 1) sc_checked.nd rfl (by first | exact Or.inl rfl | exact Or.inr rfl) (pv 4) u_iadd)
 (pss_one (ps_aug (i := 2) sc_checked.nd rfl (by first | exact Or.inl rfl | exact Or.inr rfl) (pe_op u_mul (pv 3) (pv 4)) u_iadd))))
 (pss_cons (ps_aug (i := 1) sc_checked.nd rfl (by first | exact Or.inl rfl | exact Or.inr rfl) (pe_gint (by rfl) T.c_PRIME) u_imod)
 (pss_cons (ps_aug (i := 2) sc_checked.nd rfl (by first | exact Or.inl rfl | exact Or.inr rfl) (pe_gint (by rfl) T.c_PRIME) u_imod)
 (pss_one (ps_ret (pe_op u_add (pe_callTy u_list (by rfl) T.m_list (by decide +kernel) (pa_cons (pv 0) pa_nil)) (pe_lst (pa_cons (pe_op u_div (pv 1) pe_int) (pa_cons (pe_op u_mod (pv 1) pe_int) (pa_cons (pe_op u_div (pv 2) pe_int) (pa_cons (pe_op u_mod (pv 2) pe_int) pa_nil))))))))))))

theorem sc_in_runs : FnScope ["data", "found", "run", "byte"] ["data"] (defScope s_in_runs) := ⟨rfl, rfl, rfl, by decide +kernel, rfl, by decide +kernel, by decide +kernel⟩
theorem ok_in_runs {P : Program} {w : World} {K : PySem.W.Frag} {mg : Str → Option Value} {base : Heap} {C : Addr} (T : Txt K mg C) : Cal P w K mg base CX0 1 "in_runs" ["data"] (sp_in_runs K) := by
  refine Cal.of (st := s_in_runs) T.d_in_runs sc_in_runs (fun _ _ _ _ _ _ us hl => match us, hl with | [_], _ => rfl) (len_in_runs K) fun f cdv A outer s H vs Q E hr h => ⟨t_in_runs K, ?_, p_in_runs K vs H Q E h⟩
  exact (pss_cons (ps_set (i := 1) sc_in_runs.nd rfl (by first | exact Or.inl rfl | exact Or.inr rfl) (pe_lst pa_nil))
 (pss_cons (ps_set (i := 2) sc_in_runs.nd rfl (by first | exact Or.inl rfl | exact Or.inr rfl) (pe_lst pa_nil))
 (pss_cons (ps_for PassesOwn.never rfl (pi_list (pv 0)) (pg_name (i := 3) sc_in_runs.nd rfl (by first | exact Or.inl rfl | exact Or.inr rfl))
 (pss_cons (ps_if (pt_cmpR (u_ne hr.units) (pv 3) pe_int (nomark _))
 (pss_one (ps_expr (pe_bm PySem.F.plainAttrs_list PySem.F.slot_list_append PySem.F.type_list_append u_append (pv 2) (pa_cons (pv 3) pa_nil))))
 pss_nil)
 (pss_one (ps_if (PW.pt (pw_or (pt_cmpR (u_eq hr.units) (pv 3) pe_int (nomark _)) (pw_or1 (pt_cmpR (u_eq hr.units) (pe_callB u_len (by rfl) T.m_len PySem.boot_len (pa_cons (pv 2) pa_nil)) (pe_gint (by rfl) T.c_LONGEST) (nomark _)))))
 (pss_cons (ps_aug (i := 1) sc_in_runs.nd rfl (by first | exact Or.inl rfl | exact Or.inr rfl) (pe_op u_add (pe_lst (pa_cons (pe_op u_add (pe_callB u_len (by rfl) T.m_len PySem.boot_len (pa_cons (pv 2) pa_nil)) pe_int) pa_nil)) (pv 2)) u_iadd)
 (pss_one (ps_set (i := 2) sc_in_runs.nd rfl (by first | exact Or.inl rfl | exact Or.inr rfl) (pe_lst pa_nil))))
 pss_nil))))
 (pss_cons (ps_if (PW.pt (pw_or (pt_cmpR (u_ne hr.units) (pv 2) (pe_lst pa_nil) (nomark _)) (pw_or (pt_cmpR (u_eq hr.units) (pv 0) (pe_lst pa_nil) (nomark _)) (pw_or1 (pt_cmpR (u_eq hr.units) (pe_ix u_ix (pv 0) (pe_un u_neg pe_int) (fun _ _ => rfl)) pe_int (nomark _))))))
 (pss_one (ps_aug (i := 1) sc_in_runs.nd rfl (by first | exact Or.inl rfl | exact Or.inr rfl) (pe_op u_add (pe_lst (pa_cons (pe_op u_add (pe_callB u_len (by rfl) T.m_len PySem.boot_len (pa_cons (pv 2) pa_nil)) pe_int) pa_nil)) (pv 2)) u_iadd))
 pss_nil)
 (pss_one (ps_ret (pv 1)))))))

theorem sc_out_of_runs : FnScope ["piece", "found", "at", "size"] ["piece"] (defScope s_out_of_runs) := ⟨rfl, rfl, rfl, by decide +kernel, rfl, by decide +kernel, by decide +kernel⟩
theorem ok_out_of_runs {P : Program} {w : World} {K : PySem.W.Frag} {mg : Str → Option Value} {base : Heap} {C : Addr} (T : Txt K mg C) : Cal P w K mg base CX0 1 "out_of_runs" ["piece"] (sp_out_of_runs K) := by
  refine Cal.of (st := s_out_of_runs) T.d_out_of_runs sc_out_of_runs (fun _ _ _ _ _ _ us hl => match us, hl with | [_], _ => rfl) (len_out_of_runs K) fun f cdv A outer s H vs Q E hr h => ⟨t_out_of_runs K, ?_, p_out_of_runs K vs H Q E h⟩
  exact (pss_cons (ps_set (i := 1) sc_out_of_runs.nd rfl (by first | exact Or.inl rfl | exact Or.inr rfl) (pe_lst pa_nil))
 (pss_cons (ps_set (i := 2) sc_out_of_runs.nd rfl (by first | exact Or.inl rfl | exact Or.inr rfl) pe_int)
 (pss_cons (ps_while PassesOwn.never (pt_cmpR u_lt (pv 2) (pe_callB u_len (by rfl) T.m_len PySem.boot_len (pa_cons (pv 0) pa_nil)) (nomark _))
 (pss_cons (ps_set (i := 3) sc_out_of_runs.nd rfl (by first | exact Or.inl rfl | exact Or.inr rfl) (pe_ix u_ix (pv 0) (pv 2) (fun _ _ => rfl)))
 (pss_cons (ps_if (pt_cmpR u_gt (pe_op u_add (pv 2) (pv 3)) (pe_callB u_len (by rfl) T.m_len PySem.boot_len (pa_cons (pv 0) pa_nil)) (nomark _))
 (pss_one (ps_ret pe_non))
 pss_nil)
 (pss_cons (ps_aug (i := 1) sc_out_of_runs.nd rfl (by first | exact Or.inl rfl | exact Or.inr rfl) (pe_slice u_slL (pv 0) (po_some (pe_op u_add (pv 2) pe_int)) (po_some (pe_op u_add (pv 2) (pv 3)))) u_iadd)
 (pss_cons (ps_aug (i := 2) sc_out_of_runs.nd rfl (by first | exact Or.inl rfl | exact Or.inr rfl) (pv 3) u_iadd)
 (pss_one (ps_if (PW.pt (pw_and (pt_cmpR u_le (pv 3) (pe_gint (by rfl) T.c_LONGEST) (nomark _)) (pw_and1 (pt_cmpR u_lt (pv 2) (pe_callB u_len (by rfl) T.m_len PySem.boot_len (pa_cons (pv 0) pa_nil)) (nomark _)))))
 (pss_one (ps_expr (pe_bm PySem.F.plainAttrs_list PySem.F.slot_list_append PySem.F.type_list_append u_append (pv 1) (pa_cons pe_int pa_nil))))
 pss_nil)))))))
 (pss_one (ps_ret (pv 1))))))

theorem sc_piece_told : FnScope ["piece", "place", "data"] ["piece", "place"] (defScope s_piece_told) := ⟨rfl, rfl, rfl, by decide +kernel, rfl, by decide +kernel, by decide +kernel⟩
theorem ok_piece_told {P : Program} {w : World} {K : PySem.W.Frag} {mg : Str → Option Value} {base : Heap} {C : Addr} (T : Txt K mg C) : Cal P w K mg base CX0 2 "piece_told" ["piece", "place"] (sp_piece_told K) := by
  refine Cal.of (st := s_piece_told) T.d_piece_told sc_piece_told (fun _ _ _ _ _ _ us hl => match us, hl with | [_, _], _ => rfl) (len_piece_told K) fun f cdv A outer s H vs Q E hr h => ⟨t_piece_told K, ?_, p_piece_told K vs H Q E h⟩
  exact (pss_cons (ps_set (i := 2) sc_piece_told.nd rfl (by first | exact Or.inl rfl | exact Or.inr rfl) (pe_callC (ok_out_of_runs T) (hr.mono (by decide)) (by rfl) pass0 (pa_cons (pv 0) pa_nil)))
 (pss_cons (ps_if (PW.pt (pw_or (pt_cmpR u_isN (pv 2) pe_non (nomark _)) (pw_or (pt_cmpR u_lt (pe_callB u_len (by rfl) T.m_len PySem.boot_len (pa_cons (pv 2) pa_nil)) pe_int (nomark _)) (pw_or1 (pt_cmpR (u_ne hr.units) (pe_callC (ok_checked T) (hr.mono (by decide)) (by rfl) pass0 (pa_cons (pe_slice u_slL (pv 2) po_none (po_some (pe_un u_neg pe_int))) pa_nil)) (pv 2) (nomark _))))))
 (pss_one (ps_ret (pe_tup (pa_cons pe_str (pa_cons (pv 1) (pa_cons (pe_callB u_len (by rfl) T.m_len PySem.boot_len (pa_cons (pv 0) pa_nil)) pa_nil))))))
 pss_nil)
 (pss_one (ps_ret (pe_tup (pa_cons pe_str (pa_cons (pv 1) (pa_cons (pe_slice u_slL (pv 2) po_none (po_some (pe_un u_neg pe_int))) pa_nil))))))))

theorem sc_streamed : FnScope ["parts", "found", "part"] ["parts"] (defScope s_streamed) := ⟨rfl, rfl, rfl, by decide +kernel, rfl, by decide +kernel, by decide +kernel⟩
theorem ok_streamed {P : Program} {w : World} {K : PySem.W.Frag} {mg : Str → Option Value} {base : Heap} {C : Addr} (T : Txt K mg C) : Cal P w K mg base CX0 2 "streamed" ["parts"] (sp_streamed K) := by
  refine Cal.of (st := s_streamed) T.d_streamed sc_streamed (fun _ _ _ _ _ _ us hl => match us, hl with | [_], _ => rfl) (len_streamed K) fun f cdv A outer s H vs Q E hr h => ⟨t_streamed K, ?_, p_streamed K vs H Q E h⟩
  exact (pss_cons (ps_set (i := 1) sc_streamed.nd rfl (by first | exact Or.inl rfl | exact Or.inr rfl) (pe_lst pa_nil))
 (pss_cons (ps_for PassesOwn.never rfl (pi_seq (pv 0)) (pg_name (i := 2) sc_streamed.nd rfl (by first | exact Or.inl rfl | exact Or.inr rfl))
 (pss_cons (ps_if (pt_not (pt_truth (pe_callC (ok_is_bytes T) (hr.mono (by decide)) (by rfl) pass0 (pa_cons (pv 2) pa_nil)) (by intro _; rfl)))
 (pss_one ps_never)
 pss_nil)
 (pss_one (ps_aug (i := 1) sc_streamed.nd rfl (by first | exact Or.inl rfl | exact Or.inr rfl) (pe_op u_add (pe_callC (ok_in_runs T) (hr.mono (by decide)) (by rfl) pass0 (pa_cons (pe_callC (ok_checked T) (hr.mono (by decide)) (by rfl) pass0 (pa_cons (pv 2) pa_nil)) pa_nil)) (pe_lst (pa_cons pe_int pa_nil))) u_iadd))))
 (pss_one (ps_ret (pv 1)))))

theorem sc_Feeder___init__ : FnScope ["self"] ["self"] (defScope s_Feeder___init__) := ⟨rfl, rfl, rfl, by decide +kernel, rfl, by decide +kernel, by decide +kernel⟩
theorem ok_Feeder___init__ {P : Program} {w : World} {K : PySem.W.Frag} {mg : Str → Option Value} {base : Heap} {C : Addr} (T : Txt K mg C) : CalM P w K mg base CX0 1 C "__init__" ["self"] (sp_Feeder___init__ K C) := by
  refine CalM.of (st := s_Feeder___init__) T.d_Feeder___init__ sc_Feeder___init__ (fun _ _ _ _ _ _ us hl => match us, hl with | [_], _ => rfl) (len_Feeder___init__ K C) fun f cdv A outer s H vs Q E hr h => ⟨t_Feeder___init__ K C, ?_, p_Feeder___init__ K C T.own vs H Q E h⟩
  exact (pss_cons (ps_fldU (pv 0) (pe_lst pa_nil) rfl)
 (pss_one (ps_fldU (pv 0) pe_int rfl)))

theorem sc_Feeder_feed : FnScope ["self", "data", "found", "byte"] ["self", "data"] (defScope s_Feeder_feed) := ⟨rfl, rfl, rfl, by decide +kernel, rfl, by decide +kernel, by decide +kernel⟩
theorem ok_Feeder_feed {P : Program} {w : World} {K : PySem.W.Frag} {mg : Str → Option Value} {base : Heap} {C : Addr} (T : Txt K mg C) : CalM P w K mg base (L2.CX P w) 3 C "feed" ["self", "data"] (sp_Feeder_feed K C) := by
  refine CalM.ofX (st := s_Feeder_feed) T.d_Feeder_feed sc_Feeder_feed (fun _ _ _ _ _ _ us hl => match us, hl with | [_, _], _ => rfl) (len_Feeder_feed K C) fun f cdv A outer s H vs Q E hr h => ⟨t_Feeder_feed K C E, ?_, p_Feeder_feed K C T.own vs H Q E h⟩
  exact (pss_cons (ps_if (pt_not (pt_truth (pe_callC (ok_is_bytes T) (hr.mono (by decide)) (by rfl) pass0 (pa_cons (pv 1) pa_nil)) (by intro _; rfl)))
 (pss_one (ps_raiseI rfl T.x_NoBytes (ok_NoBytes___init__ T) (hr.mono (by decide)) (takes_of rfl rfl rfl rfl) (by rfl) T.g_NoBytes (pa_cons pe_str pa_nil)))
 pss_nil)
 (pss_cons (ps_set (i := 2) sc_Feeder_feed.nd rfl (by first | exact Or.inl rfl | exact Or.inr rfl) (pe_lst pa_nil))
 (pss_cons (ps_for (passes_of rfl) rfl (pi_seq (pv 1)) (pg_name (i := 3) sc_Feeder_feed.nd rfl (by first | exact Or.inl rfl | exact Or.inr rfl))
 (pss_cons (ps_if (pt_cmpR (u_ne hr.units) (pv 3) pe_int (nomark _))
 (pss_cons (ps_expr (pe_bm PySem.F.plainAttrs_list PySem.F.slot_list_append PySem.F.type_list_append u_append (pe_fldU (pv 0) (by rfl)) (pa_cons (pv 3) pa_nil)))
 (pss_one ps_continue))
 pss_nil)
 (pss_cons (ps_if (pt_cmpR (u_ne hr.units) (pe_fldU (pv 0) (by rfl)) (pe_lst pa_nil) (nomark _))
 (pss_one (ps_expr (pe_bm PySem.F.plainAttrs_list PySem.F.slot_list_append PySem.F.type_list_append u_append (pv 2) (pa_cons (pe_callC (ok_piece_told T) (hr.mono (by decide)) (by rfl) pass0 (pa_cons (pe_fldU (pv 0) (by rfl)) (pa_cons (pe_fldU (pv 0) (by rfl)) pa_nil))) pa_nil))))
 pss_nil)
 (pss_cons (ps_fldaugU (pv 0) (pe_op u_add (pe_callB u_len (by rfl) T.m_len PySem.boot_len (pa_cons (pe_fldU (pv 0) (by rfl)) pa_nil)) pe_int) u_iadd)
 (pss_one (ps_fldU (pv 0) (pe_lst pa_nil) rfl))))))
 (pss_one (ps_ret (pv 2))))))

theorem sc_Feeder_done : FnScope ["self", "found"] ["self"] (defScope s_Feeder_done) := ⟨rfl, rfl, rfl, by decide +kernel, rfl, by decide +kernel, by decide +kernel⟩
theorem ok_Feeder_done {P : Program} {w : World} {K : PySem.W.Frag} {mg : Str → Option Value} {base : Heap} {C : Addr} (T : Txt K mg C) : CalM P w K mg base CX0 1 C "done" ["self"] (sp_Feeder_done K C) := by
  refine CalM.of (st := s_Feeder_done) T.d_Feeder_done sc_Feeder_done (fun _ _ _ _ _ _ us hl => match us, hl with | [_], _ => rfl) (len_Feeder_done K C) fun f cdv A outer s H vs Q E hr h => ⟨t_Feeder_done K C, ?_, p_Feeder_done K C T.own vs H Q E h⟩
  exact (pss_cons (ps_set (i := 1) sc_Feeder_done.nd rfl (by first | exact Or.inl rfl | exact Or.inr rfl) (pe_lst pa_nil))
 (pss_cons (ps_if (pt_cmpR (u_ne hr.units) (pe_fldU (pv 0) (by rfl)) (pe_lst pa_nil) (nomark _))
 (pss_one (ps_expr (pe_bm PySem.F.plainAttrs_list PySem.F.slot_list_append PySem.F.type_list_append u_append (pv 1) (pa_cons (pe_tup (pa_cons pe_str (pa_cons (pe_fldU (pv 0) (by rfl)) (pa_cons (pe_callB u_len (by rfl) T.m_len PySem.boot_len (pa_cons (pe_fldU (pv 0) (by rfl)) pa_nil)) pa_nil)))) pa_nil))))
 pss_nil)
 (pss_cons (ps_fldU (pv 0) (pe_lst pa_nil) rfl)
 (pss_cons (ps_fldU (pv 0) pe_int rfl)
 (pss_one (ps_ret (pv 1)))))))

theorem sc_unstreamed : FnScope ["data", "feeder"] ["data"] (defScope s_unstreamed) := ⟨rfl, rfl, rfl, by decide +kernel, rfl, by decide +kernel, by decide +kernel⟩
theorem ok_unstreamed {P : Program} {w : World} {K : PySem.W.Frag} {mg : Str → Option Value} {base : Heap} {C : Addr} (T : Txt K mg C) : Cal P w K mg base CX0 4 "unstreamed" ["data"] (sp_unstreamed K) := by
  refine Cal.of (st := s_unstreamed) T.d_unstreamed sc_unstreamed (fun _ _ _ _ _ _ us hl => match us, hl with | [_], _ => rfl) (len_unstreamed K) fun f cdv A outer s H vs Q E hr h => ⟨t_unstreamed K C, ?_, p_unstreamed K C T.own vs H Q E h⟩
  exact (pss_cons (ps_set (i := 1) sc_unstreamed.nd rfl (by first | exact Or.inl rfl | exact Or.inr rfl) (pe_makeM0 T.mk_Feeder T.kc_Feeder (ok_Feeder___init__ T) (hr.mono (by decide)) (by rfl) T.g_Feeder pass0))
 (pss_one (ps_ret (pe_op u_add (pe_methM (pv 1) T.own.cl (ok_Feeder_feed T) (hr.mono (by decide)) passL (pa_cons (pv 0) pa_nil)) (pe_methM0 (pv 1) T.own.cl (ok_Feeder_done T) (hr.mono (by decide)) pass0)))))

theorem sc_law_take : FnScope ["_law_state", "_law_many", "_law_cell", "_law_digit", "_law_one"] ["_law_state", "_law_many"] (defScope s_law_take) := ⟨rfl, rfl, rfl, by decide +kernel, rfl, by decide +kernel, by decide +kernel⟩
theorem ok_law_take {P : Program} {w : World} {K : PySem.W.Frag} {mg : Str → Option Value} {base : Heap} {C : Addr} (T : Txt K mg C) : Cal P w K mg base CX0 1 "_law_take" ["_law_state", "_law_many"] (sp_law_take K) := by
  refine Cal.of (st := s_law_take) T.d_law_take sc_law_take (fun _ _ _ _ _ _ us hl => match us, hl with | [_, _], _ => rfl) (len_law_take K) fun f cdv A outer s H vs Q E hr h => ⟨t_law_take K, ?_, p_law_take K vs H Q E h⟩
  exact (pss_cons (ps_if (PW.pt (pw_and (pt_cmpR (u_eq hr.units) (pe_ix u_ix (pv 0) pe_int (fun _ _ => rfl)) pe_int (nomark _)) (pw_and (pt_cmpR (u_eq hr.units) (pe_op u_mod (pe_ix u_ix (pv 0) pe_int (fun _ _ => rfl)) pe_int) pe_int (nomark _)) (pw_and1 (pt_cmpR (u_ne hr.units) (pe_ix u_ix (pv 0) pe_int (fun _ _ => rfl)) (pe_lst pa_nil) (nomark _))))))
 (pss_cons (ps_set (i := 2) sc_law_take.nd rfl (by first | exact Or.inl rfl | exact Or.inr rfl) (pe_bm PySem.F.plainAttrs_list PySem.F.slot_list_pop PySem.F.type_list_pop u_pop (pe_ix u_ix (pv 0) pe_int (fun _ _ => rfl)) (pa_cons pe_int pa_nil)))
 (pss_cons (ps_if (pt_cmpR u_lt (pv 2) pe_int (nomark _))
 (pss_one (ps_set (i := 2) sc_law_take.nd rfl (by first | exact Or.inl rfl | exact Or.inr rfl) (pe_op u_sub pe_int (pe_op u_mul pe_int (pv 2)))))
 pss_nil)
 (pss_one (ps_if (pt_cmpR u_ge (pv 2) (pe_op u_pow pe_int pe_int) (nomark _))
 (pss_one (ps_asg (pv 2) (pg_sub (pv 0) pe_int u_set)))
 (pss_one (ps_asg (pe_op u_mod (pe_op u_add (pe_op u_mul (pe_ix u_ix (pv 0) pe_int (fun _ _ => rfl)) pe_int) (pv 2)) pe_int) (pg_sub (pv 0) pe_int u_set)))))))
 pss_nil)
 (pss_cons (ps_if (pt_cmpR u_gt (pe_ix u_ix (pv 0) pe_int (fun _ _ => rfl)) pe_int (nomark _))
 (pss_cons (ps_set (i := 3) sc_law_take.nd rfl (by first | exact Or.inl rfl | exact Or.inr rfl) (pe_op u_mod (pe_ix u_ix (pv 0) pe_int (fun _ _ => rfl)) (pv 1)))
 (pss_cons (ps_asg (pe_op u_div (pe_ix u_ix (pv 0) pe_int (fun _ _ => rfl)) (pv 1)) (pg_sub (pv 0) pe_int u_set))
 (pss_one (ps_ret (pv 3)))))
 pss_nil)
 (pss_cons (ps_asg (pe_op u_add (pe_ix u_ix (pv 0) pe_int (fun _ _ => rfl)) pe_int) (pg_sub (pv 0) pe_int u_set))
 (pss_cons (ps_set (i := 4) sc_law_take.nd rfl (by first | exact Or.inl rfl | exact Or.inr rfl) (pe_op u_mod (pe_op u_add (pe_ix u_ix (pv 0) pe_int (fun _ _ => rfl)) (pe_op u_mul pe_int (pe_ix u_ix (pv 0) pe_int (fun _ _ => rfl)))) pe_int))
 (pss_cons (ps_set (i := 4) sc_law_take.nd rfl (by first | exact Or.inl rfl | exact Or.inr rfl) (pe_op u_mod (pe_op u_pow (pv 4) pe_int) pe_int))
 (pss_cons (ps_set (i := 4) sc_law_take.nd rfl (by first | exact Or.inl rfl | exact Or.inr rfl) (pe_op u_mod (pe_op u_mul (pv 4) (pe_op u_add (pe_op u_div (pv 4) pe_int) pe_int)) pe_int))
 (pss_one (ps_ret (pe_op u_mod (pe_op u_div (pv 4) pe_int) (pv 1))))))))))

theorem sc_law_block : FnScope ["_law_state", "_law_way", "_law_part", "_law_block_here", "_law_at", "_law_k"] ["_law_state"] (defScope s_law_block) := ⟨rfl, rfl, rfl, by decide +kernel, rfl, by decide +kernel, by decide +kernel⟩
theorem ok_law_block {P : Program} {w : World} {K : PySem.W.Frag} {mg : Str → Option Value} {base : Heap} {C : Addr} (T : Txt K mg C) : Cal P w K mg base CX0 3 "_law_block" ["_law_state"] (sp_law_block K) := by
  refine Cal.of (st := s_law_block) T.d_law_block sc_law_block (fun _ _ _ _ _ _ us hl => match us, hl with | [_], _ => rfl) (len_law_block K) fun f cdv A outer s H vs Q E hr h => ⟨t_law_block K, ?_, p_law_block K vs H Q E h⟩
  exact (pss_cons (ps_set (i := 1) sc_law_block.nd rfl (by first | exact Or.inl rfl | exact Or.inr rfl) (pe_callC (ok_law_take T) (hr.mono (by decide)) (by rfl) pass0 (pa_cons (pv 0) (pa_cons pe_int pa_nil))))
 (pss_cons (ps_if (pt_cmpR (u_eq hr.units) (pv 1) pe_int (nomark _))
 (pss_one (ps_ret (pe_lc (own := [("_law_k", 5)]) (g := (gName 5)) (tt := tYes) rfl sc_law_block.nd (pi_range1 (by rfl) T.m_range (pa_cons (pe_callC (ok_law_take T) (hr.mono (by decide)) (by rfl) pass0 (pa_cons (pv 0) (pa_cons pe_int pa_nil))) pa_nil)) (blkOk_by (N := ["_law_state", "_law_way", "_law_part", "_law_block_here", "_law_at", "_law_k"]) (sc := (defScope s_law_block)) (own := [("_law_k", 5)]) (by decide +kernel)) (fun _ _ _ _ _ => (pg_name (i := 5) sc_law_block.nd rfl (by first | exact Or.inl rfl | exact Or.inr rfl))) (fun _ _ _ _ _ => pts_nil) (fun _ _ _ _ _ => (pe_callC (ok_law_take T) (hr.mono (by decide)) (by rfl) pass0 (pa_cons (pv 0) (pa_cons pe_int pa_nil)))))))
 pss_nil)
 (pss_cons (ps_setLc (i := 2) (own := [("_law_k", 5)]) (g := (gName 5)) (tt := tYes) rfl sc_law_block.nd rfl rfl (sw_true rfl rfl rfl (by decide +kernel)) (pi_range1 (by rfl) T.m_range (pa_cons (pe_callC (ok_law_take T) (hr.mono (by decide)) (by rfl) pass0 (pa_cons (pv 0) (pa_cons pe_int pa_nil))) pa_nil)) (blkOk_by (N := ["_law_state", "_law_way", "_law_part", "_law_block_here", "_law_at", "_law_k"]) (sc := (defScope s_law_block)) (own := [("_law_k", 5)]) (by decide +kernel)) (fun _ _ _ _ _ => (pg_name (i := 5) sc_law_block.nd rfl (by first | exact Or.inl rfl | exact Or.inr rfl))) (fun _ _ _ _ _ => pts_nil) (fun _ _ _ _ _ => (pe_callC (ok_law_take T) (hr.mono (by decide)) (by rfl) pass0 (pa_cons (pv 0) (pa_cons pe_int pa_nil)))))
 (pss_cons (ps_if (pt_cmpR (u_eq hr.units) (pv 1) pe_int (nomark _))
 (pss_one (ps_set (i := 2) sc_law_block.nd rfl (by first | exact Or.inl rfl | exact Or.inr rfl) (pe_op u_mul (pe_lst (pa_cons (pe_op u_add pe_int (pe_callC (ok_law_take T) (hr.mono (by decide)) (by rfl) pass0 (pa_cons (pv 0) (pa_cons pe_int pa_nil)))) pa_nil)) (pe_op u_add pe_int (pe_callC (ok_law_take T) (hr.mono (by decide)) (by rfl) pass0 (pa_cons (pv 0) (pa_cons pe_int pa_nil)))))))
 pss_nil)
 (pss_cons (ps_set (i := 3) sc_law_block.nd rfl (by first | exact Or.inl rfl | exact Or.inr rfl) (pe_callC (ok_streamed T) (hr.mono (by decide)) (by rfl) pass0 (pa_cons (pe_lst (pa_cons (pv 2) pa_nil)) pa_nil)))
 (pss_cons (ps_set (i := 4) sc_law_block.nd rfl (by first | exact Or.inl rfl | exact Or.inr rfl) (pe_callC (ok_law_take T) (hr.mono (by decide)) (by rfl) pass0 (pa_cons (pv 0) (pa_cons (pe_callB u_len (by rfl) T.m_len PySem.boot_len (pa_cons (pv 3) pa_nil)) pa_nil))))
 (pss_cons (ps_if (pt_cmpR (u_eq hr.units) (pv 1) pe_int (nomark _))
 (pss_one (ps_ret (pe_slice u_slL (pv 3) po_none (po_some (pe_un u_neg pe_int)))))
 pss_nil)
 (pss_cons (ps_if (pt_cmpR (u_eq hr.units) (pv 1) pe_int (nomark _))
 (pss_one (ps_ret (pe_op u_add (pe_slice u_slL (pv 3) po_none (po_some (pv 4))) (pe_slice u_slL (pv 3) (po_some (pe_op u_add (pv 4) pe_int)) po_none))))
 pss_nil)
 (pss_one (ps_ret (pv 3)))))))))))

theorem sc_law_ended : FnScope ["_law_data", "_law_ended_here", "_law_size", "_law_byte"] ["_law_data"] (defScope s_law_ended) := ⟨rfl, rfl, rfl, by decide +kernel, rfl, by decide +kernel, by decide +kernel⟩
theorem ok_law_ended {P : Program} {w : World} {K : PySem.W.Frag} {mg : Str → Option Value} {base : Heap} {C : Addr} (T : Txt K mg C) : Cal P w K mg base CX0 1 "_law_ended" ["_law_data"] (sp_law_ended K) := by
  refine Cal.of (st := s_law_ended) T.d_law_ended sc_law_ended (fun _ _ _ _ _ _ us hl => match us, hl with | [_], _ => rfl) (len_law_ended K) fun f cdv A outer s H vs Q E hr h => ⟨t_law_ended K, ?_, p_law_ended K vs H Q E h⟩
  exact (pss_cons (ps_set (i := 1) sc_law_ended.nd rfl (by first | exact Or.inl rfl | exact Or.inr rfl) (pe_lst (pa_cons pe_int pa_nil)))
 (pss_cons (ps_set (i := 2) sc_law_ended.nd rfl (by first | exact Or.inl rfl | exact Or.inr rfl) pe_int)
 (pss_cons (ps_for PassesOwn.never rfl (pi_list (pv 0)) (pg_name (i := 3) sc_law_ended.nd rfl (by first | exact Or.inl rfl | exact Or.inr rfl))
 (pss_one (ps_if (pt_cmpR (u_ne hr.units) (pv 3) pe_int (nomark _))
 (pss_cons (ps_set (i := 2) sc_law_ended.nd rfl (by first | exact Or.inl rfl | exact Or.inr rfl) (pe_op u_add (pv 2) pe_int))
 (pss_one (ps_expr (pe_bm PySem.F.plainAttrs_list PySem.F.slot_list_append PySem.F.type_list_append u_append (pv 1) (pa_cons (pe_ix u_ix (pv 1) (pe_un u_neg pe_int) (fun _ _ => rfl)) pa_nil)))))
 (pss_cons (ps_expr (pe_bm PySem.F.plainAttrs_list PySem.F.slot_list_append PySem.F.type_list_append u_append (pv 1) (pa_cons (pe_op u_add (pe_ix u_ix (pv 1) (pe_un u_neg pe_int) (fun _ _ => rfl)) (pe_callTy u_int (by rfl) T.m_int (by decide +kernel) (pa_cons (pe_cmpR u_gt (pv 2) pe_int (nomark _)) pa_nil))) pa_nil)))
 (pss_one (ps_set (i := 2) sc_law_ended.nd rfl (by first | exact Or.inl rfl | exact Or.inr rfl) pe_int))))))
 (pss_one (ps_ret (pv 1))))))

theorem sc_law_wrong : FnScope ["_law_state", "_law_wrong_here", "_law_row", "_law_at"] ["_law_state"] (defScope s_law_wrong) := ⟨rfl, rfl, rfl, by decide +kernel, rfl, by decide +kernel, by decide +kernel⟩
theorem ok_law_wrong {P : Program} {w : World} {K : PySem.W.Frag} {mg : Str → Option Value} {base : Heap} {C : Addr} (T : Txt K mg C) : Cal P w K mg base CX0 2 "_law_wrong" ["_law_state"] (sp_law_wrong K) := by
  refine Cal.of (st := s_law_wrong) T.d_law_wrong sc_law_wrong (fun _ _ _ _ _ _ us hl => match us, hl with | [_], _ => rfl) (len_law_wrong K) fun f cdv A outer s H vs Q E hr h => ⟨t_law_wrong K, ?_, p_law_wrong K vs H Q E h⟩
  exact (pss_cons (ps_set (i := 1) sc_law_wrong.nd rfl (by first | exact Or.inl rfl | exact Or.inr rfl) (pe_ix u_ix (pe_lst (pa_cons pe_int (pa_cons (pe_un u_neg pe_int) (pa_cons pe_bl (pa_cons pe_bl (pa_cons pe_non (pa_cons pe_str (pa_cons (pe_op u_pow pe_int pe_int) (pa_cons (pe_lst (pa_cons pe_int pa_nil)) pa_nil))))))))) (pe_callC (ok_law_take T) (hr.mono (by decide)) (by rfl) pass0 (pa_cons (pv 0) (pa_cons pe_int pa_nil))) (fun _ _ => rfl)))
 (pss_cons (ps_set (i := 2) sc_law_wrong.nd rfl (by first | exact Or.inl rfl | exact Or.inr rfl) (pe_op u_add (pe_lst (pa_cons pe_int (pa_cons pe_int (pa_cons pe_int pa_nil)))) (pe_lst (pa_cons (pv 1) pa_nil))))
 (pss_cons (ps_if (pt_cmpR (u_eq hr.units) (pe_callC (ok_law_take T) (hr.mono (by decide)) (by rfl) pass0 (pa_cons (pv 0) (pa_cons pe_int pa_nil))) pe_int (nomark _))
 (pss_one (ps_ret (pe_ix u_ix (pe_lst (pa_cons pe_non (pa_cons pe_str (pa_cons pe_int (pa_cons pe_str pa_nil))))) (pe_callC (ok_law_take T) (hr.mono (by decide)) (by rfl) pass0 (pa_cons (pv 0) (pa_cons pe_int pa_nil))) (fun _ _ => rfl))))
 pss_nil)
 (pss_cons (ps_set (i := 3) sc_law_wrong.nd rfl (by first | exact Or.inl rfl | exact Or.inr rfl) (pe_callC (ok_law_take T) (hr.mono (by decide)) (by rfl) pass0 (pa_cons (pv 0) (pa_cons pe_int pa_nil))))
 (pss_one (ps_ret (pe_op u_add (pe_slice u_slL (pv 2) (po_some (pv 3)) po_none) (pe_slice u_slL (pv 2) po_none (po_some (pv 3))))))))))

theorem sc_law_refused : FnScope ["_law_feeder", "_law_piece", "e"] ["_law_feeder", "_law_piece"] (defScope s_law_refused) := ⟨rfl, rfl, rfl, by decide +kernel, rfl, by decide +kernel, by decide +kernel⟩
theorem ok_law_refused {P : Program} {w : World} {K : PySem.W.Frag} {mg : Str → Option Value} {base : Heap} {C : Addr} (T : Txt K mg C) : Cal P w K mg base CX0 4 "_law_refused" ["_law_feeder", "_law_piece"] (sp_law_refused K) := by
  refine Cal.of (st := s_law_refused) T.d_law_refused sc_law_refused (fun _ _ _ _ _ _ us hl => match us, hl with | [_, _], _ => rfl) (len_law_refused K) fun f cdv A outer s H vs Q E hr h => ⟨t_law_refused K C, ?_, p_law_refused K C T.own T.ca_Feeder T.xk vs H Q E h⟩
  exact (pss_cons (ps_try_as (i := 2) (tb := fun W => (tDrop (tMethUS C "feed" (sp_Feeder_feed K C) (WE W) (tVar 0) (tCons (tVar 1) tNil)))) (ts := fun a cls d => (tRet (tAndV (tOp (rEqU K) (tXf a cls d (cAt K "NoBytes") "why" (tVar 2)) (tC (.str (PySem.Str.ofString "wire")))) (tAndV (tCB (rIsXd K a cls d) (tCons (tVar 2) (tCons (tC (.ref (cAt K "WireError"))) tNil))) (tCB (rIsXd K a cls d) (tCons (tVar 2) (tCons (tC (.ty "ValueError")) tNil))))))) (Wout := fun _ _ _ _ => False) rfl rfl sc_law_refused.nd rfl rfl ⟨rfl, by decide, Or.inl T.g_NoBytes⟩ takes_none
 (fun W pn xe tk po => (pss_one (ps_expr (pe_methMS (pv 0) T.own.cl (ok_Feeder_feed T) (hr.mono (by decide)) (fun σ => passAt tk σ) (pa_cons (pv 1) pa_nil)))))
 (fun a oe cls d pn hz hf => (pss_one (ps_ret (pe_and (pe_cmpR (u_eq hr.units) (pe_xf T.x_NoBytes.xf T.xn_NoBytes_why hz hf (pv 2)) pe_str (nomark _)) (pe_and (pe_callB (call_isXd hz hf) (by rfl) T.m_isinstance (by decide +kernel) (pa_cons (pv 2) (pa_cons (pe_gref (by rfl) T.g_WireError) pa_nil))) (pe_one (pe_callB (call_isXd hz hf) (by rfl) T.m_isinstance (by decide +kernel) (pa_cons (pv 2) (pa_cons (pe_bltn (v := .ty "ValueError") (by rfl) T.m_ValueError (by decide +kernel) rfl) pa_nil))))))))))
 (pss_one (ps_ret pe_bl)))

theorem sc_law_fed : FnScope ["_law_state", "_law_feeder", "_law_data", "_law_at", "_law_whole", "_law_ended_here", "_law_size", "_law_piece", "_law_behind", "_law_found", "_law_one"] ["_law_state", "_law_feeder", "_law_data", "_law_at", "_law_whole", "_law_ended_here"] (defScope s_law_fed) := ⟨rfl, rfl, rfl, by decide +kernel, rfl, by decide +kernel, by decide +kernel⟩
theorem ok_law_fed {P : Program} {w : World} {K : PySem.W.Frag} {mg : Str → Option Value} {base : Heap} {C : Addr} (T : Txt K mg C) : Cal P w K mg base CX0 5 "_law_fed" ["_law_state", "_law_feeder", "_law_data", "_law_at", "_law_whole", "_law_ended_here"] (sp_law_fed K) := by
  refine Cal.of (st := s_law_fed) T.d_law_fed sc_law_fed (fun _ _ _ _ _ _ us hl => match us, hl with | [_, _, _, _, _, _], _ => rfl) (len_law_fed K) fun f cdv A outer s H vs Q E hr h => ⟨t_law_fed K C, ?_, p_law_fed K C T.own T.ca_Feeder vs H Q E h⟩
  exact (pss_cons (ps_set (i := 6) sc_law_fed.nd rfl (by first | exact Or.inl rfl | exact Or.inr rfl) (pe_ix u_ix (pe_lst (pa_cons pe_int (pa_cons pe_int (pa_cons pe_int (pa_cons pe_int (pa_cons pe_int (pa_cons pe_int (pa_cons pe_int (pa_cons pe_int pa_nil))))))))) (pe_callC (ok_law_take T) (hr.mono (by decide)) (by rfl) pass0 (pa_cons (pv 0) (pa_cons pe_int pa_nil))) (fun _ _ => rfl)))
 (pss_cons (ps_if (PW.pt (pw_and (pt_cmpR (u_eq hr.units) (pe_callC (ok_law_take T) (hr.mono (by decide)) (by rfl) pass0 (pa_cons (pv 0) (pa_cons pe_int pa_nil))) pe_int (nomark _)) (pw_and1 (pt_not (pt_truth (pe_callC (ok_law_refused T) (hr.mono (by decide)) (by rfl) pass0 (pa_cons (pv 1) (pa_cons (pe_callC (ok_law_wrong T) (hr.mono (by decide)) (by rfl) pass0 (pa_cons (pv 0) pa_nil)) pa_nil))) (by intro _; rfl))))))
 (pss_one (ps_ret (pe_un u_neg pe_int)))
 pss_nil)
 (pss_cons (ps_set (i := 7) sc_law_fed.nd rfl (by first | exact Or.inl rfl | exact Or.inr rfl) (pe_slice u_slL (pv 2) (po_some (pv 3)) (po_some (pe_op u_add (pv 3) (pv 6)))))
 (pss_cons (ps_set (i := 8) sc_law_fed.nd rfl (by first | exact Or.inl rfl | exact Or.inr rfl) (pe_op u_add (pv 3) (pe_callB u_len (by rfl) T.m_len PySem.boot_len (pa_cons (pv 7) pa_nil))))
 (pss_cons (ps_if (pt_cmpR (u_eq hr.units) (pe_callC (ok_law_take T) (hr.mono (by decide)) (by rfl) pass0 (pa_cons (pv 0) (pa_cons pe_int pa_nil))) pe_int (nomark _))
 (pss_one (ps_set (i := 9) sc_law_fed.nd rfl (by first | exact Or.inl rfl | exact Or.inr rfl) (pe_methM (pv 1) T.own.cl (ok_Feeder_feed T) (hr.mono (by decide)) passL (pa_cons (pe_callTy u_tuple (by rfl) T.m_tuple (by decide +kernel) (pa_cons (pv 7) pa_nil)) pa_nil))))
 (pss_cons (ps_set (i := 9) sc_law_fed.nd rfl (by first | exact Or.inl rfl | exact Or.inr rfl) (pe_methM (pv 1) T.own.cl (ok_Feeder_feed T) (hr.mono (by decide)) passL (pa_cons (pv 7) pa_nil)))
 (pss_cons (ps_if (pt_cmpR (u_ne hr.units) (pv 7) (pe_slice u_slL (pv 2) (po_some (pv 3)) (po_some (pv 8))) (nomark _))
 (pss_one (ps_ret (pe_un u_neg pe_int)))
 pss_nil)
 (pss_one (ps_expr (pe_bm PySem.F.plainAttrs_list PySem.F.slot_list_append PySem.F.type_list_append u_append (pv 7) (pa_cons pe_int pa_nil)))))))
 (pss_cons (ps_if (PW.pt (pw_or (pt_not (pt_truth (pe_callB u_isi (by rfl) T.m_isinstance (by decide +kernel) (pa_cons (pv 9) (pa_cons (pe_bltn (v := .ty "list") (by rfl) T.m_list (by decide +kernel) rfl) pa_nil))) (by intro _; rfl))) (pw_or1 (pt_cmpR (u_ne hr.units) (pv 9) (pe_slice u_slL (pv 4) (po_some (pe_ix u_ix (pv 5) (pv 3) (fun _ _ => rfl))) (po_some (pe_ix u_ix (pv 5) (pv 8) (fun _ _ => rfl)))) (nomark _)))))
 (pss_one (ps_ret (pe_un u_neg pe_int)))
 pss_nil)
 (pss_cons (ps_for PassesOwn.never rfl (pi_list (pv 9)) (pg_name (i := 10) sc_law_fed.nd rfl (by first | exact Or.inl rfl | exact Or.inr rfl))
 (pss_one (ps_if (pt_cmpR (u_eq hr.units) (pe_ix u_ix (pv 10) pe_int (fun _ _ => rfl)) pe_str (nomark _))
 (pss_one (ps_expr (pe_bm PySem.F.plainAttrs_list PySem.F.slot_list_append PySem.F.type_list_append u_append (pe_ix u_ix (pv 10) pe_int (fun _ _ => rfl)) (pa_cons pe_int pa_nil))))
 pss_nil)))
 (pss_cons (ps_expr (pe_bm PySem.F.plainAttrs_list PySem.F.slot_list_append PySem.F.type_list_append u_append (pv 9) (pa_cons pe_non pa_nil)))
 (pss_one (ps_ret (pv 8)))))))))))

theorem sc_law_rest : FnScope ["_law_feeder", "_law_data", "_law_at", "_law_whole", "_law_ended_here"] ["_law_feeder", "_law_data", "_law_at", "_law_whole", "_law_ended_here"] (defScope s_law_rest) := ⟨rfl, rfl, rfl, by decide +kernel, rfl, by decide +kernel, by decide +kernel⟩
theorem ok_law_rest {P : Program} {w : World} {K : PySem.W.Frag} {mg : Str → Option Value} {base : Heap} {C : Addr} (T : Txt K mg C) : Cal P w K mg base CX0 4 "_law_rest" ["_law_feeder", "_law_data", "_law_at", "_law_whole", "_law_ended_here"] (sp_law_rest K) := by
  refine Cal.of (st := s_law_rest) T.d_law_rest sc_law_rest (fun _ _ _ _ _ _ us hl => match us, hl with | [_, _, _, _, _], _ => rfl) (len_law_rest K) fun f cdv A outer s H vs Q E hr h => ⟨t_law_rest K C, ?_, p_law_rest K C T.own T.ca_Feeder vs H Q E h⟩
  exact (pss_cons (ps_if (pt_cmpR (u_ne hr.units) (pe_methM (pv 0) T.own.cl (ok_Feeder_feed T) (hr.mono (by decide)) passL (pa_cons (pe_slice u_slL (pv 1) (po_some (pv 2)) po_none) pa_nil)) (pe_slice u_slL (pv 3) (po_some (pe_ix u_ix (pv 4) (pv 2) (fun _ _ => rfl))) (po_some (pe_ix u_ix (pv 4) (pe_callB u_len (by rfl) T.m_len PySem.boot_len (pa_cons (pv 1) pa_nil)) (fun _ _ => rfl)))) (nomark _))
 (pss_one (ps_ret pe_bl))
 pss_nil)
 (pss_one (ps_ret (pe_and (pe_cmpR (u_eq hr.units) (pe_methM0 (pv 0) T.own.cl (ok_Feeder_done T) (hr.mono (by decide)) pass0) (pe_slice u_slL (pv 3) (po_some (pe_ix u_ix (pv 4) (pe_callB u_len (by rfl) T.m_len PySem.boot_len (pa_cons (pv 1) pa_nil)) (fun _ _ => rfl))) po_none) (nomark _)) (pe_one (pe_cmpR (u_eq hr.units) (pe_methM0 (pv 0) T.own.cl (ok_Feeder_done T) (hr.mono (by decide)) pass0) (pe_lst pa_nil) (nomark _)))))))

theorem sc_law : FnScope ["_law_script", "_law_state", "_law_data", "_law_k", "_law_cut", "_law_late", "_law_whole", "_law_late_whole", "_law_ended_here", "_law_late_ended", "_law_one", "_law_other", "_law_at", "_law_late_at", "_law_early"] ["_law_script"] (defScope s_law) := ⟨rfl, rfl, rfl, by decide +kernel, rfl, by decide +kernel, by decide +kernel⟩
theorem ok_law {P : Program} {w : World} {K : PySem.W.Frag} {mg : Str → Option Value} {base : Heap} {C : Addr} (T : Txt K mg C) : Cal P w K mg base CX0 6 "law" ["_law_script"] (sp_law K) := by
  refine Cal.of (st := s_law) T.d_law sc_law (fun _ _ _ _ _ _ us hl => match us, hl with | [_], _ => rfl) (len_law K) fun f cdv A outer s H vs Q E hr h => ⟨t_law K C, ?_, p_law K C T.own T.ca_Feeder vs H Q E h⟩
  exact (pss_cons (ps_set (i := 1) sc_law.nd rfl (by first | exact Or.inl rfl | exact Or.inr rfl) (pe_lst (pa_cons (pe_callTy u_list (by rfl) T.m_list (by decide +kernel) (pa_cons (pe_slice u_slL (pv 0) po_none (po_some pe_int)) pa_nil)) (pa_cons pe_int (pa_cons pe_int (pa_cons pe_int pa_nil))))))
 (pss_cons (ps_set (i := 2) sc_law.nd rfl (by first | exact Or.inl rfl | exact Or.inr rfl) (pe_lst pa_nil))
 (pss_cons (ps_for PassesOwn.never rfl (pi_range1 (by rfl) T.m_range (pa_cons (pe_callC (ok_law_take T) (hr.mono (by decide)) (by rfl) pass0 (pa_cons (pv 1) (pa_cons pe_int pa_nil))) pa_nil)) (pg_name (i := 3) sc_law.nd rfl (by first | exact Or.inl rfl | exact Or.inr rfl))
 (pss_one (ps_set (i := 2) sc_law.nd rfl (by first | exact Or.inl rfl | exact Or.inr rfl) (pe_op u_add (pv 2) (pe_callC (ok_law_block T) (hr.mono (by decide)) (by rfl) pass0 (pa_cons (pv 1) pa_nil))))))
 (pss_cons (ps_set (i := 4) sc_law.nd rfl (by first | exact Or.inl rfl | exact Or.inr rfl) (pe_callC (ok_law_take T) (hr.mono (by decide)) (by rfl) pass0 (pa_cons (pv 1) (pa_cons (pe_op u_add (pe_callB u_len (by rfl) T.m_len PySem.boot_len (pa_cons (pv 2) pa_nil)) pe_int) pa_nil))))
 (pss_cons (ps_set (i := 5) sc_law.nd rfl (by first | exact Or.inl rfl | exact Or.inr rfl) (pe_slice u_slL (pv 2) (po_some (pv 4)) po_none))
 (pss_cons (ps_set (i := 6) sc_law.nd rfl (by first | exact Or.inl rfl | exact Or.inr rfl) (pe_callC (ok_unstreamed T) (hr.mono (by decide)) (by rfl) pass0 (pa_cons (pe_callTy u_list (by rfl) T.m_list (by decide +kernel) (pa_cons (pv 2) pa_nil)) pa_nil)))
 (pss_cons (ps_set (i := 7) sc_law.nd rfl (by first | exact Or.inl rfl | exact Or.inr rfl) (pe_callC (ok_unstreamed T) (hr.mono (by decide)) (by rfl) pass0 (pa_cons (pe_callTy u_list (by rfl) T.m_list (by decide +kernel) (pa_cons (pv 5) pa_nil)) pa_nil)))
 (pss_cons (ps_set (i := 8) sc_law.nd rfl (by first | exact Or.inl rfl | exact Or.inr rfl) (pe_callC (ok_law_ended T) (hr.mono (by decide)) (by rfl) pass0 (pa_cons (pv 2) pa_nil)))
 (pss_cons (ps_set (i := 9) sc_law.nd rfl (by first | exact Or.inl rfl | exact Or.inr rfl) (pe_callC (ok_law_ended T) (hr.mono (by decide)) (by rfl) pass0 (pa_cons (pv 5) pa_nil)))
 (pss_cons (ps_set (i := 10) sc_law.nd rfl (by first | exact Or.inl rfl | exact Or.inr rfl) (pe_makeM0 T.mk_Feeder T.kc_Feeder (ok_Feeder___init__ T) (hr.mono (by decide)) (by rfl) T.g_Feeder pass0))
 (pss_cons (ps_set (i := 11) sc_law.nd rfl (by first | exact Or.inl rfl | exact Or.inr rfl) (pe_makeM0 T.mk_Feeder T.kc_Feeder (ok_Feeder___init__ T) (hr.mono (by decide)) (by rfl) T.g_Feeder pass0))
 (pss_cons (ps_set (i := 12) sc_law.nd rfl (by first | exact Or.inl rfl | exact Or.inr rfl) pe_int)
 (pss_cons (ps_set (i := 13) sc_law.nd rfl (by first | exact Or.inl rfl | exact Or.inr rfl) pe_int)
 (pss_cons (ps_for PassesOwn.never rfl (pi_range1 (by rfl) T.m_range (pa_cons pe_int pa_nil)) (pg_name (i := 3) sc_law.nd rfl (by first | exact Or.inl rfl | exact Or.inr rfl))
 (pss_cons (ps_set (i := 12) sc_law.nd rfl (by first | exact Or.inl rfl | exact Or.inr rfl) (pe_callC (ok_law_fed T) (hr.mono (by decide)) (by rfl) pass0 (pa_cons (pv 1) (pa_cons (pv 10) (pa_cons (pv 2) (pa_cons (pv 12) (pa_cons (pv 6) (pa_cons (pv 8) pa_nil))))))))
 (pss_cons (ps_set (i := 13) sc_law.nd rfl (by first | exact Or.inl rfl | exact Or.inr rfl) (pe_callC (ok_law_fed T) (hr.mono (by decide)) (by rfl) pass0 (pa_cons (pv 1) (pa_cons (pv 11) (pa_cons (pv 5) (pa_cons (pv 13) (pa_cons (pv 7) (pa_cons (pv 9) pa_nil))))))))
 (pss_one (ps_if (PW.pt (pw_or (pt_cmpR u_lt (pv 12) pe_int (nomark _)) (pw_or1 (pt_cmpR u_lt (pv 13) pe_int (nomark _)))))
 (pss_one (ps_ret pe_bl))
 pss_nil)))))
 (pss_cons (ps_if (pt_not (pt_truth (pe_callC (ok_law_rest T) (hr.mono (by decide)) (by rfl) pass0 (pa_cons (pv 10) (pa_cons (pv 2) (pa_cons (pv 12) (pa_cons (pv 6) (pa_cons (pv 8) pa_nil)))))) (by intro _; rfl)))
 (pss_one (ps_ret pe_bl))
 pss_nil)
 (pss_cons (ps_if (pt_not (pt_truth (pe_callC (ok_law_rest T) (hr.mono (by decide)) (by rfl) pass0 (pa_cons (pv 11) (pa_cons (pv 5) (pa_cons (pv 13) (pa_cons (pv 7) (pa_cons (pv 9) pa_nil)))))) (by intro _; rfl)))
 (pss_one (ps_ret pe_bl))
 pss_nil)
 (pss_cons (ps_set (i := 14) sc_law.nd rfl (by first | exact Or.inl rfl | exact Or.inr rfl) (pe_op u_add (pe_methM (pv 10) T.own.cl (ok_Feeder_feed T) (hr.mono (by decide)) passL (pa_cons (pe_slice u_slL (pv 2) po_none (po_some (pv 4))) pa_nil)) (pe_methM0 (pv 10) T.own.cl (ok_Feeder_done T) (hr.mono (by decide)) pass0)))
 (pss_cons (ps_if (pt_cmpR (u_ne hr.units) (pv 14) (pe_callC (ok_unstreamed T) (hr.mono (by decide)) (by rfl) pass0 (pa_cons (pe_slice u_slL (pv 2) po_none (po_some (pv 4))) pa_nil)) (nomark _))
 (pss_one (ps_ret pe_bl))
 pss_nil)
 (pss_one (ps_ret (pe_and (pe_cmpR (u_eq hr.units) (pe_op u_add (pe_methM (pv 10) T.own.cl (ok_Feeder_feed T) (hr.mono (by decide)) passL (pa_cons (pv 5) pa_nil)) (pe_methM0 (pv 10) T.own.cl (ok_Feeder_done T) (hr.mono (by decide)) pass0)) (pv 7) (nomark _)) (pe_one (pe_cmpR (u_eq hr.units) (pe_op u_add (pe_methM (pv 11) T.own.cl (ok_Feeder_feed T) (hr.mono (by decide)) passL (pa_cons (pv 2) pa_nil)) (pe_methM0 (pv 11) T.own.cl (ok_Feeder_done T) (hr.mono (by decide)) pass0)) (pv 6) (nomark _))))))))))))))))))))))))

theorem txt_mk {K : PySem.W.Frag} {h : Heap} {mg : Str → Option Value} (X : K.In h) (G : h.Ns mainGlobals mg)
    {C_WireError : Addr} {C_NoBytes : Addr} {nm_NoBytes q_NoBytes : Str} {N_NoBytes : Addr} {bs_NoBytes : List Value} {sn_NoBytes : List Str} {sub_NoBytes : List Value} {ab_NoBytes : Bool} {col_NoBytes : Option Bool} {dd_NoBytes : Option Addr} {m0_NoBytes m1_NoBytes m2_NoBytes m3_NoBytes m5_NoBytes : Option Value} {C : Addr} {f_NoBytes___init__ : Addr} {od_NoBytes___init__ an_NoBytes___init__ : Option Addr} {sl_NoBytes___init__ : Array (Option Value)} {oc_NoBytes___init__ kV_NoBytes___init__ dc_NoBytes___init__ pm_NoBytes___init__ cd_NoBytes___init__ ct_NoBytes___init__ : Value} {f_is_bytes : Addr} {od_is_bytes an_is_bytes : Option Addr} {sl_is_bytes : Array (Option Value)} {oc_is_bytes kV_is_bytes dc_is_bytes pm_is_bytes cd_is_bytes ct_is_bytes : Value} {f_checked : Addr} {od_checked an_checked : Option Addr} {sl_checked : Array (Option Value)} {oc_checked kV_checked dc_checked pm_checked cd_checked ct_checked : Value} {f_in_runs : Addr} {od_in_runs an_in_runs : Option Addr} {sl_in_runs : Array (Option Value)} {oc_in_runs kV_in_runs dc_in_runs pm_in_runs cd_in_runs ct_in_runs : Value} {f_out_of_runs : Addr} {od_out_of_runs an_out_of_runs : Option Addr} {sl_out_of_runs : Array (Option Value)} {oc_out_of_runs kV_out_of_runs dc_out_of_runs pm_out_of_runs cd_out_of_runs ct_out_of_runs : Value} {f_piece_told : Addr} {od_piece_told an_piece_told : Option Addr} {sl_piece_told : Array (Option Value)} {oc_piece_told kV_piece_told dc_piece_told pm_piece_told cd_piece_told ct_piece_told : Value} {f_streamed : Addr} {od_streamed an_streamed : Option Addr} {sl_streamed : Array (Option Value)} {oc_streamed kV_streamed dc_streamed pm_streamed cd_streamed ct_streamed : Value} {f_Feeder___init__ : Addr} {od_Feeder___init__ an_Feeder___init__ : Option Addr} {sl_Feeder___init__ : Array (Option Value)} {oc_Feeder___init__ kV_Feeder___init__ dc_Feeder___init__ pm_Feeder___init__ cd_Feeder___init__ ct_Feeder___init__ : Value} {f_Feeder_feed : Addr} {od_Feeder_feed an_Feeder_feed : Option Addr} {sl_Feeder_feed : Array (Option Value)} {oc_Feeder_feed kV_Feeder_feed dc_Feeder_feed pm_Feeder_feed cd_Feeder_feed ct_Feeder_feed : Value} {f_Feeder_done : Addr} {od_Feeder_done an_Feeder_done : Option Addr} {sl_Feeder_done : Array (Option Value)} {oc_Feeder_done kV_Feeder_done dc_Feeder_done pm_Feeder_done cd_Feeder_done ct_Feeder_done : Value} {f_unstreamed : Addr} {od_unstreamed an_unstreamed : Option Addr} {sl_unstreamed : Array (Option Value)} {oc_unstreamed kV_unstreamed dc_unstreamed pm_unstreamed cd_unstreamed ct_unstreamed : Value} {f_law_take : Addr} {od_law_take an_law_take : Option Addr} {sl_law_take : Array (Option Value)} {oc_law_take kV_law_take dc_law_take pm_law_take cd_law_take ct_law_take : Value} {f_law_block : Addr} {od_law_block an_law_block : Option Addr} {sl_law_block : Array (Option Value)} {oc_law_block kV_law_block dc_law_block pm_law_block cd_law_block ct_law_block : Value} {f_law_ended : Addr} {od_law_ended an_law_ended : Option Addr} {sl_law_ended : Array (Option Value)} {oc_law_ended kV_law_ended dc_law_ended pm_law_ended cd_law_ended ct_law_ended : Value} {f_law_wrong : Addr} {od_law_wrong an_law_wrong : Option Addr} {sl_law_wrong : Array (Option Value)} {oc_law_wrong kV_law_wrong dc_law_wrong pm_law_wrong cd_law_wrong ct_law_wrong : Value} {f_law_refused : Addr} {od_law_refused an_law_refused : Option Addr} {sl_law_refused : Array (Option Value)} {oc_law_refused kV_law_refused dc_law_refused pm_law_refused cd_law_refused ct_law_refused : Value} {f_law_fed : Addr} {od_law_fed an_law_fed : Option Addr} {sl_law_fed : Array (Option Value)} {oc_law_fed kV_law_fed dc_law_fed pm_law_fed cd_law_fed ct_law_fed : Value} {f_law_rest : Addr} {od_law_rest an_law_rest : Option Addr} {sl_law_rest : Array (Option Value)} {oc_law_rest kV_law_rest dc_law_rest pm_law_rest cd_law_rest ct_law_rest : Value} {f_law : Addr} {od_law an_law : Option Addr} {sl_law : Array (Option Value)} {oc_law kV_law dc_law pm_law cd_law ct_law : Value}
    (c_at : PySem.W.nsIn K mainGlobals "Feeder" = some (some (.ref C))) (z_ValueError : PySem.W.nsIn K mainGlobals "ValueError" = some none) (z_bool : PySem.W.nsIn K mainGlobals "bool" = some none) (z_enumerate : PySem.W.nsIn K mainGlobals "enumerate" = some none) (z_int : PySem.W.nsIn K mainGlobals "int" = some none) (z_isinstance : PySem.W.nsIn K mainGlobals "isinstance" = some none) (z_len : PySem.W.nsIn K mainGlobals "len" = some none) (z_list : PySem.W.nsIn K mainGlobals "list" = some none) (z_range : PySem.W.nsIn K mainGlobals "range" = some none) (z_tuple : PySem.W.nsIn K mainGlobals "tuple" = some none) {k_PRIME : Tok} (y_PRIME : PySem.W.nsIn K mainGlobals "PRIME" = some (some (.int 65521 k_PRIME))) {k_LONGEST : Tok} (y_LONGEST : PySem.W.nsIn K mainGlobals "LONGEST" = some (some (.int 254 k_LONGEST))) (at_WireError : PySem.W.nsIn K mainGlobals "WireError" = some (some (.ref C_WireError))) (at_NoBytes : PySem.W.nsIn K mainGlobals "NoBytes" = some (some (.ref C_NoBytes))) (xl_NoBytes : K.lookup C_NoBytes = some (excClassObj nm_NoBytes q_NoBytes C_NoBytes N_NoBytes bs_NoBytes [.ref C_WireError, .type "ValueError", .type "Exception", .type "BaseException", .type "object"] true sn_NoBytes sub_NoBytes ab_NoBytes col_NoBytes dd_NoBytes m0_NoBytes m1_NoBytes m2_NoBytes m3_NoBytes m5_NoBytes "ValueError.__new__")) (sa_NoBytes : PySem.W.findIn K (.ref C_NoBytes) "__setattr__" = some (some (.builtin "object.__setattr__"))) (eC_NoBytes : PySem.W.subIn K (.ref C_NoBytes) (.type "BaseException") = some true) (tC_NoBytes : PySem.W.typeIn K (.ref C_NoBytes) = some (.type "type")) (kC_NoBytes : PySem.W.keepIn K (.ref C_NoBytes) = true) (ga_NoBytes : PySem.W.findIn K (.ref C_NoBytes) "__getattribute__" = some (some (.builtin "BaseException.__getattribute__"))) (gg_NoBytes : PySem.W.findIn K (.ref C_NoBytes) "__getattr__" = some none) (hd_NoBytes : PySem.W.hasDictIn K C_NoBytes = true) (ic_NoBytes : PySem.W.isClsIn K C_NoBytes = true) (ha_NoBytes : PySem.W.findIn K (.ref C_NoBytes) "__class__" = some (some (.builtin "object.__class__"))) (hn_NoBytes : PySem.W.specialIn K (.builtin "object.__class__") "__get__" = some (some (.builtin "getset_descriptor.__get__"))) (ht_NoBytes : PySem.W.takesIn K (.builtin "object.__class__") = some true) (hm_NoBytes : PySem.W.mroIn K C_NoBytes (.type "object") = some true) (no_NoBytes_why : PySem.W.findIn K (.ref C_NoBytes) "why" = some none) (kit_NoBytes_WireError : PySem.W.kitOne K (.ref C_NoBytes) (.ref C_WireError) = some true) (kit_NoBytes_ValueError : PySem.W.kitOne K (.ref C_NoBytes) (.type "ValueError") = some true) (sub_NoBytes_NoBytes : PySem.W.subIn K (.ref C_NoBytes) (.ref C_NoBytes) = some true) (c_pg : PySem.W.plainGet K C Str.empty = true) (c_hd : PySem.W.hasDictIn K C = true) (c_po : PySem.W.plainOver K C = true) (c_sa : PySem.W.findIn K (.ref C) "__setattr__" = some (some (.builtin "object.__setattr__"))) (c_nheld : PySem.W.findIn K (.ref C) "held" = some none) (c_nplace : PySem.W.findIn K (.ref C) "place" = some none) (c_mk : PySem.W.makesIn K C = true) (c_kc : PySem.W.keepIn K (.ref C) = true) (a_NoBytes___init__ : PySem.W.findIn K (.ref C_NoBytes) "__init__" = some (some (.ref f_NoBytes___init__))) (i_NoBytes___init__ : PySem.W.typeIn K (.ref f_NoBytes___init__) = some (.type "function")) (l_NoBytes___init__ : K.lookup f_NoBytes___init__ = some ⟨oc_NoBytes___init__, od_NoBytes___init__, .func (PySem.W.fnOf "__init__" "NoBytes.__init__" (defArgs s_NoBytes___init__) (defBody s_NoBytes___init__) (defScope s_NoBytes___init__) .none kV_NoBytes___init__ dc_NoBytes___init__ pm_NoBytes___init__ an_NoBytes___init__ cd_NoBytes___init__ ct_NoBytes___init__), sl_NoBytes___init__⟩) (q_NoBytes___init__ : PySem.W.codeIn K cd_NoBytes___init__ "NoBytes.__init__" = true) (k_NoBytes___init__ : PySem.W.keepIn K (.ref f_NoBytes___init__) = true) (a_is_bytes : PySem.W.nsIn K mainGlobals "is_bytes" = some (some (.ref f_is_bytes))) (l_is_bytes : K.lookup f_is_bytes = some ⟨oc_is_bytes, od_is_bytes, .func (PySem.W.fnOf "is_bytes" "is_bytes" (defArgs s_is_bytes) (defBody s_is_bytes) (defScope s_is_bytes) .none kV_is_bytes dc_is_bytes pm_is_bytes an_is_bytes cd_is_bytes ct_is_bytes), sl_is_bytes⟩) (q_is_bytes : PySem.W.codeIn K cd_is_bytes "is_bytes" = true) (k_is_bytes : PySem.W.keepIn K (.ref f_is_bytes) = true) (a_checked : PySem.W.nsIn K mainGlobals "checked" = some (some (.ref f_checked))) (l_checked : K.lookup f_checked = some ⟨oc_checked, od_checked, .func (PySem.W.fnOf "checked" "checked" (defArgs s_checked) (defBody s_checked) (defScope s_checked) .none kV_checked dc_checked pm_checked an_checked cd_checked ct_checked), sl_checked⟩) (q_checked : PySem.W.codeIn K cd_checked "checked" = true) (k_checked : PySem.W.keepIn K (.ref f_checked) = true) (a_in_runs : PySem.W.nsIn K mainGlobals "in_runs" = some (some (.ref f_in_runs))) (l_in_runs : K.lookup f_in_runs = some ⟨oc_in_runs, od_in_runs, .func (PySem.W.fnOf "in_runs" "in_runs" (defArgs s_in_runs) (defBody s_in_runs) (defScope s_in_runs) .none kV_in_runs dc_in_runs pm_in_runs an_in_runs cd_in_runs ct_in_runs), sl_in_runs⟩) (q_in_runs : PySem.W.codeIn K cd_in_runs "in_runs" = true) (k_in_runs : PySem.W.keepIn K (.ref f_in_runs) = true) (a_out_of_runs : PySem.W.nsIn K mainGlobals "out_of_runs" = some (some (.ref f_out_of_runs))) (l_out_of_runs : K.lookup f_out_of_runs = some ⟨oc_out_of_runs, od_out_of_runs, .func (PySem.W.fnOf "out_of_runs" "out_of_runs" (defArgs s_out_of_runs) (defBody s_out_of_runs) (defScope s_out_of_runs) .none kV_out_of_runs dc_out_of_runs pm_out_of_runs an_out_of_runs cd_out_of_runs ct_out_of_runs), sl_out_of_runs⟩) (q_out_of_runs : PySem.W.codeIn K cd_out_of_runs "out_of_runs" = true) (k_out_of_runs : PySem.W.keepIn K (.ref f_out_of_runs) = true) (a_piece_told : PySem.W.nsIn K mainGlobals "piece_told" = some (some (.ref f_piece_told))) (l_piece_told : K.lookup f_piece_told = some ⟨oc_piece_told, od_piece_told, .func (PySem.W.fnOf "piece_told" "piece_told" (defArgs s_piece_told) (defBody s_piece_told) (defScope s_piece_told) .none kV_piece_told dc_piece_told pm_piece_told an_piece_told cd_piece_told ct_piece_told), sl_piece_told⟩) (q_piece_told : PySem.W.codeIn K cd_piece_told "piece_told" = true) (k_piece_told : PySem.W.keepIn K (.ref f_piece_told) = true) (a_streamed : PySem.W.nsIn K mainGlobals "streamed" = some (some (.ref f_streamed))) (l_streamed : K.lookup f_streamed = some ⟨oc_streamed, od_streamed, .func (PySem.W.fnOf "streamed" "streamed" (defArgs s_streamed) (defBody s_streamed) (defScope s_streamed) .none kV_streamed dc_streamed pm_streamed an_streamed cd_streamed ct_streamed), sl_streamed⟩) (q_streamed : PySem.W.codeIn K cd_streamed "streamed" = true) (k_streamed : PySem.W.keepIn K (.ref f_streamed) = true) (a_Feeder___init__ : PySem.W.findIn K (.ref C) "__init__" = some (some (.ref f_Feeder___init__))) (i_Feeder___init__ : PySem.W.isFn K (.ref f_Feeder___init__) = true) (l_Feeder___init__ : K.lookup f_Feeder___init__ = some ⟨oc_Feeder___init__, od_Feeder___init__, .func (PySem.W.fnOf "__init__" "Feeder.__init__" (defArgs s_Feeder___init__) (defBody s_Feeder___init__) (defScope s_Feeder___init__) .none kV_Feeder___init__ dc_Feeder___init__ pm_Feeder___init__ an_Feeder___init__ cd_Feeder___init__ ct_Feeder___init__), sl_Feeder___init__⟩) (q_Feeder___init__ : PySem.W.codeIn K cd_Feeder___init__ "Feeder.__init__" = true) (k_Feeder___init__ : PySem.W.keepIn K (.ref f_Feeder___init__) = true) (a_Feeder_feed : PySem.W.findIn K (.ref C) "feed" = some (some (.ref f_Feeder_feed))) (i_Feeder_feed : PySem.W.isFn K (.ref f_Feeder_feed) = true) (l_Feeder_feed : K.lookup f_Feeder_feed = some ⟨oc_Feeder_feed, od_Feeder_feed, .func (PySem.W.fnOf "feed" "Feeder.feed" (defArgs s_Feeder_feed) (defBody s_Feeder_feed) (defScope s_Feeder_feed) .none kV_Feeder_feed dc_Feeder_feed pm_Feeder_feed an_Feeder_feed cd_Feeder_feed ct_Feeder_feed), sl_Feeder_feed⟩) (q_Feeder_feed : PySem.W.codeIn K cd_Feeder_feed "Feeder.feed" = true) (k_Feeder_feed : PySem.W.keepIn K (.ref f_Feeder_feed) = true) (a_Feeder_done : PySem.W.findIn K (.ref C) "done" = some (some (.ref f_Feeder_done))) (i_Feeder_done : PySem.W.isFn K (.ref f_Feeder_done) = true) (l_Feeder_done : K.lookup f_Feeder_done = some ⟨oc_Feeder_done, od_Feeder_done, .func (PySem.W.fnOf "done" "Feeder.done" (defArgs s_Feeder_done) (defBody s_Feeder_done) (defScope s_Feeder_done) .none kV_Feeder_done dc_Feeder_done pm_Feeder_done an_Feeder_done cd_Feeder_done ct_Feeder_done), sl_Feeder_done⟩) (q_Feeder_done : PySem.W.codeIn K cd_Feeder_done "Feeder.done" = true) (k_Feeder_done : PySem.W.keepIn K (.ref f_Feeder_done) = true) (a_unstreamed : PySem.W.nsIn K mainGlobals "unstreamed" = some (some (.ref f_unstreamed))) (l_unstreamed : K.lookup f_unstreamed = some ⟨oc_unstreamed, od_unstreamed, .func (PySem.W.fnOf "unstreamed" "unstreamed" (defArgs s_unstreamed) (defBody s_unstreamed) (defScope s_unstreamed) .none kV_unstreamed dc_unstreamed pm_unstreamed an_unstreamed cd_unstreamed ct_unstreamed), sl_unstreamed⟩) (q_unstreamed : PySem.W.codeIn K cd_unstreamed "unstreamed" = true) (k_unstreamed : PySem.W.keepIn K (.ref f_unstreamed) = true) (a_law_take : PySem.W.nsIn K mainGlobals "_law_take" = some (some (.ref f_law_take))) (l_law_take : K.lookup f_law_take = some ⟨oc_law_take, od_law_take, .func (PySem.W.fnOf "_law_take" "_law_take" (defArgs s_law_take) (defBody s_law_take) (defScope s_law_take) .none kV_law_take dc_law_take pm_law_take an_law_take cd_law_take ct_law_take), sl_law_take⟩) (q_law_take : PySem.W.codeIn K cd_law_take "_law_take" = true) (k_law_take : PySem.W.keepIn K (.ref f_law_take) = true) (a_law_block : PySem.W.nsIn K mainGlobals "_law_block" = some (some (.ref f_law_block))) (l_law_block : K.lookup f_law_block = some ⟨oc_law_block, od_law_block, .func (PySem.W.fnOf "_law_block" "_law_block" (defArgs s_law_block) (defBody s_law_block) (defScope s_law_block) .none kV_law_block dc_law_block pm_law_block an_law_block cd_law_block ct_law_block), sl_law_block⟩) (q_law_block : PySem.W.codeIn K cd_law_block "_law_block" = true) (k_law_block : PySem.W.keepIn K (.ref f_law_block) = true) (a_law_ended : PySem.W.nsIn K mainGlobals "_law_ended" = some (some (.ref f_law_ended))) (l_law_ended : K.lookup f_law_ended = some ⟨oc_law_ended, od_law_ended, .func (PySem.W.fnOf "_law_ended" "_law_ended" (defArgs s_law_ended) (defBody s_law_ended) (defScope s_law_ended) .none kV_law_ended dc_law_ended pm_law_ended an_law_ended cd_law_ended ct_law_ended), sl_law_ended⟩) (q_law_ended : PySem.W.codeIn K cd_law_ended "_law_ended" = true) (k_law_ended : PySem.W.keepIn K (.ref f_law_ended) = true) (a_law_wrong : PySem.W.nsIn K mainGlobals "_law_wrong" = some (some (.ref f_law_wrong))) (l_law_wrong : K.lookup f_law_wrong = some ⟨oc_law_wrong, od_law_wrong, .func (PySem.W.fnOf "_law_wrong" "_law_wrong" (defArgs s_law_wrong) (defBody s_law_wrong) (defScope s_law_wrong) .none kV_law_wrong dc_law_wrong pm_law_wrong an_law_wrong cd_law_wrong ct_law_wrong), sl_law_wrong⟩) (q_law_wrong : PySem.W.codeIn K cd_law_wrong "_law_wrong" = true) (k_law_wrong : PySem.W.keepIn K (.ref f_law_wrong) = true) (a_law_refused : PySem.W.nsIn K mainGlobals "_law_refused" = some (some (.ref f_law_refused))) (l_law_refused : K.lookup f_law_refused = some ⟨oc_law_refused, od_law_refused, .func (PySem.W.fnOf "_law_refused" "_law_refused" (defArgs s_law_refused) (defBody s_law_refused) (defScope s_law_refused) .none kV_law_refused dc_law_refused pm_law_refused an_law_refused cd_law_refused ct_law_refused), sl_law_refused⟩) (q_law_refused : PySem.W.codeIn K cd_law_refused "_law_refused" = true) (k_law_refused : PySem.W.keepIn K (.ref f_law_refused) = true) (a_law_fed : PySem.W.nsIn K mainGlobals "_law_fed" = some (some (.ref f_law_fed))) (l_law_fed : K.lookup f_law_fed = some ⟨oc_law_fed, od_law_fed, .func (PySem.W.fnOf "_law_fed" "_law_fed" (defArgs s_law_fed) (defBody s_law_fed) (defScope s_law_fed) .none kV_law_fed dc_law_fed pm_law_fed an_law_fed cd_law_fed ct_law_fed), sl_law_fed⟩) (q_law_fed : PySem.W.codeIn K cd_law_fed "_law_fed" = true) (k_law_fed : PySem.W.keepIn K (.ref f_law_fed) = true) (a_law_rest : PySem.W.nsIn K mainGlobals "_law_rest" = some (some (.ref f_law_rest))) (l_law_rest : K.lookup f_law_rest = some ⟨oc_law_rest, od_law_rest, .func (PySem.W.fnOf "_law_rest" "_law_rest" (defArgs s_law_rest) (defBody s_law_rest) (defScope s_law_rest) .none kV_law_rest dc_law_rest pm_law_rest an_law_rest cd_law_rest ct_law_rest), sl_law_rest⟩) (q_law_rest : PySem.W.codeIn K cd_law_rest "_law_rest" = true) (k_law_rest : PySem.W.keepIn K (.ref f_law_rest) = true) (a_law : PySem.W.nsIn K mainGlobals "law" = some (some (.ref f_law))) (l_law : K.lookup f_law = some ⟨oc_law, od_law, .func (PySem.W.fnOf "law" "law" (defArgs s_law) (defBody s_law) (defScope s_law) .none kV_law dc_law pm_law an_law cd_law ct_law), sl_law⟩) (q_law : PySem.W.codeIn K cd_law "law" = true) (k_law : PySem.W.keepIn K (.ref f_law) = true) : Txt K mg C :=
  ⟨PySem.W.mg_none_of X G z_ValueError, PySem.W.mg_none_of X G z_bool, PySem.W.mg_none_of X G z_enumerate, PySem.W.mg_none_of X G z_int, PySem.W.mg_none_of X G z_isinstance, PySem.W.mg_none_of X G z_len, PySem.W.mg_none_of X G z_list, PySem.W.mg_none_of X G z_range, PySem.W.mg_none_of X G z_tuple, ⟨_, PySem.W.mg_of X G y_PRIME⟩, ⟨_, PySem.W.mg_of X G y_LONGEST⟩, (by rw [cAt_of at_WireError]; exact PySem.W.mg_of X G at_WireError), (by rw [cAt_of at_NoBytes]; exact PySem.W.mg_of X G at_NoBytes), (by rw [cAt_of at_NoBytes]; exact ⟨⟨⟨nm_NoBytes, q_NoBytes, N_NoBytes, bs_NoBytes, _, sn_NoBytes, sub_NoBytes, ab_NoBytes, col_NoBytes, dd_NoBytes, m0_NoBytes, m1_NoBytes, m2_NoBytes, m3_NoBytes, m5_NoBytes, xl_NoBytes, by show PySem.HandSPX.refsVE [.type "ValueError", .type "Exception", .type "BaseException", .type "object"] = true; decide +kernel⟩, sa_NoBytes, eC_NoBytes, tC_NoBytes, kC_NoBytes⟩, ⟨ga_NoBytes, gg_NoBytes, eC_NoBytes, hd_NoBytes⟩, ic_NoBytes, ha_NoBytes, hn_NoBytes, ht_NoBytes, hm_NoBytes⟩), (by rw [cAt_of at_NoBytes]; exact no_NoBytes_why), (by rw [cAt_of at_NoBytes, cAt_of at_WireError]; exact kit_NoBytes_WireError), (by rw [cAt_of at_NoBytes]; exact kit_NoBytes_ValueError), (by rw [cAt_of at_NoBytes]; exact PySem.W.exm_ref eC_NoBytes hd_NoBytes tC_NoBytes sub_NoBytes_NoBytes), ⟨(by rw [cAt_of at_NoBytes]; exact ⟨⟨⟨nm_NoBytes, q_NoBytes, N_NoBytes, bs_NoBytes, _, sn_NoBytes, sub_NoBytes, ab_NoBytes, col_NoBytes, dd_NoBytes, m0_NoBytes, m1_NoBytes, m2_NoBytes, m3_NoBytes, m5_NoBytes, xl_NoBytes, by show PySem.HandSPX.refsVE [.type "ValueError", .type "Exception", .type "BaseException", .type "object"] = true; decide +kernel⟩, sa_NoBytes, eC_NoBytes, tC_NoBytes, kC_NoBytes⟩, ⟨ga_NoBytes, gg_NoBytes, eC_NoBytes, hd_NoBytes⟩, ic_NoBytes, ha_NoBytes, hn_NoBytes, ht_NoBytes, hm_NoBytes⟩), (by simp only [cAt_of at_WireError, cAt_of at_NoBytes]; exact no_NoBytes_why), (by simp only [cAt_of at_WireError, cAt_of at_NoBytes]; exact kit_NoBytes_WireError), (by simp only [cAt_of at_WireError, cAt_of at_NoBytes]; exact kit_NoBytes_ValueError), (by simp only [cAt_of at_WireError, cAt_of at_NoBytes]; exact PySem.W.exm_ref eC_NoBytes hd_NoBytes tC_NoBytes sub_NoBytes_NoBytes)⟩, ⟨⟨c_pg, c_hd, c_po, c_sa⟩, c_nheld, c_nplace⟩, PySem.W.mg_of X G c_at, c_mk, c_kc, cAt_of c_at, (by rw [cAt_of at_NoBytes]; exact ⟨_, _, a_NoBytes___init__, i_NoBytes___init__, fun_mk l_NoBytes___init__ q_NoBytes___init__ k_NoBytes___init__⟩), ⟨_, _, PySem.W.mg_of X G a_is_bytes, fun_mk l_is_bytes q_is_bytes k_is_bytes⟩, ⟨_, _, PySem.W.mg_of X G a_checked, fun_mk l_checked q_checked k_checked⟩, ⟨_, _, PySem.W.mg_of X G a_in_runs, fun_mk l_in_runs q_in_runs k_in_runs⟩, ⟨_, _, PySem.W.mg_of X G a_out_of_runs, fun_mk l_out_of_runs q_out_of_runs k_out_of_runs⟩, ⟨_, _, PySem.W.mg_of X G a_piece_told, fun_mk l_piece_told q_piece_told k_piece_told⟩, ⟨_, _, PySem.W.mg_of X G a_streamed, fun_mk l_streamed q_streamed k_streamed⟩, ⟨_, _, ⟨a_Feeder___init__, i_Feeder___init__, k_Feeder___init__⟩, fun_mk l_Feeder___init__ q_Feeder___init__ k_Feeder___init__⟩, ⟨_, _, ⟨a_Feeder_feed, i_Feeder_feed, k_Feeder_feed⟩, fun_mk l_Feeder_feed q_Feeder_feed k_Feeder_feed⟩, ⟨_, _, ⟨a_Feeder_done, i_Feeder_done, k_Feeder_done⟩, fun_mk l_Feeder_done q_Feeder_done k_Feeder_done⟩, ⟨_, _, PySem.W.mg_of X G a_unstreamed, fun_mk l_unstreamed q_unstreamed k_unstreamed⟩, ⟨_, _, PySem.W.mg_of X G a_law_take, fun_mk l_law_take q_law_take k_law_take⟩, ⟨_, _, PySem.W.mg_of X G a_law_block, fun_mk l_law_block q_law_block k_law_block⟩, ⟨_, _, PySem.W.mg_of X G a_law_ended, fun_mk l_law_ended q_law_ended k_law_ended⟩, ⟨_, _, PySem.W.mg_of X G a_law_wrong, fun_mk l_law_wrong q_law_wrong k_law_wrong⟩, ⟨_, _, PySem.W.mg_of X G a_law_refused, fun_mk l_law_refused q_law_refused k_law_refused⟩, ⟨_, _, PySem.W.mg_of X G a_law_fed, fun_mk l_law_fed q_law_fed k_law_fed⟩, ⟨_, _, PySem.W.mg_of X G a_law_rest, fun_mk l_law_rest q_law_rest k_law_rest⟩, ⟨_, _, PySem.W.mg_of X G a_law, fun_mk l_law q_law k_law⟩⟩
theorem all_mk {l : PySem.W.OpenLaw} {w : World} {K : PySem.W.Frag} {mg : Str → Option Value} {fa C : Addr} (T : Txt K mg C) (hfa : mg "law" = some (.ref fa)) :
    ∃ fd : FuncData, (∀ (s : Shared) (v : Value), BindsTo s fd ⟨[v], []⟩ [("_law_script", v)]) ∧ ∀ base : Heap, K.In base → base.Ns mainGlobals mg → FnOk l.prog w K mg base CX0 6 fa fd ["_law_script"] (sp_law K) := by
  exact Cal.end_ T.d_law (fun base => ok_law T) hfa
end K54
open PySem PySem.W PyProof.Rows
set_option maxHeartbeats 0 in
theorem PySem.Challenge.cw_thingwires_k54_whole_fed_in_pieces_holds : PySem.Challenge.rw_thingwires_k54_whole_fed_in_pieces.Holds := by
  w_on; o_law; k_head; (case hw => w_witness2)
  k_fill
  refine L2.walk_ofB (l := PySem.Challenge.rw_thingwires_k54_whole_fed_in_pieces) (n := 63) (k := 6) (x := "_law_script") (CX := fun _ => L2.CX0) (sp := fun w => K54.sp_law _) rfl (by decide) rfl ⟨rfl, by decide, by decide⟩ (fun w h Y => PySem.W.kIn_of Y) ?F (fun _ H a ns hl hb _ hS => K54.law_end _ H a ns hl hb hS) (fun _ _ _ _ _ h => h)
  case F =>
    intro w mg fa h KX G hmg
    refine' K54.all_mk (K54.txt_mk KX G ?c_at ?z_ValueError ?z_bool ?z_enumerate ?z_int ?z_isinstance ?z_len ?z_list ?z_range ?z_tuple ?y_PRIME ?y_LONGEST ?at_WireError ?at_NoBytes ?xl_NoBytes ?sa_NoBytes ?eC_NoBytes ?tC_NoBytes ?kC_NoBytes ?ga_NoBytes ?gg_NoBytes ?hd_NoBytes ?ic_NoBytes ?ha_NoBytes ?hn_NoBytes ?ht_NoBytes ?hm_NoBytes ?no_NoBytes_why ?kit_NoBytes_WireError ?kit_NoBytes_ValueError ?sub_NoBytes_NoBytes ?c_pg ?c_hd ?c_po ?c_sa ?c_nheld ?c_nplace ?c_mk ?c_kc ?a_NoBytes___init__ ?i_NoBytes___init__ ?l_NoBytes___init__ ?q_NoBytes___init__ ?k_NoBytes___init__ ?a_is_bytes ?l_is_bytes ?q_is_bytes ?k_is_bytes ?a_checked ?l_checked ?q_checked ?k_checked ?a_in_runs ?l_in_runs ?q_in_runs ?k_in_runs ?a_out_of_runs ?l_out_of_runs ?q_out_of_runs ?k_out_of_runs ?a_piece_told ?l_piece_told ?q_piece_told ?k_piece_told ?a_streamed ?l_streamed ?q_streamed ?k_streamed ?a_Feeder___init__ ?i_Feeder___init__ ?l_Feeder___init__ ?q_Feeder___init__ ?k_Feeder___init__ ?a_Feeder_feed ?i_Feeder_feed ?l_Feeder_feed ?q_Feeder_feed ?k_Feeder_feed ?a_Feeder_done ?i_Feeder_done ?l_Feeder_done ?q_Feeder_done ?k_Feeder_done ?a_unstreamed ?l_unstreamed ?q_unstreamed ?k_unstreamed ?a_law_take ?l_law_take ?q_law_take ?k_law_take ?a_law_block ?l_law_block ?q_law_block ?k_law_block ?a_law_ended ?l_law_ended ?q_law_ended ?k_law_ended ?a_law_wrong ?l_law_wrong ?q_law_wrong ?k_law_wrong ?a_law_refused ?l_law_refused ?q_law_refused ?k_law_refused ?a_law_fed ?l_law_fed ?q_law_fed ?k_law_fed ?a_law_rest ?l_law_rest ?q_law_rest ?k_law_rest ?a_law ?l_law ?q_law ?k_law) hmg
    (case c_at => k_is); (case z_ValueError => k_is); (case z_bool => k_is); (case z_enumerate => k_is); (case z_int => k_is); (case z_isinstance => k_is); (case z_len => k_is); (case z_list => k_is); (case z_range => k_is); (case z_tuple => k_is); (case y_PRIME => k_is); (case y_LONGEST => k_is); (case at_WireError => k_is); (case at_NoBytes => k_is); (case xl_NoBytes => k_is); (case sa_NoBytes => k_is); (case eC_NoBytes => k_is); (case tC_NoBytes => k_is); (case kC_NoBytes => k_is); (case ga_NoBytes => k_is); (case gg_NoBytes => k_is); (case hd_NoBytes => k_is); (case ic_NoBytes => k_is); (case ha_NoBytes => k_is); (case hn_NoBytes => k_is); (case ht_NoBytes => k_is); (case hm_NoBytes => k_is); (case no_NoBytes_why => k_is); (case kit_NoBytes_WireError => kit_is); (case kit_NoBytes_ValueError => kit_is); (case sub_NoBytes_NoBytes => first | rfl | k_is); (case c_pg => k_is); (case c_hd => k_is); (case c_po => k_is); (case c_sa => k_is); (case c_nheld => k_is); (case c_nplace => k_is); (case c_mk => k_is); (case c_kc => k_is); (case a_NoBytes___init__ => k_is); (case i_NoBytes___init__ => k_is); (case l_NoBytes___init__ => k_is); (case q_NoBytes___init__ => k_is); (case k_NoBytes___init__ => k_is); (case a_is_bytes => k_is); (case l_is_bytes => k_is); (case q_is_bytes => k_is); (case k_is_bytes => k_is); (case a_checked => k_is); (case l_checked => k_is); (case q_checked => k_is); (case k_checked => k_is); (case a_in_runs => k_is); (case l_in_runs => k_is); (case q_in_runs => k_is); (case k_in_runs => k_is); (case a_out_of_runs => k_is); (case l_out_of_runs => k_is); (case q_out_of_runs => k_is); (case k_out_of_runs => k_is); (case a_piece_told => k_is); (case l_piece_told => k_is); (case q_piece_told => k_is); (case k_piece_told => k_is); (case a_streamed => k_is); (case l_streamed => k_is); (case q_streamed => k_is); (case k_streamed => k_is); (case a_Feeder___init__ => k_is); (case i_Feeder___init__ => k_is); (case l_Feeder___init__ => k_is); (case q_Feeder___init__ => k_is); (case k_Feeder___init__ => k_is); (case a_Feeder_feed => k_is); (case i_Feeder_feed => k_is); (case l_Feeder_feed => k_is); (case q_Feeder_feed => k_is); (case k_Feeder_feed => k_is); (case a_Feeder_done => k_is); (case i_Feeder_done => k_is); (case l_Feeder_done => k_is); (case q_Feeder_done => k_is); (case k_Feeder_done => k_is); (case a_unstreamed => k_is); (case l_unstreamed => k_is); (case q_unstreamed => k_is); (case k_unstreamed => k_is); (case a_law_take => k_is); (case l_law_take => k_is); (case q_law_take => k_is); (case k_law_take => k_is); (case a_law_block => k_is); (case l_law_block => k_is); (case q_law_block => k_is); (case k_law_block => k_is); (case a_law_ended => k_is); (case l_law_ended => k_is); (case q_law_ended => k_is); (case k_law_ended => k_is); (case a_law_wrong => k_is); (case l_law_wrong => k_is); (case q_law_wrong => k_is); (case k_law_wrong => k_is); (case a_law_refused => k_is); (case l_law_refused => k_is); (case q_law_refused => k_is); (case k_law_refused => k_is); (case a_law_fed => k_is); (case l_law_fed => k_is); (case q_law_fed => k_is); (case k_law_fed => k_is); (case a_law_rest => k_is); (case l_law_rest => k_is); (case q_law_rest => k_is); (case k_law_rest => k_is); (case a_law => k_is); (case l_law => k_is); (case q_law => k_is); (case k_law => k_is)
