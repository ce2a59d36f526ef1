import PyProof.Rows.All
import Wide.All
import OpenK.AllK
import Wide.FinOn
import HandS.ForMost
import HandS.Exc
import HandS.TryOnly
import HandS.TryMany
import HandS.ExcInit
import HandS.ExcField
import HandS.ExcIs
import HandS.IsInst
import HandS.Wide
import HandS.Defaults
import HandS.WordsExc
import HandS.FStr
import HandS.Codes
import HandS.Flow
import KE.KExcIs
import HandS.Rev
import KE.KStateDown
import HandS.Head0
import HandS.Head1
import HandS.Head2
import HandS.HeadEnd
import HandS.HeadHook1
import HandS.HeadHook2
import HandS.HeadNt
import HandS.SortInts
import HandS.Evl
import HandS.Property
import HandS.ClsMeth
import HandS.MakeKw
import HandS.MakeKwOnly
import HandS.More
import HandS.Star
import PyProof.Rows.SortShellAny
import HandS.DictComp
import KE.DataEq
import PyProof.Rows.StrMeet
import PySem.Challenge.RW_outshiners_k03_span_texts_read_back
set_option Elab.async false
set_option linter.all false
set_option maxRecDepth 100000
set_option maxHeartbeats 4000000
/-! Q: words over the hand layer: universal operators, steps of readings, promises. -/
namespace Q
open PySem L2
/-! ### promises by the number of arguments -/
abbrev P1 := V → Hp → VK → XK → Prop
abbrev P2 := V → V → Hp → VK → XK → Prop
abbrev P3 := V → V → V → Hp → VK → XK → Prop
abbrev P4 := V → V → V → V → Hp → VK → XK → Prop
abbrev P5 := V → V → V → V → V → Hp → VK → XK → Prop
def Sp1 (f : P1) : Sp := fun vs H Q E => ∃ a, vs = [a] ∧ f a H Q E
def Sp2 (f : P2) : Sp := fun vs H Q E => ∃ a b, vs = [a, b] ∧ f a b H Q E
def Sp3 (f : P3) : Sp := fun vs H Q E => ∃ a b c, vs = [a, b, c] ∧ f a b c H Q E
def Sp4 (f : P4) : Sp := fun vs H Q E => ∃ a b c d, vs = [a, b, c, d] ∧ f a b c d H Q E
def Sp5 (f : P5) : Sp := fun vs H Q E => ∃ a b c d e, vs = [a, b, c, d, e] ∧ f a b c d e H Q E
theorem len1 {f : P1} : ∀ vs H Q E, Sp1 f vs H Q E → vs.length = 1 := by
  rintro vs H Q E ⟨a, rfl, _⟩
  rfl
theorem len2 {f : P2} : ∀ vs H Q E, Sp2 f vs H Q E → vs.length = 2 := by
  rintro vs H Q E ⟨a, b, rfl, _⟩
  rfl
theorem len3 {f : P3} : ∀ vs H Q E, Sp3 f vs H Q E → vs.length = 3 := by
  rintro vs H Q E ⟨a, b, c, rfl, _⟩
  rfl
theorem len4 {f : P4} : ∀ vs H Q E, Sp4 f vs H Q E → vs.length = 4 := by
  rintro vs H Q E ⟨a, b, c, d, rfl, _⟩
  rfl
theorem len5 {f : P5} : ∀ vs H Q E, Sp5 f vs H Q E → vs.length = 5 := by
  rintro vs H Q E ⟨a, b, c, d, e, rfl, _⟩
  rfl
/-! ### a def as it stands, a def with its promise -/
structure Raw (K : PySem.W.Frag) (mg : Str → Option Value) (x : Str) (st : Stmt) (dvs : List V) (kws : List (Str × V)) : Prop where
  ex : ∃ (f : Addr) (fd : FuncData), mg x = some (.ref f) ∧ FunD K x x (defArgs st) (defBody st) (defScope st) dvs kws f fd
structure Def (P : Program) (w : World) (K : PySem.W.Frag) (mg : Str → Option Value) (base : Heap) (CX : CXT) (k : Nat) (x : Str) (st : Stmt) (ps : List Str) (sp : Sp) : Prop where
  ex : ∃ (f : Addr) (fd : FuncData), mg x = some (.ref f) ∧ PySem.W.keepIn K (.ref f) = true ∧ Binds K fd ps [] ∧ FnOk P w K mg base CX k f fd ps sp ∧ FunD K x x (defArgs st) (defBody st) (defScope st) [] [] f fd
/-- the def at f is one -/
theorem fund_same {K : PySem.W.Frag} {x q x' q' : Str} {A A' : Arguments} {B B' : List Stmt} {S S' : Scope} {dvs dvs' : List V} {kws kws' : List (Str × V)} {f : Addr} {fd fd' : FuncData} (F : FunD K x q A B S dvs kws f fd) (F' : FunD K x' q' A' B' S' dvs' kws' f fd') : fd = fd' := by
  obtain ⟨oc, od, dV, kV, doc, pm, an, cdv, ct, osl, _, lk, _⟩ := F.ex
  obtain ⟨oc', od', dV', kV', doc', pm', an', cdv', ct', osl', _, lk', _⟩ := F'.ex
  rw [lk] at lk'
  have e := Option.some.inj lk'
  injection e with _ _ e3 _
  exact Data.func.inj e3
/-- every parameter by its keyword -/
theorem kbinds_all {K : PySem.W.Frag} {x q : Str} {A : Arguments} {B : List Stmt} {S : Scope} {kws : List (Str × V)} {f : Addr} {fd : FuncData} {ps ks : List Str} (F : FunD K x q A B S [] kws f fd)
    (h : ∀ (kV doc pm : Value) (an : Option Addr) (cdv ct : Value) (ws : List Value), ws.length = ks.length → bindArgs (PySem.W.fnOf x q A B S .none kV doc pm an cdv ct) ⟨[], ks.zip ws⟩ = pure (ps.zip ws)) : KBn K fd ps 0 ks (fun _ ws => ws) (fun _ zs => zs) := by
  obtain ⟨oc, od, dV, kV, doc, pm, an, cdv, ct, osl, rfl, lk, hcd, hD, hK⟩ := F.ex
  rcases hD with ⟨_, rfl⟩ | ⟨e, _⟩
  · refine ⟨fun s us ws X l1 l2 => ?_, fun _ r => r⟩
    have e : us = [] := List.eq_nil_of_length_eq_zero l1
    rw [e]
    exact .of_eq (h kV doc pm an cdv ct ws l2)
  · exact absurd rfl e
/-! ### universal operators -/
section
variable {X : Cx}
def rAddU (K : PySem.W.Frag) : R2 := fun x y H Q => (∃ i j, x = .int i ∧ y = .int j ∧ Q (.int (i + j)) H) ∨
  ((∃ i j, x = .str i ∧ y = .str j ∧ i.length + j.length ≤ sizeLine ∧ Q (.str (i ++ j)) H) ∨ (rCat x y H Q ∨ rCatT K x y H Q))
theorem op_addU : OpR X (binaryOp .Add) (rAddU X.K) := op_add.or (op_add_str.or (op_cat.or op_catT))
theorem iop_addU : OpR X (inplaceOp .Add) (fun x y H Q => (∃ i j, x = .int i ∧ y = .int j ∧ Q (.int (i + j)) H) ∨ (∃ i j, x = .str i ∧ y = .str j ∧ i.length + j.length ≤ sizeLine ∧ Q (.str (i ++ j)) H)) := iop_add.or iop_add_str
def rLtU : R2 := fun x y H Q => (∃ i j, x = .int i ∧ y = .int j ∧ Q (.bl (decide (i < j))) H) ∨ (∃ i j, x = .str i ∧ y = .str j ∧ Q (.bl (decide (i.cps.toList < j.cps.toList))) H)
theorem op_ltU : OpR X (compareOp .Lt) rLtU := op_lt.or op_lt_str
def rGt0 : R2 := rI0 fun i j => .bl (decide (j < i))
theorem op_gt0 : OpR X (compareOp .Gt) rGt0 := op_gt
def rLe0 : R2 := rI0 fun i j => .bl (decide (i ≤ j))
theorem op_le0 : OpR X (compareOp .LtE) rLe0 := op_le
def rGe0 : R2 := rI0 fun i j => .bl (decide (j ≤ i))
theorem op_ge0 : OpR X (compareOp .GtE) rGe0 := op_ge
def rSub0 : R2 := rI0 fun i j => .int (i - j)
theorem op_sub0 : OpR X (binaryOp .Sub) rSub0 := op_sub
def rMul0 : R2 := rI CMul fun i j => .int (i * j)
theorem op_mul0 : OpR X (binaryOp .Mult) rMul0 := op_mul
def rMod0 : R2 := rI (fun _ j => 0 < j) fun i j => .int (i % j)
theorem op_mod0 : OpR X (binaryOp .Mod) rMod0 := op_mod
def rDiv0 : R2 := rI CDivW fun i j => .int (i / j)
theorem op_div0 : OpR X (binaryOp .FloorDiv) rDiv0 := op_fdivW
def rPow0 : R2 := rI CPow fun i j => .int (i ^ j.toNat)
theorem op_pow0 : OpR X (binaryOp .Pow) rPow0 := op_pow
def uNeg0 : V → Hp → VK → Prop := rU fun i => .int (-i)
theorem un_neg0 : UnR X (unaryOp .USub) uNeg0 := un_neg
/-- in, not in: one sign in a text; a list or tuple of flat things -/
def rInU (K : PySem.W.Frag) : R2 := fun x y H Q => (∃ (c : Nat) (z : Str), x = .str ⟨#[c]⟩ ∧ y = .str z ∧ Q (.bl (decide (c ∈ z.cps.toList))) H) ∨ rIn K false x y H Q
theorem op_inU : OpR X (compareOp .In) (rInU X.K) := op_in_sign.or op_in_seq
def rNiU (K : PySem.W.Frag) : R2 := fun x y H Q => (∃ (c : Nat) (z : Str), x = .str ⟨#[c]⟩ ∧ y = .str z ∧ Q (.bl (!decide (c ∈ z.cps.toList))) H) ∨ rIn K true x y H Q
theorem op_niU : OpR X (compareOp .NotIn) (rNiU X.K) := op_notIn_sign.or op_notIn_seq
/-- len -/
def rLenU (K : PySem.W.Frag) : List V → Hp → VK → Prop := fun xs H Q => (∃ p ys, xs = [.ref p] ∧ (SqL K H p ys ∨ SqT K H p ys) ∧ Q (.int ys.length) H) ∨ (∃ z, xs = [.str z] ∧ z.length ≤ sizeLine ∧ Q (.int z.length) H)
theorem call_lenU : CallR X (.builtin "len") (rLenU X.K) := call_len_seq.or call_len_str
def rInt0 : List V → Hp → VK → Prop := fun xs H Q => (∃ i, xs = [.int i] ∧ Q (.int i) H) ∨ ∃ k, xs = [.bl k] ∧ Q (.int (if k then 1 else 0)) H
theorem call_int0 : CallR X (.type "int") rInt0 := call_int1
def rList0 (K : PySem.W.Frag) : List V → Hp → VK → Prop := fun xs H Q => ∃ p ys, xs = [.ref p] ∧ (SqL K H p ys ∨ SqT K H p ys) ∧ ∀ l, H l = none → Q (.ref l) (upd H l (.lst ys))
theorem call_list0 : CallR X (.type "list") (rList0 X.K) := call_list_of
def rMax0 : List V → Hp → VK → Prop := fun xs H Q => ∃ i j, xs = [.int i, .int j] ∧ Q (.int (if j > i then j else i)) H
theorem call_max0 (hc : X.calm = true) : CallR X (.builtin "max") rMax0 := call_max2 hc
def rMin0 : List V → Hp → VK → Prop := fun xs H Q => ∃ i j, xs = [.int i, .int j] ∧ Q (.int (if j < i then j else i)) H
theorem call_min0 (hc : X.calm = true) : CallR X (.builtin "min") rMin0 := call_min2 hc
/-- a[b] of a list, a tuple, a text -/
theorem ix_U : IxR X (rIx X.K) := ix_seq
end
/-! ### steps of readings -/
section
variable {K : PySem.W.Frag} {σ : L2.St} {H H1 : Hp} {Q : VK} {D : Ends} {t u : TS} {te ta tb tc : TE} {g : TG} {v x y : V} {i j : Int} {n : Nat} {tt tu : TT} {rt : VK} {nx bk ct : L2.St → Hp → Prop}
theorem go_seq (h : t ⟨u D, D.rt, D.bk, D.ct⟩ σ H) : tSeq t u D σ H := h
theorem go_next (h : D.nx σ H) : tNext D σ H := h
theorem go_nx (h : nx σ H) : Ends.nx ⟨nx, rt, bk, ct⟩ σ H := h
theorem go_rt (h : rt v H) : Ends.rt ⟨nx, rt, bk, ct⟩ v H := h
theorem go_bk (h : bk σ H) : Ends.bk ⟨nx, rt, bk, ct⟩ σ H := h
theorem go_ct (h : ct σ H) : Ends.ct ⟨nx, rt, bk, ct⟩ σ H := h
theorem go_asg (h : te σ H fun x H1 => g x σ H1 D.nx) : tAsg te g D σ H := h
theorem go_name {R : L2.St → Hp → Prop} (h : R (σ.set n (some v)) H) : gName n v σ H R := h
theorem go_sub {to ti : TE} {ts : TSet} {R : L2.St → Hp → Prop} (h : to σ H fun o H1 => ti σ H1 fun i H2 => ts o i v H2 fun H3 => R σ H3) : gSub to ti ts v σ H R := h
theorem go_var (h : σ[n]? = some (some v)) (q : Q v H) : tVar n σ H Q := ⟨v, h, q⟩
theorem go_c (q : Q v H) : tC v σ H Q := q
theorem go_op {r : R2} (h : ta σ H fun x H1 => tb σ H1 fun y H2 => r x y H2 Q) : tOp r ta tb σ H Q := h
theorem go_un {r : V → Hp → VK → Prop} (h : ta σ H fun x H1 => r x H1 Q) : tUn r ta σ H Q := h
theorem go_cb {r : List V → Hp → VK → Prop} {t : TA} (h : t σ H fun vs H1 => r vs H1 Q) : tCB r t σ H Q := h
theorem go_nil {R : List V → Hp → Prop} (h : R [] H) : tNil σ H R := h
theorem go_cons {tr : TA} {R : List V → Hp → Prop} (h : ta σ H fun x H1 => tr σ H1 fun xs H2 => R (x :: xs) H2) : tCons ta tr σ H R := h
theorem go_addI (q : Q (.int (i + j)) H) : rAddU K (.int i) (.int j) H Q := .inl ⟨i, j, rfl, rfl, q⟩
theorem go_addS {a b : Str} (l : a.length + b.length ≤ sizeLine) (q : Q (.str (a ++ b)) H) : rAddU K (.str a) (.str b) H Q := .inr (.inl ⟨a, b, rfl, rfl, l, q⟩)
theorem go_sub0 (q : Q (.int (i - j)) H) : rSub0 (.int i) (.int j) H Q := ⟨i, j, rfl, rfl, q⟩
theorem go_mul0 (c : CMul i j) (q : Q (.int (i * j)) H) : rMul0 (.int i) (.int j) H Q := ⟨i, j, rfl, rfl, c, q⟩
theorem go_mod0 (c : 0 < j) (q : Q (.int (i % j)) H) : rMod0 (.int i) (.int j) H Q := ⟨i, j, rfl, rfl, c, q⟩
theorem go_div0 (c : CDivW i j) (q : Q (.int (i / j)) H) : rDiv0 (.int i) (.int j) H Q := ⟨i, j, rfl, rfl, c, q⟩
theorem go_pow0 (c : CPow i j) (q : Q (.int (i ^ j.toNat)) H) : rPow0 (.int i) (.int j) H Q := ⟨i, j, rfl, rfl, c, q⟩
theorem go_neg0 (q : Q (.int (-i)) H) : uNeg0 (.int i) H Q := ⟨i, rfl, q⟩
theorem go_ltI (q : Q (.bl (decide (i < j))) H) : rLtU (.int i) (.int j) H Q := .inl ⟨i, j, rfl, rfl, q⟩
theorem go_ltS {a b : Str} (q : Q (.bl (decide (a.cps.toList < b.cps.toList))) H) : rLtU (.str a) (.str b) H Q := .inr ⟨a, b, rfl, rfl, q⟩
theorem go_gt0 (q : Q (.bl (decide (j < i))) H) : rGt0 (.int i) (.int j) H Q := ⟨i, j, rfl, rfl, q⟩
theorem go_le0 (q : Q (.bl (decide (i ≤ j))) H) : rLe0 (.int i) (.int j) H Q := ⟨i, j, rfl, rfl, q⟩
theorem go_ge0 (q : Q (.bl (decide (j ≤ i))) H) : rGe0 (.int i) (.int j) H Q := ⟨i, j, rfl, rfl, q⟩
theorem go_eqI (q : Q (.bl (decide (i = j))) H) : rEq (.int i) (.int j) H Q := ⟨rfl, by
  have e : decide (V.int i = V.int j) = decide (i = j) := by rw [dec_int, Bool.beq_eq_decide_eq]
  rw [e]; exact q⟩
theorem go_eqS {a b : Str} (q : Q (.bl (decide (a = b))) H) : rEq (.str a) (.str b) H Q := ⟨rfl, by
  have e : decide (V.str a = V.str b) = decide (a = b) := by rw [dec_str, Bool.beq_eq_decide_eq]
  rw [e]; exact q⟩
theorem go_eqB {a b : Bool} (q : Q (.bl (decide (a = b))) H) : rEq (.bl a) (.bl b) H Q := ⟨rfl, by
  have e : decide (V.bl a = V.bl b) = decide (a = b) := by rw [dec_bl, Bool.beq_eq_decide_eq]
  rw [e]; exact q⟩
theorem go_neI (q : Q (.bl (!decide (i = j))) H) : rNe (.int i) (.int j) H Q := ⟨rfl, by
  have e : decide (V.int i = V.int j) = decide (i = j) := by rw [dec_int, Bool.beq_eq_decide_eq]
  rw [e]; exact q⟩
theorem go_neS {a b : Str} (q : Q (.bl (!decide (a = b))) H) : rNe (.str a) (.str b) H Q := ⟨rfl, by
  have e : decide (V.str a = V.str b) = decide (a = b) := by rw [dec_str, Bool.beq_eq_decide_eq]
  rw [e]; exact q⟩
theorem go_neB {a b : Bool} (q : Q (.bl (!decide (a = b))) H) : rNe (.bl a) (.bl b) H Q := ⟨rfl, by
  have e : decide (V.bl a = V.bl b) = decide (a = b) := by rw [dec_bl, Bool.beq_eq_decide_eq]
  rw [e]; exact q⟩
theorem go_inS {c : Nat} {z : Str} (q : Q (.bl (decide (c ∈ z.cps.toList))) H) : rInU K (.str ⟨#[c]⟩) (.str z) H Q := .inl ⟨c, z, rfl, rfl, q⟩
theorem go_niS {c : Nat} {z : Str} (q : Q (.bl (!decide (c ∈ z.cps.toList))) H) : rNiU K (.str ⟨#[c]⟩) (.str z) H Q := .inl ⟨c, z, rfl, rfl, q⟩
theorem go_inL {p : Addr} {xs : List V} (h : SqL K H p xs) (fx : flatV x = true) (fs : xs.all flatV = true) (q : Q (.bl (inV x xs)) H) : rInU K x (.ref p) H Q := .inr ⟨p, xs, rfl, .inl h, fx, fs, q⟩
theorem go_inT {p : Addr} {xs : List V} (h : SqT K H p xs) (fx : flatV x = true) (fs : xs.all flatV = true) (q : Q (.bl (inV x xs)) H) : rInU K x (.ref p) H Q := .inr ⟨p, xs, rfl, .inr h, fx, fs, q⟩
theorem go_niL {p : Addr} {xs : List V} (h : SqL K H p xs) (fx : flatV x = true) (fs : xs.all flatV = true) (q : Q (.bl (!inV x xs)) H) : rNiU K x (.ref p) H Q := .inr ⟨p, xs, rfl, .inl h, fx, fs, q⟩
theorem go_lenS {z : Str} (l : z.length ≤ sizeLine) (q : Q (.int z.length) H) : rLenU K [.str z] H Q := .inr ⟨z, rfl, l, q⟩
theorem go_lenL {p : Addr} {xs : List V} (h : SqL K H p xs) (q : Q (.int xs.length) H) : rLenU K [.ref p] H Q := .inl ⟨p, xs, rfl, .inl h, q⟩
theorem go_lenT {p : Addr} {xs : List V} (h : SqT K H p xs) (q : Q (.int xs.length) H) : rLenU K [.ref p] H Q := .inl ⟨p, xs, rfl, .inr h, q⟩
theorem go_int0 (q : Q (.int i) H) : rInt0 [.int i] H Q := .inl ⟨i, rfl, q⟩
theorem go_intB {k : Bool} (q : Q (.int (if k then 1 else 0)) H) : rInt0 [.bl k] H Q := .inr ⟨k, rfl, q⟩
theorem go_max0 (q : Q (.int (if j > i then j else i)) H) : rMax0 [.int i, .int j] H Q := ⟨i, j, rfl, q⟩
theorem go_min0 (q : Q (.int (if j < i then j else i)) H) : rMin0 [.int i, .int j] H Q := ⟨i, j, rfl, q⟩
theorem go_ixL {p : Addr} {xs : List V} (h : SqL K H p xs) (e : atI xs i = some v) (q : Q v H) : rIx K (.ref p) (.int i) H Q := .inl ⟨p, xs, i, v, rfl, rfl, h, e, q⟩
theorem go_ixT {p : Addr} {xs : List V} (h : SqT K H p xs) (e : atI xs i = some v) (q : Q v H) : rIx K (.ref p) (.int i) H Q := .inr (.inl ⟨p, xs, i, v, rfl, rfl, h, e, q⟩)
theorem go_ixS {z : Str} {c : Nat} (l : z.length ≤ sizeLine) (e : atI z.cps.toList i = some c) (q : Q (.str ⟨#[c]⟩) H) : rIx K (.str z) (.int i) H Q := .inr (.inr ⟨z, i, c, rfl, rfl, l, e, q⟩)
theorem go_setL {p : Addr} {xs : List V} {k : Nat} {R : Hp → Prop} (h : H p = some (.lst xs)) (e : ixN xs.length i = some k) (q : R (upd H p (.lst (xs.set k v)))) : rSetL (.ref p) (.int i) v H R := ⟨p, xs, i, k, rfl, rfl, h, e, q⟩
/-! tests -/
theorem go_test {R : Bool → Hp → Prop} (h : te σ H fun x H1 => ∃ k, x = .bl k ∧ R k H1) : tTest te σ H R := h
theorem go_tB {R : Bool → Hp → Prop} (h : te σ H fun x H1 => ∃ k, x = .bl k ∧ R k H1) : tB te σ H R := h
theorem go_ex {k : Bool} {R : Bool → Prop} (q : R k) : ∃ k', V.bl k = .bl k' ∧ R k' := ⟨k, rfl, q⟩
theorem go_and {R : Bool → Hp → Prop} (h : tt σ H fun c H1 => if c = true then tu σ H1 R else R false H1) : tAnd tt tu σ H R := h
theorem go_or {R : Bool → Hp → Prop} (h : tt σ H fun c H1 => if c = true then R true H1 else tu σ H1 R) : tOr tt tu σ H R := h
theorem go_not {R : Bool → Hp → Prop} (h : tt σ H fun c H1 => R (!c) H1) : tNot tt σ H R := h
theorem go_andV (h : ta σ H fun x H1 => ∃ c, x = .bl c ∧ if c = true then tb σ H1 Q else Q (.bl false) H1) : tAndV ta tb σ H Q := h
theorem go_orV (h : ta σ H fun x H1 => ∃ c, x = .bl c ∧ if c = true then Q (.bl true) H1 else tb σ H1 Q) : tOrV ta tb σ H Q := h
theorem go_notV (h : ta σ H fun x H1 => ∃ c, x = .bl c ∧ Q (.bl (!c)) H1) : tNotV ta σ H Q := h
theorem go_ifE (h : tt σ H fun c H1 => if c = true then ta σ H1 Q else tb σ H1 Q) : tIf tt ta tb σ H Q := h
theorem go_if (h : tt σ H fun b H1 => if b = true then t D σ H1 else u D σ H1) : tIfS tt t u D σ H := h
theorem go_ret (h : te σ H D.rt) : tRet te D σ H := h
theorem go_retN (h : D.rt .non H) : tRetN D σ H := h
theorem go_drop (h : te σ H fun _ H1 => D.nx σ H1) : tDrop te D σ H := h
theorem go_brk (h : D.bk σ H) : tBreak D σ H := h
theorem go_cont (h : D.ct σ H) : tCont D σ H := h
theorem go_t {A B : Prop} (h : A) : if true = true then A else B := by rw [if_pos rfl]; exact h
theorem go_f {A B : Prop} (h : B) : if false = true then A else B := by rw [if_neg Bool.false_ne_true]; exact h
theorem go_nt {A B : Prop} (h : B) : if (!true) = true then A else B := go_f h
theorem go_nf {A B : Prop} (h : A) : if (!false) = true then A else B := go_t h
theorem go_dec {p A B : Prop} [Decidable p] (h1 : p → A) (h2 : ¬ p → B) : if decide p = true then A else B := by
  by_cases h : p
  · rw [if_pos (decide_eq_true h)]; exact h1 h
  · rw [decide_eq_false h, if_neg Bool.false_ne_true]; exact h2 h
theorem go_ndec {p A B : Prop} [Decidable p] (h1 : ¬ p → A) (h2 : p → B) : if (!decide p) = true then A else B := by
  by_cases h : p
  · rw [decide_eq_true h]; exact go_f (h2 h)
  · rw [decide_eq_false h]; exact go_t (h1 h)
theorem go_bool {b : Bool} {A B : Prop} (h1 : b = true → A) (h2 : b = false → B) : if b = true then A else B := by
  cases b with
  | true => exact go_t (h1 rfl)
  | false => exact go_f (h2 rfl)
theorem go_nbool {b : Bool} {A B : Prop} (h1 : b = false → A) (h2 : b = true → B) : if (!b) = true then A else B := by
  cases b with
  | true => exact go_f (h2 rfl)
  | false => exact go_t (h1 rfl)
/-! new objects -/
theorem go_lst {t : TA} (h : t σ H fun xs H1 => xs.length ≤ sizeLine ∧ ∀ p, H1 p = none → Q (.ref p) (upd H1 p (.lst xs))) : tLst t σ H Q := h
theorem go_tup {t : TA} (h : t σ H fun xs H1 => xs.length ≤ sizeLine ∧ ∀ p, H1 p = none → Q (.ref p) (upd H1 p (.tup xs))) : tTup t σ H Q := h
theorem go_call {sp : Sp} {E : XK} {t : TA} (h : t σ H fun vs H1 => sp vs H1 Q E) : tCall sp [] E t σ H Q := by
  have e : (fun (vs : List V) (H1 : Hp) => sp (vs ++ []) H1 Q E) = fun vs H1 => sp vs H1 Q E := by
    funext vs H1
    rw [List.append_nil]
  show t σ H fun vs H1 => sp (vs ++ []) H1 Q E
  rw [e]
  exact h
variable {a b c d e : V} {E : XK}
theorem go_sp1 {f : P1} (h : f a H Q E) : Sp1 f [a] H Q E := ⟨a, rfl, h⟩
theorem go_sp2 {f : P2} (h : f a b H Q E) : Sp2 f [a, b] H Q E := ⟨a, b, rfl, h⟩
theorem go_sp3 {f : P3} (h : f a b c H Q E) : Sp3 f [a, b, c] H Q E := ⟨a, b, c, rfl, h⟩
theorem go_sp4 {f : P4} (h : f a b c d H Q E) : Sp4 f [a, b, c, d] H Q E := ⟨a, b, c, d, rfl, h⟩
theorem go_sp5 {f : P5} (h : f a b c d e H Q E) : Sp5 f [a, b, c, d, e] H Q E := ⟨a, b, c, d, e, rfl, h⟩
end
theorem atI_of {α : Type} {xs : List α} {i : Int} {v : α} (h0 : 0 ≤ i) (h : xs[i.toNat]? = some v) : atI xs i = some v := by
  have e : ((i.toNat : Nat) : Int) = i := by omega
  have q := atI_nat (xs := xs) (j := i.toNat) h
  rw [e] at q
  exact q
/-! ### loops -/
/-- what a for asks of its iterator -/
def ForIt (J : It) (g : TG) (tb : TS) (D : Ends) (σ : L2.St) (H : Hp) : Prop := ∃ W : Nat → Nat → L2.St → Hp → Prop, (∃ m, W 0 m σ H) ∧ ∀ i m σ H, W i m σ H →
  (J.stop i H ∧ D.nx σ H) ∨ (J.go i H ∧ ∃ N : L2.St → Hp → Prop, (∀ σ' H', N σ' H' → ∃ m', m' < m ∧ W (i + 1) m' σ' H') ∧ ∀ x H', J.yld i H x H' → g x σ H' fun σ2 H2 => tb { D with nx := N, ct := N, bk := D.nx } σ2 H2)
section
variable {K : PySem.W.Frag} {σ : L2.St} {H : Hp} {D : Ends} {g : TG} {tb : TS} {tl : TE} {ta : TA} {a : Addr} {xs : List V} {R : It → Hp → Prop} {tc : TT}
theorem go_for {wi : TI} (h : wi σ H fun J H1 => ForIt J g tb D σ H1) : tFor wi g tb D σ H := h
def iL (K : PySem.W.Frag) (R : It → Hp → Prop) : VK := fun x H1 => ∃ a, x = .ref a ∧ (∃ xs, SqL K H1 a xs) ∧ R (Itl K a) H1
def iT (K : PySem.W.Frag) (R : It → Hp → Prop) : VK := fun x H1 => ∃ a, x = .ref a ∧ (∃ xs, SqT K H1 a xs) ∧ R (Itt K a) H1
def iS (R : It → Hp → Prop) : VK := fun v H1 => ∃ x, v = .str x ∧ R (Its x) H1
def iR1 (R : It → Hp → Prop) : List V → Hp → Prop := fun vs H1 => ∃ j : Int, vs = [.int j] ∧ -(2 ^ 62) ≤ j ∧ j < 2 ^ 62 ∧ R (Itr 0 j.toNat) H1
def iR2 (R : It → Hp → Prop) : List V → Hp → Prop := fun vs H1 => ∃ i j : Int, vs = [.int i, .int j] ∧ (-(2 ^ 62) ≤ i ∧ i < 2 ^ 62 ∧ -(2 ^ 62) ≤ j ∧ j < 2 ^ 62) ∧ R (Itr i (j - i).toNat) H1
theorem go_iL (h : tl σ H (iL K R)) : iList K tl σ H R := h
theorem go_iT (h : tl σ H (iT K R)) : iTup K tl σ H R := h
theorem go_iS (h : tl σ H (iS R)) : iStr tl σ H R := h
theorem go_iR1 (h : ta σ H (iR1 R)) : iRng1 ta σ H R := h
theorem go_iR2 (h : ta σ H (iR2 R)) : iRng2 ta σ H R := h
theorem for_l (h : SqL K H a xs) (Pv : Nat → L2.St → Hp → Prop) (h0 : Pv 0 σ H) (hl : ∀ i σ H, i ≤ xs.length → Pv i σ H → SqL K H a xs)
    (hs : ∀ (i : Nat) x σ H, xs[i]? = some x → Pv i σ H → g x σ H fun σ2 H2 => tb ⟨Pv (i + 1), D.rt, D.nx, Pv (i + 1)⟩ σ2 H2) (hd : ∀ σ H, Pv xs.length σ H → D.nx σ H) : iL K (fun J H1 => ForIt J g tb D σ H1) (.ref a) H :=
  ⟨a, rfl, ⟨xs, h⟩, for_list (K := K) (a := a) (xs := xs) Pv h0 hl hs hd⟩
theorem for_t (h : SqT K H a xs) (Pv : Nat → L2.St → Hp → Prop) (h0 : Pv 0 σ H) (hl : ∀ i σ H, i ≤ xs.length → Pv i σ H → SqT K H a xs)
    (hs : ∀ (i : Nat) x σ H, xs[i]? = some x → Pv i σ H → g x σ H fun σ2 H2 => tb ⟨Pv (i + 1), D.rt, D.nx, Pv (i + 1)⟩ σ2 H2) (hd : ∀ σ H, Pv xs.length σ H → D.nx σ H) : iT K (fun J H1 => ForIt J g tb D σ H1) (.ref a) H :=
  ⟨a, rfl, ⟨xs, h⟩, for_tup (K := K) (a := a) (xs := xs) Pv h0 hl hs hd⟩
theorem for_r {j : Int} (hj : -(2 ^ 62) ≤ j ∧ j < 2 ^ 62) (Pv : Nat → L2.St → Hp → Prop) (h0 : Pv 0 σ H)
    (hs : ∀ (i : Nat) σ H, (i : Int) < j → Pv i σ H → g (.int (i : Int)) σ H fun σ2 H2 => tb ⟨Pv (i + 1), D.rt, D.nx, Pv (i + 1)⟩ σ2 H2) (hd : ∀ σ H, Pv j.toNat σ H → D.nx σ H) : iR1 (fun J H1 => ForIt J g tb D σ H1) [.int j] H := by
  refine ⟨j, rfl, hj.1, hj.2, for_range (lo := 0) (n := j.toNat) Pv h0 (fun i σ H hi p => ?_) hd⟩
  have e : (0 : Int) + (i : Int) = (i : Int) := Int.zero_add _
  rw [e]
  exact hs i σ H (by omega) p
theorem for_r2 {l j : Int} (hj : -(2 ^ 62) ≤ l ∧ l < 2 ^ 62 ∧ -(2 ^ 62) ≤ j ∧ j < 2 ^ 62) (Pv : Nat → L2.St → Hp → Prop) (h0 : Pv 0 σ H)
    (hs : ∀ (i : Nat) σ H, l + (i : Int) < j → Pv i σ H → g (.int (l + (i : Int))) σ H fun σ2 H2 => tb ⟨Pv (i + 1), D.rt, D.nx, Pv (i + 1)⟩ σ2 H2) (hd : ∀ σ H, Pv (j - l).toNat σ H → D.nx σ H) : iR2 (fun J H1 => ForIt J g tb D σ H1) [.int l, .int j] H :=
  ⟨l, j, rfl, hj, for_range (lo := l) (n := (j - l).toNat) Pv h0 (fun i σ H hi p => hs i σ H (by omega) p) hd⟩
theorem for_s {z : Str} (Pv : Nat → L2.St → Hp → Prop) (h0 : Pv 0 σ H)
    (hs : ∀ (i : Nat) (c : Nat) σ H, z.cps.toList[i]? = some c → Pv i σ H → g (.str ⟨#[c]⟩) σ H fun σ2 H2 => tb ⟨Pv (i + 1), D.rt, D.nx, Pv (i + 1)⟩ σ2 H2) (hd : ∀ σ H, Pv z.length σ H → D.nx σ H) : iS (fun J H1 => ForIt J g tb D σ H1) (.str z) H := by
  refine ⟨z, rfl, fun i m σ H => m = z.length - i ∧ i ≤ z.length ∧ Pv i σ H, ⟨z.length, by simp, Nat.zero_le _, h0⟩, ?_⟩
  rintro i m σ H ⟨rfl, hi, p⟩
  by_cases hlt : i < z.length
  · refine .inr ⟨hlt, Pv (i + 1), fun σ' H' p' => ⟨z.length - (i + 1), by omega, rfl, hlt, p'⟩, fun x H' y => ?_⟩
    obtain ⟨e, c, hc, ex⟩ := y
    subst e ex
    exact hs i c σ _ (by simpa using hc) p
  · have e : i = z.length := by omega
    subst e
    exact .inl ⟨Nat.le_refl _, hd σ H p⟩
/-- a while by its word W with the measure -/
theorem go_while (W : Nat → L2.St → Hp → Prop) (m0 : Nat) (w0 : W m0 σ H) (turn : ∀ m σ H, W m σ H → tc σ H fun b H1 => if b = true then ∃ N : L2.St → Hp → Prop, (∀ σ' H', N σ' H' → ∃ m', m' < m ∧ W m' σ' H') ∧ tb ⟨N, D.rt, D.nx, N⟩ σ H1 else D.nx σ H1) : tWhile tc tb D σ H :=
  ⟨W, ⟨m0, w0⟩, turn⟩
/-- slices of a text -/
theorem go_sl {r : V → Option Int → Option Int → Hp → VK → Prop} {te : TE} {tl th : TO} {Q : VK} (h : te σ H fun x H1 => tl σ H1 fun l H2 => th σ H2 fun u H3 => r x l u H3 Q) : tSl r te tl th σ H Q := h
theorem go_part {t : TE} {Q : Option Int → Hp → Prop} (h : t σ H fun x H1 => ∃ i, x = .int i ∧ Q (some i) H1) : tPart t σ H Q := h
theorem go_nopart {Q : Option Int → Hp → Prop} (h : Q none H) : tNoPart σ H Q := h
theorem go_exi {i : Int} {R : Int → Prop} (q : R i) : ∃ k, V.int i = .int k ∧ R k := ⟨i, rfl, q⟩
theorem go_slS {z : Str} {lo hi : Option Int} {Q : VK} (l : z.length ≤ sizeLine) (q : Q (.str (cutS z lo hi)) H) : rSlS (.str z) lo hi H Q := ⟨z, rfl, l, q⟩
/-- list append -/
theorem go_bm {T : String} {r : V → List V → Hp → VK → Prop} {to : TE} {t : TA} {Q : VK} (h : to σ H fun x H1 => tyV K T x H1 ∧ t σ H1 fun xs H2 => r x xs H2 Q) : tBM K T r to t σ H Q := h
theorem go_app {l : Addr} {ys : List V} {y : V} {Q : VK} (h : H l = some (.lst ys)) (z : ys.length < sizeLine) (q : Q .non (upd H l (.lst (ys ++ [y])))) : rAppend (.ref l) [y] H Q := ⟨l, ys, y, rfl, rfl, h, z, q⟩
theorem ty_lst {l : Addr} {ys : List V} (h : SqL K H l ys) : tyV K "list" (.ref l) H := .inl ⟨rfl, ys, h⟩
end
theorem len_one (c : Nat) : (⟨#[c]⟩ : Str).length = 1 := rfl
theorem length_append (a b : Str) : (a ++ b).length = a.length + b.length := by
  show (a.cps ++ b.cps).size = a.cps.size + b.cps.size
  rw [Array.size_append]
theorem size_ok {n : Nat} (h : n ≤ 100000) : n ≤ sizeLine := Nat.le_trans h (by decide)
theorem size_lt {n : Nat} (h : n < 100000) : n < sizeLine := Nat.lt_of_lt_of_le h (by decide)
/-! ### heaps: what stands but at M -/
structure Dx (M : Addr → Prop) (H H' : Hp) : Prop where
  st : ∀ a o, ¬ M a → H a = some o → H' a = some o
  dm : ∀ a, H' a = none → H a = none
section
variable {M N : Addr → Prop} {H H' H1 H2 : Hp} {a p l : Addr} {o u : HO} {K : PySem.W.Frag} {xs : List V}
theorem Dx.refl : Dx M H H := ⟨fun _ _ _ h => h, fun _ h => h⟩
theorem Dx.trans (a : Dx M H H1) (b : Dx M H1 H2) : Dx M H H2 := ⟨fun c o n h => b.st c o n (a.st c o n h), fun c h => a.dm c (b.dm c h)⟩
theorem Dx.mono (a : Dx M H H1) (h : ∀ c, M c → N c) : Dx N H H1 := ⟨fun c o n q => a.st c o (fun z => n (h c z)) q, a.dm⟩
theorem Dx.new (h : H p = none) : Dx M H (upd H p o) := ⟨fun c u _ q => by rw [upd_ne (ne_of_none q h)]; exact q, fun c q => by
  by_cases e : c = p
  · rw [e]; exact h
  · rw [upd_ne e] at q; exact q⟩
theorem stands (h : H a = some u) (hp : H p = none) : upd H p o a = some u := by
  rw [upd_ne (ne_of_none h hp)]
  exact h
theorem Dx.mut (hm : M l) : Dx M H (upd H l u) := ⟨fun c o n q => by rw [upd_ne (fun e => n (by rw [e]; exact hm))]; exact q, fun c q => by
  by_cases e : c = l
  · rw [e, upd_same] at q; cases q
  · rw [upd_ne e] at q; exact q⟩
/-- what M holds besides is not yet there at H -/
theorem Dx.loc (d : Dx N H H1) (h : ∀ c, N c → M c ∨ H c = none) : Dx M H H1 := ⟨fun c o n q => d.st c o (fun z => by
  rcases h c z with e | e
  · exact n e
  · rw [q] at e
    exact nomatch e) q, d.dm⟩
theorem Dx.al (d : Dx M H H1) (h : H a ≠ none) : H1 a ≠ none := fun e => h (d.dm a e)
theorem Dx.rd (d : Dx M H H1) (n : ¬ M a) (h : Rd H a o) : Rd H1 a o := by
  rcases h with h | ⟨u, h⟩
  · exact .inl (d.st _ _ n h)
  · exact .inr ⟨u, d.st _ _ n h⟩
theorem Dx.sqL (d : Dx M H H1) (n : ¬ M a) (h : SqL K H a xs) : SqL K H1 a xs := by
  rcases h with h | h
  · exact .inl (d.rd n h)
  · exact .inr h
theorem Dx.sqT (d : Dx M H H1) (n : ¬ M a) (h : SqT K H a xs) : SqT K H1 a xs := by
  rcases h with h | h
  · exact .inl (d.rd n h)
  · exact .inr h
end
/-- the draws' store at c: six numbers behind the cells' list at p -/
def stL (p : Addr) (i rest left n a b : Int) : List V := [.ref p, .int i, .int rest, .int left, .int n, .int a, .int b]
structure StoreAt (M : Addr → Prop) (H : Hp) (c : Addr) : Prop where
  ex : ∃ (p : Addr) (i rest left n a b : Int) (cells : List Int), H c = some (.lst (stL p i rest left n a b)) ∧ H p = some (.lst (cells.map V.int)) ∧ ¬ M p ∧ 0 ≤ i ∧ (0 ≤ a ∧ a < 2147483647) ∧ (0 ≤ b ∧ b < 2147483399)
/-- the store is at c, which M holds; M's are all there -/
structure Ok (M : Addr → Prop) (H : Hp) (c : Addr) : Prop where
  inM : M c
  al : ∀ a, M a → H a ≠ none
  st : StoreAt M H c
abbrev Only1 (c : Addr) : Addr → Prop := fun a => a = c
/-- l besides -/
def Add (M : Addr → Prop) (l : Addr) : Addr → Prop := fun a => a = l ∨ M a
section
variable {M : Addr → Prop} {H H1 : Hp} {c l : Addr} {o u : HO}
theorem Only1.sub (h : M c) : ∀ a, Only1 c a → M a := fun a e => by
  have e' : a = c := e
  rw [e']
  exact h
theorem Ok.sub (k : Ok M H c) (d : Dx (Only1 c) H H1) : Dx M H H1 := d.mono (Only1.sub k.inM)
theorem Ok.alive (k : Ok M H c) (d : Dx M H H1) : ∀ a, M a → H1 a ≠ none := fun a h => d.al (k.al a h)
/-- anything but the store has changed -/
theorem Ok.keep (k : Ok M H c) (d : Dx M H H1) (e : H1 c = H c) : Ok M H1 c := by
  obtain ⟨p, i, rest, left, n, a, b, cells, h1, h2, h3, h4⟩ := k.st.ex
  exact ⟨k.inM, k.alive d, ⟨p, i, rest, left, n, a, b, cells, by rw [e]; exact h1, d.st _ _ h3 h2, h3, h4⟩⟩
theorem Ok.ne_new (k : Ok M H c) (h : H l = none) : l ≠ c := fun e => k.al c k.inM (by rw [← e]; exact h)
theorem Ok.notM (k : Ok M H c) (h : H l = none) : ¬ M l := fun e => k.al l e h
theorem Ok.new (k : Ok M H c) (h : H l = none) : Ok M (upd H l o) c := k.keep (Dx.new h) (upd_ne (Ne.symm (k.ne_new h)))
/-- a new object joins M -/
theorem Ok.add (k : Ok M H c) (h : H l = none) : Ok (Add M l) (upd H l o) c := by
  obtain ⟨p, i, rest, left, n, a, b, cells, h1, h2, h3, h4⟩ := k.st.ex
  have hp : p ≠ l := ne_of_none h2 h
  have hc : c ≠ l := Ne.symm (k.ne_new h)
  refine ⟨.inr k.inM, fun a z => ?_, ⟨p, i, rest, left, n, a, b, cells, by rw [upd_ne hc]; exact h1, by rw [upd_ne hp]; exact h2, fun z => ?_, h4⟩⟩
  · rcases z with e | z
    · rw [e, upd_same]
      exact fun q => by cases q
    · exact (k.new (o := o) h).al a z
  · rcases z with e | z
    · exact hp e
    · exact h3 z
theorem Ok.ne {a : Addr} (k : Ok M H c) (h : ¬ M a) : a ≠ c := fun e => h (by rw [e]; exact k.inM)
/-- a smaller M -/
theorem Ok.less {N : Addr → Prop} (k : Ok M H c) (hc : N c) (h : ∀ a, N a → M a) : Ok N H c := by
  obtain ⟨p, i, rest, left, n, a, b, cells, h1, h2, h3, h4⟩ := k.st.ex
  exact ⟨hc, fun a z => k.al a (h a z), ⟨p, i, rest, left, n, a, b, cells, h1, h2, fun z => h3 (h p z), h4⟩⟩
/-- what M holds, other than the store, is written -/
theorem Ok.mut (k : Ok M H c) (hm : M l) (hc : l ≠ c) : Ok M (upd H l o) c := k.keep (Dx.mut hm) (upd_ne (Ne.symm hc))
end
/-! ### drawn things -/
/-- a draw: the store turns, the rest stands -/
def Drawn (M : Addr → Prop) (c : Addr) (H : Hp) (R : V → Prop) (Q : VK) : Prop := ∀ r H', R r → Dx (Only1 c) H H' → Ok M H' c → Q r H'
/-- f(store): a value of R -/
def pDraw (R : V → Prop) : P1 := fun v0 H Q _ => ∃ (c : Addr) (M : Addr → Prop), v0 = .ref c ∧ Ok M H c ∧ Drawn M c H R Q
def IsText (lo hi : Nat) : V → Prop := fun v => ∃ x : Str, v = .str x ∧ lo ≤ x.length ∧ x.length ≤ hi
end Q
/-! list(reversed(xs)) -/
namespace QR
open PySem PySem.Spec PySem.Calls PyProof.Rows L2
open RT
section
variable {prog : Program} {w : World} {A : Around} {E : Value → Shared → Prop} {s : Shared}
/-- the list at S, empty, is filled from the iterator -/
theorem rev_ext {S it l : Addr} {items : Array Value} {R : Result → Shared → Prop} {c0 : Nat} (hh : A.handled = none) (hit : s.heap.IsRevIter it l ((items.size : Int) - 1)) (hl : s.heap.IsList l items) (hne : l ≠ it) (hn : items.size ≤ sizeLine)
    (hSi : S ≠ it) (hSl : S ≠ l) (hS : s.heap.get? S = some { cls := .type "list", data := .seq #[] c0 })
    (hR : ∀ (h' : Heap) (tk : Nat) (acc : Array Value) (c' : Nat), (∀ b o, b ≠ it → b ≠ S → s.heap.get? b = some o → h'.get? b = some o) → h'.get? S = some { cls := .type "list", dict := none, data := .seq acc c', slots := #[] } →
      ItemsOf (fun i v => items[items.size - 1 - i]? = some v) acc items.size → R (.ok (.ret .none)) { s with heap := h', toks := tk }) :
    wpAny (model prog w) A.in1 (Builtin.List.listExtendWith (.ref S) (.ref it) .none)
      (fun fin s' => match fin with | .done f => R (.ok f) s' | .again c' => c'.quiet = true ∧ codeAny (model prog w) A c' R s') (fun e s' => R (.error e) s') s := by
  have W := (Walks.listRev (prog := prog) (w := w) (A := A.in1) hh it l hne items).toS
  have hSf : S ∉ [it, l] := by
    intro z
    rcases List.mem_cons.mp z with z | z
    · exact hSi z
    · exact hSl (List.mem_singleton.mp z)
  have hT : s.TypeIs (.ref it) "list_reverseiterator" := hit.typeIs
  have hsame : Builtin.List.listSameRef (.ref S) (.ref it) = false := by simp [Builtin.List.listSameRef, hSi]
  unfold Builtin.List.listExtendWith; refine wpAny_bind (wpAny_typeOf hT ?_)
  rw [if_neg (by rw [hsame]; decide)]; refine wpAny_bind (wpAny_pyIter_revIter hit ?_)
  refine wpAny_bind (wpAny_holding ?_); unfold Builtin.List.listLengthHint
  refine wpAny_bind (wpAny_specialOf hT nolen_lri ?_)
  show wpAny _ A.in1 (specialOf (Value.ref it) (Str.ofString "__length_hint__") >>= fun r => _) _ _ _
  refine wpAny_bind (wpAny_specialOf hT hint_lri ?_); generalize hid : ("list_reverseiterator.__length_hint__" : String) = id1
  wp_delta; rw [show splitId id1 = some ("list_reverseiterator", "__length_hint__") from by subst hid; decide +kernel]
  subst hid; refine wpAny_bind (wpAny_isInstance (b := true) hT (by rw [isSubtype_type]; kernel_rfl) ?_)
  refine wpAny_pure ?_; rw [if_neg (by decide)]
  have e0 : ((items.size : Nat) : Int) - 1 - ((0 : Nat) : Int) = (items.size : Int) - 1 := by omega
  refine wpAny_pure ⟨plainId_quiet F.plain_extend_loop _, ?_⟩
  refine codeAny_extend_loopS W hn S hSf .none items.size 0 _ #[] c0 rfl (Nat.zero_le _) ⟨Nat.zero_le _, by rw [e0]; exact hit, hl⟩ hS (ItemsOf.nil _) fun s' acc' c' hm hS' hacc => ?_
  rw [Moved.eq_with hm]
  refine hR s'.heap s'.toks acc' c' (fun b o hb hb2 e => hm.heap b o (fun hmem => ?_) e) hS' hacc
  rcases List.mem_cons.mp hmem with e' | hmem
  · exact hb2 e'
  · exact hb (List.mem_singleton.mp hmem)
theorem rev_init {S it l : Addr} {items : Array Value} {R : Result → Shared → Prop} (hh : A.handled = none) (hit : s.heap.IsRevIter it l ((items.size : Int) - 1)) (hl : s.heap.IsList l items) (hne : l ≠ it) (hn : items.size ≤ sizeLine)
    (hSi : S ≠ it) (hSl : S ≠ l) (hS : s.heap.get? S = some { cls := .type "list", data := .seq #[] })
    (hR : ∀ (h' : Heap) (tk : Nat) (acc : Array Value) (c' : Nat), (∀ b o, b ≠ it → b ≠ S → s.heap.get? b = some o → h'.get? b = some o) → h'.get? S = some { cls := .type "list", dict := none, data := .seq acc c', slots := #[] } →
      ItemsOf (fun i v => items[items.size - 1 - i]? = some v) acc items.size → R (.ok (.ret .none)) { s with heap := h', toks := tk }) :
    wpAny (model prog w) A.in1 (Builtin.«list.__init__» ⟨[.ref S, .ref it], []⟩)
      (fun fin s' => match fin with | .done f => R (.ok f) s' | .again c' => c'.quiet = true ∧ codeAny (model prog w) A c' R s') (fun e s' => R (.error e) s') s := by
  show wpAny _ _ (do let was ← Builtin.List.listItems (.ref S); Builtin.List.listUpdate (.ref S) (fun _ => #[]); letGo was.toList.reverse; Builtin.List.listExtendWith (.ref S) (.ref it) .none) _ _ s
  refine wpAny_bind ?_; unfold Builtin.List.listItems
  refine wpAny_bind (wpAny_seqItems hS rfl (wpAny_pure ?_)); show wpAny _ _ (updateSeq S (fun _ => #[]) >>= fun _ => letGo (#[] : Array Value).toList.reverse >>= fun _ => Builtin.List.listExtendWith (.ref S) (.ref it) .none) _ _ s
  refine wpAny_bind (wpAny_updateSeq hS rfl ?_)
  have hS2 := Heap.get?_update_self (Obj.mapSeq (fun _ => (#[] : Array Value))) hS rfl
  have oth : ∀ b o, b ≠ S → s.heap.get? b = some o → (s.heap.update S (Obj.mapSeq (fun _ => (#[] : Array Value)))).get? b = some o := fun b o hb e => (Heap.get?_update_other _ _ (Ne.symm hb)).trans e
  refine wpAny_bind (wpAny_letGo ?_)
  obtain ⟨ol, hol, r1⟩ := hl
  refine rev_ext hh (hit.at fun o e => oth it o (Ne.symm hSi) e) ⟨ol, oth l ol (Ne.symm hSl) hol, r1⟩ hne hn hSi hSl hS2 fun h' tk acc c' hk hS' hacc => ?_
  exact hR h' tk acc c' (fun b o hb hb2 e => hk b o hb hb2 (oth b o hb2 e)) hS' hacc
theorem list_rev {it l : Addr} {items : Array Value} {Q : Value → Shared → Prop} (hh : A.handled = none) (hit : s.heap.IsRevIter it l ((items.size : Int) - 1)) (hl : s.heap.IsList l items) (hne : l ≠ it) (hn : items.size ≤ sizeLine)
    (hQ : ∀ (h' : Heap) (tk : Nat) (acc : Array Value) (c' : Nat), (∀ b o, b ≠ it → s.heap.get? b = some o → h'.get? b = some o) → h'.get? s.heap.objs.size = some { cls := .type "list", dict := none, data := .seq acc c', slots := #[] } →
      ItemsOf (fun i v => items[items.size - 1 - i]? = some v) acc items.size → Q (.ref s.heap.objs.size) { s with heap := h', toks := tk }) : wpAny (model prog w) A (call (.type "list") [.ref it]) Q E s := by
  refine callType_codes (Q₁ := fun obj s1 => obj = .ref s.heap.objs.size ∧ s1 = { s with heap := s.heap.push { cls := .type "list", data := .seq #[] } }) PySem.F.called_list (PySem.F.typeCall_list_1 _) PySem.F.entry_list_init (code_list_new _ ⟨rfl, rfl⟩) fun obj s1 h1 => ?_
  obtain ⟨rfl, rfl⟩ := h1
  have hS : (s.heap.push { cls := .type "list", data := .seq #[] }).get? s.heap.objs.size = some { cls := .type "list", data := .seq #[] } := Heap.get?_push_size _ rfl
  obtain ⟨oi, hoi, _⟩ := id hit
  obtain ⟨ol, hol, _⟩ := id hl
  refine ⟨⟨_, hS, rfl⟩, PySem.F.args_list_init_2 _ _, rev_init (A := A.in1) hh (hit.at fun o e => Heap.get?_push_of_some _ e) (hl.push _) hne hn (Nat.ne_of_gt (Heap.lt_size hoi)) (Nat.ne_of_gt (Heap.lt_size hol)) hS fun h' tk acc c' hk hS' hacc => ?_⟩
  exact ⟨rfl, hQ h' tk acc c' (fun b o hb e => hk b o hb (Nat.ne_of_lt (Heap.lt_size e)) (Heap.get?_push_of_some _ e)) hS' hacc⟩
end
end QR
namespace Q
open PySem PySem.Spec PySem.Calls PyProof.Rows L2
/-- list(reversed(x)), x a list: a new list -/
def tListRev (K : PySem.W.Frag) (te : TE) : TE := fun σ H Q => te σ H fun v H1 => ∃ (a : Addr) (xs : List V), v = .ref a ∧ SqL K H1 a xs ∧ ∀ q, H1 q = none → Q (.ref q) (upd H1 q (.lst xs.reverse))
theorem pe_listRev {X : Cx} {e : Expr} {te : TE} {p p2 pos pos2 : Pos} (hc : X.calm = true) (hg : Gl X "list") (hm : X.mg "list" = none) (hg2 : Gl X "reversed") (hm2 : X.mg "reversed" = none) (he : PE X e te)
    (hs : starEach [e] X.env = (false, eval e X.env) :: starEach [] X.env := by rfl)
    (hs2 : starEach [.Call (.Name "reversed" p2) [e] [] pos2] X.env = (false, eval (.Call (.Name "reversed" p2) [e] [] pos2) X.env) :: starEach [] X.env := by rfl) :
    PE X (.Call (.Name "list" p) [.Call (.Name "reversed" p2) [e] [] pos2] [] pos) (tListRev X.K te) := by
  refine ⟨fun pins s σ H Q I h => ?_⟩
  refine Call_ (ld_blt I hg hm boot_list (PyProof.Rows.callWith_type1 (args_cons (Call_ (ld_blt I hg2 hm2 PyProof.Rows.boot_reversed (PyProof.Rows.callWith_type1 (args_cons (thn (he.run pins s σ H _ I h) fun u s1 ⟨v, H1, I1, r1, q1⟩ => args_nil ?_) hs) hs rfl))) hs2) hs2 rfl))
  obtain ⟨a, xs, ev, hq, q⟩ := q1
  subst ev; obtain rfl : u = Value.ref a := r1
  obtain ⟨its, rv, p', hz⟩ := I1.list hq
  refine call_reversed_list p'.isList (args_nil ?_)
  have k0 : ∀ b o, s1.heap.get? b = some o → (s1.heap.push (revObj a ((its.toArray.size : Int) - 1))).get? b = some o := fun b o e => Heap.get?_push_of_some _ e
  have I2 : Inv X pins σ H1 { s1 with heap := s1.heap.push (revObj a ((its.toArray.size : Int) - 1)) } := I1.kept (t' := s1.toks) k0
  have hf := I1.fpOk (H' := H1) (b := s1.heap.objs.size) (Nat.le_refl _) (I1.hok.fresh (Nat.le_refl _))
  obtain ⟨f0, f1, f2, f3, f4, f5⟩ := hf
  have hl := p'.isList
  obtain ⟨ol, hol, _⟩ := id hl
  have hne : a ≠ s1.heap.objs.size := Nat.ne_of_lt (Heap.lt_size hol)
  have hn : its.toArray.size ≤ sizeLine := by
    rw [List.size_toArray, ← rv.length]
    exact hz
  refine QR.list_rev (s := { s1 with heap := s1.heap.push (revObj a ((its.toArray.size : Int) - 1)) }) (I1.ok.hd hc) ⟨_, Heap.get?_push_size _ rfl, rfl, rfl⟩ (hl.push _) hne hn fun h' tk acc c' hk hS hi => ?_
  have hD : H1 (s1.heap.push (revObj a ((its.toArray.size : Int) - 1))).objs.size = none := I2.hok.fresh (Nat.le_refl _)
  generalize hDe : (s1.heap.push (revObj a ((its.toArray.size : Int) - 1))).objs.size = D at hD hS
  have old : ∀ b o, (s1.heap.push (revObj a ((its.toArray.size : Int) - 1))).get? b = some o → b ≠ D := fun b o e => by
    rw [← hDe]
    exact Nat.ne_of_lt (Heap.lt_size e)
  have hz2 : xs.reverse.length ≤ sizeLine := by
    rw [List.length_reverse]
    exact hz
  have same : ∀ b u, H1 b = some u → upd H1 D (.lst xs.reverse) b = some u := fun b u e => by
    rw [upd_ne (ne_of_none e hD)]
    exact e
  have nit : ∀ b u, H1 b = some u → b ≠ s1.heap.objs.size := fun b u e z => by
    rw [z, f0] at e
    cases e
  have J : Inv X pins σ (upd H1 D (.lst xs.reverse)) { ({ s1 with heap := s1.heap.push (revObj a ((its.toArray.size : Int) - 1)) } : Shared) with heap := h', gens := s1.gens, drawn := s1.drawn, toks := tk } := by
    refine I2.step (g' := s1.gens) (d' := s1.drawn) (t' := tk) (h' := h') (ch := [s1.heap.objs.size]) (fun b hb => ?_) (fun b o _ _ hc e _ => hk b o (fun z => hc (by simp [z])) e) (fun b o _ _ hc e _ => ⟨o.slots, hk b o (fun z => hc (by simp [z])) e⟩)
      (fun b o _ e n => by rw [upd_ne (old b o e)]; exact n) (fun b o hc e => ⟨o, hk b o (fun z => hc (by simp [z])) e⟩) (fun b ys e => same b _ e) (fun b o v e => same b _ e) (fun b ps e => ⟨#[], by rw [same b _ e]; simp⟩) (fun m hm => ?_) (fun b u e => ?_) I1.bare
    · have e : b = s1.heap.objs.size := by simpa using hb
      subst e
      exact ⟨f3, f1, f4, f5⟩
    · obtain ⟨o, es, ep, ho, r⟩ := hm
      exact ⟨o, es, ep, hk _ o (Ne.symm f1) ho, r⟩
    · by_cases hb : b = D
      · subst hb
        rw [upd_same] at e
        cases e
        exact ⟨hz2, acc.toList, c', RT.vals_rev rv hi, by rw [Array.toArray_toList]; exact hS⟩
      · rw [upd_ne hb] at e
        refine (I2.hok b u e).stay (fun c v hc y => hk c v ?_ y) (fun c y => same c _ y) fun c ys y => same c _ y
        rcases hc with z | z
        · rw [z]
          exact nit b u e
        · exact nit c _ z
  exact ⟨.ref D, _, J, rfl, q D hD⟩
end Q
/-! isinstance of a caught exception that has its own dict -/
namespace Q
open PySem PySem.Spec PyProof.Rows L2
/-- the exception that the suite holds at a: its class is D, its dict stands -/
def XAt (cls : Value) (d : Option Addr) (D : Addr) (H : Hp) : Prop := cls = .ref D ∧ ∃ (dd : Addr) (fs : List (Str × V)), d = some dd ∧ H dd = some (.xd fs)
def rIsX (K : PySem.W.Frag) (a : Addr) (cls : Value) (d : Option Addr) : List V → Hp → VK → Prop := fun xs H Q => ∃ D : Addr, ExcC K D ∧ XAt cls d D H ∧
  ((∃ (c : V) (cv : Value) (b : Bool), xs = [.ref a, c] ∧ ClsV c cv ∧ PySem.W.kitOne K (.ref D) cv = some b ∧ Q (.bl b) H) ∨
   (∃ (tp : Addr) (cs : List V) (us : List Value) (b : Bool), xs = [.ref a, .ref tp] ∧ H tp = some (.tup cs) ∧ Paired ClsV cs us ∧ PySem.W.kitAny K (.ref D) us = some b ∧ Q (.bl b) H))
theorem call_isX {X : Cx} {a : Addr} {oe : Obj} {cls : Value} {d : Option Addr} {pn : List (Addr × Obj)} (hz : Zc cls d oe) (hf : ∃ vs, oe.data = .fields vs) : CallR (X.suite a ((a, oe) :: pn)) (.builtin "isinstance") (rIsX X.K a cls d) := by
  intro pins s σ H xs us Q I r h
  obtain ⟨D, C, ⟨ec, dd, fs, ed, ea⟩, h⟩ := h
  subst ec ed
  obtain ⟨ha, _⟩ := I.pin (a, oe) (List.mem_append.mpr (.inl List.mem_cons_self))
  obtain ⟨vs, hv⟩ := hf
  have hx : ObjOk X.prog X.w H s.heap dd (.xd fs) := I.hok dd _ ea
  obtain ⟨mA, hns, hr⟩ := hx
  obtain ⟨od, ho, hl⟩ := lookIn_ns hns
  have J : PySem.W.InstAt s.heap a oe D (some od) := ⟨ha, hz.1, by unfold PySem.W.notCls; rw [hv] <;> rfl, by rw [hz.2]; exact ho⟩
  have hcl : (PySem.W.clsIn X.K D).isSome = true := by
    obtain ⟨cd, e, _⟩ := PySem.W.any_some C.hd
    rw [e] <;> rfl
  have Z := PySem.W.kitx_exc (K := X.K) (x := a) (ox := oe) (od := some od) hcl C.hg C.hk C.hs C.ha C.hn C.ht C.hm
  rcases h with ⟨c, cv, b, rfl, k, e, q⟩ | ⟨tp, cs, ws, b, rfl, hT, k, e, q⟩
  · obtain ⟨u1, u2, rfl, r1, r2⟩ := vals2 r
    have e2 := k.eq r2
    subst e2
    cases (show u1 = Value.ref a from r1)
    exact PySem.W.kia_one Z I.kIn J e (fun z => nomatch z) fun tk => ⟨.bl b, H, I.tok tk, rfl, q⟩
  · obtain ⟨u1, u2, rfl, r1, r2⟩ := vals2 r
    cases (show u1 = Value.ref a from r1)
    cases (show u2 = Value.ref tp from r2)
    obtain ⟨_, its, rv, o, h1, h2, n, h3⟩ := (show ObjOk X.prog X.w H s.heap tp (.tup cs) from I.hok tp _ hT)
    have e3 := ClsV.all k rv
    subst e3
    obtain ⟨oc, od2, dt, sl⟩ := o
    simp only at h2 h3
    subst h2 h3
    exact PySem.W.kia_tup Z I.kIn J h1 e (fun z => nomatch z) fun tk => ⟨.bl b, H, I.tok tk, rfl, q⟩
/-! ### is None, isinstance of built-in types -/
def rIs0 : R2 := fun x y H Q => y = .non ∧ Q (.bl (decide (x = .non))) H
def rIsNot0 : R2 := fun x y H Q => y = .non ∧ Q (.bl (!decide (x = .non))) H
section
variable {X : Cx}
theorem op_is0 : OpR X (compareOp .Is) rIs0 := op_isN
theorem op_isnot0 : OpR X (compareOp .IsNot) rIsNot0 := op_notN
end
section
variable {K : PySem.W.Frag} {H : Hp} {Q : VK} {x c : V}
theorem go_isY (q : Q (.bl true) H) : rIs0 .non .non H Q := ⟨rfl, q⟩
theorem go_isN (h : x ≠ .non) (q : Q (.bl false) H) : rIs0 x .non H Q := ⟨rfl, by rw [decide_eq_false h]; exact q⟩
theorem go_isnotN (q : Q (.bl false) H) : rIsNot0 .non .non H Q := ⟨rfl, q⟩
theorem go_isnotY (h : x ≠ .non) (q : Q (.bl true) H) : rIsNot0 x .non H Q := ⟨rfl, by rw [decide_eq_false h]; exact q⟩
/-- the built-in type of a value -/
inductive Bt (K : PySem.W.Frag) (H : Hp) : V → String → Prop where
  | non : Bt K H .non "NoneType"
  | bl (b : Bool) : Bt K H (.bl b) "bool"
  | int (i : Int) : Bt K H (.int i) "int"
  | str (s : Str) : Bt K H (.str s) "str"
  | lst {a : Addr} {xs : List V} (h : SqL K H a xs) : Bt K H (.ref a) "list"
  | tup {a : Addr} {xs : List V} (h : SqT K H a xs) : Bt K H (.ref a) "tuple"
  | dic {a : Addr} {kvs : List (Key × V)} (h : H a = some (.dK kvs)) : Bt K H (.ref a) "dict"
theorem Bt.tyX {T : String} (h : Bt K H x T) : TyX K H x (.type T) := by
  cases h with
  | non => exact .base .non
  | bl b => exact .base (.bl b)
  | int i => exact .base (.int i)
  | str s => exact .base (.str s)
  | lst h =>
    rcases h with (h | ⟨o, h⟩) | ⟨o, its, n, h, c, _⟩
    · exact .base (.lst h)
    · exact .base (.frz h)
    · exact .kList h c
  | tup h =>
    rcases h with (h | ⟨o, h⟩) | ⟨o, its, n, h, c, _⟩
    · exact .base (.tup h)
    · exact .fTuple h
    · exact .kTuple h c
  | dic h => exact .base (.dK h)
theorem go_isi {T U : String} {b : Bool} (ty : Bt K H x T) (e : kitB T U = some b) (q : Q (.bl b) H) : rIsi K [x, .ty U] H Q :=
  ⟨x, .ty U, .type T, .type U, b, rfl, .ty U, ty.tyX, kit_ty e, q⟩
theorem go_isi2 {T U U' : String} {b b' c : Bool} {p : Addr} (ty : Bt K H x T) (hp : H p = some (.tup [.ty U, .ty U'])) (e : kitB T U = some b) (e' : kitB T U' = some b') (ec : (b || b') = c) (q : Q (.bl c) H) : rIsiT K [x, .ref p] H Q := by
  subst ec
  refine ⟨x, p, _, .type T, [.type U, .type U'], (b || b'), rfl, hp, .cons (.ty U) (.cons (.ty U') .nil), ty.tyX, kitAny_cons (kit_ty e) (fun hb => ?_) (fun hb => by rw [hb]; rfl), q⟩
  refine kitAny_cons (kit_ty e') (fun hb' => ?_) (fun hb' => by rw [hb']; cases b <;> rfl)
  rw [hb, hb']
  exact kitAny_nil
end
/-- texts of a menu -/
def textsB (n : Nat) (xs : List V) : Bool := xs.all fun v => match v with
  | .str x => decide (x.length ≤ n)
  | _ => false
theorem texts_ok {n : Nat} {xs : List V} {v : V} (h : textsB n xs = true) (hv : v ∈ xs) : IsText 0 n v := by
  have q := List.all_eq_true.mp h v hv
  cases v with
  | str x => exact ⟨x, rfl, Nat.zero_le _, of_decide_eq_true q⟩
  | _ => exact nomatch q
theorem one_sign {z : Str} {v : V} (h : ∃ ch, ch ∈ z.cps.toList ∧ v = .str ⟨#[ch]⟩) : IsText 1 1 v := by
  obtain ⟨ch, _, e⟩ := h
  exact ⟨_, e, Nat.le_refl _, Nat.le_refl _⟩
section
variable {K : PySem.W.Frag} {H : Hp} {Q : VK} {a D C : Addr} {cls : Value} {d : Option Addr} {b : Bool}
theorem go_isx1 {C : Addr} (x : ExcC K D) (z : XAt cls d D H) (e : PySem.W.kitOne K (.ref D) (.ref C) = some b) (q : Q (.bl b) H) : rIsX K a cls d [.ref a, .ref C] H Q := ⟨D, x, z, .inl ⟨.ref C, _, b, rfl, .own C, e, q⟩⟩
theorem go_isxT {T : String} (x : ExcC K D) (z : XAt cls d D H) (e : PySem.W.kitOne K (.ref D) (.type T) = some b) (q : Q (.bl b) H) : rIsX K a cls d [.ref a, .ty T] H Q := ⟨D, x, z, .inl ⟨.ty T, _, b, rfl, .ty T, e, q⟩⟩
theorem clsV_refs : ∀ Cs : List Addr, Paired ClsV (Cs.map V.ref) (Cs.map Value.ref)
  | [] => .nil
  | C :: r => .cons (.own C) (clsV_refs r)
theorem go_isxL {tp : Addr} {Cs : List Addr} (x : ExcC K D) (e : PySem.W.kitAny K (.ref D) (Cs.map Value.ref) = some b) (z : XAt cls d D H) (ht : H tp = some (.tup (Cs.map V.ref))) (q : Q (.bl b) H) : rIsX K a cls d [.ref a, .ref tp] H Q :=
  ⟨D, x, z, .inr ⟨tp, _, _, b, rfl, ht, clsV_refs Cs, e, q⟩⟩
end
section
variable {X : Cx} {CX : CXT} {k : Nat} {f : Addr} {fd : FuncData} {ps ks : List Str} {sp : Sp} {E : XK} {x : Str} {p pos : Pos} {kws : List Keyword} {tk : TA} {g : List Value → List Value → List Value} {gV : List V → List V → List V}
/-- f(k = v, ..): keywords alone -/
theorem pe_callN0 (F : FnOk X.prog X.w X.K X.mg X.base CX k f fd ps sp) (hr : Room k X.A) (hg : Gl X x) (hm : X.mg x = some (.ref f)) (hk : PySem.W.keepIn X.K (.ref f) = true) (hb : KBn X.K fd ps 0 ks g gV) (hx : Passes CX X E) (hkw : PK X kws tk)
    (hall : (backToKw pos (keywordEach kws X.env)).all (·.1.isSome) = true := by rfl) (hks : (backToKw pos (keywordEach kws X.env)).filterMap (·.1) = ks := by rfl) (hdb : (x == ("__debug__" : Str)) = false := by decide)
    (hpl : ((backTo pos (starEach [] X.env)).any (·.1) || (backToKw pos (keywordEach kws X.env)).any (·.1.isNone)) = false := by rfl) : PE X (.Call (.Name x p) [] kws pos) (tCallN 0 ks.length sp gV E tNil tk) := by
  refine ⟨fun pins s σ H Q I h => ?_⟩
  refine wpAny_Call_Name_kw (ld_glob I hg hm ?_ hdb)
  refine PySem.W.callWith_KW0 (h₀ := X.base) I.ok.mod.kin hk hall (thn (hkw.run pos pins s σ H _ I h) fun ws s2 ⟨zs, H2, I2, rz, l1, l2, q2⟩ => ⟨I2.kIn, ?_⟩) hpl
  rw [hks]
  exact run_fnN (us := []) (vs := []) F hr hb hx I2 .nil rz rfl l2 q2
end
end Q
/-! what the top has written, asked of the part K as Bools -/
namespace Q
open PySem PySem.Spec PyProof.Rows L2
/-! ### the Hook: the facts and defs of He, one Bool more -/
def obsQ (n : Nat) (fa : List He.Fa) (fn : List He5.DefA) (ex : PySem.W.Frag → Bool) (g : Addr → Option Obj) : He.AlD × Bool := (He5.obsA fa fn (He.frG g (He5.asA g n)), ex (He.frG g (He5.asA g n)))
structure SaysQ (fa : List He.Fa) (fn : List He5.DefA) (ex : PySem.W.Frag → Bool) (K : PySem.W.Frag) : Prop where
  d : He5.SaysA fa fn K
  x : ex K = true
def hookQ (n : Nat) (fa : List He.Fa) (fn : List He5.DefA) (ex : PySem.W.Frag → Bool) : PySem.W.Hook where
  α := He.AlD × Bool
  obs := fun s => obsQ n fa fn ex s.heap.get?
  val := fun _ => (He5.valA fn, true)
  says := fun _ h => ∃ K : PySem.W.Frag, K.In h ∧ SaysQ fa fn ex K
  of := fun _ _ e => ⟨_, He.frG_in, ⟨congrArg Prod.fst e, congrArg Prod.snd e⟩⟩
  keeps := fun _ _ _ ⟨K, hK, c⟩ k => ⟨K, PySem.W.Frag.In.keeps hK k, c⟩
theorem obsQ_eq {n : Nat} {fa : List He.Fa} {fn : List He5.DefA} {ex : PySem.W.Frag → Bool} {g : Addr → Option Obj} {s : Shared} (h : ∀ a, g a = s.heap.get? a) : obsQ n fa fn ex g = (hookQ n fa fn ex).obs s := by
  have e : g = s.heap.get? := funext h
  rw [e]
  rfl
/-! ### exception classes -/
abbrev gA (K : PySem.W.Frag) (x : Str) : Addr := He.ga K x
/-- the class object: own classes, then ValueError's -/
def oexB (K : PySem.W.Frag) (C : Addr) : Bool := match K.lookup C with
  | some ⟨.type t, _, .cls cd, sl⟩ => (match cd.mro, sl.toList with
    | .ref C' :: bm, [_, _, _, _, some (.builtin n), _] => t == "type" && (C' == C && (n == "ValueError.__new__" && (!cd.hasDel && (cd.hasDict && PySem.HandSPX.refsVE bm))))
    | _, _ => false)
  | _ => false
def fnd (K : PySem.W.Frag) (C : Addr) (x : Str) (v : Option Value) : Bool := decide (PySem.W.findIn K (.ref C) x = some v)
/-- all that is asked of an exception class (with its own __init__ or without) -/
def xcB (K : PySem.W.Frag) (C : Addr) : Bool := oexB K C && (fnd K C "__setattr__" (some (.builtin "object.__setattr__")) && (decide (PySem.W.subIn K (.ref C) (.type "BaseException") = some true) && (decide (PySem.W.typeIn K (.ref C) = some (.type "type")) && (PySem.W.keepIn K (.ref C) &&
  (fnd K C "__getattribute__" (some (.builtin "BaseException.__getattribute__")) && (fnd K C "__getattr__" none && (PySem.W.hasDictIn K C && (fnd K C "__class__" (some (.builtin "object.__class__")) &&
  (decide (PySem.W.specialIn K (.builtin "object.__class__") "__get__" = some (some (.builtin "getset_descriptor.__get__"))) && (decide (PySem.W.takesIn K (.builtin "object.__class__") = some true) && (decide (PySem.W.mroIn K C (.type "object") = some true) &&
  decide (PySem.W.exmOne K (.ref C) (.ref C) = some true))))))))))))
structure XC (K : PySem.W.Frag) (C : Addr) : Prop where
  oex : OexC K C
  xf : XfC K C
  isx : ExcC K C
  te : PySem.W.exmOne K (.ref C) (.ref C) = some true
theorem oexB_ok {K : PySem.W.Frag} {C : Addr} (h : oexB K C = true) : ∃ nm q N bs bm sn sub ab col dd k0 k1 k2 k3 k5, K.lookup C = some (excClassObj nm q C N bs bm true sn sub ab col dd k0 k1 k2 k3 k5 "ValueError.__new__") ∧ PySem.HandSPX.refsVE bm = true := by
  unfold oexB at h
  split at h
  · rename_i t dd cd sl ho
    split at h
    · rename_i C' bm k0 k1 k2 k3 n k5 hm hs
      obtain ⟨h0, h⟩ := He.ba h
      obtain ⟨h1, h⟩ := He.ba h
      obtain ⟨h2, h⟩ := He.ba h
      obtain ⟨h3, h⟩ := He.ba h
      obtain ⟨h4, h5⟩ := He.ba h
      obtain ⟨nm, bs, mro, ns, qn, hd, sn, sub, ab, col, del⟩ := cd
      have e0 : t = "type" := beq_iff_eq.mp h0
      have e1 : C' = C := beq_iff_eq.mp h1
      have e2 : n = "ValueError.__new__" := beq_iff_eq.mp h2
      have e3 : del = false := by
        cases del with
        | false => rfl
        | true => exact nomatch h3
      have e4 : hd = true := h4
      dsimp only at hm
      have hsl : sl = #[k0, k1, k2, k3, some (.builtin n), k5] := by
        obtain ⟨l⟩ := sl
        have q : l = [k0, k1, k2, k3, some (.builtin n), k5] := hs
        rw [q]
      rw [hm, hsl, e0, e1, e2, e3, e4] at ho
      exact ⟨nm, qn, ns, bs, bm, sn, sub, ab, col, dd, k0, k1, k2, k3, k5, ho, h5⟩
    · exact nomatch h
  · exact nomatch h
theorem xcB_ok {K : PySem.W.Frag} {C : Addr} (h : xcB K C = true) : XC K C := by
  obtain ⟨h0, h⟩ := He.ba h
  obtain ⟨h1, h⟩ := He.ba h
  obtain ⟨h2, h⟩ := He.ba h
  obtain ⟨h3, h⟩ := He.ba h
  obtain ⟨h4, h⟩ := He.ba h
  obtain ⟨h5, h⟩ := He.ba h
  obtain ⟨h6, h⟩ := He.ba h
  obtain ⟨h7, h⟩ := He.ba h
  obtain ⟨h8, h⟩ := He.ba h
  obtain ⟨h9, h⟩ := He.ba h
  obtain ⟨h10, h⟩ := He.ba h
  obtain ⟨h11, h12⟩ := He.ba h
  have g1 := of_decide_eq_true h1
  have g2 := of_decide_eq_true h2
  have g5 := of_decide_eq_true h5
  have g6 := of_decide_eq_true h6
  exact ⟨⟨oexB_ok h0, g1, g2, of_decide_eq_true h3, h4⟩, ⟨g5, g6, g2, h7⟩, ⟨g5, g6, g2, h7, of_decide_eq_true h8, of_decide_eq_true h9, of_decide_eq_true h10, of_decide_eq_true h11⟩, of_decide_eq_true h12⟩
/-- its __init__ is a def of the text; the names are no attributes of the class -/
def xinB (K : PySem.W.Frag) (C : Addr) (fs : List Str) : Bool := fnd K C "__init__" (some (.ref (He.ma K C "__init__"))) && (decide (PySem.W.typeIn K (.ref (He.ma K C "__init__")) = some (.type "function")) && fs.all fun f => fnd K C f none)
structure XIn (K : PySem.W.Frag) (C : Addr) (fs : List Str) : Prop where
  ini : PySem.W.findIn K (.ref C) "__init__" = some (some (.ref (He.ma K C "__init__")))
  ty : PySem.W.typeIn K (.ref (He.ma K C "__init__")) = some (.type "function")
  no : ∀ f ∈ fs, PySem.W.findIn K (.ref C) f = some none
theorem xinB_ok {K : PySem.W.Frag} {C : Addr} {fs : List Str} (h : xinB K C fs = true) : XIn K C fs := by
  obtain ⟨h1, h⟩ := He.ba h
  obtain ⟨h2, h3⟩ := He.ba h
  exact ⟨of_decide_eq_true h1, of_decide_eq_true h2, fun f hf => of_decide_eq_true (List.all_eq_true.mp h3 f hf)⟩
/-- isinstance of an exception of x against several classes, one class; a clause -/
def kinB (K : PySem.W.Frag) (x : Str) (ys : List Str) (b : Bool) : Bool := decide (PySem.W.kitAny K (.ref (gA K x)) (ys.map fun y => .ref (gA K y)) = some b)
def kin1B (K : PySem.W.Frag) (x y : Str) (b : Bool) : Bool := decide (PySem.W.kitOne K (.ref (gA K x)) (.ref (gA K y)) = some b)
def kinTB (K : PySem.W.Frag) (x : Str) (T : String) (b : Bool) : Bool := decide (PySem.W.kitOne K (.ref (gA K x)) (.type T) = some b)
def exmB (K : PySem.W.Frag) (x y : Str) (b : Bool) : Bool := decide (PySem.W.exmOne K (.ref (gA K x)) (.ref (gA K y)) = some b)
/-! ### an exception's __init__ -/
/-- self.f = y, of a new exception -/
def pInit1 (K : PySem.W.Frag) (C : Addr) (f : Str) : P2 := fun v0 v1 H Q _ => ∃ a : Addr, v0 = .ref a ∧ H a = some (exo a C none) ∧ ∀ dx, H dx = none → dx ≠ a → Q .non (upd (upd H dx (exd dx [(f, v1)])) a (exo a C (some dx)))
def pInit2 (K : PySem.W.Frag) (C : Addr) (f g : Str) : P3 := fun v0 v1 v2 H Q _ => ∃ a : Addr, v0 = .ref a ∧ H a = some (exo a C none) ∧ ∀ dx, H dx = none → dx ≠ a → Q .non (upd (upd (upd H dx (exd dx [(f, v1)])) a (exo a C (some dx))) dx (exd dx [(g, v2), (f, v1)]))
def pInit3 (K : PySem.W.Frag) (C : Addr) (f g k : Str) : P4 := fun v0 v1 v2 v3 H Q _ => ∃ a : Addr, v0 = .ref a ∧ H a = some (exo a C none) ∧ ∀ dx, H dx = none → dx ≠ a →
  Q .non (upd (upd (upd (upd H dx (exd dx [(f, v1)])) a (exo a C (some dx))) dx (exd dx [(g, v2), (f, v1)])) dx (exd dx [(k, v3), (g, v2), (f, v1)]))
section
variable {K : PySem.W.Frag} {C : Addr} {f g k : Str} {σ : L2.St} {H : Hp} {R : XK} {te : TE} {ta : TA}
theorem go_ost {to te : TE} {D : Ends} (h : te σ H fun y H1 => to σ H1 fun x H2 => ∃ a C : Addr, x = .ref a ∧ OexC K C ∧ PySem.W.findIn K (.ref C) f = some none ∧
  ((H2 a = some (exo a C none) ∧ ∀ dx, H2 dx = none → dx ≠ a → D.nx σ (upd (upd H2 dx (exd dx [(f, y)])) a (exo a C (some dx)))) ∨
    ∃ (dx : Addr) (fs : List (Str × V)), H2 a = some (exo a C (some dx)) ∧ H2 dx = some (exd dx fs) ∧ fs.length ≤ 900 ∧ D.nx σ (upd H2 dx (exd dx ((f, y) :: fs))))) : tOst K f to te D σ H := h
theorem xo_eq {H1 : Hp} {a dx : Addr} {u o z : HO} (ha : H1 a = none) (hd : dx ≠ a) : upd (del (upd (upd (upd H1 a u) dx o) a z) a) dx o = upd H1 dx o := by
  funext b
  by_cases h1 : b = dx
  · rw [h1, upd_same, upd_same]
  · rw [upd_ne h1, upd_ne h1]
    by_cases h2 : b = a
    · rw [h2, del_same, ha]
    · rw [del_ne h2, upd_ne h2, upd_ne h1, upd_ne h2]
/-- C(e, ..), its __init__ keeping sp: behind the arguments -/
def mkO (C : Addr) (sp : Sp) (R : XK) : List V → Hp → Prop := fun vs H1 => vs.length ≤ 1000 ∧ ∀ a, H1 a = none → sp (.ref a :: (vs ++ [])) (upd H1 a (exo a C none))
  (fun v H2 => v = .non ∧ ∃ (d : Addr) (fs : List (Str × V)), H2 a = some (exo a C (some d)) ∧ H2 d = some (exd d fs) ∧ H1 d = none ∧ R (.ref C) (some d) (upd (del H2 a) d (.xd fs))) (fun _ _ _ => False)
theorem go_mkO {sp : Sp} (h : ta σ H (mkO C sp R)) : tMkO C sp [] ta σ H R := h
/-- raise C(v): what is wished at the error's new dict -/
theorem mk1 {v : V} (h : ∀ d, H d = none → R (.ref C) (some d) (upd H d (.xd [(f, v)]))) : mkO C (Sp2 (pInit1 K C f)) R [v] H := by
  refine ⟨by show 1 ≤ 1000; decide, fun a ha => ⟨.ref a, v, rfl, a, rfl, upd_same, fun dx hdx hne => ?_⟩⟩
  have hd1 : H dx = none := by
    rw [upd_ne hne] at hdx
    exact hdx
  refine ⟨rfl, dx, [(f, v)], upd_same, by rw [upd_ne hne, upd_same], hd1, ?_⟩
  have e : upd (del (upd (upd (upd H a (exo a C none)) dx (exd dx [(f, v)])) a (exo a C (some dx))) a) dx (.xd [(f, v)]) = upd H dx (.xd [(f, v)]) := by
    funext b
    by_cases h1 : b = dx
    · rw [h1, upd_same, upd_same]
    · rw [upd_ne h1, upd_ne h1]
      by_cases h2 : b = a
      · rw [h2, del_same, ha]
      · rw [del_ne h2, upd_ne h2, upd_ne h1, upd_ne h2]
  rw [e]
  exact h dx hd1
theorem mk2 {v w : V} (h : ∀ d, H d = none → R (.ref C) (some d) (upd H d (.xd [(g, w), (f, v)]))) : mkO C (Sp3 (pInit2 K C f g)) R [v, w] H := by
  refine ⟨by show 2 ≤ 1000; decide, fun a ha => ⟨.ref a, v, w, rfl, a, rfl, upd_same, fun dx hdx hne => ?_⟩⟩
  have hd1 : H dx = none := by
    rw [upd_ne hne] at hdx
    exact hdx
  refine ⟨rfl, dx, [(g, w), (f, v)], by rw [upd_ne (Ne.symm hne), upd_same], upd_same, hd1, ?_⟩
  have e : upd (del (upd (upd (upd (upd H a (exo a C none)) dx (exd dx [(f, v)])) a (exo a C (some dx))) dx (exd dx [(g, w), (f, v)])) a) dx (.xd [(g, w), (f, v)]) = upd H dx (.xd [(g, w), (f, v)]) := by
    funext b
    by_cases h1 : b = dx
    · rw [h1, upd_same, upd_same]
    · rw [upd_ne h1, upd_ne h1]
      by_cases h2 : b = a
      · rw [h2, del_same, ha]
      · rw [del_ne h2, upd_ne h1, upd_ne h2, upd_ne h1, upd_ne h2]
  rw [e]
  exact h dx hd1
theorem mk3 {v w x : V} (h : ∀ d, H d = none → R (.ref C) (some d) (upd H d (.xd [(k, x), (g, w), (f, v)]))) : mkO C (Sp4 (pInit3 K C f g k)) R [v, w, x] H := by
  refine ⟨by show 3 ≤ 1000; decide, fun a ha => ⟨.ref a, v, w, x, rfl, a, rfl, upd_same, fun dx hdx hne => ?_⟩⟩
  have hd1 : H dx = none := by
    rw [upd_ne hne] at hdx
    exact hdx
  refine ⟨rfl, dx, [(k, x), (g, w), (f, v)], by rw [upd_ne (Ne.symm hne), upd_ne (Ne.symm hne), upd_same], upd_same, hd1, ?_⟩
  have e : upd (del (upd (upd (upd (upd (upd H a (exo a C none)) dx (exd dx [(f, v)])) a (exo a C (some dx))) dx (exd dx [(g, w), (f, v)])) dx (exd dx [(k, x), (g, w), (f, v)])) a) dx (.xd [(k, x), (g, w), (f, v)]) = upd H dx (.xd [(k, x), (g, w), (f, v)]) := by
    funext b
    by_cases h1 : b = dx
    · rw [h1, upd_same, upd_same]
    · rw [upd_ne h1, upd_ne h1]
      by_cases h2 : b = a
      · rw [h2, del_same, ha]
      · rw [del_ne h2, upd_ne h1, upd_ne h1, upd_ne h2, upd_ne h1, upd_ne h2]
  rw [e]
  exact h dx hd1
end
end Q
/-! words that many of the laws share -/
namespace Q
open PySem PySem.Spec PyProof.Rows L2
/-- the names of point 2 -/
def letS : Str := Str.ofString "abcdefghijklmnopqrstuvwxyz"
def signS : Str := Str.ofString "abcdefghijklmnopqrstuvwxyz0123456789"
def isNm (x : Str) : Bool := match x.cps.toList with
  | [] => false
  | c :: r => decide (r.length + 1 ≤ 8) && (decide (c ∈ letS.cps.toList) && (c :: r).all fun c => decide (c ∈ signS.cps.toList))
theorem nm_short {x : Str} (h : x.length < 1) : isNm x = false := by
  have e : x.cps.toList = [] := List.eq_nil_of_length_eq_zero (by simp only [Array.length_toList]; unfold Str.length at h; omega)
  unfold isNm
  rw [e]
theorem nm_long {x : Str} (h : (8 : Int) < x.length) : isNm x = false := by
  have e : x.cps.toList.length = x.length := by simp [Str.length]
  unfold isNm
  cases q : x.cps.toList with
  | nil => rfl
  | cons c r =>
    rw [q] at e
    show (decide (r.length + 1 ≤ 8) && _) = false
    rw [decide_eq_false (by simp only [List.length_cons] at e; omega)]
    rfl
theorem nm_head {x : Str} {c : Nat} (h : atI x.cps.toList 0 = some c) (hc : ¬ c ∈ letS.cps.toList) : isNm x = false := by
  unfold isNm
  cases q : x.cps.toList with
  | nil => rfl
  | cons c' r =>
    rw [q] at h
    have e : c' = c := by
      have h2 : atI (c' :: r) 0 = some c' := atI_of (by decide) rfl
      rw [h2] at h
      exact Option.some.inj h
    show (decide (r.length + 1 ≤ 8) && (decide (c' ∈ letS.cps.toList) && _)) = false
    rw [e, decide_eq_false hc, Bool.false_and, Bool.and_false]
theorem nm_sign {x : Str} {i c : Nat} (h : x.cps.toList[i]? = some c) (hc : ¬ c ∈ signS.cps.toList) : isNm x = false := by
  unfold isNm
  cases q : x.cps.toList with
  | nil => rfl
  | cons c' r =>
    rw [q] at h
    have e : ((c' :: r).all fun c => decide (c ∈ signS.cps.toList)) = false := by
      rw [List.all_eq_false]
      exact ⟨c, List.mem_of_getElem? h, by rw [decide_eq_false hc]; decide⟩
    show (decide (r.length + 1 ≤ 8) && (decide (c' ∈ letS.cps.toList) && _)) = false
    rw [e, Bool.and_false, Bool.and_false]
theorem nm_yes {x : Str} (h1 : ¬ (x.length : Int) < 1) (h2 : ¬ (8 : Int) < x.length) (h3 : ∀ c, atI x.cps.toList 0 = some c → c ∈ letS.cps.toList) (h4 : ∀ (i c : Nat), x.cps.toList[i]? = some c → c ∈ signS.cps.toList) : isNm x = true := by
  have e : x.cps.toList.length = x.length := by simp [Str.length]
  unfold isNm
  cases q : x.cps.toList with
  | nil =>
    rw [q] at e
    exact absurd e.symm (by simp only [List.length_nil]; omega)
  | cons c r =>
    rw [q] at e h3 h4
    have a1 : decide (r.length + 1 ≤ 8) = true := decide_eq_true (by simp only [List.length_cons] at e; omega)
    have a2 : decide (c ∈ letS.cps.toList) = true := decide_eq_true (h3 c (atI_of (by decide) rfl))
    have a3 : ((c :: r).all fun c => decide (c ∈ signS.cps.toList)) = true := List.all_eq_true.mpr fun d hd => by
      obtain ⟨i, hi⟩ := List.mem_iff_getElem?.mp hd
      exact decide_eq_true (h4 i d hi)
    show (decide (r.length + 1 ≤ 8) && (decide (c ∈ letS.cps.toList) && _)) = true
    rw [a1, a2, a3]
    rfl
def pIsName : P1 := fun v0 H Q _ => ∃ x : Str, v0 = .str x ∧ x.length ≤ 100000 ∧ Q (.bl (isNm x)) H
/-! ### comprehensions -/
def LcIt (J : It) (g : TG) (tt : TT) (te : TE) (vs : List Nat) (σ : L2.St) (Q : VK) (H1 : Hp) : Prop := ∀ D, H1 D = none → ∃ W : Nat → Nat → Hp → Prop, (∃ m, W 0 m (upd H1 D (.lst []))) ∧ ∀ i m H, W i m H →
  (J.stop i H ∧ Q (.ref D) H) ∨ (J.go i H ∧ ∃ Nx : Hp → Prop, (∀ H', Nx H' → ∃ m', m' < m ∧ W (i + 1) m' H') ∧ ∀ x H', J.yld i H x H' → g x (wipe σ vs) H' fun σ2 H2 => wipe σ2 vs = wipe σ vs ∧ tt σ2 H2 fun b H3 =>
    if b = true then te σ2 H3 fun y H4 => ∃ acc, H4 D = some (.lst acc) ∧ acc.length < sizeLine ∧ Nx (upd H4 D (.lst (acc ++ [y]))) else Nx H3)
/-- the item goes behind what the new list at D holds -/
def lcApp (D : Addr) (N : Hp → Prop) : VK := fun y H => ∃ acc, H D = some (.lst acc) ∧ acc.length < sizeLine ∧ N (upd H D (.lst (acc ++ [y])))
def lcTest (te : TE) (D : Addr) (N : Hp → Prop) (σ : L2.St) : Bool → Hp → Prop := fun b H => if b = true then te σ H (lcApp D N) else N H
section
variable {K : PySem.W.Frag} {σ : L2.St} {H : Hp} {g : TG} {tt : TT} {te : TE} {wi : TI} {vs : List Nat} {Q : VK} {a D : Addr} {xs : List V}
theorem go_lc (h : wi σ H fun J H1 => LcIt J g tt te vs σ Q H1) : tLc wi g tt te vs σ H Q := h
theorem go_yes {R : Bool → Hp → Prop} (h : R true H) : tYes σ H R := h
theorem go_lct {N : Hp → Prop} (h : te σ H (lcApp D N)) : lcTest te D N σ true H := h
theorem go_lcf {N : Hp → Prop} (h : N H) : lcTest te D N σ false H := by
  unfold lcTest
  rw [if_neg Bool.false_ne_true]
  exact h
theorem go_lca {y : V} {N : Hp → Prop} {acc : List V} (h : H D = some (.lst acc)) (l : acc.length < sizeLine) (n : N (upd H D (.lst (acc ++ [y])))) : lcApp D N y H := ⟨acc, h, l, n⟩
theorem lc_r {j : Int} (hj : -(2 ^ 62) ≤ j ∧ j < 2 ^ 62) (k : ∀ D, H D = none → ∃ Pv : Nat → Hp → Prop, Pv 0 (upd H D (.lst [])) ∧
    (∀ (i : Nat) (H' : Hp), (i : Int) < j → Pv i H' → g (.int (i : Int)) (wipe σ vs) H' fun σ2 H2 => wipe σ2 vs = wipe σ vs ∧ tt σ2 H2 (lcTest te D (Pv (i + 1)) σ2)) ∧ (∀ H', Pv j.toNat H' → Q (.ref D) H')) : iR1 (fun J H1 => LcIt J g tt te vs σ Q H1) [.int j] H := by
  refine ⟨j, rfl, hj.1, hj.2, fun D hD => ?_⟩
  obtain ⟨Pv, h0, hs, hd⟩ := k D hD
  refine lc_range (lo := 0) (n := j.toNat) Pv h0 (fun i H' hi p => ?_) hd
  have e : (0 : Int) + (i : Int) = (i : Int) := Int.zero_add _
  rw [e]
  exact hs i H' (by omega) p
theorem lc_r2 {l j : Int} (hj : -(2 ^ 62) ≤ l ∧ l < 2 ^ 62 ∧ -(2 ^ 62) ≤ j ∧ j < 2 ^ 62) (k : ∀ D, H D = none → ∃ Pv : Nat → Hp → Prop, Pv 0 (upd H D (.lst [])) ∧
    (∀ (i : Nat) (H' : Hp), l + (i : Int) < j → Pv i H' → g (.int (l + (i : Int))) (wipe σ vs) H' fun σ2 H2 => wipe σ2 vs = wipe σ vs ∧ tt σ2 H2 (lcTest te D (Pv (i + 1)) σ2)) ∧ (∀ H', Pv (j - l).toNat H' → Q (.ref D) H')) : iR2 (fun J H1 => LcIt J g tt te vs σ Q H1) [.int l, .int j] H := by
  refine ⟨l, j, rfl, hj, fun D hD => ?_⟩
  obtain ⟨Pv, h0, hs, hd⟩ := k D hD
  exact lc_range (lo := l) (n := (j - l).toNat) Pv h0 (fun i H' hi p => hs i H' (by omega) p) hd
theorem lc_l (h : SqL K H a xs) (k : ∀ D, H D = none → ∃ Pv : Nat → Hp → Prop, Pv 0 (upd H D (.lst [])) ∧ (∀ i H', i ≤ xs.length → Pv i H' → SqL K H' a xs) ∧
    (∀ (i : Nat) x (H' : Hp), xs[i]? = some x → Pv i H' → g x (wipe σ vs) H' fun σ2 H2 => wipe σ2 vs = wipe σ vs ∧ tt σ2 H2 (lcTest te D (Pv (i + 1)) σ2)) ∧ (∀ H', Pv xs.length H' → Q (.ref D) H')) : iL K (fun J H1 => LcIt J g tt te vs σ Q H1) (.ref a) H := by
  refine ⟨a, rfl, ⟨xs, h⟩, fun D hD => ?_⟩
  obtain ⟨Pv, h0, hl, hs, hd⟩ := k D hD
  exact lc_list (K := K) (a := a) (xs := xs) Pv h0 hl hs hd
end
/-! ### two things alike, n deep -/
inductive Eqv (K : PySem.W.Frag) (H : Hp) : Nat → V → V → Prop where
  | non {n : Nat} : Eqv K H n .non .non
  | bl {n : Nat} (b : Bool) : Eqv K H n (.bl b) (.bl b)
  | int {n : Nat} (i : Int) : Eqv K H n (.int i) (.int i)
  | str {n : Nat} (s : Str) : Eqv K H n (.str s) (.str s)
  | lst {n : Nat} {a b : Addr} {xs ys : List V} (ha : SqL K H a xs) (hb : SqL K H b ys) (e : xs.length = ys.length) (l : xs.length ≤ 100000) (h : ∀ (i : Nat) (x y : V), xs[i]? = some x → ys[i]? = some y → Eqv K H n x y) : Eqv K H (n + 1) (.ref a) (.ref b)
  | tup {n : Nat} {a b : Addr} {xs ys : List V} (ha : SqT K H a xs) (hb : SqT K H b ys) (e : xs.length = ys.length) (l : xs.length ≤ 100000) (h : ∀ (i : Nat) (x y : V), xs[i]? = some x → ys[i]? = some y → Eqv K H n x y) : Eqv K H (n + 1) (.ref a) (.ref b)
abbrev No : Addr → Prop := fun _ => False
theorem Eqv.keep {K : PySem.W.Frag} {H H' : Hp} (d : Dx No H H') {n : Nat} {x y : V} (h : Eqv K H n x y) : Eqv K H' n x y := by
  induction h with
  | non => exact .non
  | bl b => exact .bl b
  | int i => exact .int i
  | str s => exact .str s
  | lst ha hb e l _ ih => exact .lst (d.sqL id ha) (d.sqL id hb) e l ih
  | tup ha hb e l _ ih => exact .tup (d.sqT id ha) (d.sqT id hb) e l ih
def flatE : V → Bool
  | .non => true
  | .bl _ => true
  | .int _ => true
  | .str _ => true
  | _ => false
theorem flatE_eqv {K : PySem.W.Frag} {H : Hp} {n : Nat} {v : V} (h : flatE v = true) : Eqv K H n v v := by
  cases v with
  | non => exact .non
  | bl b => exact .bl b
  | int i => exact .int i
  | str s => exact .str s
  | _ => exact nomatch h
/-- two tuples of the same flat things -/
theorem eqv_tup {K : PySem.W.Frag} {H : Hp} {n : Nat} {a b : Addr} {xs : List V} (ha : SqT K H a xs) (hb : SqT K H b xs) (hx : xs.all flatE = true) (l : xs.length ≤ 100000) : Eqv K H (n + 1) (.ref a) (.ref b) :=
  .tup ha hb rfl l fun i x y e1 e2 => by
    rw [e1] at e2
    have e3 : x = y := Option.some.inj e2
    rw [← e3]
    exact flatE_eqv (List.all_eq_true.mp hx x (List.mem_of_getElem? e1))
theorem eqv_lst {K : PySem.W.Frag} {H : Hp} {n : Nat} {a b : Addr} {xs : List V} (ha : SqL K H a xs) (hb : SqL K H b xs) (hx : xs.all flatE = true) (l : xs.length ≤ 100000) : Eqv K H (n + 1) (.ref a) (.ref b) :=
  .lst ha hb rfl l fun i x y e1 e2 => by
    rw [e1] at e2
    have e3 : x = y := Option.some.inj e2
    rw [← e3]
    exact flatE_eqv (List.all_eq_true.mp hx x (List.mem_of_getElem? e1))
/-- list(reversed(x)) -/
def lrQ (K : PySem.W.Frag) (Q : VK) : VK := fun v H1 => ∃ (a : Addr) (xs : List V), v = .ref a ∧ SqL K H1 a xs ∧ ∀ q, H1 q = none → Q (.ref q) (upd H1 q (.lst xs.reverse))
theorem go_lrev {K : PySem.W.Frag} {te : TE} {σ : L2.St} {H : Hp} {Q : VK} (h : te σ H (lrQ K Q)) : tListRev K te σ H Q := h
theorem go_lrq {K : PySem.W.Frag} {H : Hp} {Q : VK} {a : Addr} {xs : List V} (h : SqL K H a xs) (q : ∀ p, H p = none → Q (.ref p) (upd H p (.lst xs.reverse))) : lrQ K Q (.ref a) H := ⟨a, xs, rfl, h, q⟩
theorem sqt_new {K : PySem.W.Frag} {H : Hp} {a p : Addr} {xs : List V} {o : HO} (h : SqT K H a xs) (hp : H p = none) : SqT K (upd H p o) a xs := (Dx.new (M := No) hp).sqT id h
theorem sql_new {K : PySem.W.Frag} {H : Hp} {a p : Addr} {xs : List V} {o : HO} (h : SqL K H a xs) (hp : H p = none) : SqL K (upd H p o) a xs := (Dx.new (M := No) hp).sqL id h
def pMatchF : P3 := fun v0 v1 v2 H Q _ => ∃ st : Bool, v2 = .bl st ∧ flatE v0 = true ∧ flatE v1 = true ∧ Q (.bl (decide (v0 = v1))) H
def pMatchE (K : PySem.W.Frag) (n : Nat) : P3 := fun v0 v1 v2 H Q _ => ∃ (st : Bool) (a : Addr), v2 = .bl st ∧ v0 = .ref a ∧ Eqv K H n v0 v1 ∧ ∀ H', Dx No H H' → Q (.bl true) H'
def pMatch (K : PySem.W.Frag) (n : Nat) : P3 := fun v0 v1 v2 H Q E => pMatchF v0 v1 v2 H Q E ∨ pMatchE K n v0 v1 v2 H Q E
/-- two flat things, or two alike -/
def pSame (K : PySem.W.Frag) (n : Nat) : P2 := fun v0 v1 H Q _ => (Eqv K H n v0 v1 ∧ ∀ H', Dx No H H' → Q (.bl true) H') ∨ (flatE v0 = true ∧ flatE v1 = true ∧ Q (.bl (decide (v0 = v1))) H)
theorem Eqv.cases {K : PySem.W.Frag} {H : Hp} {n : Nat} {v0 v1 : V} (h : Eqv K H n v0 v1) : (flatE v0 = true ∧ v0 = v1) ∨ ∃ a m, v0 = .ref a ∧ n = m + 1 := by
  cases h with
  | non => exact .inl ⟨rfl, rfl⟩
  | bl b => exact .inl ⟨rfl, rfl⟩
  | int i => exact .inl ⟨rfl, rfl⟩
  | str s => exact .inl ⟨rfl, rfl⟩
  | lst ha hb e l h => exact .inr ⟨_, _, rfl, rfl⟩
  | tup ha hb e l h => exact .inr ⟨_, _, rfl, rfl⟩
theorem Eqv.match {K : PySem.W.Frag} {H : Hp} {n : Nat} {v0 v1 : V} {st : Bool} {Q : VK} {E : XK} (h : Eqv K H n v0 v1) (k : ∀ H', Dx No H H' → Q (.bl true) H') : pMatch K n v0 v1 (.bl st) H Q E := by
  rcases h.cases with ⟨f, e⟩ | ⟨a, m, e, _⟩
  · refine .inl ⟨st, rfl, f, by rw [← e]; exact f, ?_⟩
    rw [decide_eq_true e]
    exact k _ Dx.refl
  · exact .inr ⟨st, a, rfl, e, h, k⟩
theorem def_or {P : Program} {w : World} {K : PySem.W.Frag} {mg : Str → Option Value} {base : Heap} {CX : CXT} {k1 k2 k : Nat} {x : Str} {st : Stmt} {ps : List Str} {sp1 sp2 sp : Sp} (A : Def P w K mg base CX k1 x st ps sp1) (B : Def P w K mg base CX k2 x st ps sp2) (h1 : k1 ≤ k) (h2 : k2 ≤ k)
    (h : ∀ vs H Q E, sp vs H Q E → sp1 vs H Q E ∨ sp2 vs H Q E) : Def P w K mg base CX k x st ps sp := by
  obtain ⟨f, fd, m, kp, b, G, F⟩ := A.ex
  obtain ⟨f', fd', m', kp', b', G', F'⟩ := B.ex
  have e : f = f' := by
    rw [m] at m'
    exact Value.ref.inj (Option.some.inj m')
  subst e
  have e := fund_same F F'
  subst e
  refine ⟨f, fd, m, kp, b, ⟨fun vs H Q E q => ?_, fun A outer s H args us vs Q E hr he hb hv hs => ?_⟩, F⟩
  · rcases h _ _ _ _ q with q | q
    · exact G.len _ _ _ _ q
    · exact G'.len _ _ _ _ q
  · rcases h _ _ _ _ hs with q | q
    · exact (G.mono h1).run A outer s H args us vs Q E hr he hb hv q
    · exact (G'.mono h2).run A outer s H args us vs Q E hr he hb hv q
/-- the law's own promise -/
def pLaw (K : PySem.W.Frag) : P1 := fun v0 H Q _ => ∃ (a : Addr) (ns : List Int), v0 = .ref a ∧ SqL K H a (ns.map V.int) ∧ ns.length ≤ 63 ∧ ∀ H', Q (.bl true) H'
/-! ### the caught exception -/
section
variable {K : PySem.W.Frag} {H : Hp} {Q : VK} {a C dd : Addr} {f : Str} {te : TE} {σ : L2.St} {cls : Value} {d : Option Addr} {v : V} {fs : List (Str × V)}
def xfQ (a : Addr) (cls : Value) (d : Option Addr) (C : Addr) (f : Str) (Q : VK) : VK := fun x H1 => x = .ref a ∧ cls = .ref C ∧ ∃ (dd : Addr) (fs : List (Str × V)) (v : V), d = some dd ∧ H1 dd = some (.xd fs) ∧ fs.lookup f = some v ∧ Q v H1
theorem go_xf (h : te σ H (xfQ a cls d C f Q)) : tXf a cls d C f te σ H Q := h
theorem go_xfq (h : H dd = some (.xd fs)) (l : fs.lookup f = some v) (q : Q v H) : xfQ a (.ref C) (some dd) C f Q (.ref a) H := ⟨rfl, rfl, dd, fs, v, rfl, h, l, q⟩
theorem go_callS {sp : Sp} {E : L2.St → XK} {t : TA} (h : t σ H fun vs H1 => sp vs H1 Q (E σ)) : tCallS sp E t σ H Q := h
def kwQ (n m : Nat) (sp : Sp) (gV : List V → List V → List V) (E : XK) (Q : VK) (vs : List V) : List V → Hp → Prop := fun zs H2 => vs.length = n ∧ zs.length = m ∧ sp (gV vs zs) H2 Q E
theorem go_callN {n m : Nat} {sp : Sp} {gV : List V → List V → List V} {E : XK} {t tk : TA} (h : t σ H fun vs H1 => tk σ H1 (kwQ n m sp gV E Q vs)) : tCallN n m sp gV E t tk σ H Q := h
theorem go_kwq {m : Nat} {sp : Sp} {E : XK} {zs : List V} (l : zs.length = m) (h : sp zs H Q E) : kwQ 0 m sp (fun _ zs => zs) E Q [] zs H := ⟨rfl, l, h⟩
end
/-! ### keywords in any order, behind positional values -/
def nth {α : Type} : List α → Nat → List α
  | [], _ => []
  | a :: _, 0 => [a]
  | _ :: r, n + 1 => nth r n
def perm {α : Type} : List Nat → List α → List α
  | [], _ => []
  | i :: is, xs => nth xs i ++ perm is xs
theorem vals_nth : ∀ {zs : List V} {ws : List Value} (n : Nat), Vals zs ws → Vals (nth zs n) (nth ws n)
  | [], [], _, _ => .nil
  | _ :: _, _ :: _, 0, .cons r _ => .cons r .nil
  | _ :: _, _ :: _, n + 1, .cons _ rs => vals_nth n rs
theorem vals_perm {zs : List V} {ws : List Value} (r : Vals zs ws) : ∀ is : List Nat, Vals (perm is zs) (perm is ws)
  | [] => .nil
  | i :: is => (vals_nth i r).append (vals_perm r is)
theorem kbinds_p {K : PySem.W.Frag} {x q : Str} {A : Arguments} {B : List Stmt} {S : Scope} {kws : List (Str × V)} {f : Addr} {fd : FuncData} {ps ks : List Str} (F : FunD K x q A B S [] kws f fd) (n : Nat) (is : List Nat)
    (h : ∀ (kV doc pm : Value) (an : Option Addr) (cdv ct : Value) (us ws : List Value), us.length = n → ws.length = ks.length → bindArgs (PySem.W.fnOf x q A B S .none kV doc pm an cdv ct) ⟨us, ks.zip ws⟩ = pure (ps.zip (perm is (us ++ ws)))) :
    KBn K fd ps n ks (fun us ws => perm is (us ++ ws)) (fun vs zs => perm is (vs ++ zs)) := by
  obtain ⟨oc, od, dV, kV, doc, pm, an, cdv, ct, osl, rfl, lk, hcd, hD, hK⟩ := F.ex
  rcases hD with ⟨_, rfl⟩ | ⟨e, _⟩
  · exact ⟨fun s us ws X l1 l2 => .of_eq (h kV doc pm an cdv ct us ws l1 l2), fun r1 r2 => vals_perm (r1.append r2) is⟩
  · exact absurd rfl e
section
variable {X : Cx} {CX : CXT} {k n : Nat} {f : Addr} {fd : FuncData} {ps ks : List Str} {sp : Sp} {E : L2.St → XK} {x : Str} {p pos : Pos} {kws : List Keyword} {tk : TA} {g : List Value → List Value → List Value} {gV : List V → List V → List V}
def tCallNS (n m : Nat) (sp : Sp) (gV : List V → List V → List V) (E : L2.St → XK) (t tk : TA) : TE := fun σ H Q => t σ H fun vs H1 => tk σ H1 fun zs H2 => vs.length = n ∧ zs.length = m ∧ sp (gV vs zs) H2 Q (E σ)
theorem run_fnNS {pins : List (Addr × Obj)} {σ : L2.St} {H : Hp} {s : Shared} {Q : VK} {us ws : List Value} {vs zs : List V} (F : FnOk X.prog X.w X.K X.mg X.base CX k f fd ps sp) (hr : Room k X.A) (hb : KBn X.K fd ps n ks g gV) (hx : PassesAt CX X σ (E σ))
    (I : Inv X pins σ H s) (r : Vals vs us) (rz : Vals zs ws) (l1 : vs.length = n) (l2 : zs.length = ks.length) (h : sp (gV vs zs) H Q (E σ)) : wpAny (model X.prog X.w) X.A (call (.ref f) us (ks.zip ws)) (EP X pins σ Q) X.xe s := by
  refine wpAny_call (codeAny_mono (F.run X.A X.stack s H ⟨us, ks.zip ws⟩ (g us ws) (gV vs zs) Q (E σ) hr I.env0 (hb.to s us ws I.kIn (r.length.symm.trans l1) (rz.length.symm.trans l2)) (hb.rel r rz) h) fun r s' hq => ?_)
  cases r with
  | error e => exact hx pins H s e s' I hq
  | ok fl =>
    cases fl with
    | ret u => exact I.after hq
    | next => exact False.elim hq
    | brk => exact False.elim hq
    | cont => exact False.elim hq
/-- f(k = v, ..): keywords alone, within a try -/
theorem pe_callNS0 (F : FnOk X.prog X.w X.K X.mg X.base CX k f fd ps sp) (hr : Room k X.A) (hg : Gl X x) (hm : X.mg x = some (.ref f)) (hk : PySem.W.keepIn X.K (.ref f) = true) (hb : KBn X.K fd ps 0 ks g gV) (hx : ∀ σ, PassesAt CX X σ (E σ)) (hkw : PK X kws tk)
    (hall : (backToKw pos (keywordEach kws X.env)).all (·.1.isSome) = true := by rfl) (hks : (backToKw pos (keywordEach kws X.env)).filterMap (·.1) = ks := by rfl) (hdb : (x == ("__debug__" : Str)) = false := by decide)
    (hpl : ((backTo pos (starEach [] X.env)).any (·.1) || (backToKw pos (keywordEach kws X.env)).any (·.1.isNone)) = false := by rfl) : PE X (.Call (.Name x p) [] kws pos) (tCallNS 0 ks.length sp gV E tNil tk) := by
  refine ⟨fun pins s σ H Q I h => ?_⟩
  refine wpAny_Call_Name_kw (ld_glob I hg hm ?_ hdb)
  refine PySem.W.callWith_KW0 (h₀ := X.base) I.ok.mod.kin hk hall (thn (hkw.run pos pins s σ H _ I h) fun ws s2 ⟨zs, H2, I2, rz, l1, l2, q2⟩ => ⟨I2.kIn, ?_⟩) hpl
  rw [hks]
  exact run_fnNS (us := []) (vs := []) F hr hb (hx σ) I2 .nil rz rfl l2 q2
end
section
variable {K : PySem.W.Frag} {σ : L2.St} {H : Hp} {Q : VK} {D : Ends} {te ta tb tc : TE} {i j : Int}
theorem go_callNS {n m : Nat} {sp : Sp} {gV : List V → List V → List V} {E : L2.St → XK} {t tk : TA} (h : t σ H fun vs H1 => tk σ H1 (kwQ n m sp gV (E σ) Q vs)) : tCallNS n m sp gV E t tk σ H Q := h
theorem go_kwp {n m : Nat} {sp : Sp} {is : List Nat} {E : XK} {vs zs : List V} (l1 : vs.length = n) (l2 : zs.length = m) (h : sp (perm is (vs ++ zs)) H Q E) : kwQ n m sp (fun vs zs => perm is (vs ++ zs)) E Q vs zs H := ⟨l1, l2, h⟩
theorem go_pow12 (q : Q (.int 1000000000000) H) : rPow0 (.int 10) (.int 12) H Q := ⟨10, 12, rfl, rfl, ⟨by decide, by decide, by decide⟩, q⟩
theorem go_pow13 (q : Q (.int 10000000000000) H) : rPow0 (.int 10) (.int 13) H Q := ⟨10, 13, rfl, rfl, ⟨by decide, by decide, by decide⟩, q⟩
theorem go_pow11 (q : Q (.int 100000000000) H) : rPow0 (.int 10) (.int 11) H Q := ⟨10, 11, rfl, rfl, ⟨by decide, by decide, by decide⟩, q⟩
theorem go_pow9 (q : Q (.int 1000000000) H) : rPow0 (.int 10) (.int 9) H Q := ⟨10, 9, rfl, rfl, ⟨by decide, by decide, by decide⟩, q⟩
theorem go_pow18 (q : Q (.int 1000000000000000000) H) : rPow0 (.int 10) (.int 18) H Q := ⟨10, 18, rfl, rfl, ⟨by decide, by decide, by decide⟩, q⟩
theorem go_pow30 (q : Q (.int 1000000000000000000000000000000) H) : rPow0 (.int 10) (.int 30) H Q := ⟨10, 30, rfl, rfl, ⟨by decide, by decide, by decide⟩, q⟩
theorem go_slL {a : Addr} {xs : List V} {lo hi : Option Int} (h : SqL K H a xs) (q : ∀ p, H p = none → Q (.ref p) (upd H p (.lst (cutV xs lo hi)))) : rSlL K (.ref a) lo hi H Q := ⟨a, xs, rfl, h, q⟩
theorem go_cat {l b : Addr} {xs zs : List V} (h : H l = some (.lst xs)) (h2 : H b = some (.lst zs)) (z : xs.length + zs.length ≤ sizeLine) (q : ∀ p, H p = none → Q (.ref p) (upd H p (.lst (xs ++ zs)))) : rAddU K (.ref l) (.ref b) H Q :=
  .inr (.inr (.inl ⟨l, b, xs, zs, rfl, rfl, h, h2, z, q⟩))
theorem go_sorted {a : Addr} {ns : List Int} (h : SqL K H a (ns.map V.int)) (q : ∀ (ns' : List Int) (p : Addr), ns'.Perm ns → ns'.Pairwise (· ≤ ·) → H p = none → Q (.ref p) (upd H p (.lst (ns'.map V.int)))) : rSortedI K [.ref a] H Q := ⟨a, ns, rfl, h, q⟩
def chQ (r' : R2) (tc : TE) (σ : L2.St) (Q : VK) : VK := fun z H3 => ∃ k, z = .bl k ∧ (if k = true then tc σ H3 fun w' H4 => r' (.int i) w' H4 Q else Q (.bl false) H3)
theorem go_chain {r r' : R2} (h : ta σ H fun x H1 => tb σ H1 fun y H2 => r x y H2 fun z H3 => ∃ k, z = .bl k ∧ (if k = true then tc σ H3 fun w' H4 => r' y w' H4 Q else Q (.bl false) H3)) : tChain r r' ta tb tc σ H Q := h
theorem go_not2 {b : Bool} {R : Bool → Hp → Prop} (h : R (!b) H) : R (!b) H := h
end
section
variable {M : Addr → Prop} {H H1 : Hp} {c l : Addr} {o u : HO}
theorem Ok.no (k : Ok M H c) (d : Dx No H H1) : Ok M H1 c := by
  obtain ⟨p, i, rest, left, n, a, b, cells, h1, _⟩ := k.st.ex
  exact k.keep (d.mono fun _ z => z.elim) (by rw [h1]; exact d.st _ _ id h1)
/-- a new object at l is written again -/
theorem Dx.own (d : Dx M H H1) (h : H l = none) : Dx M H (upd H1 l u) := ⟨fun a o n q => by
  rw [upd_ne (ne_of_none q h)]
  exact d.st a o n q, fun a q => by
  by_cases e : a = l
  · rw [e]
    exact h
  · rw [upd_ne e] at q
    exact d.dm a q⟩
theorem No.to (d : Dx No H H1) : Dx M H H1 := d.mono fun _ z => z.elim
end
/-- a draw that makes a new list -/
def DrawnL (M : Addr → Prop) (c : Addr) (H : Hp) (R : List V → Prop) (Q : VK) : Prop := ∀ l xs H', H l = none → H' l = some (.lst xs) → R xs → Dx (Only1 c) H H' → Ok (Add M l) H' c → Q (.ref l) H'
/-- a new list, nothing else -/
def NewL (H : Hp) (R : List V → Prop) (Q : VK) : Prop := ∀ l xs H', H l = none → H' l = some (.lst xs) → R xs → Dx No H H' → Q (.ref l) H'
theorem cut_mem {xs : List V} {lo hi : Option Int} {v : V} (h : v ∈ cutV xs lo hi) : v ∈ xs := List.mem_of_mem_drop (List.mem_of_mem_take h)
theorem cut_to {xs : List V} {n : Int} (h0 : 0 ≤ n) (h1 : n ≤ xs.length) : cutV xs none (some n) = xs.take n.toNat := by
  obtain ⟨k, rfl⟩ : ∃ k : Nat, n = (k : Int) := ⟨n.toNat, by omega⟩
  unfold cutV
  rw [HT.sIx_none, HT.sIx_nat, List.drop_zero, Nat.sub_zero, Nat.min_eq_left (by omega), Int.toNat_natCast]
theorem ints_of : ∀ {xs : List V}, (∀ v ∈ xs, ∃ i : Int, v = .int i) → ∃ ns : List Int, xs = ns.map V.int
  | [], _ => ⟨[], rfl⟩
  | x :: xs, h => by
    obtain ⟨i, rfl⟩ := h x List.mem_cons_self
    obtain ⟨ns, e⟩ := ints_of (xs := xs) fun v hv => h v (List.mem_cons_of_mem _ hv)
    exact ⟨i :: ns, by rw [e]; rfl⟩
theorem int_mem {ns : List Int} {v : V} (h : v ∈ ns.map V.int) : ∃ i, v = .int i ∧ i ∈ ns := by
  obtain ⟨i, hi, e⟩ := List.mem_map.mp h
  exact ⟨i, e.symm, hi⟩
theorem mem_int {ns : List Int} {i : Int} (h : V.int i ∈ ns.map V.int) : i ∈ ns := by
  obtain ⟨j, hj, e⟩ := List.mem_map.mp h
  cases e
  exact hj
/-! ### lights and numbers -/
abbrev InR (i : Int) : Prop := -1000000000000 ≤ i ∧ i ≤ 1000000000000
def isNumV : V → Bool
  | .int i => decide (-1000000000000 ≤ i) && decide (i ≤ 1000000000000)
  | _ => false
def IsNum (v : V) : Prop := ∃ i : Int, v = .int i ∧ InR i
def IsEnd (v : V) : Prop := v = .non ∨ IsNum v
def endOk (v : V) : Bool := decide (v = .non) || isNumV v
/-- a number that is none -/
def IsBad (v : V) : Prop := (∃ i : Int, v = .int i ∧ (i < -1000000000000 ∨ 1000000000000 < i) ∧ -1000000000000000000000000000000 ≤ i ∧ i ≤ 1000000000000000000000000000000) ∨ ∃ b, v = .bl b
theorem isNum_int {i : Int} (h : InR i) : isNumV (.int i) = true := by
  show (decide (-1000000000000 ≤ i) && decide (i ≤ 1000000000000)) = true
  rw [decide_eq_true h.1, decide_eq_true h.2]
  rfl
theorem isNum_not {i : Int} (h : ¬ InR i) : isNumV (.int i) = false := by
  show (decide (-1000000000000 ≤ i) && decide (i ≤ 1000000000000)) = false
  by_cases a : -1000000000000 ≤ i
  · rw [decide_eq_false (p := i ≤ 1000000000000) fun b => h ⟨a, b⟩, Bool.and_false]
  · rw [decide_eq_false a, Bool.false_and]
theorem isNum_to {v : V} (h : isNumV v = true) : IsNum v := by
  cases v with
  | int i =>
    refine ⟨i, rfl, ?_⟩
    by_cases a : InR i
    · exact a
    · rw [isNum_not a] at h
      exact nomatch h
  | _ => exact nomatch h
theorem isNum_of {v : V} (h : IsNum v) : isNumV v = true := by
  obtain ⟨i, rfl, h⟩ := h
  exact isNum_int h
theorem isBad_of {v : V} (h : IsBad v) : isNumV v = false := by
  rcases h with ⟨i, rfl, h, _⟩ | ⟨b, rfl⟩
  · exact isNum_not (by omega)
  · rfl
theorem endOk_to {v : V} (h : endOk v = true) : IsEnd v := by
  rcases Bool.or_eq_true_iff.mp h with h | h
  · exact .inl (of_decide_eq_true h)
  · exact .inr (isNum_to h)
theorem endOk_of {v : V} (h : IsEnd v) : endOk v = true := by
  rcases h with rfl | h
  · rfl
  · exact Bool.or_eq_true_iff.mpr (.inr (isNum_of h))
theorem flat_num {v : V} (h : IsNum v) : flatE v = true := by
  obtain ⟨i, rfl, _⟩ := h
  rfl
theorem flat_end {v : V} (h : IsEnd v) : flatE v = true := by
  rcases h with rfl | h
  · rfl
  · exact flat_num h
theorem flat_bad {v : V} (h : IsBad v) : flatE v = true := by
  rcases h with ⟨i, rfl, h, _⟩ | ⟨b, rfl⟩ <;> rfl
/-- numbers, all within the limits -/
def numsB (xs : List V) : Bool := xs.all isNumV
theorem nums_at {xs : List V} {v : V} (h : numsB xs = true) (hv : v ∈ xs) : IsNum v := isNum_to (List.all_eq_true.mp h v hv)
end Q
/-! the promises of the drawing functions -/
namespace Q
open PySem PySem.Spec PyProof.Rows L2
/-- a new store over the script -/
def pStore (K : PySem.W.Frag) : P1 := fun v0 H Q _ => ∃ (a : Addr) (ns : List Int), v0 = .ref a ∧ SqL K H a (ns.map V.int) ∧
  ∀ (c : Addr) (H' : Hp), Dx (fun _ => False) H H' → H c = none → Ok (Only1 c) H' c → Q (.ref c) H'
/-- the two sums turn, the count grows -/
def pStir : P2 := fun v0 v1 H Q _ => ∃ (c p : Addr) (i rest left n a b cell : Int), v0 = .ref c ∧ v1 = .int cell ∧ H c = some (.lst (stL p i rest left n a b)) ∧ (0 ≤ a ∧ a < 2147483647) ∧ (0 ≤ b ∧ b < 2147483399) ∧
  ∀ (n' a' b' : Int) (H' : Hp), (0 ≤ a' ∧ a' < 2147483647) → (0 ≤ b' ∧ b' < 2147483399) → H' = upd H c (.lst (stL p i rest left n' a' b')) → Q .non H'
theorem mul_ok {i j : Int} (h : 0 ≤ i ∧ i < 4294967296) : CMul i j := .inl ⟨by omega, by omega⟩
/-- a number below many (below 1 if many is less) -/
def pTake : P2 := fun v0 v1 H Q _ => ∃ (c : Addr) (M : Addr → Prop) (n : Int), v0 = .ref c ∧ v1 = .int n ∧ -1000000000000000000 ≤ n ∧ n ≤ 1000000000000000000 ∧ Ok M H c ∧
  ∀ (r : Int) (H' : Hp), 0 ≤ r → r < (if n > 1 then n else 1) → Dx (Only1 c) H H' → Ok M H' c → Q (.int r) H'
/-- the store behind a write -/
theorem Ok.set {M : Addr → Prop} {H H' : Hp} {c p : Addr} {i rest left n a b : Int} {cells : List Int} (k : Ok M H c) (hc : H' c = some (.lst (stL p i rest left n a b))) (hp : H p = some (.lst (cells.map V.int))) (hm : ¬ M p) (d : Dx (Only1 c) H H')
    (h1 : 0 ≤ i) (h2 : 0 ≤ a ∧ a < 2147483647) (h3 : 0 ≤ b ∧ b < 2147483399) : Ok M H' c :=
  ⟨k.inM, k.alive (k.sub d), ⟨p, i, rest, left, n, a, b, cells, hc, (k.sub d).st _ _ hm hp, hm, h1, h2, h3⟩⟩
theorem div_ok {i j : Int} (h0 : 0 < j) (h : j ≤ 1000000000000000000) : CDivW i j := wide_div h0 (b := 64) (by omega) (by decide) (by decide)
/-- take's promise in short -/
theorem take_go {c : Addr} {M : Addr → Prop} {H : Hp} {n : Int} {Q : VK} {E : XK} (ok : Ok M H c) (h0 : 0 < n) (h1 : n ≤ 1000000000000000000) (k : ∀ (r : Int) (H' : Hp), 0 ≤ r → r < n → Dx (Only1 c) H H' → Ok M H' c → Q (.int r) H') : pTake (.ref c) (.int n) H Q E :=
  ⟨c, M, n, rfl, rfl, by omega, h1, ok, fun r H' g0 g1 d ok' => k r H' g0 (by split at g1 <;> omega) d ok'⟩
theorem lit_len {s : String} {n : Nat} (h : (Str.ofString s).cps.size = n := by decide +kernel) : (Str.ofString s).length = n := h
theorem pick_ix {z : Str} {r : Int} (h0 : 0 ≤ r) (h1 : r < z.length) : ∃ ch, atI z.cps.toList r = some ch := by
  have e : z.cps.toList.length = z.length := by simp [Str.length]
  have hr : r.toNat < z.cps.toList.length := by omega
  exact ⟨_, atI_of h0 (List.getElem?_eq_getElem hr)⟩
/-- an item of a text, or of a list -/
def pPick (K : PySem.W.Frag) : P2 := fun v0 v1 H Q _ => ∃ (c : Addr) (M : Addr → Prop), v0 = .ref c ∧ Ok M H c ∧
  ((∃ z : Str, v1 = .str z ∧ 0 < z.length ∧ z.length ≤ 100000 ∧ Drawn M c H (fun v => ∃ ch, ch ∈ z.cps.toList ∧ v = .str ⟨#[ch]⟩) Q) ∨
   (∃ (p : Addr) (xs : List V), v1 = .ref p ∧ SqL K H p xs ∧ ¬ M p ∧ 0 < xs.length ∧ xs.length ≤ 100000 ∧ Drawn M c H (fun v => v ∈ xs) Q))
/-- a text of at most n signs -/
def pText : P2 := fun v0 v1 H Q _ => ∃ (c : Addr) (M : Addr → Prop) (n : Int), v0 = .ref c ∧ v1 = .int n ∧ 0 ≤ n ∧ n ≤ 1000 ∧ Ok M H c ∧ Drawn M c H (IsText 0 n.toNat) Q
theorem no_signs : (Str.ofString "").length = 0 := by decide +kernel
def pCheckName (K : PySem.W.Frag) : P1 := fun v0 H Q E => ∃ x : Str, v0 = .str x ∧ x.length ≤ 100000 ∧ (isNm x = true → Q (.str x) H) ∧ (isNm x = false → ∀ d, H d = none → E (.ref (gA K "BadName")) (some d) (upd H d (.xd [("name", .str x)])))
/-- a new list of the same items in some order -/
def pShuf (K : PySem.W.Frag) : P2 := fun v0 v1 H Q _ => ∃ (c : Addr) (M : Addr → Prop) (p : Addr) (xs : List V), v0 = .ref c ∧ v1 = .ref p ∧ Ok M H c ∧ SqL K H p xs ∧ xs.length ≤ 100000 ∧ DrawnL M c H (fun ys => ys.Perm xs) Q
/-- a new list of the ints' kinds -/
def pUnlike (K : PySem.W.Frag) : P1 := fun v0 H Q _ => ∃ (p : Addr) (ns : List Int), v0 = .ref p ∧ SqL K H p (ns.map V.int) ∧ ns.length ≤ 100000 ∧ NewL H (fun ys => ∃ ms : List Int, ys = ms.map V.int ∧ (∀ m ∈ ms, m ∈ ns) ∧ ms.length ≤ ns.length) Q
theorem ints_flat (ms : List Int) : (ms.map V.int).all flatV = true := by
  rw [List.all_eq_true]
  intro v hv
  obtain ⟨i, rfl, _⟩ := int_mem hv
  rfl
/-! numbers -/
/-- pulled into the limits -/
def pClamp : P1 := fun v0 H Q _ => ∃ i : Int, v0 = .int i ∧ ∀ r, InR r → (InR i → r = i) → Q (.int r) H
def pNear (K : PySem.W.Frag) : P2 := fun v0 v1 H Q _ => ∃ (c : Addr) (M : Addr → Prop) (p : Addr) (ns : List Int), v0 = .ref c ∧ v1 = .ref p ∧ Ok M H c ∧ SqL K H p (ns.map V.int) ∧ ¬ M p ∧ 0 < ns.length ∧ ns.length ≤ 100000 ∧ (∀ n ∈ ns, InR n) ∧ Drawn M c H IsNum Q
def pPool : P1 := fun v0 H Q _ => ∃ (c : Addr) (M : Addr → Prop), v0 = .ref c ∧ Ok M H c ∧ DrawnL M c H (fun ys => ∃ ns : List Int, ys = ns.map V.int ∧ (∀ n ∈ ns, InR n) ∧ 2 ≤ ns.length ∧ ns.length ≤ 6) Q
def IsBad0 (k : Bool) (v : V) : Prop := IsBad v ∧ (k = true → ∃ i, v = .int i)
def pBadNumber : P2 := fun v0 v1 H Q _ => ∃ (c : Addr) (M : Addr → Prop) (k : Bool), v0 = .ref c ∧ v1 = .bl k ∧ Ok M H c ∧ Drawn M c H (IsBad0 k) Q
def pTried (K : PySem.W.Frag) : P1 := fun v0 H Q _ => ∃ (p : Addr) (ns : List Int), v0 = .ref p ∧ SqL K H p (ns.map V.int) ∧ ns.length ≤ 10000 ∧ (∀ n ∈ ns, InR n) ∧ NewL H (fun ys => ∃ ms : List Int, ys = ms.map V.int ∧ (∀ m ∈ ms, InR m) ∧ ms.length ≤ 2 + 3 * ns.length) Q
def pIsNum : P1 := fun v0 H Q _ => flatE v0 = true ∧ Q (.bl (isNumV v0)) H
/-- an error of the class x with one attribute is let out -/
def Bad1 (K : PySem.W.Frag) (x f : Str) (v : V) (H : Hp) (E : XK) : Prop := ∀ d, H d = none → E (.ref (gA K x)) (some d) (upd H d (.xd [(f, v)]))
def pCheckNum (K : PySem.W.Frag) : P1 := fun v0 H Q E => flatE v0 = true ∧ (isNumV v0 = true → Q v0 H) ∧ (isNumV v0 = false → Bad1 K "BadNumber" "number" v0 H E)
def pCheckEnd (K : PySem.W.Frag) : P1 := fun v0 H Q E => flatE v0 = true ∧ (endOk v0 = true → Q .non H) ∧ (endOk v0 = false → Bad1 K "BadNumber" "number" v0 H E)
def lesserV (a b : V) : V := match a, b with
  | .non, b => b
  | a, .non => a
  | .int i, .int j => if i < j then .int i else .int j
  | a, _ => a
def greaterV (a b : V) : V := match a, b with
  | .non, b => b
  | a, .non => a
  | .int i, .int j => if j < i then .int i else .int j
  | a, _ => a
def IsEndI (v : V) : Prop := v = .non ∨ ∃ i : Int, v = .int i
def pLesser : P2 := fun v0 v1 H Q _ => IsEndI v0 ∧ IsEndI v1 ∧ Q (lesserV v0 v1) H
def pGreater : P2 := fun v0 v1 H Q _ => IsEndI v0 ∧ IsEndI v1 ∧ Q (greaterV v0 v1) H
theorem isEndI {v : V} (h : IsEnd v) : IsEndI v := by
  rcases h with rfl | ⟨i, rfl, _⟩
  · exact .inl rfl
  · exact .inr ⟨i, rfl⟩
/-- light under the ceiling -/
def leV (a b : V) : Bool := match a, b with
  | .int i, .int j => decide (i ≤ j)
  | _, _ => true
def told (r : V ⊕ V) (A B : V → Prop) : Prop := match r with
  | .inl v => A v
  | .inr x => B x
def askTake (a b : V) : V ⊕ V := if isNumV a = true then if endOk b = true then .inl (.bl (leV a b)) else .inr b else .inr a
def askLower (a b : V) : V ⊕ V := if endOk a = true then if endOk b = true then .inl (lesserV a b) else .inr b else .inr a
def askNum (a : V) : V ⊕ V := if isNumV a = true then .inl a else .inr a
theorem take_bad {a b : V} (h : isNumV a = false) : askTake a b = .inr a := by
  unfold askTake
  rw [h, if_neg Bool.false_ne_true]
theorem take_bad2 {a b : V} (h : isNumV a = true) (h2 : endOk b = false) : askTake a b = .inr b := by
  unfold askTake
  rw [if_pos h, h2, if_neg Bool.false_ne_true]
theorem take_ok {a b : V} (h : isNumV a = true) (h2 : endOk b = true) : askTake a b = .inl (.bl (leV a b)) := by
  unfold askTake
  rw [if_pos h, if_pos h2]
theorem lower_bad {a b : V} (h : endOk a = false) : askLower a b = .inr a := by
  unfold askLower
  rw [h, if_neg Bool.false_ne_true]
theorem lower_bad2 {a b : V} (h : endOk a = true) (h2 : endOk b = false) : askLower a b = .inr b := by
  unfold askLower
  rw [if_pos h, h2, if_neg Bool.false_ne_true]
theorem lower_ok {a b : V} (h : endOk a = true) (h2 : endOk b = true) : askLower a b = .inl (lesserV a b) := by
  unfold askLower
  rw [if_pos h, if_pos h2]
theorem num_bad {a : V} (h : isNumV a = false) : askNum a = .inr a := by
  unfold askNum
  rw [h, if_neg Bool.false_ne_true]
theorem num_ok {a : V} (h : isNumV a = true) : askNum a = .inl a := by
  unfold askNum
  rw [if_pos h]
def pMayTake (K : PySem.W.Frag) : P2 := fun v0 v1 H Q E => flatE v0 = true ∧ flatE v1 = true ∧ told (askTake v0 v1) (fun v => Q v H) (fun x => Bad1 K "BadNumber" "number" x H E)
def pLower (K : PySem.W.Frag) : P2 := fun v0 v1 H Q E => flatE v0 = true ∧ flatE v1 = true ∧ told (askLower v0 v1) (fun v => Q v H) (fun x => Bad1 K "BadNumber" "number" x H E)
theorem endOk_ne {v : V} (h : v ≠ .non) : endOk v = isNumV v := by
  unfold endOk
  rw [decide_eq_false h, Bool.false_or]
end Q
/-! classes of the text: operators by own methods, facts as Bools -/
namespace Q
open PySem PySem.Spec PyProof.Rows L2
section
variable {X : Cx} {pins : List (Addr × Obj)} {σ : L2.St} {H : Hp} {s : Shared}
theorem tyB_looks {x : V} {u : Value} {T : String} (I : Inv X pins σ H s) (rx : RelV x u) (t : TyB X.K H x T) : PySem.W.Looks (model X.prog X.w) s.heap (typeOf u) (.type T) := by
  have z := t.is I rx
  cases t with
  | non => cases (show u = Value.none from rx); exact PySem.W.Looks.of_pure rfl
  | bl b => cases (show u = Value.bool b from rx); exact PySem.W.Looks.of_pure rfl
  | int i => obtain ⟨t, rfl⟩ := (show ∃ t, u = Value.int i t from rx); exact PySem.W.Looks.of_pure rfl
  | str x => obtain ⟨t, rfl⟩ := (show ∃ t, u = Value.str x t from rx); exact PySem.W.Looks.of_pure rfl
  | byt b => obtain ⟨t, rfl⟩ := (show ∃ t, u = Value.bytes b t from rx); exact PySem.W.Looks.of_pure rfl
  | lst h =>
    cases (show u = Value.ref _ from rx)
    obtain ⟨o, h1, h2⟩ := z
    exact fun A Q E s k q => wpAny_typeOf_ref (k _ _ h1) (by rw [h2]; exact q)
  | tup h =>
    cases (show u = Value.ref _ from rx)
    obtain ⟨o, h1, h2⟩ := z
    exact fun A Q E s k q => wpAny_typeOf_ref (k _ _ h1) (by rw [h2]; exact q)
  | dK h =>
    cases (show u = Value.ref _ from rx)
    obtain ⟨o, h1, h2⟩ := z
    exact fun A Q E s k q => wpAny_typeOf_ref (k _ _ h1) (by rw [h2]; exact q)
/-- the type of an operand: a built-in one, or a class of the text -/
def TyO (K : PySem.W.Frag) (H : Hp) (y : V) (tb : Value) : Prop := (∃ T, TyB K H y T ∧ tb = .type T) ∨ ∃ (b C : Addr) (dx : Addr) (fs : List (Str × V)), y = .ref b ∧ H b = some (.ins C dx fs) ∧ tb = .ref C
theorem tyO_looks {x : V} {u tb : Value} (I : Inv X pins σ H s) (rx : RelV x u) (t : TyO X.K H x tb) : PySem.W.Looks (model X.prog X.w) s.heap (typeOf u) tb := by
  rcases t with ⟨T, t, rfl⟩ | ⟨b, C, dx, fs, rfl, hb, rfl⟩
  · exact tyB_looks I rx t
  · cases (show u = Value.ref b from rx)
    obtain ⟨mB, J, _⟩ := ins_get I.hok hb
    obtain ⟨od, J, _⟩ := J.look
    exact J.type
theorem cmpback_of {z : V} {w : Value} {Q : Value → Shared → Prop} {s' : Shared} (r : RelV z w) (q : Q w s') : PySem.W.CmpBack Q w s' := by
  cases z with
  | non => cases (show w = Value.none from r); exact q
  | bl b => cases (show w = Value.bool b from r); exact q
  | int i => obtain ⟨t, rfl⟩ := (show ∃ t, w = Value.int i t from r); exact q
  | str x => obtain ⟨t, rfl⟩ := (show ∃ t, w = Value.str x t from r); exact q
  | byt b => obtain ⟨t, rfl⟩ := (show ∃ t, w = Value.bytes b t from r); exact q
  | flt b => obtain ⟨t, rfl⟩ := (show ∃ t, w = Value.float b t from r); exact q
  | ref a => cases (show w = Value.ref a from r); exact q
  | ty n => cases (show w = Value.type n from r); exact q
/-- x op y by the own method of x's class at C -/
def rOwnI (K : PySem.W.Frag) (C : Addr) (sp : Sp) (E : XK) : R2 := fun x y H Q => ∃ (a dx : Addr) (fs : List (Str × V)) (tb : Value), x = .ref a ∧ H a = some (.ins C dx fs) ∧ TyO K H y tb ∧ PySem.W.notFirst K C tb = true ∧ sp [x, y] H Q E
variable {CX : CXT} {n : Nat} {C f : Addr} {fd : FuncData} {ps : List Str} {sp : Sp} {E : XK}
theorem run_two {us : List Value} {vs : List V} {Q : VK} (F : FnOk X.prog X.w X.K X.mg X.base CX n f fd ps sp) (hr : Room n X.A) (hb : Binds X.K fd ps []) (hx : Passes CX X E) (I : Inv X pins σ H s) (r : Vals vs us) (h : sp vs H Q E) :
    wpAny (model X.prog X.w) X.A (call (.ref f) us) (EP X pins σ Q) X.xe s := by
  have hl := F.len _ _ _ _ h
  refine wpAny_call (codeAny_mono (F.run X.A X.stack s H ⟨us, []⟩ us vs Q E hr I.env0 (by
    have := hb s us I.kIn (by rw [List.append_nil, ← r.length]; exact hl)
    simpa using this) r h) fun r s' hq => ?_)
  cases r with
  | error e => exact hx pins σ H s e s' I hq
  | ok fl =>
    cases fl with
    | ret u => exact I.after hq
    | next => exact False.elim hq
    | brk => exact False.elim hq
    | cont => exact False.elim hq
theorem op_ownI {op : CmpOp} (hop : ∀ a b, compareOp op a b = richCompare op a b) (hs : PySem.W.findIn X.K (.ref C) (cmpInfo op).2.1 = some (some (.ref f))) (hf : PySem.W.isFn X.K (.ref f) = true) (F : FnOk X.prog X.w X.K X.mg X.base CX n f fd ps sp)
    (hr : Room n X.A) (hb : Binds X.K fd ps []) (hx : Passes CX X E) : OpR X (compareOp op) (rOwnI X.K C sp E) := by
  intro pins s σ H x y v u Q I rx ry h
  obtain ⟨a, dx, fs, tb, rfl, ha, ht, hn, q⟩ := h
  cases (show v = Value.ref a from rx)
  obtain ⟨mA, J, _⟩ := ins_get I.hok ha
  obtain ⟨od, J, _⟩ := J.look
  obtain ⟨m, hF⟩ := I.fr
  rw [hop]
  refine PySem.W.cmp_K (op := op) hr.units0 hF I.ok.mod.kin J (tyO_looks I ry ht) hn hs hf ?_
  refine wpAny_mono (run_two (vs := [.ref a, y]) F hr hb hx I (.cons rfl (.cons ry .nil)) q) (fun w s' z => ?_) fun _ _ x => x
  obtain ⟨z', H', I', rz, qz⟩ := z
  exact cmpback_of rz ⟨z', H', I', rz, qz⟩
/-- x op y, both of the class at C -/
def rBinI (C : Addr) (sp : Sp) (E : XK) : R2 := fun x y H Q => ∃ (a dx b dy : Addr) (fs gs : List (Str × V)), x = .ref a ∧ y = .ref b ∧ H a = some (.ins C dx fs) ∧ H b = some (.ins C dy gs) ∧ sp [x, y] H Q E
theorem op_binI {op : Operator} (hc : PySem.W.selfFirst X.K C = true) (hs : PySem.W.findIn X.K (.ref C) (PySem.dunder op.info.2) = some (some (.ref f))) (hf : PySem.W.isFn X.K (.ref f) = true) (F : FnOk X.prog X.w X.K X.mg X.base CX n f fd ps sp)
    (hr : Room n X.A) (hb : Binds X.K fd ps []) (hx : Passes CX X E) : OpR X (binaryOp op) (rBinI C sp E) := by
  intro pins s σ H x y v u Q I rx ry h
  obtain ⟨a, dx, b, dy, fs, gs, rfl, rfl, ha, hb', q⟩ := h
  cases (show v = Value.ref a from rx)
  cases (show u = Value.ref b from ry)
  obtain ⟨mA, J, _⟩ := ins_get I.hok ha
  obtain ⟨od, J, _⟩ := J.look
  obtain ⟨mB, J', _⟩ := ins_get I.hok hb'
  obtain ⟨od', J', _⟩ := J'.look
  obtain ⟨m, hF⟩ := I.fr
  refine PySem.W.binop_K hF I.ok.mod.kin J J'.type hc hs hf ?_
  refine wpAny_mono (run_two (vs := [.ref a, .ref b]) F hr hb hx I (.cons rfl (.cons rfl .nil)) q) (fun w s' z => ?_) fun _ _ x => x
  obtain ⟨z', H', I', rz, qz⟩ := z
  exact cmpback_of rz ⟨z', H', I', rz, qz⟩
/-- x in y, y of the class at C -/
def rInI (C : Addr) (sp : Sp) (E : XK) : R2 := fun x y H Q => ∃ (a dx : Addr) (fs : List (Str × V)), y = .ref a ∧ H a = some (.ins C dx fs) ∧ sp [y, x] H (fun z H' => ∃ b, z = .bl b ∧ Q (.bl b) H') E
theorem op_inI (hs : PySem.W.findIn X.K (.ref C) "__contains__" = some (some (.ref f))) (hf : PySem.W.isFn X.K (.ref f) = true) (F : FnOk X.prog X.w X.K X.mg X.base CX n f fd ps sp)
    (hr : Room n X.A) (hb : Binds X.K fd ps []) (hx : Passes CX X E) : OpR X (compareOp .In) (rInI C sp E) := by
  intro pins s σ H x y v u Q I rx ry h
  obtain ⟨a, dx, fs, rfl, ha, q⟩ := h
  cases (show u = Value.ref a from ry)
  obtain ⟨mA, J, _⟩ := ins_get I.hok ha
  obtain ⟨od, J, _⟩ := J.look
  obtain ⟨m, hF⟩ := I.fr
  refine PySem.W.in_K hF I.ok.mod.kin J hs hf ?_
  refine wpAny_mono (run_two (vs := [.ref a, x]) F hr hb hx I (.cons rfl (.cons rx .nil)) q) (fun w s' z => ?_) fun _ _ x => x
  obtain ⟨z', H', I', rz, b, e, qz⟩ := z
  subst e
  cases (show w = Value.bool b from rz)
  exact wpAny_truthy_bool ⟨.bl b, H', I', rfl, qz⟩
end
/-! ### facts -/
def clsB (K : PySem.W.Frag) (C : Addr) : Bool := PySem.W.plainGet K C Str.empty && (PySem.W.hasDictIn K C && (PySem.W.plainOver K C && fnd K C "__setattr__" (some (.builtin "object.__setattr__"))))
theorem clsB_ok {K : PySem.W.Frag} {C : Addr} (h : clsB K C = true) : Cls K C := by
  obtain ⟨h1, h⟩ := He.ba h
  obtain ⟨h2, h⟩ := He.ba h
  obtain ⟨h3, h4⟩ := He.ba h
  exact ⟨h1, h2, h3, of_decide_eq_true h4⟩
def mkB (K : PySem.W.Frag) (C : Addr) : Bool := PySem.W.makesIn K C && (fnd K C "__init__" (some (.ref (He.ma K C "__init__"))) && (PySem.W.isFn K (.ref (He.ma K C "__init__")) && PySem.W.keepIn K (.ref C)))
theorem mkB_ok {K : PySem.W.Frag} {C : Addr} (h : mkB K C = true) : Mk K C (He.ma K C "__init__") := by
  obtain ⟨h1, h⟩ := He.ba h
  obtain ⟨h2, h⟩ := He.ba h
  obtain ⟨h3, h4⟩ := He.ba h
  exact ⟨h1, of_decide_eq_true h2, h3, h4⟩
def methB (K : PySem.W.Frag) (C : Addr) (m : Str) : Bool := fnd K C m (some (.ref (He.ma K C m))) && (PySem.W.isFn K (.ref (He.ma K C m)) && PySem.W.keepIn K (.ref (He.ma K C m)))
theorem methB_ok {K : PySem.W.Frag} {C : Addr} {m : Str} (h : methB K C m = true) : Meth K C m (He.ma K C m) := by
  obtain ⟨h1, h⟩ := He.ba h
  obtain ⟨h2, h3⟩ := He.ba h
  exact ⟨of_decide_eq_true h1, h2, h3⟩
def noB (K : PySem.W.Frag) (C : Addr) (fs : List Str) : Bool := fs.all fun f => fnd K C f none
theorem noB_ok {K : PySem.W.Frag} {C : Addr} {fs : List Str} (h : noB K C fs = true) : ∀ f ∈ fs, NoAttr K C f := fun f hf => show PySem.W.findIn K (.ref C) f = some none from of_decide_eq_true (List.all_eq_true.mp h f hf)
def cmetB (K : PySem.W.Frag) (C : Addr) (m : Str) : Bool := He5.wrapB K C "classmethod" "classmethod.__get__" m && PySem.W.fnIn K (He5.wf K C "classmethod" m)
theorem cmetB_ok {K : PySem.W.Frag} {C : Addr} {m : Str} (h : cmetB K C m = true) : ClX.CMet K C (.type "type") m (He.ma K C m) (He5.wf K C "classmethod" m) := He5.cmet_of (He.ba h).1 (He.ba h).2
def creadB (K : PySem.W.Frag) (C : Addr) : Bool := PySem.W.readsIn K C (.type "type") && decide (PySem.W.specialIn K (.ref C) "__getattribute__" = some (some (.builtin "type.__getattribute__")))
theorem creadB_ok {K : PySem.W.Frag} {C : Addr} (h : creadB K C = true) : ClX.CRead K C (.type "type") := ⟨(He.ba h).1, of_decide_eq_true (He.ba h).2⟩
/-- a property's getter -/
def propG (K : PySem.W.Frag) (C : Addr) (f : Str) : Addr := match PySem.W.recIn K (He.ma K C f) "property" with
  | some (.ref g :: _) => g
  | _ => 0
def propB (K : PySem.W.Frag) (C : Addr) (f : Str) : Bool := fnd K C f (some (.ref (He.ma K C f))) && (decide (PySem.W.specialIn K (.ref (He.ma K C f)) "__get__" = some (some (.builtin "property.__get__"))) && (decide (PySem.W.takesIn K (.ref (He.ma K C f)) = some true) && match PySem.W.recIn K (He.ma K C f) "property" with
  | some (.ref _ :: _) => true
  | _ => false))
theorem propB_ok {K : PySem.W.Frag} {C : Addr} {f : Str} (h : propB K C f = true) : PropOf K C f (He.ma K C f) (propG K C f) := by
  obtain ⟨h1, h⟩ := He.ba h
  obtain ⟨h2, h⟩ := He.ba h
  obtain ⟨h3, h4⟩ := He.ba h
  refine ⟨of_decide_eq_true h1, of_decide_eq_true h2, of_decide_eq_true h3, ?_⟩
  unfold propG
  split at h4
  · rename_i g r e
    exact ⟨r, by rw [e]⟩
  · exact nomatch h4
end Q
/-! a try with several clauses that name the exception; calls within a try -/
namespace Q
open PySem PySem.Spec PyProof.Rows L2
/-- behind a clause the name is gone -/
abbrev gone (i : Nat) (D : Ends) : Ends := ⟨fun τ G => D.nx (τ.set i none) G, D.rt, fun τ G => D.bk (τ.set i none) G, fun τ G => D.ct (τ.set i none) G⟩
abbrev Clause := Value × Nat × (Addr → Value → Option Addr → TS)
def wNamed (K : PySem.W.Frag) (Wo : WX) (D : Ends) : List Clause → WX
  | [] => Wo
  | (c, i, ts) :: more => fun cls d τ G => ∃ b, PySem.W.exmOne K cls c = some b ∧ (b = true → ∀ x, G x = none → ts x cls d (gone i D) (τ.set i (some (.ref x))) G) ∧ (b = false → wNamed K Wo D more cls d τ G)
inductive Named (X : Cx) : List ExceptHandler → List Clause → Prop
  | nil : Named X [] []
  | cons {x y : Str} {c : Value} {i : Nat} {ts : Addr → Value → Option Addr → TS} {st : Stmt} {sts : List Stmt} {q1 q2 : Pos} {hs : List ExceptHandler} {l : List Clause} (hi : X.N[i]? = some y) (hy : X.env.kindOf y = some .local) (hc : Names X x c)
      (suite : ∀ (e : Addr) (o : Obj) (cls : Value) (d : Option Addr) (pn : List (Addr × Obj)), Zc cls d o → (∃ vs, o.data = .fields vs) → PSs (X.suite e ((e, o) :: pn)) (st :: sts) (ts e cls d)) (rest : Named X hs l) :
      Named X (.ExceptHandler (some (.Name x q1)) (some y) (st :: sts) q2 :: hs) ((c, i, ts) :: l)
section
variable {X : Cx} {body : List Stmt} {hd : ExceptHandler} {hs : List ExceptHandler} {l : List Clause} {pos : Pos} {tb : WX → TS} {Wo : WX}
theorem ps_try_named (hst : X.stack = X.env :: X.outer) (hfr : X.env.frame = some X.env.locals) (nd : X.N.Nodup) (out : Takes X Wo)
    (inner : ∀ (W : WX) (pn : List (Addr × Obj)) (xe : Value → Shared → Prop), Takes (X.tr pn xe) W → PassesOwn (model X.prog X.w) X.A X.env xe → PSs (X.tr pn xe) body (tb W)) (cl : Named X (hd :: hs) l) :
    PS X (.Try body (hd :: hs) [] [] pos) (fun D σ H => tb (wNamed X.K Wo D l) D σ H) := by
  constructor
  intro pins s σ H D inv rd
  have okX := inv.ok
  have frs' : X.A.frames = some (X.env :: X.outer) := by
    rw [okX.frames, hst]
  refine wpAny_Try_except (wpAny_mono ((inner (wNamed X.K Wo D l) (X.pn ++ pins) (fun err t => wpAny (model X.prog X.w) X.A (noteFrame err X.env) (fun _ t2 => wpAny (model X.prog X.w) X.A (setFlight err none)
    (fun _ t3 => wpAny (model X.prog X.w) X.A (handleBy err X.env (hd :: hs)) (SP X pins D) X.xe t3) X.xe t2) X.xe t) (fun err t caught => ?_) PassesOwn.looking).run [] s σ H D (inv.toTry _) rd) (fun fl t done => ?_) fun _ _ z => z)
  · obtain ⟨e, B, sI, pins', τ, G, cls, d, rfl, inT, nb, up, sky, ne, os, ag, wish⟩ := caught
    have I0 : Inv X pins τ G sI := inT.ofTry okX
    rw [hst] at sky
    show wpAny _ X.A (noteFrame (.ref e) X.env) _ _ _
    refine Sky.land Zc.steady frs' hfr sky fun g flies grows => ?_
    have I1 : Inv X pins τ G { t with heap := g } := I0.landed nb flies.1 (up.trans grows) os ag
    obtain ⟨o1, v1, at1, z1, f1⟩ := flies.there
    have free : e ∉ frs (X.env :: X.outer) := fun mem => by
      obtain ⟨_, o2, at2, nf⟩ := flies.2.2.1.mem mem
      rw [at1] at at2
      cases at2
      exact nf _ f1
    have notL : e ≠ X.env.locals := fun z => free (List.mem_filterMap.mpr ⟨X.env, List.mem_cons_self, by rw [hfr, z]⟩)
    have notF : e ∉ X.fs := fun mem => by
      obtain ⟨en, me, q⟩ := List.mem_filterMap.mp mem
      exact free (List.mem_filterMap.mpr ⟨en, List.mem_cons_of_mem _ me, q⟩)
    have S1 := I1.suite at1 f1 ne notL notF
    have type : PySem.W.Looks (model X.prog X.w) g (typeOf (.ref e)) cls := fun A Q E u k q => wpAny_typeOf_ref (k _ _ at1) (by
      rw [z1.1]
      exact q)
    have each : ∀ {hs' : List ExceptHandler} {l' : List Clause}, Named X hs' l' → wNamed X.K Wo D l' cls d τ G → wpAny (model X.prog X.w) X.A (handleBy (.ref e) X.env hs') (SP X pins D) X.xe { t with heap := g } := by
      intro hs' l' nm
      induction nm with
      | nil =>
        intro wo
        refine wpAny_handleBy_nil ?_
        obtain ⟨_, _, _, o3, v3, T3, oT3, ts3, at3, _, f3, fst3, _⟩ := id flies
        unfold PySem.passOn
        refine wpAny_bind (wpAny_field at3 f3 fst3 ?_)
        rw [if_neg (by simp : ¬ ((Value.ref T3 == Value.none) = true))]
        have leave : wpAny (model X.prog X.w) X.A (setFlight (.ref e) X.env.frame) (fun _ u => wpAny (model X.prog X.w) X.A (throw (.ref e) : Sem Flow) (SP X pins D) X.xe u) X.xe { t with heap := g } := by
          rw [hfr]
          refine HandSPX.setFlight_upZ flies fun g2 fly2 grow2 => wpAny_throw (out _ _ ?_)
          exact ⟨e, B, sI, pins, τ, G, cls, d, rfl, I0, nb, (up.trans grows).trans grow2, .inr (.inr (by rw [hst]; exact fly2)), ne, os, ag, wo⟩
        first
          | exact wpAny_bind (wpAny_pure (wpAny_bind leave))
          | exact wpAny_bind leave
      | @cons x y c i ts st sts q1 q2 hs2 l2 hi hy hc suite rest ih =>
        rintro ⟨b, eb, yes, no⟩
        refine wpAny_handleBy_cons (codeAny_handlers_test ?_) (by intro q; cases q)
        have goes := PySem.W.exm_one (M := model X.prog X.w) I1.kIn type eb
        have asked : ∀ {Q : Value → Shared → Prop} {E : Value → Shared → Prop}, Q c { t with heap := g } → wpAny (model X.prog X.w) (X.A.mark (some (.ref e))) (eval (.Name x q1) X.env) Q E { t with heap := g } := fun {Q E} q => by
          obtain ⟨gl, db, mg1 | ⟨mg1, bv, nn⟩⟩ := hc
          · exact ld_glob (X := X.suite e ((e, o1) :: (X.pn ++ pins))) S1 gl mg1 q db
          · exact ld_blt (X := X.suite e ((e, o1) :: (X.pn ++ pins))) S1 gl mg1 bv q nn db
        refine asked (goes.here ?_)
        cases b with
        | false => exact ih (no rfl)
        | true =>
          refine codeAny_handlers_suite_as (HandSPX.lands_againZ flies fun g4 flies4 grows4 => ?_)
          have I4 : Inv X pins τ G { t with heap := g4 } := I0.landed nb flies4.1 ((up.trans grows).trans grows4) os ag
          obtain ⟨o4, v4, at4, z4, f4⟩ := flies4.there
          have S4 := I4.suite at4 f4 ne notL notF
          refine store_ok (X := X.suite e ((e, o4) :: (X.pn ++ pins))) (v := .ref e) S4 nd hi (.inl hy) rfl (fun t5 S5 => ?_) (.inr hy)
          refine wpAny_mono ((suite e o4 cls d (X.pn ++ pins) z4 ⟨_, f4⟩).run [] t5 _ G _ S5 (yes rfl e ne)) (fun fl t6 over => ?_) fun _ _ z => z.elim
          have close : ∀ {τ6 : L2.St} {G6 : Hp} {R : Shared → Prop}, Inv (X.suite e ((e, o4) :: (X.pn ++ pins))) [] τ6 G6 t6 → (∀ t7, Inv X pins (τ6.set i none) G6 t7 → R t7) →
              wpAny (model X.prog X.w) X.A (do bindName X.env y .none; unbindBehindTheSuite X.env y q2) (fun _ t7 => R t7) X.xe t6 := fun {_ _ _} S6 r => gone_ok (S6.unsuite okX) nd hi hy r
          match fl, over with
          | .next, ⟨τ6, G6, S6, r6⟩ => exact close S6 fun t7 I7 => ⟨_, _, I7, r6⟩
          | .brk, ⟨τ6, G6, S6, r6⟩ => exact close S6 fun t7 I7 => ⟨_, _, I7, r6⟩
          | .cont, ⟨τ6, G6, S6, r6⟩ => exact close S6 fun t7 I7 => ⟨_, _, I7, r6⟩
          | .ret _, ⟨v6, τ6, G6, S6, rv6, r6⟩ => exact close S6 fun t7 I7 => ⟨_, _, _, I7, rv6, r6⟩
    exact each cl wish
  · match fl, done with
    | .next, ⟨τ, G, J, r⟩ => exact wpAny_execs_nil ⟨τ, G, J.ofTry okX, r⟩
    | .brk, ⟨τ, G, J, r⟩ => exact ⟨τ, G, J.ofTry okX, r⟩
    | .cont, ⟨τ, G, J, r⟩ => exact ⟨τ, G, J.ofTry okX, r⟩
    | .ret _, ⟨v, τ, G, J, rv, r⟩ => exact ⟨v, τ, G, J.ofTry okX, rv, r⟩
end
/-! ### calls whose way out looks at the slots -/
section
variable {X : Cx} {CX : CXT} {k : Nat} {f g p C : Addr} {fd : FuncData} {ps ks : List Str} {sp : Sp} {E : L2.St → XK} {x m : Str} {q1 pos apos : Pos} {o e : Expr} {es : List Expr} {t : TA} {ta : TE} {ds : List Value} {dvs : List V} {pins : List (Addr × Obj)} {σ : L2.St} {H : Hp} {s : Shared} {Qv : VK}
theorem run_rS {us : List Value} {vs : List V} (F : FnR X.prog X.w X.K X.mg X.base CX k f sp) (hr : Room k X.A) (hx : PassesAt CX X σ (E σ)) (I : Inv X pins σ H s) (r : Vals vs us) (h : sp vs H Qv (E σ)) :
    codeAny (model X.prog X.w) X.A (.call (.ref f) ⟨us, []⟩) (wants (EP X pins σ Qv) X.xe) s := by
  refine codeAny_mono (F X.A X.stack s H us vs Qv (E σ) hr I.env0 r h) fun res s' z => ?_
  match res, z with
  | .error u, z => exact hx pins H s u s' I z
  | .ok (.ret u), z => exact I.after z
/-- C(e, ..) -/
def tMakeS (C : Addr) (sp : Sp) (dvs : List V) (E : L2.St → XK) (t : TA) : TE := fun σ H Q => t σ H fun vs H1 => ∀ a dx, H1 a = none → H1 dx = none → dx ≠ a →
  sp (.ref a :: (vs ++ dvs)) (upd (upd H1 dx (.own a)) a (.ins C dx [])) (fun v H2 => v = .non ∧ Q (.ref a) H2) (E σ)
theorem run_mkS {us : List Value} {vs : List V} (M : Mk X.K C f) (F : FnOk X.prog X.w X.K X.mg X.base CX k f fd ps sp) (hr : Room (k + 1) X.A) (hb : Binds X.K fd ps ds) (hd : Vals dvs ds) (hx : PassesAt CX X σ (E σ)) (I : Inv X pins σ H s) (r : Vals vs us)
    (h : ∀ a dx, H a = none → H dx = none → dx ≠ a → sp (.ref a :: (vs ++ dvs)) (upd (upd H dx (.own a)) a (.ins C dx [])) (fun v H2 => v = .non ∧ Qv (.ref a) H2) (E σ)) : wpAny (model X.prog X.w) X.A (call (.ref C) us) (EP X pins σ Qv) X.xe s := by
  have h1 := h (s.heap.objs.size + 1) s.heap.objs.size (I.hok.fresh (Nat.le_succ _)) (I.hok.fresh (Nat.le_refl _)) (Nat.ne_of_lt (Nat.lt_succ_self _))
  have I1 := Inv.made (C := C) I
  have rv : Vals (V.ref (s.heap.objs.size + 1) :: (vs ++ dvs)) (Value.ref (s.heap.objs.size + 1) :: (us ++ ds)) := .cons rfl (r.append hd)
  have len : (Value.ref (s.heap.objs.size + 1) :: us ++ ds).length = ps.length := (rv.length.symm.trans (F.len _ _ _ _ h1))
  have body := F.run _ X.stack _ _ ⟨Value.ref (s.heap.objs.size + 1) :: us, []⟩ (Value.ref (s.heap.objs.size + 1) :: (us ++ ds)) _ _ (E σ) (hr.make C us []) (I1.env0.make C us []) (hb _ (Value.ref (s.heap.objs.size + 1) :: us) I1.kIn len) rv h1
  refine wpAny_call (make_map (f := f) I.kIn M.makes M.init (beq_iff_eq.mp M.fn) (codeAny_mono body fun res s' y => ?_))
  match res, y with
  | .error u, y => exact hx pins _ _ u s' I1 y
  | .ok (.ret u), y =>
    obtain ⟨v, H', I2, ru, ev, q2⟩ := I1.after y
    subst ev
    exact ⟨ru, V.ref (s.heap.objs.size + 1), H', I2, rfl, q2⟩
theorem pe_makeS (M : Mk X.K C f) (F : FnOk X.prog X.w X.K X.mg X.base CX k f fd ps sp) (hr : Room (k + 1) X.A) (hg : Gl X x) (hm : X.mg x = some (.ref C)) (hb : Binds X.K fd ps ds) (hd : Vals dvs ds) (hx : ∀ σ, PassesAt CX X σ (E σ)) (ha : PA X (e :: es) t)
    (hdb : (x == ("__debug__" : Str)) = false := by decide) (he : starEach (e :: es) X.env = (false, eval e X.env) :: starEach es X.env := by rfl) (hpl : (backTo pos (starEach es X.env)).any (·.1) = false := by rfl) : PE X (.Call (.Name x q1) (e :: es) [] pos) (tMakeS C sp dvs E t) :=
  ⟨fun pins s σ H Q I h => wpAny_Call_Name_kw (ld_glob I hg hm (PySem.W.callWith_K (h₀ := X.base) I.ok.mod.kin M.kp (thn (ha.run pos pins s σ H _ I h) fun us s1 ⟨vs, H1, I1, r, w⟩ => ⟨I1.kIn, run_mkS M F hr hb hd (hx σ) I1 r w⟩) he hpl) hdb)⟩
/-- a local that holds the class at C, called -/
def tMakeL (i : Nat) (C : Addr) (sp : Sp) (dvs : List V) (E : L2.St → XK) (t : TA) : TE := fun σ H Q => σ[i]? = some (some (.ref C)) ∧ tMakeS C sp dvs E t σ H Q
theorem pe_makeL {i : Nat} (M : Mk X.K C f) (F : FnOk X.prog X.w X.K X.mg X.base CX k f fd ps sp) (hr : Room (k + 1) X.A) (hN : X.N[i]? = some x) (hv : Vis X.env.scope x) (hb : Binds X.K fd ps ds) (hd : Vals dvs ds) (hx : ∀ σ, PassesAt CX X σ (E σ)) (ha : PA X (e :: es) t)
    (hdb : (x == ("__debug__" : Str)) = false := by decide) (hcd : (x == ("__classdict__" : Str)) = false := by decide) (he : starEach (e :: es) X.env = (false, eval e X.env) :: starEach es X.env := by rfl) (hpl : (backTo pos (starEach es X.env)).any (·.1) = false := by rfl) :
    PE X (.Call (.Name x q1) (e :: es) [] pos) (tMakeL i C sp dvs E t) := by
  constructor
  rintro pins s σ H Q I ⟨held, h⟩
  refine wpAny_Call_Name_kw (thn ((pe_var (pos := q1) hN hv hdb hcd).run pins s σ H (fun v H1 => v = .ref C ∧ H1 = H) I ⟨.ref C, held, rfl, rfl⟩) fun u s1 ⟨v, H1, I1, r1, ev, eH⟩ => ?_)
  subst ev eH
  cases r1
  exact PySem.W.callWith_K (h₀ := X.base) I.ok.mod.kin M.kp (thn (ha.run pos pins s1 σ _ _ I1 h) fun us s2 ⟨vs, H2, I2, r, w⟩ => ⟨I2.kIn, run_mkS M F hr hb hd (hx σ) I2 r w⟩) he hpl
theorem passes_at {E : XK} (h : Passes CX X E) (σ : L2.St) : PassesAt CX X σ ((fun _ => E) σ) := fun pins H s e s' => h pins σ H s e s'
open ClX in
/-- C.m(e, ..), m a classmethod -/
def tCMethS (C : Addr) (sp : Sp) (E : L2.St → XK) (ta : TE) (t : TA) : TE := fun σ H Q => ta σ H fun x H1 => x = .ref C ∧ t σ H1 fun vs H2 => sp (.ref C :: vs) H2 Q (E σ)
open ClX in
theorem pe_cmethS {mc : Value} {pl : Sem Bool} (he : PE X o ta) (r : CRead X.K C mc) (c : CMet X.K C mc m p g) (F : FnR X.prog X.w X.K X.mg X.base CX k g sp) (hr : Room k X.A) (hx : ∀ σ, PassesAt CX X σ (E σ)) (ha : PA X (e :: es) t)
    (hst : starEach (e :: es) X.env = (false, eval e X.env) :: starEach es X.env := by rfl) (hpl : (backTo pos (starEach es X.env)).any (·.1) = false := by rfl)
    (ht : eval (.Call (.Attribute o m apos) (e :: es) [] pos) X.env = (do
      let ov ← eval o X.env
      standAt apos.atName
      let (fn, fst) ← holding [ov] (getMethod ov m pl)
      callWith pos fn fst (backTo pos (starEach (e :: es) X.env)) (backToKw pos (keywordEach [] X.env))) := by rfl) : PE X (.Call (.Attribute o m apos) (e :: es) [] pos) (tCMethS C sp E ta t) := by
  constructor
  intro pins s σ H Q I h
  refine PySem.W.methodCall_KW (pl := pl) (thn (he.run pins s σ H _ I h) fun u s1 ⟨x, H1, I1, rx, ex, w⟩ => ?_) ht
  subst ex
  cases (show u = Value.ref C from rx)
  refine getmethcm_ok I1 r c fun s2 I2 => callwith_cm I2 (base_none I1 (Nat.le_refl _)) c.fi (thn (ha.run pos _ s2 σ H1 _ I2 w) fun us s3 ⟨vs, H2, I3, rv, w2⟩ => ⟨⟨pin_at I3, I3.kIn⟩, ?_⟩) hst hpl
  exact thn (wpAny_call (PySem.W.method_call (pin_at I3) (run_rS (us := .ref C :: us) (vs := .ref C :: vs) F hr (hx σ) I3 (.cons rfl rv) w2))) fun _ _ y => unpinE y
end
end Q
/-! objects of the text's classes: steps -/
namespace Q
open PySem PySem.Spec PyProof.Rows L2
/-- a method with its promise -/
structure MDef (P : Program) (w : World) (K : PySem.W.Frag) (mg : Str → Option Value) (base : Heap) (CX : CXT) (k : Nat) (f : Addr) (x q : Str) (st : Stmt) (dvs : List V) (ps : List Str) (sp : Sp) : Prop where
  ex : ∃ fd : FuncData, FnOk P w K mg base CX k f fd ps sp ∧ FunD K x q (defArgs st) (defBody st) (defScope st) dvs [] f fd
/-- what isinstance asks of an own class -/
structure TyC (K : PySem.W.Frag) (C : Addr) : Prop where
  at_ : PySem.W.findIn K (.ref C) "__class__" = some (some (.builtin "object.__class__"))
  get : PySem.W.specialIn K (.builtin "object.__class__") "__get__" = some (some (.builtin "getset_descriptor.__get__"))
  tak : PySem.W.takesIn K (.builtin "object.__class__") = some true
  mro : PySem.W.mroIn K C (.type "object") = some true
def tyCB (K : PySem.W.Frag) (C : Addr) : Bool := fnd K C "__class__" (some (.builtin "object.__class__")) && (decide (PySem.W.specialIn K (.builtin "object.__class__") "__get__" = some (some (.builtin "getset_descriptor.__get__"))) &&
  (decide (PySem.W.takesIn K (.builtin "object.__class__") = some true) && decide (PySem.W.mroIn K C (.type "object") = some true)))
theorem tyCB_ok {K : PySem.W.Frag} {C : Addr} (h : tyCB K C = true) : TyC K C := by
  obtain ⟨h1, h⟩ := He.ba h
  obtain ⟨h2, h⟩ := He.ba h
  obtain ⟨h3, h4⟩ := He.ba h
  exact ⟨of_decide_eq_true h1, of_decide_eq_true h2, of_decide_eq_true h3, of_decide_eq_true h4⟩
section
variable {K : PySem.W.Frag} {σ : L2.St} {H : Hp} {Q : VK} {D : Ends} {te ta tv : TE} {t tk : TA} {E : XK} {a b C dx dy p : Addr} {fs gs : List (Str × V)} {f : Str} {v x y : V} {sp : Sp} {vs dvs : List V}
def fldQ (K : PySem.W.Frag) (f : Str) (Q : VK) : VK := fun x H1 => ∃ a C dx fs v, x = .ref a ∧ H1 a = some (.ins C dx fs) ∧ Cls K C ∧ NoAttr K C f ∧ fs.lookup f = some v ∧ Q v H1
theorem go_fld (h : ta σ H (fldQ K f Q)) : tFld K ta f σ H Q := h
theorem go_fldq (h : H a = some (.ins C dx fs)) (c : Cls K C) (n : NoAttr K C f) (l : fs.lookup f = some v) (q : Q v H) : fldQ K f Q (.ref a) H := ⟨a, C, dx, fs, v, rfl, h, c, n, l, q⟩
def sfQ (K : PySem.W.Frag) (f : Str) (y : V) (R : L2.St → Hp → Prop) (σ : L2.St) : VK := fun x H2 => ∃ a C dx fs, x = .ref a ∧ H2 a = some (.ins C dx fs) ∧ Cls K C ∧ NoAttr K C f ∧ fs.length < 1000 ∧ R σ (upd H2 a (.ins C dx (putF f y fs)))
theorem go_sfld (h : tv σ H fun y H1 => ta σ H1 (sfQ K f y D.nx σ)) : sFld K ta tv f D σ H := h
theorem go_sfq {R : L2.St → Hp → Prop} (h : H a = some (.ins C dx fs)) (c : Cls K C) (n : NoAttr K C f) (l : fs.length < 1000) (q : R σ (upd H a (.ins C dx (putF f y fs)))) : sfQ K f y R σ (.ref a) H := ⟨a, C, dx, fs, rfl, h, c, n, l, q⟩
def mkQ (C : Addr) (sp : Sp) (dvs : List V) (E : XK) (Q : VK) : List V → Hp → Prop := fun vs H1 => ∀ x dx, H1 x = none → H1 dx = none → dx ≠ x → sp (.ref x :: (vs ++ dvs)) (upd (upd H1 dx (.own x)) x (.ins C dx [])) (fun v H2 => v = .non ∧ Q (.ref x) H2) E
theorem go_make (h : t σ H (mkQ C sp dvs E Q)) : tMake C sp dvs E t σ H Q := h
theorem go_makeS {E : L2.St → XK} (h : t σ H (mkQ C sp dvs (E σ) Q)) : tMakeS C sp dvs E t σ H Q := h
theorem go_makeL {i : Nat} {E : L2.St → XK} (e : σ[i]? = some (some (.ref C))) (h : t σ H (mkQ C sp dvs (E σ) Q)) : tMakeL i C sp dvs E t σ H Q := ⟨e, h⟩
def mkKQ (C : Addr) (n m : Nat) (sp : Sp) (gV : List V → List V → List V) (E : XK) (Q : VK) (vs : List V) : List V → Hp → Prop := fun zs H2 => vs.length = n ∧ zs.length = m ∧ ∀ x dx, H2 x = none → H2 dx = none → dx ≠ x →
  sp (gV (.ref x :: vs) zs) (upd (upd H2 dx (.own x)) x (.ins C dx [])) (fun v H3 => v = .non ∧ Q (.ref x) H3) E
theorem go_makeN {n m : Nat} {gV : List V → List V → List V} (h : t σ H fun vs H1 => tk σ H1 (mkKQ C n m sp gV E Q vs)) : tMakeN C n m sp gV E t tk σ H Q := h
theorem go_makeK {n m : Nat} {gV : List V → List V → List V} (h : t σ H fun vs H1 => tk σ H1 (mkKQ C n m sp gV E Q vs)) : tMakeK C n m sp gV E t tk σ H Q := h
theorem go_mkKq {n m : Nat} {is : List Nat} {zs us : List V} (l1 : vs.length = n) (l2 : zs.length = m) (e : ∀ x : Addr, perm is (V.ref x :: vs ++ dvs ++ zs) = .ref x :: us) (h : mkQ C sp [] E Q us H) : mkKQ C n m sp (fun vs zs => perm is (vs ++ dvs ++ zs)) E Q vs zs H := by
  refine ⟨l1, l2, fun x dx h1 h2 h3 => ?_⟩
  show sp (perm is (V.ref x :: vs ++ dvs ++ zs)) _ _ _
  rw [e x]
  have z := h x dx h1 h2 h3
  rw [List.append_nil] at z
  exact z
def cmQ (C : Addr) (sp : Sp) (E : XK) (Q : VK) : List V → Hp → Prop := fun vs H2 => sp (.ref C :: vs) H2 Q E
theorem go_cmeth {E : L2.St → XK} {o : TE} (h : o σ H fun x H1 => x = .ref C ∧ t σ H1 (cmQ C sp (E σ) Q)) : tCMethS C sp E o t σ H Q := h
theorem go_isiC {D : Addr} {r : Bool} (h : H a = some (.ins C dx fs)) (c : Cls K C) (ty : TyC K C) (e : PySem.W.kitOne K (.ref C) (.ref D) = some r) (q : Q (.bl r) H) : rIsi K [.ref a, .ref D] H Q :=
  ⟨.ref a, .ref D, .ref C, .ref D, r, rfl, .own D, .base (.ins h c ty.at_ ty.get ty.tak ty.mro), e, q⟩
theorem go_isiN {D : Addr} {T : String} {r : Bool} (ty : Bt K H x T) (e : PySem.W.kitOne K (.type T) (.ref D) = some r) (q : Q (.bl r) H) : rIsi K [x, .ref D] H Q := ⟨x, .ref D, .type T, .ref D, r, rfl, .own D, ty.tyX, e, q⟩
end
end Q
/-! spans: two ends -/
namespace Q
open PySem PySem.Spec PyProof.Rows L2
def spanO (K : PySem.W.Frag) (dx : Addr) (lo hi : V) : HO := .ins (gA K "Span") dx [("low", lo), ("high", hi)]
structure SpanAt (K : PySem.W.Frag) (H : Hp) (p : Addr) (lo hi : V) : Prop where
  ex : ∃ dx, H p = some (spanO K dx lo hi)
theorem SpanAt.keep {K : PySem.W.Frag} {M : Addr → Prop} {H H' : Hp} {p : Addr} {lo hi : V} (s : SpanAt K H p lo hi) (d : Dx M H H') (n : ¬ M p) : SpanAt K H' p lo hi := by
  obtain ⟨dx, e⟩ := s.ex
  exact ⟨dx, d.st _ _ n e⟩
def crossed (lo hi : V) : Bool := match lo, hi with
  | .int i, .int j => decide (j < i)
  | _, _ => false
def spanR (lo hi : V) (ok : Prop) (bad : V → Prop) (rev : Prop) : Prop := if endOk lo = true then if endOk hi = true then if crossed lo hi = true then rev else ok else bad hi else bad lo
theorem spanR_imp {lo hi : V} {ok ok' rev rev' : Prop} {bad bad' : V → Prop} (h : spanR lo hi ok bad rev) (h1 : ok → ok') (h2 : ∀ x, bad x → bad' x) (h3 : rev → rev') : spanR lo hi ok' bad' rev' := by
  unfold spanR at *
  split
  · rename_i e1
    rw [if_pos e1] at h
    split
    · rename_i e2
      rw [if_pos e2] at h
      split
      · rename_i e3
        rw [if_pos e3] at h
        exact h3 h
      · rename_i e3
        rw [if_neg e3] at h
        exact h1 h
    · rename_i e2
      rw [if_neg e2] at h
      exact h2 _ h
  · rename_i e1
    rw [if_neg e1] at h
    exact h2 _ h
theorem spanR_ok {lo hi : V} {ok rev : Prop} {bad : V → Prop} (h1 : IsEnd lo) (h2 : IsEnd hi) (h3 : crossed lo hi = false) (h : ok) : spanR lo hi ok bad rev := by
  unfold spanR
  rw [if_pos (endOk_of h1), if_pos (endOk_of h2), h3, if_neg Bool.false_ne_true]
  exact h
def Bad2 (K : PySem.W.Frag) (x f g : Str) (v w : V) (H : Hp) (E : XK) : Prop := ∀ d, H d = none → E (.ref (gA K x)) (some d) (upd H d (.xd [(g, w), (f, v)]))
def pSpanInit (K : PySem.W.Frag) : P3 := fun v0 v1 v2 H Q E => ∃ a dx : Addr, v0 = .ref a ∧ H a = some (.ins (gA K "Span") dx []) ∧ flatE v1 = true ∧ flatE v2 = true ∧
  spanR v1 v2 (Q .non (upd H a (spanO K dx v1 v2))) (fun x => Bad1 K "BadNumber" "number" x H E) (Bad2 K "BadSpan" "low" "high" v1 v2 H E)
/-- the errors of a span: their dicts stand -/
def Err1 (K : PySem.W.Frag) (x f : Str) (v : V) (H : Hp) (E : XK) : Prop := ∀ d H', H d = none → Dx No H H' → H' d = some (.xd [(f, v)]) → E (.ref (gA K x)) (some d) H'
def Err2 (K : PySem.W.Frag) (x f g : Str) (v w : V) (H : Hp) (E : XK) : Prop := ∀ d H', H d = none → Dx No H H' → H' d = some (.xd [(g, w), (f, v)]) → E (.ref (gA K x)) (some d) H'
theorem mk_span {K : PySem.W.Frag} {lo hi : V} {Qv : VK} {E : XK} {H : Hp} (f1 : flatE lo = true) (f2 : flatE hi = true)
    (h : spanR lo hi (∀ p H', H p = none → Dx No H H' → SpanAt K H' p lo hi → Qv (.ref p) H') (fun x => Err1 K "BadNumber" "number" x H E) (Err2 K "BadSpan" "low" "high" lo hi H E)) {vs dvs : List V} (e : vs ++ dvs = [lo, hi] := by rfl) :
    mkQ (gA K "Span") (Sp3 (pSpanInit K)) dvs E Qv vs H := by
  intro p dx hp hdx hne
  rw [e]
  have g1 : (upd H dx (.own p)) p = none := by
    rw [upd_ne (Ne.symm hne)]
    exact hp
  have d0 : Dx No H (upd (upd H dx (.own p)) p (.ins (gA K "Span") dx [])) := (Dx.new hdx).trans (Dx.new g1)
  refine ⟨_, _, _, rfl, p, dx, rfl, upd_same, f1, f2, spanR_imp h (fun k => ⟨rfl, ?_⟩) (fun x k d hd => ?_) (fun k d hd => ?_)⟩
  · exact k p _ hp (d0.own hp) ⟨dx, upd_same⟩
  · exact k d _ (d0.dm d hd) (d0.trans (Dx.new hd)) upd_same
  · exact k d _ (d0.dm d hd) (d0.trans (Dx.new hd)) upd_same
def loOk (lo : V) (i : Int) : Bool := match lo with
  | .int j => !decide (i < j)
  | _ => true
def inSpan (lo hi : V) (i : Int) : Bool := loOk lo i && leV (.int i) hi
def pSpanHas (K : PySem.W.Frag) : P2 := fun v0 v1 H Q _ => ∃ (a : Addr) (lo hi : V) (i : Int), v0 = .ref a ∧ v1 = .int i ∧ SpanAt K H a lo hi ∧ IsEndI lo ∧ IsEndI hi ∧ Q (.bl (inSpan lo hi i)) H
def MeetTo (K : PySem.W.Frag) (lo hi : V) (H : Hp) (Q : VK) : Prop := if crossed lo hi = true then Q .non H else ∀ p H', H p = none → Dx No H H' → SpanAt K H' p lo hi → Q (.ref p) H'
def pSpanMeet (K : PySem.W.Frag) : P2 := fun v0 v1 H Q _ => ∃ (a b : Addr) (l1 h1 l2 h2 : V), v0 = .ref a ∧ v1 = .ref b ∧ SpanAt K H a l1 h1 ∧ SpanAt K H b l2 h2 ∧ (IsEnd l1 ∧ IsEnd h1 ∧ IsEnd l2 ∧ IsEnd h2) ∧ MeetTo K (greaterV l1 l2) (lesserV h1 h2) H Q
/-- no span: a value of a built-in type -/
def NoSpan (K : PySem.W.Frag) (H : Hp) (v : V) : Prop := ∃ T, Bt K H v T ∧ PySem.W.kitOne K (.type T) (.ref (gA K "Span")) = some false
def pSpanEq (K : PySem.W.Frag) : P2 := fun v0 v1 H Q _ => ∃ (a : Addr) (lo hi : V), v0 = .ref a ∧ SpanAt K H a lo hi ∧
  ((NoSpan K H v1 ∧ Q (.bl false) H) ∨ ∃ (b : Addr) (l2 h2 : V), v1 = .ref b ∧ SpanAt K H b l2 h2 ∧ (IsEndI lo ∧ IsEndI hi ∧ IsEndI l2 ∧ IsEndI h2) ∧ Q (.bl (decide (lo = l2) && decide (hi = h2))) H)
def pSpanPoint (K : PySem.W.Frag) : P2 := fun v0 v1 H Q E => v0 = .ref (gA K "Span") ∧ flatE v1 = true ∧ (isNumV v1 = true → ∀ p H', H p = none → Dx No H H' → SpanAt K H' p v1 v1 → Q (.ref p) H') ∧ (isNumV v1 = false → Bad1 K "BadNumber" "number" v1 H E)
theorem go_eqE {x y : V} {H : Hp} {Q : VK} (hx : IsEndI x) (hy : IsEndI y) (q : Q (.bl (decide (x = y))) H) : rEq x y H Q := by
  rcases hx with rfl | ⟨i, rfl⟩ <;> rcases hy with rfl | ⟨j, rfl⟩ <;> exact ⟨rfl, q⟩
/-! ### the meet of several -/
def MeetLo (es : List (V × V)) (lo : V) : Prop := (lo = .non ∧ ∀ e ∈ es, e.1 = .non) ∨ ∃ m : Int, lo = .int m ∧ (∃ e ∈ es, e.1 = .int m) ∧ ∀ e ∈ es, ∀ i : Int, e.1 = .int i → i ≤ m
def MeetHi (es : List (V × V)) (hi : V) : Prop := (hi = .non ∧ ∀ e ∈ es, e.2 = .non) ∨ ∃ m : Int, hi = .int m ∧ (∃ e ∈ es, e.2 = .int m) ∧ ∀ e ∈ es, ∀ i : Int, e.2 = .int i → m ≤ i
def EndsOk (es : List (V × V)) : Prop := ∀ e ∈ es, IsEnd e.1 ∧ IsEnd e.2
theorem meetLo_one {e : V × V} (h : IsEnd e.1) : MeetLo [e] e.1 := by
  rcases h with z | ⟨i, z, _⟩
  · exact .inl ⟨z, fun x hx => by rw [List.mem_singleton.mp hx]; exact z⟩
  · refine .inr ⟨i, z, ⟨e, List.mem_singleton.mpr rfl, z⟩, fun x hx j hj => ?_⟩
    rw [List.mem_singleton.mp hx, z] at hj
    cases hj
    exact Int.le_refl _
theorem meetHi_one {e : V × V} (h : IsEnd e.2) : MeetHi [e] e.2 := by
  rcases h with z | ⟨i, z, _⟩
  · exact .inl ⟨z, fun x hx => by rw [List.mem_singleton.mp hx]; exact z⟩
  · refine .inr ⟨i, z, ⟨e, List.mem_singleton.mpr rfl, z⟩, fun x hx j hj => ?_⟩
    rw [List.mem_singleton.mp hx, z] at hj
    cases hj
    exact Int.le_refl _
theorem meetLo_app {es fs : List (V × V)} {a b : V} (h : MeetLo es a) (g : MeetLo fs b) : MeetLo (es ++ fs) (greaterV a b) := by
  rcases h with ⟨rfl, h⟩ | ⟨m, rfl, ⟨e, he, hm⟩, h⟩
  · rcases g with ⟨rfl, g⟩ | ⟨n, rfl, ⟨e, he, hn⟩, g⟩
    · exact .inl ⟨rfl, fun x hx => (List.mem_append.mp hx).elim (h x) (g x)⟩
    · refine .inr ⟨n, rfl, ⟨e, List.mem_append_right _ he, hn⟩, fun x hx i hi => ?_⟩
      rcases List.mem_append.mp hx with z | z
      · rw [h x z] at hi
        exact nomatch hi
      · exact g x z i hi
  · rcases g with ⟨rfl, g⟩ | ⟨n, rfl, ⟨e2, he2, hn⟩, g⟩
    · refine .inr ⟨m, rfl, ⟨e, List.mem_append_left _ he, hm⟩, fun x hx i hi => ?_⟩
      rcases List.mem_append.mp hx with z | z
      · exact h x z i hi
      · rw [g x z] at hi
        exact nomatch hi
    · show MeetLo (es ++ fs) (if n < m then V.int m else V.int n)
      split
      · refine .inr ⟨m, rfl, ⟨e, List.mem_append_left _ he, hm⟩, fun x hx i hi => ?_⟩
        rcases List.mem_append.mp hx with z | z
        · exact h x z i hi
        · have := g x z i hi
          omega
      · refine .inr ⟨n, rfl, ⟨e2, List.mem_append_right _ he2, hn⟩, fun x hx i hi => ?_⟩
        rcases List.mem_append.mp hx with z | z
        · have := h x z i hi
          omega
        · exact g x z i hi
theorem meetHi_app {es fs : List (V × V)} {a b : V} (h : MeetHi es a) (g : MeetHi fs b) : MeetHi (es ++ fs) (lesserV a b) := by
  rcases h with ⟨rfl, h⟩ | ⟨m, rfl, ⟨e, he, hm⟩, h⟩
  · rcases g with ⟨rfl, g⟩ | ⟨n, rfl, ⟨e, he, hn⟩, g⟩
    · exact .inl ⟨rfl, fun x hx => (List.mem_append.mp hx).elim (h x) (g x)⟩
    · refine .inr ⟨n, rfl, ⟨e, List.mem_append_right _ he, hn⟩, fun x hx i hi => ?_⟩
      rcases List.mem_append.mp hx with z | z
      · rw [h x z] at hi
        exact nomatch hi
      · exact g x z i hi
  · rcases g with ⟨rfl, g⟩ | ⟨n, rfl, ⟨e2, he2, hn⟩, g⟩
    · refine .inr ⟨m, rfl, ⟨e, List.mem_append_left _ he, hm⟩, fun x hx i hi => ?_⟩
      rcases List.mem_append.mp hx with z | z
      · exact h x z i hi
      · rw [g x z] at hi
        exact nomatch hi
    · show MeetHi (es ++ fs) (if m < n then V.int m else V.int n)
      split
      · refine .inr ⟨m, rfl, ⟨e, List.mem_append_left _ he, hm⟩, fun x hx i hi => ?_⟩
        rcases List.mem_append.mp hx with z | z
        · exact h x z i hi
        · have := g x z i hi
          omega
      · refine .inr ⟨n, rfl, ⟨e2, List.mem_append_right _ he2, hn⟩, fun x hx i hi => ?_⟩
        rcases List.mem_append.mp hx with z | z
        · have := h x z i hi
          omega
        · exact g x z i hi
theorem meetLo_iff {es fs : List (V × V)} {a : V} (h : MeetLo es a) (m : ∀ e, e ∈ es ↔ e ∈ fs) : MeetLo fs a := by
  rcases h with ⟨z, h⟩ | ⟨i, z, ⟨e, he, hm⟩, h⟩
  · exact .inl ⟨z, fun x hx => h x ((m x).mpr hx)⟩
  · exact .inr ⟨i, z, ⟨e, (m e).mp he, hm⟩, fun x hx => h x ((m x).mpr hx)⟩
theorem meetHi_iff {es fs : List (V × V)} {a : V} (h : MeetHi es a) (m : ∀ e, e ∈ es ↔ e ∈ fs) : MeetHi fs a := by
  rcases h with ⟨z, h⟩ | ⟨i, z, ⟨e, he, hm⟩, h⟩
  · exact .inl ⟨z, fun x hx => h x ((m x).mpr hx)⟩
  · exact .inr ⟨i, z, ⟨e, (m e).mp he, hm⟩, fun x hx => h x ((m x).mpr hx)⟩
theorem loOk_iff {es : List (V × V)} {lo : V} (h : MeetLo es lo) (k : EndsOk es) (n : Int) : loOk lo n = true ↔ ∀ e ∈ es, loOk e.1 n = true := by
  rcases h with ⟨rfl, h⟩ | ⟨m, rfl, ⟨e0, he, hm⟩, h⟩
  · refine ⟨fun _ e he => ?_, fun _ => rfl⟩
    rw [h e he]
    rfl
  · refine ⟨fun z e hx => ?_, fun z => ?_⟩
    · have z' : (!decide (n < m)) = true := z
      rcases (k e hx).1 with q | ⟨i, q, _⟩
      · rw [q]
        rfl
      · rw [q]
        have := h e hx i q
        show (!decide (n < i)) = true
        by_cases c : n < m
        · rw [decide_eq_true c] at z'
          exact nomatch z'
        · rw [decide_eq_false (show ¬ n < i by omega)]
          rfl
    · have q := z e0 he
      rw [hm] at q
      exact q
theorem hiOk_iff {es : List (V × V)} {hi : V} (h : MeetHi es hi) (k : EndsOk es) (n : Int) : leV (.int n) hi = true ↔ ∀ e ∈ es, leV (.int n) e.2 = true := by
  rcases h with ⟨rfl, h⟩ | ⟨m, rfl, ⟨e0, he, hm⟩, h⟩
  · refine ⟨fun _ e he => ?_, fun _ => rfl⟩
    rw [h e he]
    rfl
  · refine ⟨fun z e hx => ?_, fun z => ?_⟩
    · have z' := of_decide_eq_true (show decide (n ≤ m) = true from z)
      rcases (k e hx).2 with q | ⟨i, q, _⟩
      · rw [q]
        rfl
      · rw [q]
        have := h e hx i q
        exact decide_eq_true (show n ≤ i by omega)
    · have q := z e0 he
      rw [hm] at q
      exact q
def heldBy (n : Int) (es : List (V × V)) : Bool := es.all fun e => inSpan e.1 e.2 n
theorem held_iff {es : List (V × V)} {lo hi : V} (h : MeetLo es lo) (g : MeetHi es hi) (k : EndsOk es) (n : Int) : inSpan lo hi n = heldBy n es := by
  rw [Bool.eq_iff_iff]
  unfold inSpan heldBy
  rw [Bool.and_eq_true_iff, loOk_iff h k n, hiOk_iff g k n, List.all_eq_true]
  exact ⟨fun z e he => Bool.and_eq_true_iff.mpr ⟨z.1 e he, z.2 e he⟩, fun z => ⟨fun e he => (Bool.and_eq_true_iff.mp (z e he)).1, fun e he => (Bool.and_eq_true_iff.mp (z e he)).2⟩⟩
theorem crossed_none {lo hi : V} (h : crossed lo hi = true) (n : Int) : inSpan lo hi n = false := by
  cases lo with
  | int i =>
    cases hi with
    | int j =>
      have c := of_decide_eq_true (show decide (j < i) = true from h)
      show (!decide (n < i) && decide (n ≤ j)) = false
      by_cases z : n < i
      · rw [decide_eq_true z]
        rfl
      · rw [decide_eq_false (show ¬ n ≤ j by omega), Bool.and_false]
    | _ => exact nomatch h
  | _ => exact nomatch h
/-- a list of pairs of ends -/
structure PairsAt (K : PySem.W.Frag) (H : Hp) (l : Addr) (es : List (V × V)) : Prop where
  ex : ∃ ps : List Addr, SqL K H l (ps.map V.ref) ∧ ps.length = es.length ∧ ∀ (i : Nat) (p : Addr) (e : V × V), ps[i]? = some p → es[i]? = some e → SqT K H p [e.1, e.2]
theorem PairsAt.keep {K : PySem.W.Frag} {H H' : Hp} {l : Addr} {es : List (V × V)} (s : PairsAt K H l es) (d : Dx No H H') : PairsAt K H' l es := by
  obtain ⟨ps, h1, h2, h3⟩ := s.ex
  exact ⟨ps, d.sqL id h1, h2, fun i p e a b => d.sqT id (h3 i p e a b)⟩
/-! ### promises of the law's defs about spans -/
def pEnds (K : PySem.W.Frag) : P2 := fun v0 v1 H Q _ => ∃ (c : Addr) (M : Addr → Prop) (p : Addr) (ns : List Int), v0 = .ref c ∧ v1 = .ref p ∧ Ok M H c ∧ SqL K H p (ns.map V.int) ∧ ¬ M p ∧ 0 < ns.length ∧ ns.length ≤ 100000 ∧ (∀ n ∈ ns, InR n) ∧
  ∀ q lo hi H', H q = none → H' q = some (.tup [lo, hi]) → IsEnd lo → IsEnd hi → crossed lo hi = false → Dx (Only1 c) H H' → Ok M H' c → Q (.ref q) H'
def pMade (K : PySem.W.Frag) : P2 := fun v0 v1 H Q _ => ∃ (c : Addr) (M : Addr → Prop) (p : Addr) (lo hi : V), v0 = .ref c ∧ v1 = .ref p ∧ Ok M H c ∧ SqT K H p [lo, hi] ∧ ¬ M p ∧ IsEnd lo ∧ IsEnd hi ∧ crossed lo hi = false ∧
  ∀ a H', H a = none → SpanAt K H' a lo hi → Dx (Only1 c) H H' → Ok M H' c → Q (.ref a) H'
def pIsSpan (K : PySem.W.Frag) : P2 := fun v0 v1 H Q _ => ∃ (a p : Addr) (lo hi : V), v0 = .ref a ∧ v1 = .ref p ∧ SpanAt K H a lo hi ∧ (SqT K H p [lo, hi] ∨ SqL K H p [lo, hi]) ∧ IsEnd lo ∧ IsEnd hi ∧ ∀ H', Dx No H H' → Q (.bl true) H'
def pHeld (K : PySem.W.Frag) : P2 := fun v0 v1 H Q _ => ∃ (n : Int) (l : Addr) (es : List (V × V)), v0 = .int n ∧ v1 = .ref l ∧ PairsAt K H l es ∧ EndsOk es ∧ Q (.bl (heldBy n es)) H
def pIsMeet (K : PySem.W.Frag) : P3 := fun v0 v1 v2 H Q _ => ∃ (l q : Addr) (es : List (V × V)) (ls : List Int) (lo hi : V), v1 = .ref l ∧ v2 = .ref q ∧ PairsAt K H l es ∧ EndsOk es ∧ es.length ≤ 1000 ∧ SqL K H q (ls.map V.int) ∧ ls.length ≤ 10000 ∧ MeetLo es lo ∧ MeetHi es hi ∧ (IsEnd lo ∧ IsEnd hi) ∧
  ((v0 = .non ∧ crossed lo hi = true) ∨ ∃ a, v0 = .ref a ∧ SpanAt K H a lo hi ∧ crossed lo hi = false) ∧ ∀ H', Dx No H H' → Q (.bl true) H'
def spanL (lo hi : V) : List V := if endOk lo = true then if endOk hi = true then if crossed lo hi = true then [.str "BadSpan", lo, hi, .bl true, .bl false] else [lo, hi] else [.str "BadNumber", hi, .bl true, .bl false] else [.str "BadNumber", lo, .bl true, .bl false]
def pSpanDue (K : PySem.W.Frag) : P1 := fun v0 H Q _ => ∃ (p : Addr) (lo hi : V), v0 = .ref p ∧ SqT K H p [lo, hi] ∧ flatE lo = true ∧ flatE hi = true ∧ ∀ q H', Dx No H H' → SqT K H' q (spanL lo hi) → Q (.ref q) H'
def pointL (v : V) : List V := if isNumV v = true then [v, v] else [.str "BadNumber", v]
def pPointAsked (K : PySem.W.Frag) : P1 := fun v0 H Q _ => flatE v0 = true ∧ ∀ q H', Dx No H H' → SqT K H' q (pointL v0) → Q (.ref q) H'
def IsAny (v : V) : Prop := IsEnd v ∨ IsBad v
def pEnd (K : PySem.W.Frag) : P2 := fun v0 v1 H Q _ => ∃ (c : Addr) (M : Addr → Prop) (p : Addr) (ns : List Int), v0 = .ref c ∧ v1 = .ref p ∧ Ok M H c ∧ SqL K H p (ns.map V.int) ∧ ¬ M p ∧ 0 < ns.length ∧ ns.length ≤ 100000 ∧ (∀ n ∈ ns, InR n) ∧ Drawn M c H IsAny Q
theorem flat_any {v : V} (h : IsAny v) : flatE v = true := h.elim flat_end flat_bad
theorem go_max1 {K : PySem.W.Frag} {H : Hp} {Q : VK} {a : Addr} {ns : List Int} (h : SqL K H a (ns.map V.int)) (l : 0 < ns.length) (k : ∀ m, m ∈ ns → (∀ y, y ∈ ns → y ≤ m) → Q (.int m) H) : rMax K [.ref a] H Q := ⟨a, ns, rfl, h, l, k⟩
theorem go_min1 {K : PySem.W.Frag} {H : Hp} {Q : VK} {a : Addr} {ns : List Int} (h : SqL K H a (ns.map V.int)) (l : 0 < ns.length) (k : ∀ m, m ∈ ns → (∀ y, y ∈ ns → m ≤ y) → Q (.int m) H) : rMin K [.ref a] H Q := ⟨a, ns, rfl, h, l, k⟩
theorem go_inIq {C : Addr} {sp : Sp} {E : XK} {x : V} {a dx : Addr} {fs : List (Str × V)} {H : Hp} {Q : VK} (h : H a = some (.ins C dx fs)) (k : sp [.ref a, x] H (fun z H' => ∃ b, z = .bl b ∧ Q (.bl b) H') E) : rInI C sp E x (.ref a) H Q := ⟨a, dx, fs, rfl, h, k⟩
theorem go_cmq {C : Addr} {sp : Sp} {E : XK} {Qv : VK} {vs : List V} {H : Hp} (h : sp (.ref C :: vs) H Qv E) : cmQ C (fun vs H Q E => sp (vs ++ []) H Q E) E Qv vs H := by
  show sp ((V.ref C :: vs) ++ []) H Qv E
  rw [List.append_nil]
  exact h
theorem spanR_mk {lo hi : V} {ok rev : Prop} {bad : V → Prop} (h1 : spanL lo hi = [.str "BadNumber", lo, .bl true, .bl false] → bad lo) (h2 : spanL lo hi = [.str "BadNumber", hi, .bl true, .bl false] → bad hi)
    (h3 : spanL lo hi = [.str "BadSpan", lo, hi, .bl true, .bl false] → rev) (h4 : spanL lo hi = [lo, hi] → ok) : spanR lo hi ok bad rev := by
  unfold spanR
  unfold spanL at *
  by_cases e1 : endOk lo = true
  · rw [if_pos e1] at *
    by_cases e2 : endOk hi = true
    · rw [if_pos e2] at *
      by_cases e3 : crossed lo hi = true
      · rw [if_pos e3] at *
        exact h3 rfl
      · rw [if_neg e3] at *
        exact h4 rfl
    · rw [if_neg e2] at *
      exact h2 rfl
  · rw [if_neg e1] at *
    exact h1 rfl
end Q
/-! == of two pairs of ends -/
namespace Q
open PySem PySem.Spec PyProof.Rows L2
def dEnd : V → PyData
  | .int i => .int i
  | _ => .none
section
variable {K : PySem.W.Frag} {H : Hp} {p q : Addr} {a b c d : V}
theorem dp_end (h : IsEndI a) : Dp K H a (dEnd a) := by
  rcases h with rfl | ⟨i, rfl⟩
  · exact .non
  · exact .int i
theorem lay_end (h : IsEndI a) : (dEnd a).canLay0 = true ∧ (dEnd a).depth = 0 := by
  rcases h with rfl | ⟨i, rfl⟩ <;> exact ⟨rfl, rfl⟩
theorem eqv_end (h : IsEndI a) (g : IsEndI c) : PyData.eqv (dEnd a) (dEnd c) = decide (a = c) := by
  rcases h with rfl | ⟨i, rfl⟩ <;> rcases g with rfl | ⟨j, rfl⟩
  · rfl
  · rfl
  · rfl
  · show (i == j) = decide (V.int i = V.int j)
    rw [dec_int]
theorem shaped_pair (h : IsEndI a) (g : IsEndI b) : SeqAt.shaped (.tuple [dEnd a, dEnd b]) = true := by
  rcases h with rfl | ⟨i, rfl⟩ <;> rcases g with rfl | ⟨j, rfl⟩ <;> rfl
theorem go_eqT {Qv : VK} (h1 : SqT K H p [a, b]) (h2 : SqT K H q [c, d]) (ha : IsEndI a) (hb : IsEndI b) (hc : IsEndI c) (hd : IsEndI d) (k : Qv (.bl (decide (a = c) && decide (b = d))) H) : rEqD K (.ref p) (.ref q) H Qv := by
  refine ⟨.tuple [dEnd a, dEnd b], .tuple [dEnd c, dEnd d], .tup h1 (.cons (dp_end ha) (.cons (dp_end hb) .nil)), .tup h2 (.cons (dp_end hc) (.cons (dp_end hd) .nil)), shaped_pair ha hb, shaped_pair hc hd, ?_⟩
  have e : PyData.eqv (.tuple [dEnd a, dEnd b]) (.tuple [dEnd c, dEnd d]) = (decide (a = c) && decide (b = d)) := by
    show (PyData.eqv (dEnd a) (dEnd c) && (PyData.eqv (dEnd b) (dEnd d) && true)) = _
    rw [eqv_end ha hc, eqv_end hb hd, Bool.and_true]
  rw [e]
  exact k
end
section
variable {K : PySem.W.Frag} {σ : L2.St} {H : Hp} {g : TG} {tt : TT} {te : TE} {vs : List Nat} {Qv : VK} {a : Addr} {xs : List V}
theorem lc_t (h : SqT K H a xs) (k : ∀ D, H D = none → ∃ Pv : Nat → Hp → Prop, Pv 0 (upd H D (.lst [])) ∧ (∀ i H', i ≤ xs.length → Pv i H' → SqT K H' a xs) ∧
    (∀ (i : Nat) x (H' : Hp), xs[i]? = some x → Pv i H' → g x (wipe σ vs) H' fun σ2 H2 => wipe σ2 vs = wipe σ vs ∧ tt σ2 H2 (lcTest te D (Pv (i + 1)) σ2)) ∧ (∀ H', Pv xs.length H' → Qv (.ref D) H')) : iT K (fun J H1 => LcIt J g tt te vs σ Qv H1) (.ref a) H := by
  refine ⟨a, rfl, ⟨xs, h⟩, fun D hD => ?_⟩
  obtain ⟨Pv, h0, hl, hs, hd⟩ := k D hD
  exact lc_tup (K := K) (a := a) (xs := xs) Pv h0 hl hs hd
theorem go_list {p : Addr} {ys : List V} (h : SqL K H p ys) (k : ∀ l, H l = none → Qv (.ref l) (upd H l (.lst ys))) : rList0 K [.ref p] H Qv := ⟨p, ys, rfl, .inl h, k⟩
theorem go_pow40 (q : Qv (.int 10000000000000000000000000000000000000000) H) : rPow0 (.int 10) (.int 40) H Qv := ⟨10, 40, rfl, rfl, ⟨by decide, by decide, by decide⟩, q⟩
end
section
variable {K : PySem.W.Frag} {H : Hp} {l q r : Addr} {e f : V × V}
theorem pairs1 (h : SqL K H l [.ref q]) (t : SqT K H q [e.1, e.2]) : PairsAt K H l [e] := by
  refine ⟨[q], h, rfl, fun i p x h1 h2 => ?_⟩
  have hi := (List.getElem?_eq_some_iff.mp h1).1
  simp only [List.length_cons, List.length_nil] at hi
  have z : i = 0 := by omega
  subst z
  cases h1
  cases h2
  exact t
theorem pairs2 (h : SqL K H l [.ref q, .ref r]) (t : SqT K H q [e.1, e.2]) (u : SqT K H r [f.1, f.2]) : PairsAt K H l [e, f] := by
  refine ⟨[q, r], h, rfl, fun i p x h1 h2 => ?_⟩
  have hi := (List.getElem?_eq_some_iff.mp h1).1
  simp only [List.length_cons, List.length_nil] at hi
  rcases (show i = 0 ∨ i = 1 by omega) with z | z
  · subst z
    cases h1
    cases h2
    exact t
  · subst z
    cases h1
    cases h2
    exact u
theorem endsOk1 (h : IsEnd e.1) (g : IsEnd e.2) : EndsOk [e] := fun x hx => by
  rw [List.mem_singleton.mp hx]
  exact ⟨h, g⟩
theorem endsOk_app {es fs : List (V × V)} (h : EndsOk es) (g : EndsOk fs) : EndsOk (es ++ fs) := fun x hx => (List.mem_append.mp hx).elim (h x) (g x)
end
theorem meetTo_mk {K : PySem.W.Frag} {lo hi : V} {H : Hp} {Qv : VK} (k : ∀ v H', Dx No H H' → ((v = .non ∧ crossed lo hi = true) ∨ ∃ a, v = .ref a ∧ SpanAt K H' a lo hi ∧ crossed lo hi = false) → Qv v H') : MeetTo K lo hi H Qv := by
  unfold MeetTo
  cases c : crossed lo hi with
  | true =>
    rw [if_pos rfl]
    exact k _ _ Dx.refl (.inl ⟨rfl, c⟩)
  | false =>
    rw [if_neg Bool.false_ne_true]
    exact fun p H' _ d s => k _ _ d (.inr ⟨p, rfl, s, c⟩)
end Q
/-! QText: sequences (a list or a tuple), sorted texts, dicts by keys. -/
/-! ### sorted of a tuple of texts -/
namespace QSrt
open PySem PyProof.Rows PyProof
section
variable {prog : Program} {w : World} {A : Around} {E : Value → Shared → Prop} {s : Shared}
theorem collect_tup {l : Addr} {vs : List Value} {Q : List Value → Shared → Prop} (hl : s.heap.IsTuple l vs.toArray)
    (h : Q vs { s with heap := (s.heap.push (seqObj "list" #[] 0)).update s.heap.objs.size (Obj.mapSeq (· ++ vs.toArray)) }) (hsz : vs.length ≤ sizeLine) :
    wpAny (model prog w) A (collect (.ref l)) Q E s := by
  obtain ⟨o, ho, hc, n, hd⟩ := id hl
  unfold collect
  refine wpAny_bind (wpAny_runValue (codeAny_builtin entry_proto_collect' ?_))
  show wpAny _ _ (do again (.builtin "list.__iadd__" ⟨[← newList [], .ref l], []⟩)) _ _ s
  refine wpAny_bind (wpAny_newList (wpAny_pure ⟨Code.quiet_builtin _ (by decide +kernel), codeAny_builtin entry_list_iadd' ?_⟩))
  show wpAny _ _ (Builtin.List.listExtendWith (.ref s.heap.objs.size) (.ref l) (.ref s.heap.objs.size)) _ _ { s with heap := s.heap.push (seqObj "list" #[] 0) }
  unfold Builtin.List.listExtendWith
  have ho' : (s.heap.push (seqObj "list" #[] 0)).get? l = some o := Heap.get?_push_of_some _ ho
  refine wpAny_bind (wpAny_typeOf (T := "tuple") ⟨o, ho', hc⟩ ?_)
  have ht : (Value.type "tuple" == Value.type "tuple") = true := by rfl
  rw [if_pos (by rw [ht]; simp)]
  refine wpAny_bind (listItems_at ho' hd ?_)
  refine wpAny_bind (listItems_at (xs := #[]) (n := 0) (Heap.get?_push_size _ rfl) rfl ?_)
  rw [if_neg (by simp)]
  refine wpAny_bind (listUpdate_at (xs := #[]) (n := 0) (Heap.get?_push_size _ rfl) rfl ?_ (Nat.zero_le _) (by show (#[] ++ vs.toArray).size ≤ sizeLine + 1; simp only [Array.size_append, List.size_toArray, List.length_nil]; omega))
  refine wpAny_pure ?_
  show wpAny (model prog w) A (do
      let o ← load s.heap.objs.size
      match o.data with
      | .seq xs _ => pure xs.toList
      | _ => unsupported "internal:collect") Q E { s with heap := (s.heap.push (seqObj "list" #[] 0)).update s.heap.objs.size (Obj.mapSeq (· ++ vs.toArray)) }
  refine wpAny_bind (wpAny_load (get?_update_seq (Heap.get?_push_size _ rfl) _) ?_)
  show wpAny _ _ (pure ((#[] : Array Value) ++ vs.toArray).toList) Q E _
  rw [show ((#[] : Array Value) ++ vs.toArray).toList = vs by simp]
  exact wpAny_pure h
theorem sortedK_tup {κ : KeyKind} (hO : κ.OneLt) {l : Addr} {vs : List Value} {Q : Value → Shared → Prop} (hl : s.heap.IsTuple l vs.toArray) (h0 : KeysOf κ (pairsOf vs)) (hkk : ∀ v₁ v₂ rest, vs = v₁ :: v₂ :: rest → keyKind' (v₁ :: v₂ :: rest).toArray = pure oneType') (hL : vs.length ≤ sizeLine)
    (h : ∀ st' : SortSt, (arrOf st').Perm (pairsOf vs) → SortedToK κ (arrOf st') (pairsOf vs).size → Q (.ref (s.heap.objs.size + 1)) { s with heap := sortedAll s.heap vs ((arrOf st').map (·.2)) }) :
    wpAny (model prog w) A (call (.builtin "sorted") [.ref l]) Q E s := by
  refine Calls.call_function_entry kind_sorted plain_sorted entry_sorted (args_sorted1 _) ?_
  unfold Builtin.«sorted»
  refine wpAny_bind (m := checkCount "sorted" 1 1 _) (wpAny_pure ?_)
  refine wpAny_bind (collect_tup hl ?_ hL)
  refine wpAny_bind (wpAny_newList ?_)
  have hsz : ((s.heap.push (seqObj "list" #[] 0)).update s.heap.objs.size (Obj.mapSeq (· ++ vs.toArray))).objs.size = s.heap.objs.size + 1 := by
    rw [Heap.size_update, size_push']
  have hoL : (((s.heap.push (seqObj "list" #[] 0)).update s.heap.objs.size (Obj.mapSeq (· ++ vs.toArray))).push (seqObj "list" vs.toArray 0)).get? (s.heap.objs.size + 1) = some (seqObj "list" vs.toArray 0) := by
    rw [← hsz]; exact Heap.get?_push_size _ rfl
  show wpAny _ _ _ _ _ { s with heap := ((s.heap.push (seqObj "list" #[] 0)).update s.heap.objs.size (Obj.mapSeq (· ++ vs.toArray))).push (seqObj "list" vs.toArray 0) }
  rw [hsz]
  refine wpAny_bind (wpAny_holding (wpAny_call_entry slot_list_sort ⟨_, hoL, rfl⟩ entry_list_sort (list_sort_treeKAny hO hoL h0 hkk hL fun st' a1 a2 => ⟨_, rfl, ?_⟩) (args_list_sort _)))
  exact wpAny_pure ⟨_, rfl, h st' a1 a2⟩
theorem sorted_strsT {l : Addr} {vs : List Value} {ss : List Str} {Q : Value → Shared → Prop} (hl : s.heap.IsTuple l vs.toArray) (hS : StrsAre vs ss) (hL : vs.length ≤ sizeLine)
    (h : ∀ (out : Array Value) (ss' : List Str), StrsAre out.toList ss' → ss'.Perm ss → sortedS ss' = true → Q (.ref (s.heap.objs.size + 1)) { s with heap := sortedAll s.heap vs out }) :
    wpAny (model prog w) A (call (.builtin "sorted") [.ref l]) Q E s := by
  refine sortedK_tup strKind_oneLt hl hS.keysOf (fun v₁ v₂ rest e => keyKind_strs (by rw [← e]; exact hS)) hL fun st' hp hs => ?_
  obtain ⟨ss', h1, h2, h3⟩ := sorted_out_str hS hp hs
  exact h _ ss' h1 h2 h3
end
end QSrt
namespace Q
open PySem PySem.Spec PyProof.Rows L2
/-- a list or a tuple at a -/
def Sq (K : PySem.W.Frag) (H : Hp) (a : Addr) (xs : List V) : Prop := SqL K H a xs ∨ SqT K H a xs
theorem Dx.sq {M : Addr → Prop} {H H1 : Hp} {a : Addr} {K : PySem.W.Frag} {xs : List V} (d : Dx M H H1) (n : ¬ M a) (h : Sq K H a xs) : Sq K H1 a xs := h.elim (fun z => .inl (d.sqL n z)) (fun z => .inr (d.sqT n z))
section
variable {X : Cx} {tg : Expr}
/-- sorted(xs): texts of a list or a tuple, any number of them -/
def rSortedQ (K : PySem.W.Frag) : List V → Hp → VK → Prop := fun vs H Q => ∃ (a : Addr) (xs : List Str), vs = [V.ref a] ∧ Sq K H a (xs.map V.str) ∧
  ∀ (ys : List Str) (p : Addr), ys.Perm xs → sortedS ys = true → H p = none → Q (.ref p) (upd H p (.lst (ys.map V.str)))
theorem cr_sortedQ : CallR X (.builtin "sorted") (rSortedQ X.K) := by
  intro pins s σ H vs us Q I r h
  obtain ⟨a, xs, rfl, hs | hs, q⟩ := h
  · obtain ⟨its, rv, hl, hz⟩ := I.list hs
    rw [Vals.ref1 r]
    have hlen0 := rv.length
    rw [List.length_map] at hlen0
    refine PyProof.Rows.sorted_strsAny hl.isList rv.strs (by rw [List.length_map] at hz; rw [← hlen0]; exact hz) fun out ys h1 h2 h3 => ?_
    obtain ⟨ep, he'⟩ := PyProof.Rows.sortedAll_at s.heap its out
    have hlen : (ys.map V.str).length ≤ sizeLine := by rw [List.length_map] at hz; rw [List.length_map, h2.length_eq]; exact hz
    exact ⟨.ref _, upd H (s.heap.objs.size + 1) (.lst (ys.map V.str)), I.laid (t' := s.toks) (fun _ _ => PyProof.Rows.sortedAll_old) (Nat.le_succ _) ⟨hlen, out.toList, ep, vals_of_strs h1, he'⟩, rfl, q ys _ h2 h3 (I.hok.fresh (Nat.le_succ _))⟩
  · obtain ⟨its, rv, hl, hz⟩ := I.tuple hs
    rw [Vals.ref1 r]
    have hlen0 := rv.length
    rw [List.length_map] at hlen0
    refine QSrt.sorted_strsT (show s.heap.IsTuple a its.toArray from hl) rv.strs (by rw [List.length_map] at hz; rw [← hlen0]; exact hz) fun out ys h1 h2 h3 => ?_
    obtain ⟨ep, he'⟩ := PyProof.Rows.sortedAll_at s.heap its out
    have hlen : (ys.map V.str).length ≤ sizeLine := by rw [List.length_map] at hz; rw [List.length_map, h2.length_eq]; exact hz
    exact ⟨.ref _, upd H (s.heap.objs.size + 1) (.lst (ys.map V.str)), I.laid (t' := s.toks) (fun _ _ => PyProof.Rows.sortedAll_old) (Nat.le_succ _) ⟨hlen, out.toList, ep, vals_of_strs h1, he'⟩, rfl, q ys _ h2 h3 (I.hok.fresh (Nat.le_succ _))⟩
/-- for x in xs: a list or a tuple -/
def iSeq (K : PySem.W.Frag) (tl : TE) : TI := fun σ H R => tl σ H fun x H1 => ∃ a, x = .ref a ∧ (((∃ xs, SqL K H1 a xs) ∧ R (Itl K a) H1) ∨ ((∃ xs, SqT K H1 a xs) ∧ R (Itt K a) H1))
theorem pi_seq {l : Expr} {tl : TE} (hl : PE X l tl) : PI X tg l (iSeq X.K tl) := by
  refine ⟨fun pins s σ H R I h => ?_⟩
  refine thn (hl.run pins s σ H _ I h) fun v s1 ⟨x, H1, I1, r1, q1⟩ => ?_
  obtain ⟨a, e, q⟩ := q1
  subst e
  cases r1
  rcases q with ⟨⟨xs, hq⟩, q⟩ | ⟨⟨xs, hq⟩, q⟩
  · obtain ⟨its, rv, p, hz⟩ := I1.list hq
    refine wpAny_pyIter_list p.isList ?_
    refine ⟨s1.heap.objs.size, [s1.heap.objs.size], _, _, H1, rfl, I1.kept (t' := s1.toks) fun b o e => Heap.get?_push_of_some _ e, turn_list a _, ⟨_, Heap.get?_push_size _ rfl, rfl, rfl⟩, fun b hb => ?_, q⟩
    have e : b = s1.heap.objs.size := by simpa using hb
    subst e
    exact I1.fpOk (Nat.le_refl _) (I1.hok.fresh (Nat.le_refl _))
  · obtain ⟨its, rv, p, hz⟩ := I1.tuple hq
    refine wpAny_pyIter_tuple (show s1.heap.IsTuple a its.toArray from p) ?_
    refine ⟨s1.heap.objs.size, [s1.heap.objs.size], _, _, H1, rfl, I1.kept (t' := s1.toks) fun b o e => Heap.get?_push_of_some _ e, turn_tuple a _, ⟨_, Heap.get?_push_size _ rfl, rfl, rfl⟩, fun b hb => ?_, q⟩
    have e : b = s1.heap.objs.size := by simpa using hb
    subst e
    exact I1.fpOk (Nat.le_refl _) (I1.hok.fresh (Nat.le_refl _))
end
section
variable {K : PySem.W.Frag} {σ : L2.St} {H : Hp} {D : Ends} {g : TG} {tb : TS} {tl : TE} {a : Addr} {xs : List V} {R : It → Hp → Prop} {Q : VK} {i : Int} {v : V}
def iQ (K : PySem.W.Frag) (R : It → Hp → Prop) : VK := fun x H1 => ∃ a, x = .ref a ∧ (((∃ xs, SqL K H1 a xs) ∧ R (Itl K a) H1) ∨ ((∃ xs, SqT K H1 a xs) ∧ R (Itt K a) H1))
theorem go_iQ (h : tl σ H (iQ K R)) : iSeq K tl σ H R := h
theorem for_q {Hb : Hp} (h : Sq K Hb a xs) (Pv : Nat → L2.St → Hp → Prop) (h0 : Pv 0 σ H) (hl : ∀ i σ' H', i ≤ xs.length → Pv i σ' H' → ∃ M, Dx M Hb H' ∧ ¬ M a)
    (hs : ∀ (i : Nat) x σ H, xs[i]? = some x → Pv i σ H → g x σ H fun σ2 H2 => tb ⟨Pv (i + 1), D.rt, D.nx, Pv (i + 1)⟩ σ2 H2) (hd : ∀ σ H, Pv xs.length σ H → D.nx σ H) : iQ K (fun J H1 => ForIt J g tb D σ H1) (.ref a) H := by
  obtain ⟨M0, d0, n0⟩ := hl 0 σ H (Nat.zero_le _) h0
  rcases h with h | h
  · exact ⟨a, rfl, .inl ⟨⟨xs, d0.sqL n0 h⟩, for_list (K := K) (a := a) (xs := xs) Pv h0 (fun i σ' H' hi p => by
      obtain ⟨M, d, n⟩ := hl i σ' H' hi p
      exact d.sqL n h) hs hd⟩⟩
  · exact ⟨a, rfl, .inr ⟨⟨xs, d0.sqT n0 h⟩, for_tup (K := K) (a := a) (xs := xs) Pv h0 (fun i σ' H' hi p => by
      obtain ⟨M, d, n⟩ := hl i σ' H' hi p
      exact d.sqT n h) hs hd⟩⟩
theorem go_lenQ (h : Sq K H a xs) (q : Q (.int xs.length) H) : rLenU K [.ref a] H Q := .inl ⟨a, xs, rfl, h, q⟩
theorem go_ixQ (h : Sq K H a xs) (e : atI xs i = some v) (q : Q v H) : rIx K (.ref a) (.int i) H Q := h.elim (fun z => go_ixL z e q) (fun z => go_ixT z e q)
theorem go_listQ {ys : List V} (h : Sq K H a ys) (k : ∀ l, H l = none → Q (.ref l) (upd H l (.lst ys))) : rList0 K [.ref a] H Q := ⟨a, ys, rfl, h, k⟩
end
/-! ### dicts -/
section
variable {K : PySem.W.Frag} {σ : L2.St} {H : Hp} {D : Ends} {td ty tv : TE} {Q : VK} {kvs : List (Key × V)} {a : Addr} {v : V} {x : Str}
theorem go_dnew (h : ∀ p, H p = none → Q (.ref p) (upd H p (.dK []))) : tDNewK σ H Q := h
def dinQ (b : Bool) (Q : VK) (y : V) : VK := fun x H2 => ∃ a o, x = .ref a ∧ DGet H2 a y o ∧ Q (.bl (if b then o.isSome else !o.isSome)) H2
theorem go_din (h : ty σ H fun y H1 => td σ H1 (dinQ true Q y)) : tDIn ty td σ H Q := h
theorem go_dnotin (h : ty σ H fun y H1 => td σ H1 (dinQ false Q y)) : tDNotIn ty td σ H Q := h
theorem go_dinS (h : H a = some (.dK kvs)) (q : Q (.bl (valV kvs (Sum.inr x : Key)).isSome) H) : dinQ true Q (.str x) (.ref a) H := ⟨a, _, rfl, DGet.k (k := Sum.inr x) h, q⟩
theorem go_dninS (h : H a = some (.dK kvs)) (q : Q (.bl (!(valV kvs (Sum.inr x : Key)).isSome)) H) : dinQ false Q (.str x) (.ref a) H := ⟨a, _, rfl, DGet.k (k := Sum.inr x) h, q⟩
def dputQ (v : V) (R : Hp → Prop) (a : V) : VK := fun y H3 => ∃ p H4, a = .ref p ∧ DPut H3 p y v H4 ∧ R H4
theorem go_dput (h : tv σ H fun v H1 => td σ H1 fun x H2 => ty σ H2 fun y H3 => ∃ p H4, x = .ref p ∧ DPut H3 p y v H4 ∧ D.nx σ H4) : sDPut td ty tv D σ H := h
theorem go_dputS {R : Hp → Prop} (h : H a = some (.dK kvs)) (l : kvs.length < sizeLine) (q : R (upd H a (.dK (putK kvs (Sum.inr x : Key) v)))) : ∃ p H4, V.ref a = .ref p ∧ DPut H p (.str x) v H4 ∧ R H4 := ⟨a, _, rfl, DPut.k (k := Sum.inr x) h l, q⟩
end
/-! ### texts of ints -/
def rStrI : List V → Hp → VK → Prop := fun xs H Q => ∃ i : Int, xs = [.int i] ∧ i.natAbs.log2 < 1920 ∧ Q (.str (toString i)) H
theorem call_strI {X : Cx} : CallR X (.type "str") rStrI := call_str_int
theorem go_strI {i : Int} {H : Hp} {Q : VK} (h0 : 0 ≤ i) (h1 : i < 10 ^ 9) (q : ∀ x : Str, x.length ≤ 9 → x = Str.ofString (toString i) → Q (.str x) H) : rStrI [.int i] H Q := by
  refine ⟨i, rfl, ?_, q _ (PyProof.Rows.toString_length_le h0 (by decide) h1) rfl⟩
  · have e : i.natAbs < 2 ^ 1920 := by
      have : (2 : Nat) ^ 40 ≤ 2 ^ 1920 := Nat.pow_le_pow_right (by decide) (by decide)
      have h2 : i.natAbs < 2 ^ 40 := by omega
      omega
    by_cases z : i.natAbs = 0
    · rw [z]; decide
    · exact (Nat.log2_lt z).mpr e
/-- a list of texts -/
theorem strs_flat (xs : List Str) : (xs.map V.str).all flatV = true := by
  rw [List.all_map]
  exact List.all_eq_true.mpr fun x _ => rfl
def rLeS : R2 := fun x y H Q => (∃ i j, x = .int i ∧ y = .int j ∧ Q (.bl (decide (i ≤ j))) H) ∨ (∃ i j, x = .str i ∧ y = .str j ∧ Q (.bl (!decide (j.cps.toList < i.cps.toList))) H)
theorem op_leU {X : Cx} : OpR X (compareOp .LtE) rLeS := op_le.or op_le_str
theorem go_leS {i j : Str} {H : Hp} {Q : VK} (q : Q (.bl (!decide (j.cps.toList < i.cps.toList))) H) : rLeS (.str i) (.str j) H Q := .inr ⟨i, j, rfl, rfl, q⟩
/-! ### a text, so many times -/
theorem rep_size (a : Array Nat) : ∀ (n : Nat) (acc : Array Nat), ((List.replicate n a).foldl (· ++ ·) acc).size = acc.size + a.size * n
  | 0, acc => by simp
  | n + 1, acc => by
    rw [List.replicate_succ, List.foldl_cons, rep_size a n, Array.size_append, Nat.mul_succ]
    omega
def rMulS : R2 := fun x y H Q => ∃ (i : Str) (n : Int), x = .str i ∧ y = .int n ∧ 1 ≤ n ∧ n ≤ 1000 ∧ i.length ≤ 1000 ∧ ∀ z : Str, z.length = i.length * n.toNat → Q (.str z) H
theorem op_mulS {X : Cx} : OpR X (binaryOp .Mult) rMulS := by
  intro pins s σ H x y v u Q I rx ry h
  obtain ⟨i, n, rfl, rfl, h1, h2, h3, q⟩ := h
  obtain ⟨t, rfl⟩ := rx
  obtain ⟨t', rfl⟩ := ry
  have hn : n.toNat ≤ 1000 := by omega
  have hp : i.length * n.toNat ≤ 1000 * 1000 := Nat.mul_le_mul h3 hn
  refine PySem.P.mul_str (by rw [decide_eq_false (by omega), decide_eq_false (by omega)]; rfl) (fun _ _ z => ?_) (fun _ _ => ?_) ?_
  · have hd : (9000000000000000 : Int) ≤ (2 ^ 63 - 1) / n := (Int.le_ediv_iff_mul_le (by omega)).mpr (by omega)
    omega
  · unfold Builtin.Str.tooLong
    exact decide_eq_false (by rw [sizeLine_eq]; omega)
  rw [if_neg (by omega)]
  split
  · rename_i e
    refine ⟨.str i, H, I, ⟨_, rfl⟩, q i ?_⟩
    rcases Bool.or_eq_true_iff.mp e with e | e
    · have e' : n = 1 := by simpa using e
      rw [e']
      exact (Nat.mul_one _).symm
    · have e' : i.length = 0 := by simpa using e
      rw [e', Nat.zero_mul]
  · have hs : (⟨(List.replicate n.toNat i.cps).foldl (· ++ ·) #[]⟩ : Str).length = i.length * n.toNat := by
      show ((List.replicate n.toNat i.cps).foldl (· ++ ·) #[]).size = _
      rw [rep_size]
      exact Nat.zero_add _
    refine ⟨?_, .str _, H, I.tok _, ⟨_, rfl⟩, q _ hs⟩
    exact Nat.le_trans (Nat.le_of_eq hs) (by rw [sizeLine_eq]; omega)
theorem go_mulS {i : Str} {n : Int} {H : Hp} {Q : VK} (h1 : 1 ≤ n) (h2 : n ≤ 1000) (h3 : i.length ≤ 1000) (q : ∀ z : Str, z.length = i.length * n.toNat → Q (.str z) H) : rMulS (.str i) (.int n) H Q := ⟨i, n, rfl, rfl, h1, h2, h3, q⟩
/-! ### == and != of plain data (no dicts), any texts -/
def rEqP (K : PySem.W.Frag) : R2 := fun x y H Q => ∃ d e, Dp K H x d ∧ Dp K H y e ∧ PyData.plain d = true ∧ PyData.plain e = true ∧ min d.depth e.depth ≤ 60 ∧ Q (.bl (PyData.eqv d e)) H
def rNeP (K : PySem.W.Frag) : R2 := fun x y H Q => ∃ d e, Dp K H x d ∧ Dp K H y e ∧ PyData.plain d = true ∧ PyData.plain e = true ∧ min d.depth e.depth ≤ 60 ∧ Q (.bl (!PyData.eqv d e)) H
theorem op_eqP {X : Cx} (hu : X.A.units + 64 < cLine) : OpR X (compareOp .Eq) (rEqP X.K) := by
  intro pins s σ H x y v u Q I rx ry h
  obtain ⟨d, e, hd, he, sd, se, dp, q⟩ := h
  obtain ⟨as, r1⟩ := Dp.reads I d x v hd rx
  obtain ⟨bs, r2⟩ := Dp.reads I e y u he ry
  exact SeqAt.eq_plain r1 r2 sd se (by omega) ⟨.bl _, H, I, rfl, q⟩
theorem op_neP {X : Cx} (hu : X.A.units + 64 < cLine) : OpR X (compareOp .NotEq) (rNeP X.K) := by
  intro pins s σ H x y v u Q I rx ry h
  obtain ⟨d, e, hd, he, sd, se, dp, q⟩ := h
  obtain ⟨as, r1⟩ := Dp.reads I d x v hd rx
  obtain ⟨bs, r2⟩ := Dp.reads I e y u he ry
  exact SeqAt.ne_plain r1 r2 sd se (by omega) ⟨.bl _, H, I, rfl, q⟩
def strsD (xs : List Str) : PyData := .list (xs.map PyData.str)
theorem dp_strsAll {K : PySem.W.Frag} {H : Hp} : ∀ xs : List Str, DpAll K H (xs.map V.str) (xs.map PyData.str)
  | [] => .nil
  | x :: xs => .cons (.str x) (dp_strsAll xs)
theorem plain_strs (xs : List Str) : PyData.plain (strsD xs) = true := by
  show PyData.plainAll (xs.map PyData.str) = true
  induction xs with
  | nil => rfl
  | cons x xs ih => exact ih
theorem depth_strs (xs : List Str) : (strsD xs).depth = 1 := by
  show PyData.depthAll (xs.map PyData.str) + 1 = 1
  have e : PyData.depthAll (xs.map PyData.str) = 0 := by
    induction xs with
    | nil => rfl
    | cons x xs ih =>
      show max 0 (PyData.depthAll (xs.map PyData.str)) = 0
      rw [ih]
      rfl
  rw [e]
theorem go_neSS {K : PySem.W.Frag} {H : Hp} {Q : VK} {a b : Addr} {xs : List Str} (ha : SqL K H a (xs.map V.str)) (hb : SqL K H b (xs.map V.str)) (q : Q (.bl false) H) : rNeP K (.ref a) (.ref b) H Q := by
  refine ⟨strsD xs, strsD xs, .lst ha (dp_strsAll xs), .lst hb (dp_strsAll xs), plain_strs xs, plain_strs xs, by rw [depth_strs]; decide, ?_⟩
  rw [SeqAt.eqv_refl_plain _ (plain_strs xs)]
  exact q
end Q
/-! QNames: lists of names in order. -/
namespace Q
open PySem PySem.Spec PyProof.Rows L2
/-! ### sorted texts -/
abbrev leT (a b : Str) : Prop := ¬ b.cps.toList < a.cps.toList
theorem leT_trans {a b c : Str} (h : leT a b) (g : leT b c) : leT a c := List.le_trans (l₁ := a.cps.toList) (l₂ := b.cps.toList) (l₃ := c.cps.toList) h g
theorem leT_anti {a b : Str} (h : leT a b) (g : leT b a) : a = b := by
  have e : a.cps.toList = b.cps.toList := List.le_antisymm h g
  obtain ⟨x⟩ := a
  obtain ⟨y⟩ := b
  have e' : x = y := Array.toList_inj.mp e
  rw [e']
theorem ltT_of {a b : Str} (h : leT a b) (n : a ≠ b) : a.cps.toList < b.cps.toList := by
  by_cases z : a.cps.toList < b.cps.toList
  · exact z
  · exact absurd (leT_anti h z) n
theorem rising_pw : ∀ {r : List Str} {p : Str}, risingS p r = true → (p :: r).Pairwise leT
  | [], p, _ => List.pairwise_singleton ..
  | x :: r, p, h => by
    have h0 : (!ltCps x.cps.toList p.cps.toList && risingS x r) = true := h
    obtain ⟨h1, h2⟩ := Bool.and_eq_true_iff.mp h0
    rw [ltCps_eq] at h1
    have h1' : leT p x := by
      intro z
      rw [decide_eq_true z] at h1
      exact nomatch h1
    have ih := rising_pw h2
    refine List.pairwise_cons.mpr ⟨fun y hy => ?_, ih⟩
    rcases List.mem_cons.mp hy with e | hy
    · rw [e]; exact h1'
    · exact leT_trans h1' ((List.pairwise_cons.mp ih).1 y hy)
theorem sorted_pw : ∀ {l : List Str}, sortedS l = true → l.Pairwise leT
  | [], _ => .nil
  | _ :: _, h => rising_pw h
/-- two sorted lists of the same texts are one -/
theorem sorted_uniq {xs ys : List Str} (h : xs.Perm ys) (a : sortedS xs = true) (b : sortedS ys = true) : xs = ys :=
  h.eq_of_pairwise (fun x y _ _ h1 h2 => leT_anti h1 h2) (sorted_pw a) (sorted_pw b)
/-! ### the first that is no name, else the first that is equal to an earlier one -/
def dupOf (acc : List Str) : List Str → Option Str
  | [] => none
  | x :: r => if x ∈ acc then some x else dupOf (acc ++ [x]) r
def ordDue (xs : List Str) : Option (Str × Str) := match xs.find? (fun x => !isNm x) with
  | some x => some (Str.ofString "BadName", x)
  | none => (dupOf [] xs).map fun x => (Str.ofString "Doubled", x)
theorem due_bad {xs : List Str} {i : Nat} {x : Str} (h : xs[i]? = some x) (b : isNm x = false) (p : ∀ j y, j < i → xs[j]? = some y → isNm y = true) : ordDue xs = some (Str.ofString "BadName", x) := by
  have e : xs.find? (fun x => !isNm x) = some x := by
    rw [List.find?_eq_some_iff_getElem]
    obtain ⟨hi, hx⟩ := List.getElem?_eq_some_iff.mp h
    refine ⟨by rw [b]; rfl, i, hi, hx, fun j hj => ?_⟩
    rw [p j _ hj (List.getElem?_eq_getElem (by omega))]
    rfl
  unfold ordDue
  rw [e]
theorem no_bad {xs : List Str} (p : ∀ y ∈ xs, isNm y = true) : xs.find? (fun x => !isNm x) = none := by
  rw [List.find?_eq_none]
  intro y hy
  rw [p y hy]
  decide
theorem dup_at : ∀ {xs acc : List Str} {i : Nat} {x : Str}, xs[i]? = some x → x ∈ acc ++ xs.take i → (acc ++ xs.take i).Nodup → dupOf acc xs = some x
  | [], _, i, _, h, _, _ => by rw [List.getElem?_nil] at h; exact nomatch h
  | y :: r, acc, 0, x, h, m, _ => by
    cases h
    unfold dupOf
    rw [if_pos (by simpa using m)]
  | y :: r, acc, i + 1, x, h, m, nd => by
    rw [List.take_succ_cons] at m nd
    have nd1 : y ∉ acc := fun z => by
      have := (List.nodup_append.mp nd).2.2 y z y List.mem_cons_self
      exact this rfl
    unfold dupOf
    rw [if_neg nd1]
    refine dup_at (by simpa using h) ?_ ?_
    · rw [List.append_assoc]; exact m
    · rw [List.append_assoc]; exact nd
theorem dup_none : ∀ {xs acc : List Str}, (acc ++ xs).Nodup → dupOf acc xs = none
  | [], _, _ => rfl
  | y :: r, acc, nd => by
    have nd1 : y ∉ acc := fun z => (List.nodup_append.mp nd).2.2 y z y List.mem_cons_self rfl
    unfold dupOf
    rw [if_neg nd1]
    exact dup_none (by rw [List.append_assoc]; exact nd)
theorem dup_none_iff : ∀ {xs acc : List Str}, acc.Nodup → dupOf acc xs = none → (acc ++ xs).Nodup
  | [], acc, n, _ => by rw [List.append_nil]; exact n
  | y :: r, acc, n, h => by
    unfold dupOf at h
    by_cases m : y ∈ acc
    · rw [if_pos m] at h; exact nomatch h
    · rw [if_neg m] at h
      have n2 : (acc ++ [y]).Nodup := List.nodup_append.mpr ⟨n, List.pairwise_singleton .., fun a ha b hb e => m (by rw [List.mem_singleton.mp hb] at e; rw [← e]; exact ha)⟩
      have := dup_none_iff n2 h
      rw [List.append_assoc] at this
      exact this
theorem due_dup {xs : List Str} {i : Nat} {x : Str} (p : ∀ y ∈ xs, isNm y = true) (h : xs[i]? = some x) (m : x ∈ xs.take i) (nd : (xs.take i).Nodup) : ordDue xs = some (Str.ofString "Doubled", x) := by
  unfold ordDue
  rw [no_bad p, dup_at (acc := []) h m nd]
  rfl
theorem due_ok {xs : List Str} (p : ∀ y ∈ xs, isNm y = true) (nd : xs.Nodup) : ordDue xs = none := by
  unfold ordDue
  rw [no_bad p, dup_none (acc := []) nd]
  rfl
theorem due_none {xs : List Str} (h : ordDue xs = none) : (∀ y ∈ xs, isNm y = true) ∧ xs.Nodup := by
  unfold ordDue at h
  cases e : xs.find? (fun x => !isNm x) with
  | some x => rw [e] at h; exact nomatch h
  | none =>
    rw [e] at h
    have h' : (dupOf [] xs).map (fun x => (Str.ofString "Doubled", x)) = none := h
    refine ⟨fun y hy => ?_, dup_none_iff (acc := []) List.nodup_nil (Option.map_eq_none_iff.mp h')⟩
    have := List.find?_eq_none.mp e y hy
    simpa using this
/-- a dict that holds these texts -/
def Holds (kvs : List (Key × V)) (ts : List Str) : Prop := kvs.length ≤ ts.length ∧ ∀ x : Str, (valV kvs (Sum.inr x : Key)).isSome = decide (x ∈ ts)
theorem holds_nil : Holds [] [] := ⟨Nat.le_refl _, fun x => by rw [valV_nil, decide_eq_false List.not_mem_nil]; rfl⟩
theorem Holds.put {kvs : List (Key × V)} {ts : List Str} (h : Holds kvs ts) (x : Str) (v : V) : Holds (putK kvs (Sum.inr x : Key) v) (ts ++ [x]) := by
  refine ⟨?_, fun y => ?_⟩
  · unfold putK
    have hl := h.1
    split
    · rw [List.length_map, List.length_append]
      omega
    · rw [List.length_append, List.length_append]
      simp only [List.length_cons, List.length_nil]
      omega
  · by_cases e : y = x
    · subst e
      rw [valV_put, if_pos rfl, decide_eq_true (List.mem_append.mpr (.inr List.mem_cons_self))]
      rfl
    · rw [valV_put, if_neg (fun z => e (Sum.inr.inj z)), h.2 y]
      by_cases m : y ∈ ts
      · rw [decide_eq_true m, decide_eq_true (List.mem_append.mpr (.inl m))]
      · rw [decide_eq_false m, decide_eq_false (fun z => (List.mem_append.mp z).elim m fun w => e (List.mem_singleton.mp w))]
/-! ### promises -/
def TextsAt (hi n : Nat) (ys : List V) : Prop := ∃ xs : List Str, ys = xs.map V.str ∧ (∀ x ∈ xs, x.length ≤ hi) ∧ xs.length ≤ n
def pDrawL (R : List V → Prop) : P1 := fun v0 H Q _ => ∃ (c : Addr) (M : Addr → Prop), v0 = .ref c ∧ Ok M H c ∧ DrawnL M c H R Q
def pUnused (K : PySem.W.Frag) : P1 := fun v0 H Q _ => ∃ (p : Addr) (xs : List Str), v0 = .ref p ∧ SqL K H p (xs.map V.str) ∧ xs.length ≤ 10000 ∧ ∀ x : Str, x.length ≤ 30 → Q (.str x) H
def pFresh (K : PySem.W.Frag) : P3 := fun v0 v1 v2 H Q _ => ∃ (c : Addr) (M : Addr → Prop) (n : Int) (p : Addr) (us : List Str), v0 = .ref c ∧ v1 = .int n ∧ v2 = .ref p ∧ 0 ≤ n ∧ n ≤ 1000 ∧ Ok M H c ∧ SqL K H p (us.map V.str) ∧ ¬ M p ∧ us.length ≤ 1000 ∧
  DrawnL M c H (fun ys => ∃ xs : List Str, ys = xs.map V.str ∧ (∀ x ∈ xs, x.length ≤ 30) ∧ xs.length = n.toNat) Q
def pNames (K : PySem.W.Frag) : P2 := fun v0 v1 H Q _ => ∃ (c : Addr) (M : Addr → Prop) (n : Int), v0 = .ref c ∧ v1 = .int n ∧ 0 ≤ n ∧ n ≤ 30 ∧ Ok M H c ∧ DrawnL M c H (TextsAt 60 30) Q
def pIsNames (K : PySem.W.Frag) : P1 := fun v0 H Q _ => ∃ (p : Addr) (xs : List Str), v0 = .ref p ∧ SqL K H p (xs.map V.str) ∧ xs.length ≤ 10000 ∧ ∀ H', Dx No H H' → Q (.bl true) H'
def ordTo (xs : List Str) (A : Prop) (B : Str → Str → Prop) : Prop := match ordDue xs with
  | none => A
  | some (e, x) => B e x
theorem ordTo_ok {xs : List Str} {A : Prop} {B : Str → Str → Prop} (h : ordTo xs A B) (e : ordDue xs = none) : A := by
  unfold ordTo at h
  rw [e] at h
  exact h
theorem ordTo_bad {xs : List Str} {A : Prop} {B : Str → Str → Prop} {e x : Str} (h : ordTo xs A B) (z : ordDue xs = some (e, x)) : B e x := by
  unfold ordTo at h
  rw [z] at h
  exact h
theorem ordTo_mk {xs : List Str} {A : Prop} {B : Str → Str → Prop} (h1 : ordDue xs = none → A) (h2 : ∀ e x, ordDue xs = some (e, x) → B e x) : ordTo xs A B := by
  unfold ordTo
  cases z : ordDue xs with
  | none => exact h1 z
  | some p => exact h2 p.1 p.2 z
theorem due_which {xs : List Str} {e x : Str} (z : ordDue xs = some (e, x)) : e = Str.ofString "BadName" ∨ e = Str.ofString "Doubled" := by
  unfold ordDue at z
  cases q : xs.find? (fun x => !isNm x) with
  | some y =>
    rw [q] at z
    cases z
    exact .inl rfl
  | none =>
    rw [q] at z
    have z' : (dupOf [] xs).map (fun x => (Str.ofString "Doubled", x)) = some (e, x) := z
    obtain ⟨y, _, hy⟩ := Option.map_eq_some_iff.mp z'
    cases hy
    exact .inr rfl
/-- names: a list or a tuple of texts -/
def NamesIn (K : PySem.W.Frag) (H : Hp) (p : Addr) (xs : List Str) : Prop := Sq K H p (xs.map V.str) ∧ (∀ x ∈ xs, x.length ≤ 100000) ∧ xs.length ≤ 10000
def pOrdered (K : PySem.W.Frag) : P1 := fun v0 H Q E => ∃ (p : Addr) (xs : List Str), v0 = .ref p ∧ NamesIn K H p xs ∧
  ordTo xs (∀ ys q H', ys.Perm xs → sortedS ys = true → H q = none → H' q = some (.lst (ys.map V.str)) → Dx No H H' → Q (.ref q) H') (fun e x => Err1 K e "name" (.str x) H E)
def dueTup (e x : Str) : List V := [.str e, .str x, .bl true, .bl false]
def pOrdDue (K : PySem.W.Frag) : P1 := fun v0 H Q _ => ∃ (p : Addr) (xs : List Str), v0 = .ref p ∧ NamesIn K H p xs ∧
  ordTo xs (∀ H', Dx No H H' → Q .non H') (fun e x => ∀ q H', H q = none → H' q = some (.tup (dueTup e x)) → Dx No H H' → Q (.ref q) H')
def pOrdAsked (K : PySem.W.Frag) : P1 := fun v0 H Q _ => ∃ (p : Addr) (xs : List Str), v0 = .ref p ∧ NamesIn K H p xs ∧
  ordTo xs (∀ ys q H', ys.Perm xs → sortedS ys = true → H q = none → H' q = some (.lst (ys.map V.str)) → Dx No H H' → Q (.ref q) H') (fun e x => ∀ q H', H q = none → H' q = some (.tup (dueTup e x)) → Dx No H H' → Q (.ref q) H')
def pIsOrder (K : PySem.W.Frag) : P2 := fun v0 v1 H Q _ => ∃ (p q : Addr) (ys xs : List Str), v0 = .ref p ∧ v1 = .ref q ∧ SqL K H p (ys.map V.str) ∧ SqL K H q (xs.map V.str) ∧ ys.Perm xs ∧ sortedS ys = true ∧ xs.Nodup ∧ xs.length ≤ 10000 ∧ ∀ H', Dx No H H' → Q (.bl true) H'
def pOrdHolds (K : PySem.W.Frag) : P2 := fun v0 v1 H Q _ => ∃ (p : Addr) (xs : List Str), v0 = .ref p ∧ SqL K H p (xs.map V.str) ∧ (∀ x ∈ xs, x.length ≤ 100000) ∧ xs.length ≤ 5000 ∧
  ((v1 = .non ∧ ordDue xs = none) ∨ ∃ (q : Addr) (e x : Str), v1 = .ref q ∧ SqT K H q (dueTup e x) ∧ ordDue xs = some (e, x)) ∧ ∀ H', Dx No H H' → Q (.bl true) H'
theorem dueTup_flat (e x : Str) : (dueTup e x).all flatE = true := rfl
def rTupL (K : PySem.W.Frag) : List V → Hp → VK → Prop := fun xs H Q => ∃ p ys, xs = [.ref p] ∧ ((SqL K H p ys ∧ ∀ l, H l = none → Q (.ref l) (upd H l (.tup ys))) ∨ (SqT K H p ys ∧ Q (.ref p) H))
theorem call_tupleL {X : Cx} : CallR X (.type "tuple") (rTupL X.K) := call_tuple_of
theorem go_tupleL {K : PySem.W.Frag} {H : Hp} {Q : VK} {a : Addr} {ys : List V} (h : SqL K H a ys) (k : ∀ l, H l = none → Q (.ref l) (upd H l (.tup ys))) : rTupL K [.ref a] H Q := ⟨a, ys, rfl, .inl ⟨h, k⟩⟩
theorem upd_upd {H : Hp} {a : Addr} {o u : HO} : upd (upd H a o) a u = upd H a u := by
  funext b
  by_cases e : b = a
  · rw [e, upd_same, upd_same]
  · rw [upd_ne e, upd_ne e, upd_ne e]
theorem perm_strs {ys : List V} {xs : List Str} (h : ys.Perm (xs.map V.str)) : ∃ zs : List Str, ys = zs.map V.str ∧ zs.Perm xs := by
  have hv : ∀ v ∈ ys, ∃ x : Str, v = .str x := fun v m => by
    obtain ⟨x, _, e⟩ := List.mem_map.mp (h.mem_iff.mp m)
    exact ⟨x, e.symm⟩
  obtain ⟨zs, rfl⟩ : ∃ zs : List Str, ys = zs.map V.str := by
    clear h
    induction ys with
    | nil => exact ⟨[], rfl⟩
    | cons v vs ih =>
      obtain ⟨x, rfl⟩ := hv v List.mem_cons_self
      obtain ⟨zs, rfl⟩ := ih fun u m => hv u (List.mem_cons_of_mem _ m)
      exact ⟨x :: zs, rfl⟩
  refine ⟨zs, rfl, ?_⟩
  have := h.map (fun v : V => match v with | .str x => x | _ => Str.ofString "")
  rw [List.map_map, List.map_map] at this
  have e : ∀ l : List Str, l.map ((fun v : V => match v with | .str x => x | _ => Str.ofString "") ∘ V.str) = l := fun l => by
    induction l with
    | nil => rfl
    | cons a l ih => rw [List.map_cons, ih]; rfl
  rw [e, e] at this
  exact this
theorem cut_from {xs : List V} {n : Int} (h0 : 0 ≤ n) (h1 : n ≤ xs.length) : cutV xs (some n) none = xs.drop n.toNat := by
  obtain ⟨k, rfl⟩ : ∃ k : Nat, n = (k : Int) := ⟨n.toNat, by omega⟩
  unfold cutV
  rw [HT.sIx_none, HT.sIx_nat, Nat.min_eq_left (by omega), Int.toNat_natCast, List.take_of_length_le (by rw [List.length_drop]; omega)]
theorem ints_ix {ns : List Int} {r : Int} (h0 : 0 ≤ r) (h1 : r < ns.length) : ∃ n, atI (ns.map V.int) r = some (.int n) ∧ n ∈ ns := by
  obtain ⟨k, rfl⟩ : ∃ k : Nat, r = (k : Int) := ⟨r.toNat, by omega⟩
  have hk : k < ns.length := by omega
  exact ⟨ns[k], atI_nat (by rw [List.getElem?_map, List.getElem?_eq_getElem hk]; rfl), List.getElem_mem hk⟩
/-- an item put in -/
theorem put_in {xs : List Str} {x : Str} {n : Int} (h0 : 0 ≤ n) (h1 : n ≤ xs.length) : (cutV (xs.map V.str) none (some n) ++ [V.str x]) ++ cutV (xs.map V.str) (some n) none = (xs.take n.toNat ++ [x] ++ xs.drop n.toNat).map V.str := by
  rw [cut_to h0 (by rw [List.length_map]; exact h1), cut_from h0 (by rw [List.length_map]; exact h1), List.map_append, List.map_append, List.map_take, List.map_drop]
  rfl
theorem put_len {xs : List Str} {x : Str} {n : Int} (h0 : 0 ≤ n) (h1 : n ≤ xs.length) : (xs.take n.toNat ++ [x] ++ xs.drop n.toNat).length = xs.length + 1 := by
  simp only [List.length_append, List.length_take, List.length_drop, List.length_cons, List.length_nil]
  omega
theorem put_mem {xs : List Str} {x y : Str} {n : Nat} (h : y ∈ xs.take n ++ [x] ++ xs.drop n) : y ∈ xs ∨ y = x := by
  rcases List.mem_append.mp h with h | h
  · rcases List.mem_append.mp h with h | h
    · exact .inl (List.mem_of_mem_take h)
    · exact .inr (List.mem_singleton.mp h)
  · exact .inl (List.mem_of_mem_drop h)
theorem strs_sub {ys : List V} {xs : List Str} (h : ∀ v ∈ ys, v ∈ xs.map V.str) : ∃ zs : List Str, ys = zs.map V.str ∧ ∀ z ∈ zs, z ∈ xs := by
  induction ys with
  | nil => exact ⟨[], rfl, fun z hz => (List.not_mem_nil hz).elim⟩
  | cons v vs ih =>
    obtain ⟨x, hx, rfl⟩ := List.mem_map.mp (h v List.mem_cons_self)
    obtain ⟨zs, rfl, hz⟩ := ih fun u m => h u (List.mem_cons_of_mem _ m)
    exact ⟨x :: zs, rfl, fun z m => (List.mem_cons.mp m).elim (fun e => by rw [e]; exact hx) (hz z)⟩
theorem strs_flatE (xs : List Str) : (xs.map V.str).all flatE = true := by
  rw [List.all_map]
  exact List.all_eq_true.mpr fun x _ => rfl
end Q
/-! QDict: f-strings, dict comprehensions, keyword-only parameters, numbered texts. -/
namespace Q
open PySem PySem.Spec PyProof.Rows L2
/-! ### f-strings -/
section
variable {X : Cx} {σ : L2.St} {H : Hp} {Q : VK} {te : TE} {t : TE} {ts : List TE} {acc y : Str} {Qs : Str → Hp → Prop}
def tFS (ts : List TE) : TE := fun σ H Q => tJs ts Str.empty σ H fun out H1 => Q (.str out) H1
theorem pe_fstr {v1 v2 : Expr} {rest : List Expr} {ts : List TE} {pos : Pos} (h : PJ X (v1 :: v2 :: rest) ts) : PE X (.JoinedStr (v1 :: v2 :: rest) pos) (tFS ts) := pe_joined h
theorem go_fs (h : tJs ts Str.empty σ H fun out H1 => Q (.str out) H1) : tFS ts σ H Q := h
def jsQ (ts : List TE) (acc : Str) (σ : L2.St) (Q : Str → Hp → Prop) : VK := fun x H1 => ∃ y : Str, x = .str y ∧ (acc ++ y).length ≤ sizeLine ∧ tJs ts (acc ++ y) σ H1 Q
theorem go_js (h : t σ H (jsQ ts acc σ Qs)) : tJs (t :: ts) acc σ H Qs := h
theorem go_jn (h : Qs acc H) : tJs [] acc σ H Qs := h
theorem go_jx (l : (acc ++ y).length ≤ sizeLine) (h : tJs ts (acc ++ y) σ H Qs) : jsQ ts acc σ Qs (.str y) H := ⟨y, rfl, l, h⟩
def fmtQ (Q : VK) : VK := fun x H1 => (∃ y : Str, x = .str y ∧ y.length ≤ sizeLine ∧ Q (.str y) H1) ∨ ∃ i : Int, x = .int i ∧ i.natAbs.log2 < 1920 ∧ Q (.str (toString i)) H1
theorem go_fmt (h : te σ H (fmtQ Q)) : tFmt te σ H Q := h
theorem go_fmtS (l : y.length ≤ sizeLine) (q : Q (.str y) H) : fmtQ Q (.str y) H := .inl ⟨y, rfl, l, q⟩
theorem empty_app (x : Str) : Str.empty ++ x = x := by
  obtain ⟨c⟩ := x
  show (⟨#[] ++ c⟩ : Str) = ⟨c⟩
  rw [Array.empty_append]
theorem log_ok {i : Int} (h : i.natAbs < 2 ^ 64) : i.natAbs.log2 < 1920 := by
  by_cases z : i.natAbs = 0
  · rw [z]; decide
  · have : i.natAbs.log2 < 64 := (Nat.log2_lt z).mpr h
    omega
theorem go_fmtI {i : Int} (h0 : 0 ≤ i) (h1 : i < 10 ^ 9) (q : (Str.ofString (toString i)).length ≤ 9 → Q (.str (Str.ofString (toString i))) H) : fmtQ Q (.int i) H :=
  .inr ⟨i, rfl, log_ok (by omega), q (PyProof.Rows.toString_length_le h0 (by decide) h1)⟩
end
section
variable {X : Cx}
/-- name = {..} on one line, the name a local -/
theorem ps_setDc {i : Nat} {y : Str} {py : Pos} {kx vx tg iter : Expr} {ifs : List Expr} {scope : Scope} {own : List (Str × Nat)} {pos spos : Pos} {wi : TI} {g : TG} {tt : TT} {tk tv : TE} (hc : X.calm = true) (hN : X.N.Nodup) (hy : X.N[i]? = some y) (hyl : X.env.scope.names.lookup y = some .local)
    (hsw : swapsWith (.DictComp kx vx [⟨tg, iter, ifs, 0⟩] scope pos) (some (.Name y py)) spos.line X.env = pure true) (hi : PI X tg iter wi) (ok : BlkOk X.N X.env.scope scope own)
    (hg : ∀ (s : Shared) (H : Hp) (C : Addr) (cl : List (Str × Addr)) (fp : List Addr), PG (X.blk s H scope (compEnvC scope cl C X.env) fp) tg g) (ht : ∀ (s : Shared) (H : Hp) (C : Addr) (cl : List (Str × Addr)) (fp : List Addr), PTs (X.blk s H scope (compEnvC scope cl C X.env) fp) ifs tt)
    (hk : ∀ (s : Shared) (H : Hp) (C : Addr) (cl : List (Str × Addr)) (fp : List Addr), PE (X.blk s H scope (compEnvC scope cl C X.env) fp) kx tk)
    (he : ∀ (s : Shared) (H : Hp) (C : Addr) (cl : List (Str × Addr)) (fp : List Addr), PE (X.blk s H scope (compEnvC scope cl C X.env) fp) vx tv) (hs : ∀ x, foldedSetIterable iter X.env x = pure x := by intro _; rfl) :
    PS X (.Assign [.Name y py] (.DictComp kx vx [⟨tg, iter, ifs, 0⟩] scope pos) spos) (tAsg (tDc wi g tt tk tv (own.map (·.2))) (gName i)) := by
  refine ⟨fun pins s σ H D I h => ?_⟩
  rw [exec_Assign_Name_used _ _ _ _ hsw]
  refine wpAny_bind (wpAny_standAt (wpAny_bind ?_))
  show wpAny _ X.A (do let _ ← comprehension (.DictComp kx vx [⟨tg, iter, ifs, 0⟩] scope pos) scope X.env (firstIterPos [⟨tg, iter, ifs, 0⟩] pos) newDict false (eval iter X.env) (some (assign (.Name y py) X.env))) _ _ s
  have h : tDc wi g tt tk tv (own.map (·.2)) σ H (fun x H1 => gName i x σ H1 D.nx) := h
  refine wpAny_bind (thn (dc_core (Qf := fun _ s' => SP X pins D .next s') hc hN I hi ok hg ht hk he hs h fun L C s' m H' I' q hn f => ?_) fun _ s' hq => wpAny_pure (wpAny_pure hq))
  show wpAny _ _ (assign (.Name y py) X.env (.ref L)) _ _ _
  refine wpAny_assign_Name (store_ok2 (v := V.ref L) I' hN hy (.inl hyl) rfl (fun s2 I2 ⟨a, sb, ha⟩ => ?_) (.inr hyl))
  obtain ⟨f0, f1, f2, f3, f4, f5⟩ := f
  have haC : C ≠ a := by
    rcases ha with z | z
    · rw [z]; exact f1
    · exact fun e => f4 y a z e.symm
  refine ⟨m, hn.sameBut sb haC, fun h3 sb3 => ?_⟩
  exact ⟨_, H', I2.turned (t' := s2.toks) (fun b o hb e => (sb3.2 b hb).trans e) f0 f1 f3 f4 f5, q⟩
theorem sw_trueD {kx vx : Expr} {gs : List Comprehension} {scope : Scope} {pos py : Pos} {y : Str} {l : Nat} {env : Env} (hk : env.scope.kind = .function) (hy : env.scope.names.lookup y = some .local) (hl : (py.line == pos.line) = true)
    (ha : (scope.names.any fun (n, k) => n == y && (k == .local || k == .cell)) = false) : swapsWith (.DictComp kx vx gs scope pos) (some (.Name y py)) l env = pure true := by
  have ky : env.kindOf y = some .local := hy
  have hb : env.blockKind = .function := by unfold Env.blockKind; rw [hk]; rfl
  unfold swapsWith
  simp only [hb, ky, ha, Expr.pos, hl]
  rfl
end
/-! ### a call that leaves defaults -/
section
variable {σ : L2.St} {H : Hp} {Q : VK} {t : TA} {sp : Sp} {ds vs : List V} {E : XK}
def cdQ (ds : List V) (sp : Sp) (E : XK) (Q : VK) : List V → Hp → Prop := fun vs H1 => sp (vs ++ ds) H1 Q E
theorem go_callD (h : t σ H (cdQ ds sp E Q)) : tCall sp ds E t σ H Q := h
theorem go_cdq (h : sp (vs ++ ds) H Q E) : cdQ ds sp E Q vs H := h
end
theorem go_kwg {n m : Nat} {sp : Sp} {gV : List V → List V → List V} {E : XK} {Q : VK} {vs zs : List V} {H : Hp} (l1 : vs.length = n) (l2 : zs.length = m) (h : sp (gV vs zs) H Q E) : kwQ n m sp gV E Q vs zs H := ⟨l1, l2, h⟩
structure DefK (P : Program) (w : World) (K : PySem.W.Frag) (mg : Str → Option Value) (base : Heap) (CX : CXT) (k : Nat) (x : Str) (st : Stmt) (dvs : List V) (kws : List (Str × V)) (ps : List Str) (sp : Sp) : Prop where
  ex : ∃ (f : Addr) (fd : FuncData), mg x = some (.ref f) ∧ PySem.W.keepIn K (.ref f) = true ∧ FnOk P w K mg base CX k f fd ps sp ∧ FunD K x x (defArgs st) (defBody st) (defScope st) dvs kws f fd
section
variable {X : Cx} {CX : CXT} {k n : Nat} {f : Addr} {fd : FuncData} {ps ks : List Str} {sp : Sp} {E : L2.St → XK} {x : Str} {p pos : Pos} {e : Expr} {es : List Expr} {kws : List Keyword} {t tk : TA} {g : List Value → List Value → List Value} {gV : List V → List V → List V}
theorem pe_callNS (F : FnOk X.prog X.w X.K X.mg X.base CX k f fd ps sp) (hr : Room k X.A) (hg : Gl X x) (hm : X.mg x = some (.ref f)) (hk : PySem.W.keepIn X.K (.ref f) = true) (hb : KBn X.K fd ps n ks g gV) (hx : ∀ σ, PassesAt CX X σ (E σ))
    (ha : PA X (e :: es) t) (hkw : PK X kws tk) (hall : (backToKw pos (keywordEach kws X.env)).all (·.1.isSome) = true := by rfl) (hks : (backToKw pos (keywordEach kws X.env)).filterMap (·.1) = ks := by rfl)
    (hdb : (x == ("__debug__" : Str)) = false := by decide) (he : starEach (e :: es) X.env = (false, eval e X.env) :: starEach es X.env := by rfl)
    (hpl : ((backTo pos (starEach (e :: es) X.env)).any (·.1) || (backToKw pos (keywordEach kws X.env)).any (·.1.isNone)) = false := by rfl) :
    PE X (.Call (.Name x p) (e :: es) kws pos) (tCallNS n ks.length sp gV E t tk) := by
  refine ⟨fun pins s σ H Q I h => ?_⟩
  refine wpAny_Call_Name_kw (ld_glob I hg hm ?_ hdb)
  refine PySem.W.callWith_KW (h₀ := X.base) I.ok.mod.kin hk hall (thn (ha.run pos pins s σ H _ I h) fun us s1 ⟨vs, H1, I1, r, q⟩ => ?_) hpl he
  refine thn (hkw.run pos pins s1 σ H1 _ I1 q) fun ws s2 ⟨zs, H2, I2, rz, l1, l2, q2⟩ => ⟨I2.kIn, ?_⟩
  rw [hks]
  exact run_fnNS F hr hb (hx σ) I2 r rz l1 l2 q2
end
/-! ### {k: v for x in xs} -/
section
variable {K : PySem.W.Frag} {σ : L2.St} {H : Hp} {g : TG} {tt : TT} {tk tv : TE} {vs : List Nat} {a : Addr} {xs : List V} {Q : VK} {D : Addr} {N : Hp → Prop} {wi : TI} {kvs : List (Key × V)} {x : Str} {z : V}
def dcPut (D : Addr) (N : Hp → Prop) (y : V) : VK := fun z H5 => ∃ kvs k, y = kV k ∧ H5 D = some (.dK kvs) ∧ kvs.length < sizeLine ∧ N (upd H5 D (.dK (putK kvs k z)))
def dcTest (tk tv : TE) (D : Addr) (N : Hp → Prop) (σ : L2.St) : Bool → Hp → Prop := fun b H3 => if b = true then tk σ H3 fun y H4 => tv σ H4 (dcPut D N y) else N H3
def DcIt (J : It) (g : TG) (tt : TT) (tk tv : TE) (vs : List Nat) (σ : L2.St) (Q : VK) (H1 : Hp) : Prop := ∀ D, H1 D = none → ∃ W : Nat → Nat → Hp → Prop, (∃ m, W 0 m (upd H1 D (.dK []))) ∧ ∀ i m H, W i m H →
  (J.stop i H ∧ Q (.ref D) H) ∨ (J.go i H ∧ ∃ Nx : Hp → Prop, (∀ H', Nx H' → ∃ m', m' < m ∧ W (i + 1) m' H') ∧ ∀ x H', J.yld i H x H' → g x (wipe σ vs) H' fun σ2 H2 => wipe σ2 vs = wipe σ vs ∧ tt σ2 H2 (dcTest tk tv D Nx σ2))
theorem go_dc (h : wi σ H fun J H1 => DcIt J g tt tk tv vs σ Q H1) : tDc wi g tt tk tv vs σ H Q := h
theorem go_dct (h : tk σ H fun y H4 => tv σ H4 (dcPut D N y)) : dcTest tk tv D N σ true H := h
theorem go_dcf (h : N H) : dcTest tk tv D N σ false H := by
  show if false = true then _ else N H
  rw [if_neg Bool.false_ne_true]
  exact h
theorem go_dcp (h : H D = some (.dK kvs)) (l : kvs.length < sizeLine) (n : N (upd H D (.dK (putK kvs (Sum.inr x : Key) z)))) : dcPut D N (.str x) z H := ⟨kvs, Sum.inr x, rfl, h, l, n⟩
theorem dc_listL {H1 : Hp} {Qd : Hp → Prop} (Pv : Nat → Hp → Prop) (h0 : Pv 0 (upd H1 D (.dK []))) (hl : ∀ i H, i ≤ xs.length → Pv i H → SqL K H a xs)
    (hs : ∀ i x H, xs[i]? = some x → Pv i H → g x (wipe σ vs) H fun σ2 H2 => wipe σ2 vs = wipe σ vs ∧ tt σ2 H2 (dcTest tk tv D (Pv (i + 1)) σ2)) (hd : ∀ H, Pv xs.length H → Qd H) :
    ∃ W : Nat → Nat → Hp → Prop, (∃ m, W 0 m (upd H1 D (.dK []))) ∧ ∀ i m H, W i m H →
      ((Itl K a).stop i H ∧ Qd H) ∨ ((Itl K a).go i H ∧ ∃ Nx : Hp → Prop, (∀ H', Nx H' → ∃ m', m' < m ∧ W (i + 1) m' H') ∧ ∀ x H', (Itl K a).yld i H x H' → g x (wipe σ vs) H' fun σ2 H2 => wipe σ2 vs = wipe σ vs ∧ tt σ2 H2 (dcTest tk tv D Nx σ2)) := by
  refine ⟨fun i m H => m = xs.length - i ∧ i ≤ xs.length ∧ Pv i H, ⟨xs.length, by simp, Nat.zero_le _, h0⟩, ?_⟩
  rintro i m H ⟨rfl, hi, p⟩
  have q := hl i H hi p
  by_cases hlt : i < xs.length
  · refine .inr ⟨⟨xs, xs[i], q, by simp [hlt]⟩, Pv (i + 1), fun H' p' => ⟨xs.length - (i + 1), by omega, rfl, hlt, p'⟩, fun x H' y => ?_⟩
    obtain ⟨e, y⟩ := y
    subst e
    exact hs i x _ (y xs q) p
  · have e : i = xs.length := by omega
    subst e
    exact .inl ⟨⟨xs, q, Nat.le_refl _⟩, hd H p⟩
theorem dc_q {Hb : Hp} (h : Sq K Hb a xs) (hb : ∃ M, Dx M Hb H ∧ ¬ M a) (k : ∀ D, H D = none → ∃ Pv : Nat → Hp → Prop, Pv 0 (upd H D (.dK [])) ∧ (∀ i H', i ≤ xs.length → Pv i H' → ∃ M, Dx M Hb H' ∧ ¬ M a) ∧
    (∀ (i : Nat) x (H' : Hp), xs[i]? = some x → Pv i H' → g x (wipe σ vs) H' fun σ2 H2 => wipe σ2 vs = wipe σ vs ∧ tt σ2 H2 (dcTest tk tv D (Pv (i + 1)) σ2)) ∧ (∀ H', Pv xs.length H' → Q (.ref D) H')) : iQ K (fun J H1 => DcIt J g tt tk tv vs σ Q H1) (.ref a) H := by
  obtain ⟨M0, d0, n0⟩ := hb
  rcases h with h | h
  · refine ⟨a, rfl, .inl ⟨⟨xs, d0.sqL n0 h⟩, fun D hD => ?_⟩⟩
    obtain ⟨Pv, h0, hl, hs, hd⟩ := k D hD
    exact dc_listL (xs := xs) Pv h0 (fun i H' hi p => by
      obtain ⟨M, d, n⟩ := hl i H' hi p
      exact d.sqL n h) hs hd
  · refine ⟨a, rfl, .inr ⟨⟨xs, d0.sqT n0 h⟩, fun D hD => ?_⟩⟩
    obtain ⟨Pv, h0, hl, hs, hd⟩ := k D hD
    exact dc_tup (K := K) (a := a) (xs := xs) Pv h0 (fun i H' hi p => by
      obtain ⟨M, d, n⟩ := hl i H' hi p
      exact d.sqT n h) hs hd
end
/-! ### numbered texts -/
def numT (s : Str) (n : Nat) : Str := s ++ Str.ofString (toString (n : Int))
theorem numT_inj {s : Str} {i j : Nat} (h : numT s i = numT s j) : i = j := by
  have e : s.cps.toList ++ (Str.ofString (toString (i : Int))).cps.toList = s.cps.toList ++ (Str.ofString (toString (j : Int))).cps.toList := by
    have := congrArg (fun x : Str => x.cps.toList) h
    have q : ∀ a b : Str, (a ++ b).cps.toList = a.cps.toList ++ b.cps.toList := fun a b => Array.toList_append
    show _ = _
    rw [← q, ← q]
    exact this
  have e2 := List.append_cancel_left e
  rw [show (Str.ofString (toString (i : Int))).cps.toList = TL.numL i from TL.tl_num i, show (Str.ofString (toString (j : Int))).cps.toList = TL.numL j from TL.tl_num j] at e2
  exact TL.numL_inj e2
theorem sub_len : ∀ {l xs : List Str}, l.Nodup → (∀ x ∈ l, x ∈ xs) → l.length ≤ xs.length
  | [], _, _, _ => Nat.zero_le _
  | x :: r, xs, nd, h => by
    have hx := h x List.mem_cons_self
    have nd' := List.nodup_cons.mp nd
    have ih := sub_len (l := r) (xs := xs.erase x) nd'.2 fun y hy => (List.mem_erase_of_ne (fun e => nd'.1 (by rw [← e]; exact hy))).mpr (h y (List.mem_cons_of_mem _ hy))
    have hl := List.length_erase_of_mem hx
    have hp : 0 < xs.length := List.length_pos_of_mem hx
    rw [List.length_cons]
    omega
theorem free_le {s : Str} {xs : List Str} {n : Nat} (h : ∀ j, j < n → numT s j ∈ xs) : n ≤ xs.length := by
  have nd : ((List.range n).map (numT s)).Nodup := List.pairwise_map.mpr (List.nodup_range.imp fun {a b} hab e => hab (numT_inj e))
  have := sub_len nd (xs := xs) fun x hx => by
    obtain ⟨j, hj, rfl⟩ := List.mem_map.mp hx
    exact h j (List.mem_range.mp hj)
  rwa [List.length_map, List.length_range] at this
def FreeAt (s : Str) (xs : List Str) (n : Nat) : Prop := numT s n ∉ xs ∧ ∀ j, j < n → numT s j ∈ xs
theorem FreeAt.uniq {s : Str} {xs : List Str} {n m : Nat} (h : FreeAt s xs n) (g : FreeAt s xs m) : n = m := by
  by_cases a : n < m
  · exact absurd (g.2 n a) h.1
  · by_cases b : m < n
    · exact absurd (h.2 m b) g.1
    · omega
/-! ### promises -/
def pFreshName (K : PySem.W.Frag) : P2 := fun v0 v1 H Q E => ∃ (p : Addr) (xs : List Str) (s : Str), v0 = .ref p ∧ v1 = .str s ∧ Sq K H p (xs.map V.str) ∧ s.length ≤ 100000 ∧ xs.length ≤ 5000 ∧
  (isNm s = true → s.length ≤ 4 → ∀ n H', FreeAt s xs n → Dx No H H' → Q (.str (numT s n)) H') ∧ (¬ (isNm s = true ∧ s.length ≤ 4) → Err1 K "BadName" "name" (.str s) H E)
def pNumbered (K : PySem.W.Frag) : P3 := fun v0 v1 v2 H Q _ => ∃ (c : Addr) (M : Addr → Prop) (s : Str) (n : Int), v0 = .ref c ∧ v1 = .str s ∧ v2 = .int n ∧ s.length ≤ 100 ∧ 0 ≤ n ∧ n ≤ 480 ∧ Ok M H c ∧ DrawnL M c H (TextsAt 110 480) Q
def pUsed (K : PySem.W.Frag) : P2 := fun v0 v1 H Q _ => ∃ (c : Addr) (M : Addr → Prop) (s : Str), v0 = .ref c ∧ v1 = .str s ∧ s.length ≤ 100 ∧ Ok M H c ∧ DrawnL M c H (TextsAt 110 1000) Q
def pIsLeast (K : PySem.W.Frag) : P3 := fun v0 v1 v2 H Q _ => ∃ (p : Addr) (xs : List Str) (s : Str) (n : Nat), v0 = .str (numT s n) ∧ v1 = .str s ∧ v2 = .ref p ∧ FreeAt s xs n ∧ s.length ≤ 1000 ∧ SqL K H p (xs.map V.str) ∧ xs.length ≤ 5000 ∧ ∀ H', Dx No H H' → Q (.bl true) H'
def pRefusedName (K : PySem.W.Frag) : P2 := fun v0 v1 H Q _ => ∃ (p : Addr) (xs : List Str) (s : Str), v0 = .ref p ∧ v1 = .str s ∧ SqL K H p (xs.map V.str) ∧ s.length ≤ 100000 ∧ xs.length ≤ 5000 ∧
  (isNm s = true → s.length ≤ 4 → ∀ n H', FreeAt s xs n → Dx No H H' → Q (.str (numT s n)) H') ∧ (¬ (isNm s = true ∧ s.length ≤ 4) → ∀ q H', SqT K H' q (dueTup (Str.ofString "BadName") s) → Dx No H H' → Q (.ref q) H')
theorem numT_len {s : Str} {n : Nat} (h : n < 1000000000) : (numT s n).length ≤ s.length + 9 := by
  unfold numT
  have := PyProof.Rows.toString_length_le (v := (n : Int)) (k := 9) (by omega) (by decide) (by omega)
  rw [length_append]
  omega
/-! ### names drawn are names -/
def IsNameT (v : V) : Prop := ∃ x : Str, v = .str x ∧ isNm x = true ∧ 1 ≤ x.length ∧ x.length ≤ 8
theorem pick_mem {z : Str} {r : Int} (h0 : 0 ≤ r) (h1 : r < z.length) : ∃ ch, atI z.cps.toList r = some ch ∧ ch ∈ z.cps.toList := by
  have e : z.cps.toList.length = z.length := by simp [Str.length]
  have hr : r.toNat < z.cps.toList.length := by omega
  exact ⟨_, atI_of h0 (List.getElem?_eq_getElem hr), List.getElem_mem hr⟩
theorem sign_of_let {c : Nat} (h : c ∈ letS.cps.toList) : c ∈ signS.cps.toList := by
  have e : letS.cps.toList.all (fun c => decide (c ∈ signS.cps.toList)) = true := by decide +kernel
  exact of_decide_eq_true (List.all_eq_true.mp e c h)
theorem isNm_mk {x : Str} {c : Nat} {r : List Nat} (e : x.cps.toList = c :: r) (l : r.length + 1 ≤ 8) (h : c ∈ letS.cps.toList) (g : ∀ d ∈ r, d ∈ signS.cps.toList) : isNm x = true := by
  unfold isNm
  rw [e]
  refine Bool.and_eq_true_iff.mpr ⟨decide_eq_true l, Bool.and_eq_true_iff.mpr ⟨decide_eq_true h, List.all_eq_true.mpr fun d hd => decide_eq_true ?_⟩⟩
  rcases List.mem_cons.mp hd with z | z
  · rw [z]; exact sign_of_let h
  · exact g d z
theorem isNm_get {x : Str} (h : isNm x = true) : ∃ c r, x.cps.toList = c :: r ∧ r.length + 1 ≤ 8 ∧ c ∈ letS.cps.toList ∧ ∀ d ∈ r, d ∈ signS.cps.toList := by
  unfold isNm at h
  cases e : x.cps.toList with
  | nil => rw [e] at h; exact nomatch h
  | cons c r =>
    rw [e] at h
    obtain ⟨h1, h2⟩ := Bool.and_eq_true_iff.mp h
    obtain ⟨h2, h3⟩ := Bool.and_eq_true_iff.mp h2
    exact ⟨c, r, rfl, of_decide_eq_true h1, of_decide_eq_true h2, fun d hd => of_decide_eq_true (List.all_eq_true.mp h3 d (List.mem_cons_of_mem _ hd))⟩
theorem cutS_to {z : Str} {n : Int} (h : 0 ≤ n) : (cutS z none (some n)).cps.toList = z.cps.toList.take n.toNat := by
  obtain ⟨k, rfl⟩ : ∃ k : Nat, n = (k : Int) := ⟨n.toNat, by omega⟩
  have e : z.cps.toList.length = z.length := by simp [Str.length]
  unfold cutS
  rw [HT.sIx_none, HT.sIx_nat, List.drop_zero, Nat.sub_zero, Int.toNat_natCast, ← e]
  show ((List.take (min k z.cps.toList.length) z.cps.toList).toArray).toList = _
  rw [List.toList_toArray, ← List.take_eq_take_min]
theorem isNm_cut {x : Str} {n : Int} (h : isNm x = true) (h1 : 1 ≤ n) : isNm (cutS x none (some n)) = true := by
  obtain ⟨c, r, e, l, hc, hr⟩ := isNm_get h
  obtain ⟨k, rfl⟩ : ∃ k : Nat, n = ((k + 1 : Nat) : Int) := ⟨n.toNat - 1, by omega⟩
  refine isNm_mk (c := c) (r := r.take k) (by rw [cutS_to (by omega), e, Int.toNat_natCast, List.take_succ_cons]) ?_ hc fun d hd => hr d (List.mem_of_mem_take hd)
  rw [List.length_take]
  omega
theorem str_app (a b : Str) : (a ++ b).cps.toList = a.cps.toList ++ b.cps.toList := Array.toList_append
theorem letS_is : Str.ofString "abcdefghijklmnopqrstuvwxyz" = letS := rfl
theorem signS_is : letS ++ Str.ofString "0123456789" = signS := by decide +kernel
end Q
/-! QStat: staticmethods and properties of own classes; methods of texts as steps. -/
namespace Q
open PySem PySem.Spec PyProof.Rows L2 ClX
/-- C.m is a staticmethod: its record at p, its def at g -/
structure SMet (K : PySem.W.Frag) (C : Addr) (mc : Value) (m : Str) (p g : Addr) : Prop where
  at_ : PySem.W.findCls K (.ref C) mc m = some (.get (.builtin "staticmethod.__get__") (.ref p) .none (.ref C))
  rc : ∃ rest, PySem.W.recIn K p "staticmethod" = some (.ref g :: rest)
  kp : PySem.W.keepIn K (.ref g) = true
section
variable {X : Cx} {pins : List (Addr × Obj)} {σ : L2.St} {H : Hp} {s : Shared} {C p g : Addr} {mc : Value} {m : Str} {A : Around} {E : Value → Shared → Prop}
theorem getsmet_ok {b : Bool} {Q : Value → Shared → Prop} (I : Inv X pins σ H s) (r : CRead X.K C mc) (k : SMet X.K C mc m p g)
    (h : ∀ s', Inv X pins σ H s' → Q (.ref g) s') : wpAny (model X.prog X.w) A (getAttr (.ref C) m b) Q E s := by
  obtain ⟨rest, hp⟩ := k.rc
  refine PySem.W.cls_bind I.kIn r.rd k.at_ ?_
  refine wpAny_call (PySem.W.sm_get (s := { s with toks := s.toks + 1 }) I.kIn hp (PySem.W.handed_on rfl ?_))
  exact h _ (I.tok _)
theorem getmethsm_ok {pl : Sem Bool} {Q : Value × List Value → Shared → Prop} (I : Inv X pins σ H s) (r : CRead X.K C mc) (k : SMet X.K C mc m p g)
    (h : ∀ s', Inv X pins σ H s' → Q (.ref g, []) s') : wpAny (model X.prog X.w) A (getMethod (.ref C) m pl) Q E s :=
  PySem.W.method_cls I.kIn r.ga (getsmet_ok I r k h)
end
section
variable {X : Cx} {CX : CXT} {k : Nat} {C p g : Addr} {m : Str} {sp : Sp} {E : L2.St → XK} {o : Expr} {ta : TE} {e : Expr} {es : List Expr} {t : TA} {apos pos : Pos}
def tSMethS (C : Addr) (sp : Sp) (E : L2.St → XK) (ta : TE) (t : TA) : TE := fun σ H Q => ta σ H fun x H1 => x = .ref C ∧ t σ H1 fun vs H2 => sp vs H2 Q (E σ)
theorem pe_smethS {mc : Value} {pl : Sem Bool} (he : PE X o ta) (r : CRead X.K C mc) (c : SMet X.K C mc m p g) (F : FnR X.prog X.w X.K X.mg X.base CX k g sp) (hr : Room k X.A) (hx : ∀ σ, PassesAt CX X σ (E σ)) (ha : PA X (e :: es) t)
    (hst : starEach (e :: es) X.env = (false, eval e X.env) :: starEach es X.env := by rfl) (hpl : (backTo pos (starEach es X.env)).any (·.1) = false := by rfl)
    (ht : eval (.Call (.Attribute o m apos) (e :: es) [] pos) X.env = (do
      let ov ← eval o X.env
      standAt apos.atName
      let (fn, fst) ← holding [ov] (getMethod ov m pl)
      callWith pos fn fst (backTo pos (starEach (e :: es) X.env)) (backToKw pos (keywordEach [] X.env))) := by rfl) : PE X (.Call (.Attribute o m apos) (e :: es) [] pos) (tSMethS C sp E ta t) := by
  constructor
  intro pins s σ H Q I h
  refine PySem.W.methodCall_KW (pl := pl) (thn (he.run pins s σ H _ I h) fun u s1 ⟨x, H1, I1, rx, ex, w⟩ => ?_) ht
  subst ex
  cases (show u = Value.ref C from rx)
  refine getmethsm_ok I1 r c fun s2 I2 => PySem.W.callWith_K (h₀ := X.base) I2.ok.mod.kin c.kp (thn (ha.run pos _ s2 σ H1 _ I2 w) fun us s3 ⟨vs, H2, I3, rv, w2⟩ => ⟨I3.kIn, ?_⟩) hst hpl
  exact wpAny_call (run_rS F hr (hx σ) I3 rv w2)
def smQ (sp : Sp) (E : XK) (Q : VK) : List V → Hp → Prop := fun vs H2 => sp vs H2 Q E
theorem go_smeth {σ : L2.St} {H : Hp} {Q : VK} {o : TE} (h : o σ H fun x H1 => x = .ref C ∧ t σ H1 (smQ sp (E σ) Q)) : tSMethS C sp E o t σ H Q := h
theorem go_smq {E : XK} {Q : VK} {vs : List V} {H : Hp} (h : sp vs H Q E) : smQ (fun vs H Q E => sp (vs ++ []) H Q E) E Q vs H := by
  show sp (vs ++ []) H Q E
  rw [List.append_nil]
  exact h
end
def smetB (K : PySem.W.Frag) (C : Addr) (m : Str) : Bool := He5.wrapB K C "staticmethod" "staticmethod.__get__" m && PySem.W.keepIn K (.ref (He5.wf K C "staticmethod" m))
theorem smetB_ok {K : PySem.W.Frag} {C : Addr} {m : Str} (h : smetB K C m = true) : SMet K C (.type "type") m (He.ma K C m) (He5.wf K C "staticmethod" m) := by
  obtain ⟨h1, h2⟩ := He5.wrapB_ok (He.ba h).1
  exact ⟨h1, h2, (He.ba h).2⟩
/-! ### a property -/
section
variable {σ : L2.St} {H : Hp} {Q : VK} {ta : TE} {C : Addr} {sp : Sp} {dvs : List V} {E : XK} {a dx : Addr} {fs : List (Str × V)}
def prQ (C : Addr) (sp : Sp) (dvs : List V) (E : XK) (Q : VK) : VK := fun x H1 => ∃ a dx fs, x = .ref a ∧ H1 a = some (.ins C dx fs) ∧ sp (.ref a :: dvs) H1 Q E
theorem go_prop (h : ta σ H (prQ C sp dvs E Q)) : tProp C sp dvs E ta σ H Q := h
theorem go_prq (h : H a = some (.ins C dx fs)) (q : sp [.ref a] H Q E) : prQ C sp [] E Q (.ref a) H := ⟨a, dx, fs, rfl, h, q⟩
end
/-! ### methods of texts -/
theorem ty_str {K : PySem.W.Frag} {H : Hp} {x : Str} : tyV K "str" (.str x) H := rfl
theorem go_tys {K : PySem.W.Frag} {H : Hp} {x : Str} {P : Prop} (h : P) : tyV K "str" (.str x) H ∧ P := ⟨rfl, h⟩
section
variable {K : PySem.W.Frag} {σ : L2.St} {H : Hp} {a : Addr} {xs r : List V} {v : V} {n : Nat} {g : TG} {t u : TGs} {R : L2.St → Hp → Prop}
theorem go_gt (h : SqT K H a xs) (l : xs.length = n) (k : t xs σ H R) : gTup K n t (.ref a) σ H R := ⟨a, xs, rfl, h, l, k⟩
theorem go_gc (k : g v σ H fun σ' H' => u r σ' H' R) : gCons g u (v :: r) σ H R := ⟨v, r, rfl, k⟩
theorem go_gn (k : R σ H) : gNil [] σ H R := ⟨rfl, k⟩
end
end Q
/-! QNum: the texts of numbers and of spans, and their reading. -/
namespace Q
open PySem PySem.Spec PyProof.Rows L2 NumText
abbrev tl (x : Str) : List Nat := x.cps.toList
theorem tl_len (x : Str) : (tl x).length = x.length := by simp [tl, Str.length]
theorem tl_inj {x y : Str} (h : tl x = tl y) : x = y := TL.ext_tl h
/-! ### numL and digitsVal -/
theorem dval_snoc (l : List Nat) (d : Nat) : digitsVal (l ++ [d]) = digitsVal l * 10 + (d - 48) := by
  unfold digitsVal
  rw [List.foldl_append]
  rfl
theorem dval_pos : ∀ (n : Nat) (l : List Nat), l.length = n → AllDigits l → (∃ c r, l = c :: r ∧ c ≠ 48) → 1 ≤ digitsVal l
  | 0, l, h, _, ⟨c, r, e, _⟩ => by rw [e] at h; exact nomatch h
  | n + 1, l, h, ha, ⟨c, r, e, hc⟩ => by
    rcases List.eq_nil_or_concat l with z | ⟨m, d, z⟩
    · rw [z] at e; exact nomatch e
    · rw [List.concat_eq_append] at z
      subst z
      rw [dval_snoc]
      cases m with
      | nil =>
        cases e
        have := ha c (List.mem_cons_self)
        omega
      | cons c' m' =>
        rw [List.cons_append] at e
        cases e
        have ih := dval_pos n (c :: m') (by simpa using h) (fun x hx => ha x (List.mem_append_left _ hx)) ⟨c, m', rfl, hc⟩
        omega
/-- digits without a leading zero are the text of their number -/
theorem numL_back : ∀ (n : Nat) (l : List Nat), l.length = n → AllDigits l → (∃ c r, l = c :: r ∧ (c ≠ 48 ∨ r = [])) → TL.numL (digitsVal l) = l
  | 0, l, h, _, ⟨c, r, e, _⟩ => by rw [e] at h; exact nomatch h
  | n + 1, l, h, ha, ⟨c, r, e, hc⟩ => by
    rcases List.eq_nil_or_concat l with z | ⟨m, d, z⟩
    · rw [z] at e; exact nomatch e
    · rw [List.concat_eq_append] at z
      subst z
      have hd := ha d (List.mem_append_right _ List.mem_cons_self)
      rw [dval_snoc]
      cases m with
      | nil =>
        have e0 : digitsVal [] = 0 := rfl
        rw [e0, TL.numL_lt (by omega), List.nil_append]
        congr 1
        omega
      | cons c' m' =>
        rw [List.cons_append] at e
        cases e
        have hc' : c ≠ 48 := by
          rcases hc with z | z
          · exact z
          · exact absurd z (by simp)
        have hm : AllDigits (c :: m') := fun x hx => ha x (List.mem_append_left _ hx)
        have hp := dval_pos _ (c :: m') rfl hm ⟨c, m', rfl, hc'⟩
        have ih := numL_back n (c :: m') (by simpa using h) hm ⟨c, m', rfl, .inl hc'⟩
        rw [TL.numL_step (by omega), show (digitsVal (c :: m') * 10 + (d - 48)) / 10 = digitsVal (c :: m') by omega, ih]
        congr 2
        omega
/-- the text of a number has no leading zero -/
theorem numL_head : ∀ n : Nat, ∃ c r, TL.numL n = c :: r ∧ (c ≠ 48 ∨ r = [])
  | n => by
    by_cases h : n < 10
    · exact ⟨48 + n, [], TL.numL_lt h, .inr rfl⟩
    · obtain ⟨c, r, e, hc⟩ := numL_head (n / 10)
      refine ⟨c, r ++ [48 + n % 10], by rw [TL.numL_step (by omega), e]; rfl, .inl ?_⟩
      rcases hc with z | z
      · exact z
      · subst z
        have hv := TL.numL_val (n / 10)
        rw [e] at hv
        have hcd := TL.numL_digits (n / 10) c (by rw [e]; exact List.mem_cons_self)
        have : digitsVal [c] = c - 48 := by show 0 * 10 + (c - 48) = _; omega
        omega
termination_by n => n
decreasing_by omega
/-! ### the text of an int -/
def textZ (v : Int) : Str := Str.ofString (toString v)
theorem textZ_pos {v : Int} (h : 0 ≤ v) : tl (textZ v) = TL.numL v.toNat := by
  obtain ⟨n, rfl⟩ : ∃ n : Nat, v = (n : Int) := ⟨v.toNat, by omega⟩
  exact TL.tl_num n
theorem textZ_neg {v : Int} (h : v < 0) : tl (textZ v) = 45 :: TL.numL (-v).toNat := by
  obtain ⟨n, rfl⟩ : ∃ n : Nat, v = Int.negSucc n := ⟨(-v).toNat - 1, by omega⟩
  have e : (-(Int.negSucc n)).toNat = n + 1 := rfl
  rw [e, ← TL.tl_num (n + 1)]
  have e1 : (toString (Int.negSucc n) : String) = "-" ++ toString ((n + 1 : Nat) : Int) := rfl
  unfold textZ
  rw [e1]
  show TL.tl _ = _
  rw [TL.tl_ofString, String.toList_append, List.map_append, ← TL.tl_ofString, ← TL.tl_ofString]
  rfl
/-! ### reading -/
def isDig (c : Nat) : Bool := decide (48 ≤ c) && decide (c ≤ 57)
theorem isDig_iff {c : Nat} : isDig c = true ↔ 48 ≤ c ∧ c ≤ 57 := by
  unfold isDig
  rw [Bool.and_eq_true, decide_eq_true_eq, decide_eq_true_eq]
def negL (l : List Nat) : Bool := match l with
  | 45 :: _ => true
  | _ => false
def figs (l : List Nat) : List Nat := if negL l = true then l.tail else l
def valL (l : List Nat) : Int := if negL l = true then -(digitsVal (figs l) : Int) else (digitsVal (figs l) : Int)
def shapeL (l : List Nat) : Bool := decide (1 ≤ (figs l).length) && (decide ((figs l).length ≤ 13) && (figs l).all isDig)
def zeroL (l : List Nat) : Bool := match figs l with
  | 48 :: _ => decide (l = [48])
  | _ => true
def readL (l : List Nat) : Option Int := if shapeL l = true then if zeroL l = true then if InR (valL l) then some (valL l) else none else none else none
theorem shape_no {l : List Nat} (h : shapeL l = false) : readL l = none := by
  unfold readL
  rw [h, if_neg Bool.false_ne_true]
theorem zero_no {l : List Nat} (h : zeroL l = false) : readL l = none := by
  unfold readL
  split
  · rw [h, if_neg Bool.false_ne_true]
  · rfl
theorem range_no {l : List Nat} (h : ¬ InR (valL l)) : readL l = none := by
  unfold readL
  rw [if_neg h]
  split
  · split <;> rfl
  · rfl
theorem read_yes {l : List Nat} (h1 : shapeL l = true) (h2 : zeroL l = true) (h3 : InR (valL l)) : readL l = some (valL l) := by
  unfold readL
  rw [if_pos h1, if_pos h2, if_pos h3]
theorem shape_get {l : List Nat} (h : shapeL l = true) : 1 ≤ (figs l).length ∧ (figs l).length ≤ 13 ∧ AllDigits (figs l) := by
  obtain ⟨h1, h⟩ := Bool.and_eq_true_iff.mp h
  obtain ⟨h2, h3⟩ := Bool.and_eq_true_iff.mp h
  exact ⟨of_decide_eq_true h1, of_decide_eq_true h2, fun c hc => isDig_iff.mp (List.all_eq_true.mp h3 c hc)⟩
theorem shape_mk {l : List Nat} (h1 : 1 ≤ (figs l).length) (h2 : (figs l).length ≤ 13) (h3 : ∀ c ∈ figs l, isDig c = true) : shapeL l = true :=
  Bool.and_eq_true_iff.mpr ⟨decide_eq_true h1, Bool.and_eq_true_iff.mpr ⟨decide_eq_true h2, List.all_eq_true.mpr h3⟩⟩
theorem neg_cons {l : List Nat} (h : negL l = true) : ∃ r, l = 45 :: r := by
  unfold negL at h
  split at h
  · exact ⟨_, rfl⟩
  · exact nomatch h
theorem figs_neg {l : List Nat} (h : negL l = true) : l = 45 :: figs l := by
  obtain ⟨r, rfl⟩ := neg_cons h
  rfl
theorem figs_pos {l : List Nat} (h : negL l = false) : figs l = l := by
  unfold figs
  rw [h, if_neg Bool.false_ne_true]
/-- int(text) -/
theorem int_text {x : Str} (h : shapeL (tl x) = true) (hl : x.length ≤ 4300) : PySem.intText? x = some (valL (tl x)) := by
  obtain ⟨h1, h2, h3⟩ := shape_get h
  have hne : figs (tl x) ≠ [] := fun e => by rw [e] at h1; exact absurd h1 (by decide)
  cases e : negL (tl x) with
  | true =>
    unfold valL
    rw [if_pos e]
    exact intText_neg (figs_neg e) h3 hne hl
  | false =>
    unfold valL
    rw [e, if_neg Bool.false_ne_true, figs_pos e]
    rw [figs_pos e] at h3 hne
    exact intText_digits h3 hne hl
theorem val_small {l : List Nat} (h : shapeL l = true) : -(10 ^ 13 : Int) < valL l ∧ valL l < 10 ^ 13 := by
  obtain ⟨h1, h2, h3⟩ := shape_get h
  have hb : ∀ (n : Nat) (m : List Nat), m.length = n → AllDigits m → digitsVal m < 10 ^ n := by
    intro n
    induction n with
    | zero =>
      intro m hm _
      rw [List.eq_nil_of_length_eq_zero hm]
      decide
    | succ n ih =>
      intro m hm ha
      rcases List.eq_nil_or_concat m with z | ⟨m', d, z⟩
      · rw [z] at hm; exact nomatch hm
      · rw [List.concat_eq_append] at z
        subst z
        have hd := ha d (List.mem_append_right _ List.mem_cons_self)
        have := ih m' (by simpa using hm) fun c hc => ha c (List.mem_append_left _ hc)
        rw [dval_snoc, Nat.pow_succ]
        omega
  have hd := hb _ _ rfl h3
  have hp : 10 ^ (figs l).length ≤ 10 ^ 13 := Nat.pow_le_pow_right (by decide) h2
  unfold valL
  split <;> omega
/-- str(int(text)) is the text: exactly if there is no zero in front -/
theorem canon {x : Str} (h : shapeL (tl x) = true) : (textZ (valL (tl x)) = x) ↔ zeroL (tl x) = true := by
  obtain ⟨h1, h2, h3⟩ := shape_get h
  have hz : zeroL (tl x) = true ↔ (∃ c r, figs (tl x) = c :: r ∧ (c ≠ 48 ∨ tl x = [48])) := by
    unfold zeroL
    cases e : figs (tl x) with
    | nil => rw [e] at h1; exact absurd h1 (by decide)
    | cons c r =>
      by_cases hc : c = 48
      · subst hc
        show decide (tl x = [48]) = true ↔ _
        constructor
        · intro z
          exact ⟨48, r, rfl, .inr (of_decide_eq_true z)⟩
        · rintro ⟨c, r', e', z | z⟩
          · cases e'; exact absurd rfl z
          · exact decide_eq_true z
      · have : (match c :: r with | 48 :: _ => decide (tl x = [48]) | _ => true) = true := by
          split
          · rename_i q
            cases q
            exact absurd rfl hc
          · rfl
        exact ⟨fun _ => ⟨c, r, rfl, .inl hc⟩, fun _ => this⟩
  rw [hz]
  cases e : negL (tl x) with
  | true =>
    have ef := figs_neg e
    unfold valL
    rw [if_pos e]
    constructor
    · intro q
      have q' := congrArg tl q
      by_cases v0 : digitsVal (figs (tl x)) = 0
      · rw [v0] at q'
        rw [show (-((0 : Nat) : Int)) = 0 from rfl, textZ_pos (by decide)] at q'
        have q' := q'.trans ef
        have hm := TL.numL_digits 0 45 (by rw [show TL.numL 0 = TL.numL (Int.toNat 0) from rfl, q']; exact List.mem_cons_self)
        omega
      · rw [textZ_neg (by omega)] at q'
        have q2 := (List.cons.inj (q'.trans ef)).2
        rw [show (-(-(digitsVal (figs (tl x)) : Int))).toNat = digitsVal (figs (tl x)) by omega] at q2
        obtain ⟨c, r, e1, hc⟩ := numL_head (digitsVal (figs (tl x)))
        rw [q2] at e1
        refine ⟨c, r, e1, ?_⟩
        rcases hc with z | z
        · exact .inl z
        · subst z
          refine .inl fun z => v0 ?_
          rw [e1, z]
          rfl
    · rintro ⟨c, r, e1, hc⟩
      have hc' : c ≠ 48 := by
        rcases hc with z | z
        · exact z
        · rw [z] at e; exact nomatch e
      have hv := dval_pos _ _ rfl h3 ⟨c, r, e1, hc'⟩
      have hb := numL_back _ _ rfl h3 ⟨c, r, e1, .inl hc'⟩
      refine tl_inj ?_
      rw [textZ_neg (by omega), show (-(-(digitsVal (figs (tl x)) : Int))).toNat = digitsVal (figs (tl x)) by omega, hb]
      exact ef.symm
  | false =>
    have ef := figs_pos e
    unfold valL
    rw [e, if_neg Bool.false_ne_true, ef]
    rw [ef] at h3
    constructor
    · intro q
      have q' := congrArg tl q
      rw [textZ_pos (by omega), Int.toNat_natCast] at q'
      obtain ⟨c, r, e1, hc⟩ := numL_head (digitsVal (tl x))
      rw [q'] at e1
      refine ⟨c, r, e1, ?_⟩
      rcases hc with z | z
      · exact .inl z
      · subst z
        by_cases c48 : c = 48
        · right; rw [e1, c48]
        · exact .inl c48
    · rintro ⟨c, r, e1, hc⟩
      refine tl_inj ?_
      rw [textZ_pos (by omega), Int.toNat_natCast]
      refine numL_back _ _ rfl h3 ⟨c, r, e1, ?_⟩
      rcases hc with z | z
      · exact .inl z
      · right
        rw [z] at e1
        cases e1
        rfl
theorem read_back {v : Int} (h : InR v) : readL (tl (textZ v)) = some v := by
  have key : ∃ (n : Nat), shapeL (tl (textZ v)) = true ∧ valL (tl (textZ v)) = v := by
    by_cases hv : v < 0
    · have e := textZ_neg hv
      have en : negL (tl (textZ v)) = true := by rw [e]; rfl
      have ef : figs (tl (textZ v)) = TL.numL (-v).toNat := by
        unfold figs
        rw [if_pos en, e]
        rfl
      refine ⟨0, shape_mk ?_ ?_ ?_, ?_⟩
      · rw [ef]; exact List.length_pos_iff.mpr (TL.numL_ne _)
      · rw [ef]; exact TL.numL_len (by decide) (by omega)
      · rw [ef]; exact fun c hc => isDig_iff.mpr (TL.numL_digits _ c hc)
      · unfold valL
        rw [if_pos en, ef, TL.numL_val]
        omega
    · have e := textZ_pos (v := v) (by omega)
      have en : negL (tl (textZ v)) = false := by
        rw [e]
        cases q : negL (TL.numL v.toNat) with
        | false => rfl
        | true =>
          obtain ⟨r, hr⟩ := neg_cons q
          have := TL.numL_digits v.toNat 45 (by rw [hr]; exact List.mem_cons_self)
          omega
      have ef := figs_pos en
      rw [e] at ef
      refine ⟨0, shape_mk ?_ ?_ ?_, ?_⟩
      · rw [e, ef]; exact List.length_pos_iff.mpr (TL.numL_ne _)
      · rw [e, ef]; exact TL.numL_len (by decide) (by omega)
      · rw [e, ef]; exact fun c hc => isDig_iff.mpr (TL.numL_digits _ c hc)
      · unfold valL
        rw [en, if_neg Bool.false_ne_true, e, ef, TL.numL_val]
        omega
  obtain ⟨_, h1, h2⟩ := key
  have hz := (canon h1).mp (by rw [h2])
  rw [read_yes h1 hz (by rw [h2]; exact h), h2]
end Q
/-! QNum2: texts of spans, promises of the readers. -/
namespace Q
open PySem PySem.Spec PyProof.Rows L2 NumText
theorem starts_minus (x : Str) : Txt.startswith x (Str.ofString "-") = negL (tl x) := by
  have hm : Str.ofString "-" = ⟨#[45]⟩ := rfl
  rw [hm]
  obtain ⟨a⟩ := x
  obtain ⟨l⟩ := a
  show (decide (0 + 1 ≤ l.length) && (((⟨l⟩ : Array Nat).extract 0 (0 + 1)) == #[45])) = negL l
  cases l with
  | nil => rfl
  | cons c r =>
    have e : ((⟨c :: r⟩ : Array Nat).extract 0 (0 + 1)) = #[c] := by simp
    rw [e, decide_eq_true (by simp)]
    by_cases h : c = 45
    · subst h; rfl
    · have : negL (c :: r) = false := by
        unfold negL
        split
        · rename_i q
          cases q
          exact absurd rfl h
        · rfl
      rw [this]
      have : (#[c] == #[45]) = false := by
        rw [beq_eq_false_iff_ne]
        intro z
        apply h
        have := congrArg Array.toList z
        cases this
        rfl
      rw [this]
      rfl
theorem cutS_from {z : Str} {n : Nat} : tl (cutS z (some (n : Int)) none) = (tl z).drop n := by
  have e := tl_len z
  show ((((tl z).drop (HT.sIx z.length 0 (some (n : Int)))).take (HT.sIx z.length z.length none - HT.sIx z.length 0 (some (n : Int)))).toArray).toList = _
  rw [List.toList_toArray, HT.sIx_none, HT.sIx_nat]
  by_cases h : n ≤ z.length
  · rw [Nat.min_eq_left h, List.take_of_length_le (by rw [List.length_drop]; omega)]
  · rw [Nat.min_eq_right (by omega), List.drop_of_length_le (by omega), List.drop_of_length_le (by omega), List.take_nil]
theorem figs_cut {x : Str} (h : negL (tl x) = true) : tl (cutS x (some 1) none) = figs (tl x) := by
  have := cutS_from (z := x) (n := 1)
  rw [show (some (1 : Int)) = some ((1 : Nat) : Int) from rfl, this]
  obtain ⟨r, e⟩ := neg_cons h
  rw [e]
  rfl
def digS : Str := Str.ofString "0123456789"
theorem dig_mem {c : Nat} : c ∈ digS.cps.toList ↔ isDig c = true := by
  have e : digS.cps.toList = [48, 49, 50, 51, 52, 53, 54, 55, 56, 57] := by decide +kernel
  rw [e, isDig_iff]
  simp only [List.mem_cons, List.not_mem_nil, or_false]
  omega
def digsB (l : List Nat) : Bool := decide (1 ≤ l.length) && (decide (l.length ≤ 13) && l.all isDig)
theorem shape_digs (l : List Nat) : shapeL l = digsB (figs l) := rfl
theorem textZ_len {v : Int} (h : -(10 ^ 13 : Int) < v ∧ v < 10 ^ 13) : (textZ v).length ≤ 14 := by
  rw [← tl_len]
  by_cases hv : v < 0
  · rw [textZ_neg hv, List.length_cons]
    have := TL.numL_len (n := (-v).toNat) (k := 13) (by decide) (by omega)
    omega
  · rw [textZ_pos (by omega)]
    have := TL.numL_len (n := v.toNat) (k := 13) (by decide) (by omega)
    omega
/-! ### ends and spans -/
def optV : Option Int → V
  | none => .non
  | some i => .int i
def endR (x : Str) : Option V := if x.length = 0 then some .non else (readL (tl x)).map V.int
def dotS : Str := Str.ofString ".."
def bothV (a b : Option V) : Option (V × V) := match a, b with
  | some u, some v => if crossed u v = true then none else some (u, v)
  | _, _ => none
def spanPR (a d b : Str) : Option (V × V) := if d.length = 0 then none else bothV (endR a) (endR b)
def spanRd (x : Str) : Option (V × V) := spanPR (Txt.partition x dotS).1 (Txt.partition x dotS).2.1 (Txt.partition x dotS).2.2
def endT (v : V) : Str := match v with
  | .int i => textZ i
  | _ => Str.empty
def spanT (lo hi : V) : Str := endT lo ++ dotS ++ endT hi
theorem app_empty (x : Str) : x ++ Str.empty = x := by
  obtain ⟨c⟩ := x
  show (⟨c ++ #[]⟩ : Str) = ⟨c⟩
  rw [Array.append_empty]
theorem end_back {v : V} (h : IsEnd v) : endR (endT v) = some v := by
  rcases h with rfl | ⟨i, rfl, hi⟩
  · rfl
  · have e := read_back hi
    have hl : (textZ i).length ≠ 0 := by
      rw [← tl_len]
      intro z
      rw [List.eq_nil_of_length_eq_zero z] at e
      exact nomatch e
    unfold endR
    show (if (textZ i).length = 0 then _ else (readL (tl (textZ i))).map V.int) = _
    rw [if_neg hl, e]
    rfl
theorem end_free {v : V} (h : IsEnd v) : 46 ∉ tl (endT v) := by
  rcases h with rfl | ⟨i, rfl, hi⟩
  · exact List.not_mem_nil
  · show 46 ∉ tl (textZ i)
    by_cases hv : i < 0
    · rw [textZ_neg hv]
      intro m
      rcases List.mem_cons.mp m with z | z
      · exact absurd z (by decide)
      · exact TL.numL_free (.inl (by decide)) z
    · rw [textZ_pos (by omega)]
      exact TL.numL_free (.inl (by decide))
theorem span_back {lo hi : V} (h1 : IsEnd lo) (h2 : IsEnd hi) (c : crossed lo hi = false) : spanRd (spanT lo hi) = some (lo, hi) := by
  have e : Txt.partition (spanT lo hi) dotS = (endT lo, dotS, endT hi) := TL.partition_app (s := 46) (S := [46]) (by decide +kernel) (end_free h1)
  unfold spanRd
  rw [e]
  unfold spanPR
  rw [if_neg (show ¬ dotS.length = 0 by decide +kernel), end_back h1, end_back h2]
  show (if crossed lo hi = true then none else some (lo, hi)) = _
  rw [c, if_neg Bool.false_ne_true]
theorem endR_end {x : Str} {v : V} (h : endR x = some v) : IsEnd v := by
  unfold endR at h
  split at h
  · cases h
    exact .inl rfl
  · obtain ⟨i, hi, rfl⟩ := Option.map_eq_some_iff.mp h
    refine .inr ⟨i, rfl, ?_⟩
    unfold readL at hi
    split at hi
    · split at hi
      · split at hi
        · rename_i q
          cases hi
          exact q
        · exact nomatch hi
      · exact nomatch hi
    · exact nomatch hi
/-! ### steps -/
section
variable {K : PySem.W.Frag} {H : Hp} {Q : VK}
theorem go_strZ {i : Int} (h : -(10 ^ 13 : Int) < i ∧ i < 10 ^ 13) (q : (textZ i).length ≤ 14 → Q (.str (textZ i)) H) : rStrI [.int i] H Q := ⟨i, rfl, log_ok (by omega), q (textZ_len h)⟩
def rIntS : List V → Hp → VK → Prop := fun xs H Q => ∃ a n, xs = [.str a] ∧ PySem.intText? a = some n ∧ a.length ≤ 640 ∧ Q (.int n) H
theorem call_intS {X : Cx} : CallR X (.type "int") rIntS := call_int_str
theorem go_intS {x : Str} (h : shapeL (tl x) = true) (l : x.length ≤ 640) (q : Q (.int (valL (tl x))) H) : rIntS [.str x] H Q := ⟨x, _, rfl, int_text h (by omega), l, q⟩
def rStarts : V → List V → Hp → VK → Prop := fun x xs H Q => ∃ a b, x = .str a ∧ xs = [.str b] ∧ Q (.bl (Txt.startswith a b)) H
theorem mt_startsU {X : Cx} : MtR X "str.startswith" rStarts := mt_startswith
theorem go_starts {a b : Str} (q : Q (.bl (Txt.startswith a b)) H) : rStarts (.str a) [.str b] H Q := ⟨a, b, rfl, rfl, q⟩
def rPart : V → List V → Hp → VK → Prop := fun x xs H Q => ∃ a b, x = .str a ∧ xs = [.str b] ∧ (b.length == 0) = false ∧ a.length ≤ sizeLine ∧
    ∀ p, H p = none → Q (.ref p) (upd H p (.tup [.str (Txt.partition a b).1, .str (Txt.partition a b).2.1, .str (Txt.partition a b).2.2]))
theorem mt_partU {X : Cx} : MtR X "str.partition" rPart := mt_partition
theorem go_partD {a : Str} (l : a.length ≤ sizeLine) (q : ∀ p, H p = none → Q (.ref p) (upd H p (.tup [.str (Txt.partition a dotS).1, .str (Txt.partition a dotS).2.1, .str (Txt.partition a dotS).2.2]))) : rPart (.str a) [.str dotS] H Q := ⟨a, dotS, rfl, rfl, by decide +kernel, l, q⟩
def rSplit : V → List V → Hp → VK → Prop := fun x xs H Q => ∃ a b, x = .str a ∧ xs = [.str b] ∧ (b.length == 0) = false ∧ a.length + 2 ≤ sizeLine ∧ rNewStrs (Txt.split a b) H Q
theorem mt_splitU {X : Cx} : MtR X "str.split" rSplit := mt_split
def rJoin (K : PySem.W.Frag) : V → List V → Hp → VK → Prop := fun x xs H Q => ∃ a p, ∃ ys : List Str, x = .str a ∧ xs = [.ref p] ∧ (SqL K H p (ys.map V.str) ∨ SqT K H p (ys.map V.str)) ∧
    (ys.map (·.length)).sum + ys.length * a.length ≤ 16777216 ∧ Q (.str (Txt.join a ys)) H
theorem mt_joinU {X : Cx} : MtR X "str.join" (rJoin X.K) := mt_join
theorem go_neTT {p q : Addr} {a b : V} (h1 : SqT K H p [a, b]) (h2 : SqT K H q [a, b]) (ha : IsEndI a) (hb : IsEndI b) (k : Q (.bl false) H) : rNeP K (.ref p) (.ref q) H Q := by
  have pl : PyData.plain (.tuple [dEnd a, dEnd b]) = true := by
    rcases ha with rfl | ⟨i, rfl⟩ <;> rcases hb with rfl | ⟨j, rfl⟩ <;> rfl
  have dp : (PyData.tuple [dEnd a, dEnd b]).depth = 1 := by
    rcases ha with rfl | ⟨i, rfl⟩ <;> rcases hb with rfl | ⟨j, rfl⟩ <;> rfl
  refine ⟨.tuple [dEnd a, dEnd b], .tuple [dEnd a, dEnd b], .tup h1 (.cons (dp_end ha) (.cons (dp_end hb) .nil)), .tup h2 (.cons (dp_end ha) (.cons (dp_end hb) .nil)), pl, pl, by rw [dp]; decide, ?_⟩
  rw [SeqAt.eqv_refl_plain _ pl]
  exact k
/-- the pieces of a text and their joining, by lengths -/
def LinesAt (n m : Nat) (ys : List Str) : Prop := (∀ y ∈ ys, y.length ≤ m) ∧ ys.length ≤ n
theorem spl_len (S : List Nat) : ∀ (l : List Nat) (k : Nat) (acc : List Nat), (∀ p ∈ TL.spl S k acc l, p.length ≤ acc.length + l.length) ∧ (TL.spl S k acc l).length ≤ l.length + 1
  | [], k, acc => by
    rw [TL.spl_nil]
    refine ⟨fun p hp => ?_, Nat.le_refl _⟩
    rw [List.mem_singleton.mp hp]
    exact Nat.le_add_right _ _
  | c :: r, 0, acc => by
    by_cases h : TL.pre S (c :: r) = true
    · rw [TL.spl_hit h]
      obtain ⟨i1, i2⟩ := spl_len S r (S.length - 1) []
      refine ⟨fun p hp => ?_, by rw [List.length_cons, List.length_cons]; omega⟩
      rcases List.mem_cons.mp hp with z | z
      · rw [z, List.length_cons]; omega
      · have := i1 p z
        rw [List.length_cons]
        simp only [List.length_nil] at this
        omega
    · rw [TL.spl_miss (Bool.not_eq_true _ ▸ h)]
      obtain ⟨i1, i2⟩ := spl_len S r 0 (acc ++ [c])
      refine ⟨fun p hp => ?_, by rw [List.length_cons]; omega⟩
      have := i1 p hp
      rw [List.length_append] at this
      simp only [List.length_cons, List.length_nil] at this ⊢
      omega
  | c :: r, k + 1, acc => by
    obtain ⟨i1, i2⟩ := spl_len S r k acc
    show (∀ p ∈ TL.spl S k acc r, _) ∧ (TL.spl S k acc r).length ≤ _
    refine ⟨fun p hp => ?_, by rw [List.length_cons]; omega⟩
    have := i1 p hp
    rw [List.length_cons]
    omega
theorem spl_pos (S : List Nat) : ∀ (l : List Nat) (k : Nat) (acc : List Nat), 0 < (TL.spl S k acc l).length
  | [], k, acc => by rw [TL.spl_nil]; exact Nat.zero_lt_one
  | c :: r, 0, acc => by
    by_cases h : TL.pre S (c :: r) = true
    · rw [TL.spl_hit h]; exact Nat.succ_pos _
    · rw [TL.spl_miss (Bool.not_eq_true _ ▸ h)]; exact spl_pos S r 0 _
  | c :: r, k + 1, acc => spl_pos S r k acc
theorem split_lines {x y : Str} (hy : tl y ≠ []) (hk : y.cps.all (· < 256) = true) : LinesAt (x.length + 1) x.length (Txt.split x y) ∧ 0 < (Txt.split x y).length := by
  have e := TL.split_spl x y hy (TL.kind_ok hk)
  obtain ⟨h1, h2⟩ := spl_len (tl y) (tl x) 0 []
  have h3 := spl_pos (tl y) (tl x) 0 []
  have el : (Txt.split x y).length = (TL.spl (tl y) 0 [] (tl x)).length := by rw [← List.length_map (f := TL.tl), e]
  refine ⟨⟨fun p hp => ?_, by rw [el, ← tl_len x]; exact h2⟩, by rw [el]; exact h3⟩
  have hm : TL.tl p ∈ TL.spl (tl y) 0 [] (tl x) := by rw [← e]; exact List.mem_map.mpr ⟨p, hp, rfl⟩
  have := h1 _ hm
  simp only [List.length_nil, Nat.zero_add] at this
  rw [← tl_len p, ← tl_len x]
  exact this
theorem go_splitL {x y : Str} (hy : tl y ≠ []) (hk : y.cps.all (· < 256) = true) (hl : x.length ≤ 90000) (q : ∀ p ys, H p = none → LinesAt (x.length + 1) x.length ys → 0 < ys.length → Q (.ref p) (upd H p (.lst (ys.map V.str)))) : rSplit (.str x) [.str y] H Q := by
  have hb : (y.length == 0) = false := by
    rw [beq_eq_false_iff_ne, ← tl_len]
    exact fun z => hy (List.eq_nil_of_length_eq_zero z)
  obtain ⟨h1, h2⟩ := split_lines (x := x) hy hk
  exact ⟨x, y, rfl, rfl, hb, size_ok (by omega), fun p hp => q p _ hp h1 h2⟩
theorem sum_le {n m : Nat} : ∀ {ys : List Str}, LinesAt n m ys → (ys.map (·.length)).sum ≤ ys.length * m
  | [], _ => by simp
  | y :: ys, h => by
    have ih := sum_le (ys := ys) (n := n) ⟨fun z hz => h.1 z (List.mem_cons_of_mem _ hz), by have := h.2; rw [List.length_cons] at this; omega⟩
    have := h.1 y List.mem_cons_self
    rw [List.map_cons, List.sum_cons, List.length_cons, Nat.succ_mul]
    omega
theorem joinL_len (S : List Nat) : ∀ ps : List (List Nat), (TL.joinL S ps).length ≤ (ps.map List.length).sum + ps.length * S.length
  | [] => Nat.zero_le _
  | [p] => by
    show p.length ≤ _
    simp
  | p :: q :: ps => by
    have ih := joinL_len S (q :: ps)
    have e : TL.joinL S (p :: q :: ps) = p ++ (S ++ TL.joinL S (q :: ps)) := by first | rfl | simp [TL.joinL]
    rw [e, List.length_append, List.length_append, List.map_cons, List.sum_cons, List.length_cons (a := p), Nat.succ_mul]
    omega
theorem go_joinL {p : Addr} {a : Str} {ys : List Str} {n m : Nat} (h : SqL K H p (ys.map V.str)) (hl : LinesAt n m ys) (ha : a.length = 1) (hb : n * (m + 1) ≤ 16000000) (q : ∀ z : Str, z.length ≤ n * (m + 1) → Q (.str z) H) : rJoin K (.str a) [.ref p] H Q := by
  have hs := sum_le hl
  have h2 := Nat.mul_le_mul hl.2 (Nat.le_refl (m + 1))
  have h3 : ys.length * (m + 1) = ys.length * m + ys.length := Nat.mul_succ _ _
  have hz : (Txt.join a ys).length ≤ n * (m + 1) := by
    rw [TL.join_eq, ← tl_len]
    have e := TL.tl_join a ys
    have e2 := joinL_len (TL.tl a) (ys.map TL.tl)
    have e3 : ((ys.map TL.tl).map List.length) = ys.map (·.length) := by
      rw [List.map_map]
      exact List.map_congr_left fun y _ => tl_len y
    rw [e3, List.length_map] at e2
    have e4 : (TL.tl a).length = 1 := by rw [← ha]; exact tl_len a
    rw [e4, Nat.mul_one] at e2
    show (TL.tl _).length ≤ _
    rw [e]
    omega
  exact ⟨a, p, ys, rfl, rfl, .inl h, by rw [ha]; omega, q _ hz⟩
end
theorem str_zero {x : Str} (h : x.length = 0) : x = Str.ofString "" := by
  rw [← tl_len] at h
  exact tl_inj (List.eq_nil_of_length_eq_zero h)
theorem endT_len {v : V} (h : IsEnd v) : (endT v).length ≤ 14 := by
  rcases h with rfl | ⟨i, rfl, hi⟩
  · exact Nat.zero_le _
  · exact textZ_len (by omega)
theorem shape_len {x : Str} (h : shapeL (tl x) = true) : x.length ≤ 14 := by
  obtain ⟨h1, h2, _⟩ := shape_get h
  rw [← tl_len]
  cases q : negL (tl x) with
  | true => rw [figs_neg q, List.length_cons]; omega
  | false => rw [figs_pos q] at h2; omega
theorem endR_read {x : Str} (h : x.length ≠ 0) : endR x = (readL (tl x)).map V.int := by
  unfold endR
  rw [if_neg h]
theorem part_len (x : Str) : (Txt.partition x dotS).1.length ≤ x.length ∧ (Txt.partition x dotS).2.2.length ≤ x.length := by
  have sub : ∀ i j : Nat, (Builtin.Str.strSub x i j).length ≤ x.length := fun i j => by
    rw [← tl_len, ← tl_len x]
    show (TL.tl _).length ≤ _
    rw [TL.tl_strSub, List.length_take, List.length_drop]
    show min _ ((TL.tl x).length - _) ≤ (TL.tl x).length
    omega
  unfold Txt.partition
  split
  · exact ⟨sub _ _, sub _ _⟩
  · exact ⟨Nat.le_refl _, Nat.zero_le _⟩
theorem spanRd_ends {x : Str} {lo hi : V} (h : spanRd x = some (lo, hi)) : IsEnd lo ∧ IsEnd hi := by
  unfold spanRd spanPR at h
  split at h
  · exact nomatch h
  · cases ea : endR (Txt.partition x dotS).1 with
    | none => rw [ea] at h; exact nomatch h
    | some a =>
      cases eb : endR (Txt.partition x dotS).2.2 with
      | none => rw [ea, eb] at h; exact nomatch h
      | some b =>
        rw [ea, eb] at h
        have h' : (if crossed a b = true then none else some (a, b)) = some (lo, hi) := h
        split at h'
        · exact nomatch h'
        · cases h'
          exact ⟨endR_end ea, endR_end eb⟩
theorem size_okB {n : Nat} (h : n ≤ 16000000) : n ≤ sizeLine := Nat.le_trans h (by decide)
theorem LinesAt.mono {n m n' m' : Nat} {ys : List Str} (h : LinesAt n m ys) (a : n ≤ n') (b : m ≤ m') : LinesAt n' m' ys := ⟨fun y hy => Nat.le_trans (h.1 y hy) b, Nat.le_trans h.2 a⟩
theorem LinesAt.app {n k m : Nat} {ys zs : List Str} (h : LinesAt n m ys) (g : LinesAt k m zs) : LinesAt (n + k) m (ys ++ zs) := ⟨fun y hy => (List.mem_append.mp hy).elim (h.1 y) (g.1 y), by rw [List.length_append]; have := h.2; have := g.2; omega⟩
theorem LinesAt.set {n m k : Nat} {ys : List Str} {z : Str} (h : LinesAt n m ys) (l : z.length ≤ m) : LinesAt n m (ys.set k z) := ⟨fun y hy => (List.mem_or_eq_of_mem_set hy).elim (h.1 y) (fun e => by rw [e]; exact l), by rw [List.length_set]; exact h.2⟩
theorem LinesAt.take {n m k : Nat} {ys : List Str} (h : LinesAt n m ys) : LinesAt (min k n) m (ys.take k) := ⟨fun y hy => h.1 y (List.mem_of_mem_take hy), by rw [List.length_take]; have := h.2; omega⟩
theorem LinesAt.drop {m k : Nat} {ys : List Str} (h : LinesAt ys.length m ys) : LinesAt (ys.length - k) m (ys.drop k) := ⟨fun y hy => h.1 y (List.mem_of_mem_drop hy), by rw [List.length_drop]; exact Nat.le_refl _⟩
theorem LinesAt.own {n m : Nat} {ys : List Str} (h : LinesAt n m ys) : LinesAt ys.length m ys := ⟨h.1, Nat.le_refl _⟩
/-! ### promises -/
def pReadN : P1 := fun v0 H Q _ => ∃ x : Str, v0 = .str x ∧ x.length ≤ 10000 ∧ Q (optV (readL (tl x))) H
def pIsDigits : P1 := fun v0 H Q _ => ∃ x : Str, v0 = .str x ∧ x.length ≤ 100000 ∧ Q (.bl (digsB (tl x))) H
def pNumText (K : PySem.W.Frag) : P1 := fun v0 H Q E => flatE v0 = true ∧ (∀ i, v0 = .int i → InR i → Q (.str (textZ i)) H) ∧ (isNumV v0 = false → Bad1 K "BadNumber" "number" v0 H E)
def pEndText : P1 := fun v0 H Q _ => IsEnd v0 ∧ Q (.str (endT v0)) H
def pParseNum (K : PySem.W.Frag) : P1 := fun v0 H Q E => ∃ x : Str, v0 = .str x ∧ x.length ≤ 10000 ∧ (∀ i, readL (tl x) = some i → InR i → Q (.int i) H) ∧ (readL (tl x) = none → Bad1 K "BadText" "line" (.int 1) H E)
def pParseEnd (K : PySem.W.Frag) : P1 := fun v0 H Q E => ∃ x : Str, v0 = .str x ∧ x.length ≤ 10000 ∧ (∀ v, endR x = some v → IsEnd v → Q v H) ∧ (endR x = none → Bad1 K "BadText" "line" (.int 1) H E)
def pSpanText (K : PySem.W.Frag) : P1 := fun v0 H Q _ => ∃ (a : Addr) (lo hi : V), v0 = .ref a ∧ SpanAt K H a lo hi ∧ IsEnd lo ∧ IsEnd hi ∧ Q (.str (spanT lo hi)) H
def pSpanParse (K : PySem.W.Frag) : P1 := fun v0 H Q E => ∃ x : Str, v0 = .str x ∧ x.length ≤ 10000 ∧ (∀ lo hi, spanRd x = some (lo, hi) → ∀ p H', H p = none → Dx No H H' → SpanAt K H' p lo hi → Q (.ref p) H') ∧ (spanRd x = none → Err1 K "BadText" "line" (.int 1) H E)
def pEndsText (K : PySem.W.Frag) : P1 := fun v0 H Q _ => ∃ (p : Addr) (lo hi : V), v0 = .ref p ∧ SqT K H p [lo, hi] ∧ IsEnd lo ∧ IsEnd hi ∧ Q (.str (spanT lo hi)) H
def pReadEnds (K : PySem.W.Frag) : P1 := fun v0 H Q _ => ∃ x : Str, v0 = .str x ∧ x.length ≤ 10000 ∧ (spanRd x = none → ∀ H', Dx No H H' → Q .non H') ∧ (∀ lo hi, spanRd x = some (lo, hi) → ∀ p H', H p = none → H' p = some (.tup [lo, hi]) → Dx No H H' → Q (.ref p) H')
def badText : List V := [.str (Str.ofString "BadText"), .int 1, .bl true, .bl false]
def pParsed (K : PySem.W.Frag) : P1 := fun v0 H Q _ => ∃ x : Str, v0 = .str x ∧ x.length ≤ 10000 ∧ (spanRd x = none → ∀ p H', SqT K H' p badText → Dx No H H' → Q (.ref p) H') ∧ (∀ lo hi, spanRd x = some (lo, hi) → ∀ p H', SqT K H' p [.bl true, lo, hi] → Dx No H H' → Q (.ref p) H')
def pParsedNum (K : PySem.W.Frag) : P1 := fun v0 H Q _ => ∃ x : Str, v0 = .str x ∧ x.length ≤ 10000 ∧ (readL (tl x) = none → ∀ p H', SqT K H' p badText → Dx No H H' → Q (.ref p) H') ∧ (∀ i, readL (tl x) = some i → Q (.int i) H)
def pToldNum (K : PySem.W.Frag) : P1 := fun v0 H Q _ => flatE v0 = true ∧ (∀ i, v0 = .int i → InR i → Q (.str (textZ i)) H) ∧ (isNumV v0 = false → ∀ p H', SqT K H' p [.str (Str.ofString "BadNumber"), v0, .bl true, .bl false] → Dx No H H' → Q (.ref p) H')
def pReads : P1 := fun v0 H Q _ => ∃ x : Str, v0 = .str x ∧ x.length ≤ 10000 ∧ ∀ H', Dx No H H' → Q (.bl true) H'
def pSpoilt (K : PySem.W.Frag) : P3 := fun v0 v1 v2 H Q _ => ∃ (x s : Str) (i : Int), v0 = .str x ∧ v1 = .int i ∧ v2 = .str s ∧ x.length ≤ 1000 ∧ s.length ≤ 10 ∧ -(10 ^ 6 : Int) ≤ i ∧ i ≤ 10 ^ 6 ∧ ∀ (p : Addr) (H' : Hp) (ys : List Str), H p = none → H' p = some (.lst (ys.map V.str)) → (∀ y ∈ ys, y.length ≤ 2010) → Dx No H H' → Q (.ref p) H'
def pBent : P2 := fun v0 v1 H Q _ => ∃ (c : Addr) (M : Addr → Prop) (x : Str), v0 = .ref c ∧ v1 = .str x ∧ x.length ≤ 100 ∧ Ok M H c ∧ Drawn M c H (IsText 0 16000000) Q
def pNear2 : P2 := fun v0 v1 H Q _ => ∃ (c : Addr) (M : Addr → Prop) (x : Str), v0 = .ref c ∧ v1 = .str x ∧ x.length ≤ 100 ∧ Ok M H c ∧ ∀ H', Dx (Only1 c) H H' → Ok M H' c → Q (.bl true) H'
def pAnyEnds (K : PySem.W.Frag) : P1 := fun v0 H Q _ => ∃ (c : Addr) (M : Addr → Prop), v0 = .ref c ∧ Ok M H c ∧ ∀ p lo hi H', H p = none → H' p = some (.tup [lo, hi]) → IsEnd lo → IsEnd hi → crossed lo hi = false → Dx (Only1 c) H H' → Ok M H' c → Q (.ref p) H'
end Q
open PySem L2 Q
local macro_rules | `(tactic| walk_at "sz") => `(tactic| first
  | exact size_ok (by omega)
  | exact size_ok (by simp only [length_append, len_one]; omega)
  | exact size_okB (by omega)
  | exact size_okB (by simp only [length_append, len_one]; omega)
  | decide +kernel)
local macro_rules | `(tactic| walk_at "go1") => `(tactic| first
  | with_reducible refine go_seq ?_
  | with_reducible refine go_asg ?_
  | ((with_reducible refine go_name ?_); try dsimp only [List.set_cons_zero, List.set_cons_succ])
  | ((with_reducible apply go_var); exact rfl)
  | with_reducible refine go_c ?_
  | with_reducible refine go_op ?_
  | with_reducible refine go_cb ?_
  | with_reducible refine go_cons ?_
  | with_reducible refine go_nil ?_
  | with_reducible refine go_nx ?_
  | with_reducible refine go_rt ?_
  | with_reducible refine go_next ?_
  | with_reducible refine go_if ?_
  | with_reducible refine go_ret ?_
  | with_reducible refine go_test ?_
  | with_reducible refine go_tB ?_
  | with_reducible refine go_and ?_
  | with_reducible refine go_or ?_
  | with_reducible refine go_not ?_
  | with_reducible refine go_ex ?_
  | with_reducible refine go_t ?_
  | with_reducible refine go_f ?_
  | with_reducible refine go_nt ?_
  | with_reducible refine go_nf ?_
  | with_reducible refine go_call ?_
  | with_reducible refine go_sp1 ?_
  | with_reducible refine go_sp2 ?_
  | with_reducible refine go_sp3 ?_
  | with_reducible refine go_sp4 ?_
  | with_reducible refine go_sp5 ?_
  | with_reducible refine go_un ?_
  | with_reducible refine go_sub ?_
  | with_reducible refine go_drop ?_
  | with_reducible refine go_addI ?_
  | with_reducible refine go_sub0 ?_
  | ((with_reducible refine go_mod0 ?_ ?_); (first | omega | decide))
  | with_reducible refine go_neg0 ?_
  | with_reducible refine go_ltI ?_
  | with_reducible refine go_ltS ?_
  | with_reducible refine go_gt0 ?_
  | with_reducible refine go_le0 ?_
  | with_reducible refine go_ge0 ?_
  | with_reducible refine go_eqI ?_
  | with_reducible refine go_eqS ?_
  | with_reducible refine go_eqB ?_
  | with_reducible refine go_neI ?_
  | with_reducible refine go_neS ?_
  | with_reducible refine go_neB ?_
  | with_reducible refine go_inS ?_
  | with_reducible refine go_niS ?_
  | with_reducible refine go_int0 ?_
  | with_reducible refine go_max0 ?_
  | with_reducible refine go_min0 ?_
  | with_reducible refine go_andV ?_
  | with_reducible refine go_orV ?_
  | with_reducible refine go_notV ?_
  | with_reducible refine go_ifE ?_
  | with_reducible refine go_retN ?_
  | with_reducible refine go_lst ?_
  | with_reducible refine go_tup ?_
  | with_reducible refine go_brk ?_
  | with_reducible refine go_cont ?_
  | with_reducible refine go_for ?_
  | with_reducible refine go_iL ?_
  | with_reducible refine go_iQ ?_
  | with_reducible refine go_fs ?_
  | with_reducible refine go_js ?_
  | with_reducible refine go_jn ?_
  | ((with_reducible refine go_jx ?_ ?_); walk_at "sz")
  | with_reducible refine go_fmt ?_
  | ((with_reducible refine go_fmtS ?_ ?_); walk_at "sz")
  | with_reducible refine go_callD ?_
  | ((with_reducible refine go_cdq ?_); dsimp only [List.nil_append, List.cons_append, List.append_nil])
  | with_reducible refine go_smeth ?_
  | with_reducible refine go_smq ?_
  | with_reducible refine go_prop ?_
  | with_reducible refine go_tys ?_
  | with_reducible refine go_gc ?_
  | with_reducible refine go_gn ?_
  | with_reducible refine go_dc ?_
  | with_reducible refine go_dct ?_
  | with_reducible refine go_dcf ?_
  | with_reducible refine go_dnew ?_
  | with_reducible refine go_din ?_
  | with_reducible refine go_dnotin ?_
  | with_reducible refine go_dput ?_
  | with_reducible refine go_iT ?_
  | with_reducible refine go_iS ?_
  | with_reducible refine go_iR1 ?_
  | with_reducible refine go_iR2 ?_
  | with_reducible refine go_sl ?_
  | with_reducible refine go_part ?_
  | with_reducible refine go_nopart ?_
  | with_reducible refine go_exi ?_
  | with_reducible refine go_bm ?_
  | with_reducible refine go_lc ?_
  | with_reducible refine go_lrev ?_
  | with_reducible refine go_yes ?_
  | with_reducible refine go_lct ?_
  | with_reducible refine go_lcf ?_
  | with_reducible refine go_callS ?_
  | with_reducible refine go_callN ?_
  | ((with_reducible refine go_kwp rfl rfl ?_); dsimp only [perm, nth, List.nil_append, List.cons_append, List.append_nil])
  | ((with_reducible refine go_kwg rfl rfl ?_); dsimp only [perm, nth, List.nil_append, List.cons_append, List.append_nil])
  | with_reducible refine go_callNS ?_
  | with_reducible refine go_fld ?_
  | with_reducible refine go_pow40 ?_
  | with_reducible refine go_sfld ?_
  | with_reducible refine go_make ?_
  | with_reducible refine go_makeS ?_
  | with_reducible refine go_makeN ?_
  | with_reducible refine go_makeK ?_
  | with_reducible refine go_cmeth ?_
  | with_reducible refine go_chain ?_
  | with_reducible refine go_pow12 ?_
  | with_reducible refine go_pow11 ?_
  | with_reducible refine go_pow9 ?_
  | with_reducible refine go_pow13 ?_
  | with_reducible refine go_pow18 ?_
  | with_reducible refine go_pow30 ?_
  | ((with_reducible refine go_mul0 ?_ ?_); (first | exact .inl ⟨by omega, by omega⟩ | exact .inr ⟨by omega, by omega⟩))
  | with_reducible refine go_xf ?_
  | with_reducible refine go_isY ?_
  | ((with_reducible refine go_isN ?_ ?_); (first | assumption | (intro z; contradiction)))
  | with_reducible refine go_isnotN ?_
  | ((with_reducible refine go_isnotY ?_ ?_); (first | assumption | (intro z; contradiction)))
  | ((with_reducible refine go_slS ?_ ?_); walk_at "sz")
  | ((with_reducible refine go_lenS ?_ ?_); walk_at "sz")
  | ((with_reducible refine go_addS ?_ ?_); walk_at "sz")
  | (with_reducible refine go_bk ?_)
  | (with_reducible refine go_ct ?_))
local macro_rules | `(tactic| walk_at "go") => `(tactic| repeat walk_at "go1")
local macro_rules | `(tactic| walk_at "bt") => `(tactic| first | exact Bt.bl _ | exact Bt.int _ | exact Bt.str _ | exact Bt.non | exact Bt.lst (by assumption) | exact Bt.tup (by assumption) | exact Bt.lst (SqL.of (by assumption)) | exact Bt.tup (SqT.of (by assumption)) | exact Bt.dic (by assumption))
local macro_rules | `(tactic| walk_at "isi") => `(tactic| first
  | ((with_reducible apply go_isi (b := true)); walk_at "bt"; decide +kernel)
  | ((with_reducible apply go_isi (b := false)); walk_at "bt"; decide +kernel))
local macro_rules | `(tactic| walk_at "gi") => `(tactic| repeat (first | walk_at "go1" | walk_at "isi"))
/-! the text by places -/
namespace Q
open PySem L2
def top (i : Nat) : Stmt := PySem.Challenge.pw_outshiners_k03_span_texts_read_back.main.body.getD i (.Pass ⟨0, 0, 0, 0⟩)
abbrev s__law_store : Stmt := top 23
abbrev s__law_stir : Stmt := top 24
abbrev s__law_take : Stmt := top 25
abbrev s__law_pick : Stmt := top 26
abbrev s__law_shuffled : Stmt := top 27
abbrev s__law_number : Stmt := top 28
abbrev s__law_clamped : Stmt := top 29
abbrev s__law_pool : Stmt := top 30
abbrev s__law_near : Stmt := top 31
abbrev s__law_bad_number : Stmt := top 32
abbrev s__law_sign : Stmt := top 34
abbrev s__law_is_number : Stmt := top 35
abbrev s_is_number : Stmt := top 11
abbrev s_check_number : Stmt := top 12
abbrev s_check_end : Stmt := top 13
abbrev s_number_text : Stmt := top 16
abbrev s_is_digits : Stmt := top 17
abbrev s_parse_number : Stmt := top 18
abbrev s_end_text : Stmt := top 19
abbrev s_parse_end : Stmt := top 20
abbrev s__law_match : Stmt := top 40
abbrev s__law_same : Stmt := top 42
abbrev s_Span___init__ : Stmt := inClass (top 21) 0
abbrev s_Span_text : Stmt := inClass (top 21) 1
abbrev s_Span_parse : Stmt := inClass (top 21) 6
abbrev s__law_ends : Stmt := top 33
abbrev s__law_read : Stmt := top 36
abbrev s__law_ends_text : Stmt := top 37
abbrev s__law_read_ends : Stmt := top 38
abbrev s__law_bent_text : Stmt := top 39
abbrev s__law_any_ends : Stmt := top 43
abbrev s__law_parsed : Stmt := top 44
abbrev s__law_parsed_number : Stmt := top 45
abbrev s__law_told_number : Stmt := top 46
abbrev s__law_reads : Stmt := top 47
abbrev s__law_spoilt_at : Stmt := top 48
abbrev s__law_reads_near : Stmt := top 49
abbrev s_law : Stmt := top 50
abbrev s_BadNumber_init : Stmt := inClass (top 4) 0
abbrev s_BadSpan_init : Stmt := inClass (top 5) 0
abbrev s_BadText_init : Stmt := inClass (top 6) 0
/-- what the top has written -/
structure Txt (K : PySem.W.Frag) (mg : Str → Option Value) : Prop where
  f__law_store : Raw K mg "_law_store" s__law_store [] []
  f__law_stir : Raw K mg "_law_stir" s__law_stir [] []
  f__law_take : Raw K mg "_law_take" s__law_take [] []
  f__law_pick : Raw K mg "_law_pick" s__law_pick [] []
  f__law_shuffled : Raw K mg "_law_shuffled" s__law_shuffled [] []
  f__law_number : Raw K mg "_law_number" s__law_number [] []
  f__law_clamped : Raw K mg "_law_clamped" s__law_clamped [] []
  f__law_pool : Raw K mg "_law_pool" s__law_pool [] []
  f__law_near : Raw K mg "_law_near" s__law_near [] []
  f__law_bad_number : Raw K mg "_law_bad_number" s__law_bad_number [] []
  f__law_sign : Raw K mg "_law_sign" s__law_sign [] []
  f__law_is_number : Raw K mg "_law_is_number" s__law_is_number [] []
  f_is_number : Raw K mg "is_number" s_is_number [] []
  f_check_number : Raw K mg "check_number" s_check_number [] []
  f_check_end : Raw K mg "check_end" s_check_end [] []
  f_number_text : Raw K mg "number_text" s_number_text [] []
  f_is_digits : Raw K mg "is_digits" s_is_digits [] []
  f_parse_number : Raw K mg "parse_number" s_parse_number [] []
  f_end_text : Raw K mg "end_text" s_end_text [] []
  f_parse_end : Raw K mg "parse_end" s_parse_end [] []
  f__law_match : Raw K mg "_law_match" s__law_match [] []
  f__law_same : Raw K mg "_law_same" s__law_same [] []
  f__law_ends : Raw K mg "_law_ends" s__law_ends [] []
  f__law_read : Raw K mg "_law_read" s__law_read [] []
  f__law_ends_text : Raw K mg "_law_ends_text" s__law_ends_text [] []
  f__law_read_ends : Raw K mg "_law_read_ends" s__law_read_ends [] []
  f__law_bent_text : Raw K mg "_law_bent_text" s__law_bent_text [] []
  f__law_any_ends : Raw K mg "_law_any_ends" s__law_any_ends [] []
  f__law_parsed : Raw K mg "_law_parsed" s__law_parsed [] []
  f__law_parsed_number : Raw K mg "_law_parsed_number" s__law_parsed_number [] []
  f__law_told_number : Raw K mg "_law_told_number" s__law_told_number [] []
  f__law_reads : Raw K mg "_law_reads" s__law_reads [] []
  f__law_spoilt_at : Raw K mg "_law_spoilt_at" s__law_spoilt_at [] []
  f__law_reads_near : Raw K mg "_law_reads_near" s__law_reads_near [] []
  f_law : Raw K mg "law" s_law [] []
  fi_BadNumber : ∃ fd, FunD K "__init__" "BadNumber.__init__" (defArgs s_BadNumber_init) (defBody s_BadNumber_init) (defScope s_BadNumber_init) [] [] (He.ma K (gA K "BadNumber") "__init__") fd
  i_BadNumber : XIn K (gA K "BadNumber") ["number"]
  fi_BadSpan : ∃ fd, FunD K "__init__" "BadSpan.__init__" (defArgs s_BadSpan_init) (defBody s_BadSpan_init) (defScope s_BadSpan_init) [] [] (He.ma K (gA K "BadSpan") "__init__") fd
  i_BadSpan : XIn K (gA K "BadSpan") ["low", "high"]
  fi_BadText : ∃ fd, FunD K "__init__" "BadText.__init__" (defArgs s_BadText_init) (defBody s_BadText_init) (defScope s_BadText_init) [] [] (He.ma K (gA K "BadText") "__init__") fd
  i_BadText : XIn K (gA K "BadText") ["line"]
  g_Span : mg "Span" = some (.ref (gA K "Span"))
  cl_Span : Cls K (gA K "Span")
  mk_Span : Mk K (gA K "Span") (He.ma K (gA K "Span") "__init__")
  no_Span : ∀ f ∈ (["low", "high"] : List Str), NoAttr K (gA K "Span") f
  ty_Span : TyC K (gA K "Span")
  sf_Span : PySem.W.selfFirst K (gA K "Span") = true
  f_Span___init__ : ∃ fd, FunD K "__init__" "Span.__init__" (defArgs s_Span___init__) (defBody s_Span___init__) (defScope s_Span___init__) [V.non, V.non] [] (He.ma K (gA K "Span") "__init__") fd
  c_Span_text : PropOf K (gA K "Span") "text" (He.ma K (gA K "Span") "text") (propG K (gA K "Span") "text")
  f_Span_text : ∃ fd, FunD K "text" "Span.text" (defArgs s_Span_text) (defBody s_Span_text) (defScope s_Span_text) [] [] (propG K (gA K "Span") "text") fd
  c_Span_parse : SMet K (gA K "Span") (.type "type") "parse" (He.ma K (gA K "Span") "parse") (He5.wf K (gA K "Span") "staticmethod" "parse")
  f_Span_parse : ∃ fd, FunD K "parse" "Span.parse" (defArgs s_Span_parse) (defBody s_Span_parse) (defScope s_Span_parse) [] [] (He5.wf K (gA K "Span") "staticmethod" "parse") fd
  cr_Span : ClX.CRead K (gA K "Span") (.type "type")
  g_BadNumber : mg "BadNumber" = some (.ref (gA K "BadNumber"))
  x_BadNumber : XC K (gA K "BadNumber")
  g_OutshinerError : mg "OutshinerError" = some (.ref (gA K "OutshinerError"))
  g_BadText : mg "BadText" = some (.ref (gA K "BadText"))
  x_BadText : XC K (gA K "BadText")
  g_BadSpan : mg "BadSpan" = some (.ref (gA K "BadSpan"))
  x_BadSpan : XC K (gA K "BadSpan")
  g_BadName : mg "BadName" = some (.ref (gA K "BadName"))
  c_LIMIT : ∃ t, mg "LIMIT" = some (.int 1000000000000 t)
  c_DIGITS : ∃ t, mg "DIGITS" = some (.str digS t)
  c_MOST_DIGITS : ∃ t, mg "MOST_DIGITS" = some (.int 13 t)
  b_list : mg "list" = none
  b_int : mg "int" = none
  b_max : mg "max" = none
  b_len : mg "len" = none
  b_range : mg "range" = none
  b_isinstance : mg "isinstance" = none
  b_bool : mg "bool" = none
  b_str : mg "str" = none
  b_tuple : mg "tuple" = none
  b_dict : mg "dict" = none
  b_ValueError : mg "ValueError" = none
  b_sorted : mg "sorted" = none
  b_min : mg "min" = none
  k_base : PySem.W.kitOne K (.ref (gA K "BadNumber")) (.ref (gA K "OutshinerError")) = some true
  k_t : PySem.W.kitAny K (.ref (gA K "BadNumber")) ([gA K "BadText", gA K "BadSpan", gA K "BadName"].map Value.ref) = some false
  k_base2 : PySem.W.kitOne K (.ref (gA K "BadText")) (.ref (gA K "OutshinerError")) = some true
  k_t2 : PySem.W.kitAny K (.ref (gA K "BadText")) ([gA K "BadNumber", gA K "BadSpan", gA K "BadName"].map Value.ref) = some false
  s_self : PySem.W.kitOne K (.ref (gA K "Span")) (.ref (gA K "Span")) = some true
def fa : List He.Fa := [.glo "_law_store", .glo "_law_stir", .glo "_law_take", .glo "_law_pick", .glo "_law_shuffled", .glo "_law_number", .glo "_law_clamped", .glo "_law_pool", .glo "_law_near", .glo "_law_bad_number", .glo "_law_sign", .glo "_law_is_number", .glo "is_number", .glo "check_number", .glo "check_end", .glo "number_text", .glo "is_digits", .glo "parse_number", .glo "end_text", .glo "parse_end", .glo "_law_match", .glo "_law_same", .glo "_law_ends", .glo "_law_read", .glo "_law_ends_text", .glo "_law_read_ends", .glo "_law_bent_text", .glo "_law_any_ends", .glo "_law_parsed", .glo "_law_parsed_number", .glo "_law_told_number", .glo "_law_reads", .glo "_law_spoilt_at", .glo "_law_reads_near", .glo "law", .glo "Span", .glo "BadNumber", .glo "OutshinerError", .glo "BadText", .glo "BadSpan", .glo "BadName", .int "LIMIT" 1000000000000, .str "DIGITS" digS, .int "MOST_DIGITS" 13, .free "list", .free "int", .free "max", .free "len", .free "range", .free "isinstance", .free "bool", .free "str", .free "tuple", .free "dict", .free "ValueError", .free "sorted", .free "min"]
def dd0 : He5.DefA := ⟨fun K => He.fAd K ("_law_store", none), "_law_store", "_law_store", defArgs s__law_store, defBody s__law_store, defScope s__law_store, [], []⟩
def dd1 : He5.DefA := ⟨fun K => He.fAd K ("_law_stir", none), "_law_stir", "_law_stir", defArgs s__law_stir, defBody s__law_stir, defScope s__law_stir, [], []⟩
def dd2 : He5.DefA := ⟨fun K => He.fAd K ("_law_take", none), "_law_take", "_law_take", defArgs s__law_take, defBody s__law_take, defScope s__law_take, [], []⟩
def dd3 : He5.DefA := ⟨fun K => He.fAd K ("_law_pick", none), "_law_pick", "_law_pick", defArgs s__law_pick, defBody s__law_pick, defScope s__law_pick, [], []⟩
def dd4 : He5.DefA := ⟨fun K => He.fAd K ("_law_shuffled", none), "_law_shuffled", "_law_shuffled", defArgs s__law_shuffled, defBody s__law_shuffled, defScope s__law_shuffled, [], []⟩
def dd5 : He5.DefA := ⟨fun K => He.fAd K ("_law_number", none), "_law_number", "_law_number", defArgs s__law_number, defBody s__law_number, defScope s__law_number, [], []⟩
def dd6 : He5.DefA := ⟨fun K => He.fAd K ("_law_clamped", none), "_law_clamped", "_law_clamped", defArgs s__law_clamped, defBody s__law_clamped, defScope s__law_clamped, [], []⟩
def dd7 : He5.DefA := ⟨fun K => He.fAd K ("_law_pool", none), "_law_pool", "_law_pool", defArgs s__law_pool, defBody s__law_pool, defScope s__law_pool, [], []⟩
def dd8 : He5.DefA := ⟨fun K => He.fAd K ("_law_near", none), "_law_near", "_law_near", defArgs s__law_near, defBody s__law_near, defScope s__law_near, [], []⟩
def dd9 : He5.DefA := ⟨fun K => He.fAd K ("_law_bad_number", none), "_law_bad_number", "_law_bad_number", defArgs s__law_bad_number, defBody s__law_bad_number, defScope s__law_bad_number, [], []⟩
def dd10 : He5.DefA := ⟨fun K => He.fAd K ("_law_sign", none), "_law_sign", "_law_sign", defArgs s__law_sign, defBody s__law_sign, defScope s__law_sign, [], []⟩
def dd11 : He5.DefA := ⟨fun K => He.fAd K ("_law_is_number", none), "_law_is_number", "_law_is_number", defArgs s__law_is_number, defBody s__law_is_number, defScope s__law_is_number, [], []⟩
def dd12 : He5.DefA := ⟨fun K => He.fAd K ("is_number", none), "is_number", "is_number", defArgs s_is_number, defBody s_is_number, defScope s_is_number, [], []⟩
def dd13 : He5.DefA := ⟨fun K => He.fAd K ("check_number", none), "check_number", "check_number", defArgs s_check_number, defBody s_check_number, defScope s_check_number, [], []⟩
def dd14 : He5.DefA := ⟨fun K => He.fAd K ("check_end", none), "check_end", "check_end", defArgs s_check_end, defBody s_check_end, defScope s_check_end, [], []⟩
def dd15 : He5.DefA := ⟨fun K => He.fAd K ("number_text", none), "number_text", "number_text", defArgs s_number_text, defBody s_number_text, defScope s_number_text, [], []⟩
def dd16 : He5.DefA := ⟨fun K => He.fAd K ("is_digits", none), "is_digits", "is_digits", defArgs s_is_digits, defBody s_is_digits, defScope s_is_digits, [], []⟩
def dd17 : He5.DefA := ⟨fun K => He.fAd K ("parse_number", none), "parse_number", "parse_number", defArgs s_parse_number, defBody s_parse_number, defScope s_parse_number, [], []⟩
def dd18 : He5.DefA := ⟨fun K => He.fAd K ("end_text", none), "end_text", "end_text", defArgs s_end_text, defBody s_end_text, defScope s_end_text, [], []⟩
def dd19 : He5.DefA := ⟨fun K => He.fAd K ("parse_end", none), "parse_end", "parse_end", defArgs s_parse_end, defBody s_parse_end, defScope s_parse_end, [], []⟩
def dd20 : He5.DefA := ⟨fun K => He.fAd K ("_law_match", none), "_law_match", "_law_match", defArgs s__law_match, defBody s__law_match, defScope s__law_match, [], []⟩
def dd21 : He5.DefA := ⟨fun K => He.fAd K ("_law_same", none), "_law_same", "_law_same", defArgs s__law_same, defBody s__law_same, defScope s__law_same, [], []⟩
def dd22 : He5.DefA := ⟨fun K => He.fAd K ("_law_ends", none), "_law_ends", "_law_ends", defArgs s__law_ends, defBody s__law_ends, defScope s__law_ends, [], []⟩
def dd23 : He5.DefA := ⟨fun K => He.fAd K ("_law_read", none), "_law_read", "_law_read", defArgs s__law_read, defBody s__law_read, defScope s__law_read, [], []⟩
def dd24 : He5.DefA := ⟨fun K => He.fAd K ("_law_ends_text", none), "_law_ends_text", "_law_ends_text", defArgs s__law_ends_text, defBody s__law_ends_text, defScope s__law_ends_text, [], []⟩
def dd25 : He5.DefA := ⟨fun K => He.fAd K ("_law_read_ends", none), "_law_read_ends", "_law_read_ends", defArgs s__law_read_ends, defBody s__law_read_ends, defScope s__law_read_ends, [], []⟩
def dd26 : He5.DefA := ⟨fun K => He.fAd K ("_law_bent_text", none), "_law_bent_text", "_law_bent_text", defArgs s__law_bent_text, defBody s__law_bent_text, defScope s__law_bent_text, [], []⟩
def dd27 : He5.DefA := ⟨fun K => He.fAd K ("_law_any_ends", none), "_law_any_ends", "_law_any_ends", defArgs s__law_any_ends, defBody s__law_any_ends, defScope s__law_any_ends, [], []⟩
def dd28 : He5.DefA := ⟨fun K => He.fAd K ("_law_parsed", none), "_law_parsed", "_law_parsed", defArgs s__law_parsed, defBody s__law_parsed, defScope s__law_parsed, [], []⟩
def dd29 : He5.DefA := ⟨fun K => He.fAd K ("_law_parsed_number", none), "_law_parsed_number", "_law_parsed_number", defArgs s__law_parsed_number, defBody s__law_parsed_number, defScope s__law_parsed_number, [], []⟩
def dd30 : He5.DefA := ⟨fun K => He.fAd K ("_law_told_number", none), "_law_told_number", "_law_told_number", defArgs s__law_told_number, defBody s__law_told_number, defScope s__law_told_number, [], []⟩
def dd31 : He5.DefA := ⟨fun K => He.fAd K ("_law_reads", none), "_law_reads", "_law_reads", defArgs s__law_reads, defBody s__law_reads, defScope s__law_reads, [], []⟩
def dd32 : He5.DefA := ⟨fun K => He.fAd K ("_law_spoilt_at", none), "_law_spoilt_at", "_law_spoilt_at", defArgs s__law_spoilt_at, defBody s__law_spoilt_at, defScope s__law_spoilt_at, [], []⟩
def dd33 : He5.DefA := ⟨fun K => He.fAd K ("_law_reads_near", none), "_law_reads_near", "_law_reads_near", defArgs s__law_reads_near, defBody s__law_reads_near, defScope s__law_reads_near, [], []⟩
def dd34 : He5.DefA := ⟨fun K => He.fAd K ("law", none), "law", "law", defArgs s_law, defBody s_law, defScope s_law, [], []⟩
def dd35 : He5.DefA := ⟨fun K => He.fAd K ("BadNumber", some "__init__"), "__init__", "BadNumber.__init__", defArgs s_BadNumber_init, defBody s_BadNumber_init, defScope s_BadNumber_init, [], []⟩
def dd36 : He5.DefA := ⟨fun K => He.fAd K ("BadSpan", some "__init__"), "__init__", "BadSpan.__init__", defArgs s_BadSpan_init, defBody s_BadSpan_init, defScope s_BadSpan_init, [], []⟩
def dd37 : He5.DefA := ⟨fun K => He.fAd K ("BadText", some "__init__"), "__init__", "BadText.__init__", defArgs s_BadText_init, defBody s_BadText_init, defScope s_BadText_init, [], []⟩
def dd38 : He5.DefA := ⟨fun K => He.ma K (gA K "Span") "__init__", "__init__", "Span.__init__", defArgs s_Span___init__, defBody s_Span___init__, defScope s_Span___init__, [.non, .non], []⟩
def dd39 : He5.DefA := ⟨fun K => propG K (gA K "Span") "text", "text", "Span.text", defArgs s_Span_text, defBody s_Span_text, defScope s_Span_text, [], []⟩
def dd40 : He5.DefA := ⟨fun K => He5.wf K (gA K "Span") "staticmethod" "parse", "parse", "Span.parse", defArgs s_Span_parse, defBody s_Span_parse, defScope s_Span_parse, [], []⟩
def fn : List He5.DefA := [dd0, dd1, dd2, dd3, dd4, dd5, dd6, dd7, dd8, dd9, dd10, dd11, dd12, dd13, dd14, dd15, dd16, dd17, dd18, dd19, dd20, dd21, dd22, dd23, dd24, dd25, dd26, dd27, dd28, dd29, dd30, dd31, dd32, dd33, dd34, dd35, dd36, dd37, dd38, dd39, dd40]
def exL (K : PySem.W.Frag) : List Bool := [xinB K (gA K "BadNumber") ["number"], xinB K (gA K "BadSpan") ["low", "high"], xinB K (gA K "BadText") ["line"], clsB K (gA K "Span"), mkB K (gA K "Span"), noB K (gA K "Span") ["low", "high"], tyCB K (gA K "Span"), PySem.W.selfFirst K (gA K "Span"), propB K (gA K "Span") "text", smetB K (gA K "Span") "parse", creadB K (gA K "Span"), xcB K (gA K "BadNumber"), xcB K (gA K "BadText"), xcB K (gA K "BadSpan"), decide (PySem.W.kitOne K (.ref (gA K "BadNumber")) (.ref (gA K "OutshinerError")) = some true), decide (PySem.W.kitAny K (.ref (gA K "BadNumber")) ([gA K "BadText", gA K "BadSpan", gA K "BadName"].map Value.ref) = some false), decide (PySem.W.kitOne K (.ref (gA K "BadText")) (.ref (gA K "OutshinerError")) = some true), decide (PySem.W.kitAny K (.ref (gA K "BadText")) ([gA K "BadNumber", gA K "BadSpan", gA K "BadName"].map Value.ref) = some false), decide (PySem.W.kitOne K (.ref (gA K "Span")) (.ref (gA K "Span")) = some true)]
def exB (K : PySem.W.Frag) : Bool := (exL K).all id
theorem exB_at {K : PySem.W.Frag} (h : exB K = true) (i : Nat) {b : Bool} (e : (exL K)[i]? = some b) : b = true := List.all_eq_true.mp h b (List.mem_of_getElem? e)
theorem txt_of {K : PySem.W.Frag} {h : Heap} {mg : Str → Option Value} (X : K.In h) (G : h.Ns mainGlobals mg) (c : SaysQ fa fn exB K) : Txt K mg where
  f__law_store := by
    obtain ⟨fd, F⟩ := c.d.def_ 0 rfl
    exact ⟨⟨_, fd, He.glo_ok X G (c.d.fact 0 (f := .glo "_law_store") rfl), F⟩⟩
  f__law_stir := by
    obtain ⟨fd, F⟩ := c.d.def_ 1 rfl
    exact ⟨⟨_, fd, He.glo_ok X G (c.d.fact 1 (f := .glo "_law_stir") rfl), F⟩⟩
  f__law_take := by
    obtain ⟨fd, F⟩ := c.d.def_ 2 rfl
    exact ⟨⟨_, fd, He.glo_ok X G (c.d.fact 2 (f := .glo "_law_take") rfl), F⟩⟩
  f__law_pick := by
    obtain ⟨fd, F⟩ := c.d.def_ 3 rfl
    exact ⟨⟨_, fd, He.glo_ok X G (c.d.fact 3 (f := .glo "_law_pick") rfl), F⟩⟩
  f__law_shuffled := by
    obtain ⟨fd, F⟩ := c.d.def_ 4 rfl
    exact ⟨⟨_, fd, He.glo_ok X G (c.d.fact 4 (f := .glo "_law_shuffled") rfl), F⟩⟩
  f__law_number := by
    obtain ⟨fd, F⟩ := c.d.def_ 5 rfl
    exact ⟨⟨_, fd, He.glo_ok X G (c.d.fact 5 (f := .glo "_law_number") rfl), F⟩⟩
  f__law_clamped := by
    obtain ⟨fd, F⟩ := c.d.def_ 6 rfl
    exact ⟨⟨_, fd, He.glo_ok X G (c.d.fact 6 (f := .glo "_law_clamped") rfl), F⟩⟩
  f__law_pool := by
    obtain ⟨fd, F⟩ := c.d.def_ 7 rfl
    exact ⟨⟨_, fd, He.glo_ok X G (c.d.fact 7 (f := .glo "_law_pool") rfl), F⟩⟩
  f__law_near := by
    obtain ⟨fd, F⟩ := c.d.def_ 8 rfl
    exact ⟨⟨_, fd, He.glo_ok X G (c.d.fact 8 (f := .glo "_law_near") rfl), F⟩⟩
  f__law_bad_number := by
    obtain ⟨fd, F⟩ := c.d.def_ 9 rfl
    exact ⟨⟨_, fd, He.glo_ok X G (c.d.fact 9 (f := .glo "_law_bad_number") rfl), F⟩⟩
  f__law_sign := by
    obtain ⟨fd, F⟩ := c.d.def_ 10 rfl
    exact ⟨⟨_, fd, He.glo_ok X G (c.d.fact 10 (f := .glo "_law_sign") rfl), F⟩⟩
  f__law_is_number := by
    obtain ⟨fd, F⟩ := c.d.def_ 11 rfl
    exact ⟨⟨_, fd, He.glo_ok X G (c.d.fact 11 (f := .glo "_law_is_number") rfl), F⟩⟩
  f_is_number := by
    obtain ⟨fd, F⟩ := c.d.def_ 12 rfl
    exact ⟨⟨_, fd, He.glo_ok X G (c.d.fact 12 (f := .glo "is_number") rfl), F⟩⟩
  f_check_number := by
    obtain ⟨fd, F⟩ := c.d.def_ 13 rfl
    exact ⟨⟨_, fd, He.glo_ok X G (c.d.fact 13 (f := .glo "check_number") rfl), F⟩⟩
  f_check_end := by
    obtain ⟨fd, F⟩ := c.d.def_ 14 rfl
    exact ⟨⟨_, fd, He.glo_ok X G (c.d.fact 14 (f := .glo "check_end") rfl), F⟩⟩
  f_number_text := by
    obtain ⟨fd, F⟩ := c.d.def_ 15 rfl
    exact ⟨⟨_, fd, He.glo_ok X G (c.d.fact 15 (f := .glo "number_text") rfl), F⟩⟩
  f_is_digits := by
    obtain ⟨fd, F⟩ := c.d.def_ 16 rfl
    exact ⟨⟨_, fd, He.glo_ok X G (c.d.fact 16 (f := .glo "is_digits") rfl), F⟩⟩
  f_parse_number := by
    obtain ⟨fd, F⟩ := c.d.def_ 17 rfl
    exact ⟨⟨_, fd, He.glo_ok X G (c.d.fact 17 (f := .glo "parse_number") rfl), F⟩⟩
  f_end_text := by
    obtain ⟨fd, F⟩ := c.d.def_ 18 rfl
    exact ⟨⟨_, fd, He.glo_ok X G (c.d.fact 18 (f := .glo "end_text") rfl), F⟩⟩
  f_parse_end := by
    obtain ⟨fd, F⟩ := c.d.def_ 19 rfl
    exact ⟨⟨_, fd, He.glo_ok X G (c.d.fact 19 (f := .glo "parse_end") rfl), F⟩⟩
  f__law_match := by
    obtain ⟨fd, F⟩ := c.d.def_ 20 rfl
    exact ⟨⟨_, fd, He.glo_ok X G (c.d.fact 20 (f := .glo "_law_match") rfl), F⟩⟩
  f__law_same := by
    obtain ⟨fd, F⟩ := c.d.def_ 21 rfl
    exact ⟨⟨_, fd, He.glo_ok X G (c.d.fact 21 (f := .glo "_law_same") rfl), F⟩⟩
  f__law_ends := by
    obtain ⟨fd, F⟩ := c.d.def_ 22 rfl
    exact ⟨⟨_, fd, He.glo_ok X G (c.d.fact 22 (f := .glo "_law_ends") rfl), F⟩⟩
  f__law_read := by
    obtain ⟨fd, F⟩ := c.d.def_ 23 rfl
    exact ⟨⟨_, fd, He.glo_ok X G (c.d.fact 23 (f := .glo "_law_read") rfl), F⟩⟩
  f__law_ends_text := by
    obtain ⟨fd, F⟩ := c.d.def_ 24 rfl
    exact ⟨⟨_, fd, He.glo_ok X G (c.d.fact 24 (f := .glo "_law_ends_text") rfl), F⟩⟩
  f__law_read_ends := by
    obtain ⟨fd, F⟩ := c.d.def_ 25 rfl
    exact ⟨⟨_, fd, He.glo_ok X G (c.d.fact 25 (f := .glo "_law_read_ends") rfl), F⟩⟩
  f__law_bent_text := by
    obtain ⟨fd, F⟩ := c.d.def_ 26 rfl
    exact ⟨⟨_, fd, He.glo_ok X G (c.d.fact 26 (f := .glo "_law_bent_text") rfl), F⟩⟩
  f__law_any_ends := by
    obtain ⟨fd, F⟩ := c.d.def_ 27 rfl
    exact ⟨⟨_, fd, He.glo_ok X G (c.d.fact 27 (f := .glo "_law_any_ends") rfl), F⟩⟩
  f__law_parsed := by
    obtain ⟨fd, F⟩ := c.d.def_ 28 rfl
    exact ⟨⟨_, fd, He.glo_ok X G (c.d.fact 28 (f := .glo "_law_parsed") rfl), F⟩⟩
  f__law_parsed_number := by
    obtain ⟨fd, F⟩ := c.d.def_ 29 rfl
    exact ⟨⟨_, fd, He.glo_ok X G (c.d.fact 29 (f := .glo "_law_parsed_number") rfl), F⟩⟩
  f__law_told_number := by
    obtain ⟨fd, F⟩ := c.d.def_ 30 rfl
    exact ⟨⟨_, fd, He.glo_ok X G (c.d.fact 30 (f := .glo "_law_told_number") rfl), F⟩⟩
  f__law_reads := by
    obtain ⟨fd, F⟩ := c.d.def_ 31 rfl
    exact ⟨⟨_, fd, He.glo_ok X G (c.d.fact 31 (f := .glo "_law_reads") rfl), F⟩⟩
  f__law_spoilt_at := by
    obtain ⟨fd, F⟩ := c.d.def_ 32 rfl
    exact ⟨⟨_, fd, He.glo_ok X G (c.d.fact 32 (f := .glo "_law_spoilt_at") rfl), F⟩⟩
  f__law_reads_near := by
    obtain ⟨fd, F⟩ := c.d.def_ 33 rfl
    exact ⟨⟨_, fd, He.glo_ok X G (c.d.fact 33 (f := .glo "_law_reads_near") rfl), F⟩⟩
  f_law := by
    obtain ⟨fd, F⟩ := c.d.def_ 34 rfl
    exact ⟨⟨_, fd, He.glo_ok X G (c.d.fact 34 (f := .glo "law") rfl), F⟩⟩
  fi_BadNumber := c.d.def_ 35 rfl
  i_BadNumber := xinB_ok (exB_at c.x 0 rfl)
  fi_BadSpan := c.d.def_ 36 rfl
  i_BadSpan := xinB_ok (exB_at c.x 1 rfl)
  fi_BadText := c.d.def_ 37 rfl
  i_BadText := xinB_ok (exB_at c.x 2 rfl)
  g_Span := He.glo_ok X G (c.d.fact 35 (f := .glo "Span") rfl)
  cl_Span := clsB_ok (exB_at c.x 3 rfl)
  mk_Span := mkB_ok (exB_at c.x 4 rfl)
  no_Span := noB_ok (exB_at c.x 5 rfl)
  ty_Span := tyCB_ok (exB_at c.x 6 rfl)
  sf_Span := id (exB_at c.x 7 rfl)
  f_Span___init__ := c.d.def_ 38 rfl
  c_Span_text := propB_ok (exB_at c.x 8 rfl)
  f_Span_text := c.d.def_ 39 rfl
  c_Span_parse := smetB_ok (exB_at c.x 9 rfl)
  f_Span_parse := c.d.def_ 40 rfl
  cr_Span := creadB_ok (exB_at c.x 10 rfl)
  g_BadNumber := He.glo_ok X G (c.d.fact 36 (f := .glo "BadNumber") rfl)
  x_BadNumber := xcB_ok (exB_at c.x 11 rfl)
  g_OutshinerError := He.glo_ok X G (c.d.fact 37 (f := .glo "OutshinerError") rfl)
  g_BadText := He.glo_ok X G (c.d.fact 38 (f := .glo "BadText") rfl)
  x_BadText := xcB_ok (exB_at c.x 12 rfl)
  g_BadSpan := He.glo_ok X G (c.d.fact 39 (f := .glo "BadSpan") rfl)
  x_BadSpan := xcB_ok (exB_at c.x 13 rfl)
  g_BadName := He.glo_ok X G (c.d.fact 40 (f := .glo "BadName") rfl)
  c_LIMIT := He.int_ok X G (c.d.fact 41 (f := .int "LIMIT" 1000000000000) rfl)
  c_DIGITS := He.str_ok X G (c.d.fact 42 (f := .str "DIGITS" digS) rfl)
  c_MOST_DIGITS := He.int_ok X G (c.d.fact 43 (f := .int "MOST_DIGITS" 13) rfl)
  b_list := He.free_ok X G (c.d.fact 44 (f := .free "list") rfl)
  b_int := He.free_ok X G (c.d.fact 45 (f := .free "int") rfl)
  b_max := He.free_ok X G (c.d.fact 46 (f := .free "max") rfl)
  b_len := He.free_ok X G (c.d.fact 47 (f := .free "len") rfl)
  b_range := He.free_ok X G (c.d.fact 48 (f := .free "range") rfl)
  b_isinstance := He.free_ok X G (c.d.fact 49 (f := .free "isinstance") rfl)
  b_bool := He.free_ok X G (c.d.fact 50 (f := .free "bool") rfl)
  b_str := He.free_ok X G (c.d.fact 51 (f := .free "str") rfl)
  b_tuple := He.free_ok X G (c.d.fact 52 (f := .free "tuple") rfl)
  b_dict := He.free_ok X G (c.d.fact 53 (f := .free "dict") rfl)
  b_ValueError := He.free_ok X G (c.d.fact 54 (f := .free "ValueError") rfl)
  b_sorted := He.free_ok X G (c.d.fact 55 (f := .free "sorted") rfl)
  b_min := He.free_ok X G (c.d.fact 56 (f := .free "min") rfl)
  k_base := of_decide_eq_true (exB_at c.x 14 rfl)
  k_t := of_decide_eq_true (exB_at c.x 15 rfl)
  k_base2 := of_decide_eq_true (exB_at c.x 16 rfl)
  k_t2 := of_decide_eq_true (exB_at c.x 17 rfl)
  s_self := of_decide_eq_true (exB_at c.x 18 rfl)
section
variable {P : Program} {w : World} {K : PySem.W.Frag} {mg : Str → Option Value} {base : Heap}
theorem sci_BadNumber : FnScope ["self", "number"] ["self", "number"] (defScope s_BadNumber_init) := ⟨rfl, rfl, rfl, by decide +kernel, rfl, by decide +kernel, by decide +kernel⟩
theorem Di_BadNumber (T : Txt K mg) : ∃ fd, Binds K fd ["self", "number"] [] ∧ FnOk P w K mg base CX0 1 (He.ma K (gA K "BadNumber") "__init__") fd ["self", "number"] (Sp2 (pInit1 K (gA K "BadNumber") "number")) := by
  obtain ⟨fd, F⟩ := T.fi_BadNumber
  refine ⟨fd, F.bindsN (ps := ["self", "number"]) (fun _ _ _ _ _ _ us hl => match us, hl with | [_, _], _ => rfl), ?_⟩
  refine F.ok (CX := CX0) sci_BadNumber len2 (fun cdv A outer s H vs Q E hr h => ?_)
  obtain ⟨v0, v1, rfl, a, rfl, ha, k⟩ := h
  refine ⟨_, PSs.nox (pss_one (ps_ost (pv 0) (pv 1))), ?_⟩
  refine ⟨_, rfl, _, rfl, a, _, rfl, T.x_BadNumber.oex, T.i_BadNumber.no "number" (by decide +kernel), .inl ⟨ha, fun dx hd hn => ?_⟩⟩
  exact k dx hd hn
theorem sci_BadSpan : FnScope ["self", "low", "high"] ["self", "low", "high"] (defScope s_BadSpan_init) := ⟨rfl, rfl, rfl, by decide +kernel, rfl, by decide +kernel, by decide +kernel⟩
theorem Di_BadSpan (T : Txt K mg) : ∃ fd, Binds K fd ["self", "low", "high"] [] ∧ FnOk P w K mg base CX0 1 (He.ma K (gA K "BadSpan") "__init__") fd ["self", "low", "high"] (Sp3 (pInit2 K (gA K "BadSpan") "low" "high")) := by
  obtain ⟨fd, F⟩ := T.fi_BadSpan
  refine ⟨fd, F.bindsN (ps := ["self", "low", "high"]) (fun _ _ _ _ _ _ us hl => match us, hl with | [_, _, _], _ => rfl), ?_⟩
  refine F.ok (CX := CX0) sci_BadSpan len3 (fun cdv A outer s H vs Q E hr h => ?_)
  obtain ⟨v0, v1, v2, rfl, a, rfl, ha, k⟩ := h
  refine ⟨_, PSs.nox (pss_cons (ps_ost (pv 0) (pv 1)) (pss_one (ps_ost (pv 0) (pv 2)))), ?_⟩
  refine ⟨_, rfl, _, rfl, a, _, rfl, T.x_BadSpan.oex, T.i_BadSpan.no "low" (by decide +kernel), .inl ⟨ha, fun dx hd hn => ?_⟩⟩
  exact ⟨_, rfl, _, rfl, a, _, rfl, T.x_BadSpan.oex, T.i_BadSpan.no "high" (by decide +kernel), .inr ⟨dx, _, upd_same, by rw [upd_ne hn, upd_same], by show 1 ≤ 900; decide, k dx hd hn⟩⟩
theorem sci_BadText : FnScope ["self", "line"] ["self", "line"] (defScope s_BadText_init) := ⟨rfl, rfl, rfl, by decide +kernel, rfl, by decide +kernel, by decide +kernel⟩
theorem Di_BadText (T : Txt K mg) : ∃ fd, Binds K fd ["self", "line"] [] ∧ FnOk P w K mg base CX0 1 (He.ma K (gA K "BadText") "__init__") fd ["self", "line"] (Sp2 (pInit1 K (gA K "BadText") "line")) := by
  obtain ⟨fd, F⟩ := T.fi_BadText
  refine ⟨fd, F.bindsN (ps := ["self", "line"]) (fun _ _ _ _ _ _ us hl => match us, hl with | [_, _], _ => rfl), ?_⟩
  refine F.ok (CX := CX0) sci_BadText len2 (fun cdv A outer s H vs Q E hr h => ?_)
  obtain ⟨v0, v1, rfl, a, rfl, ha, k⟩ := h
  refine ⟨_, PSs.nox (pss_one (ps_ost (pv 0) (pv 1))), ?_⟩
  refine ⟨_, rfl, _, rfl, a, _, rfl, T.x_BadText.oex, T.i_BadText.no "line" (by decide +kernel), .inl ⟨ha, fun dx hd hn => ?_⟩⟩
  exact k dx hd hn
end
end Q
namespace Q
section
variable {P : Program} {w : World} {K : PySem.W.Frag} {mg : Str → Option Value} {base : Heap}
abbrev N__law_store : List Str := ["_law_script"]
theorem sc__law_store : FnScope N__law_store ["_law_script"] (defScope s__law_store) := ⟨rfl, rfl, rfl, by decide +kernel, rfl, by decide +kernel, by decide +kernel⟩
set_option maxHeartbeats 4000000 in
theorem D_law_store  (T : Txt K mg) : Def P w K mg base CX0 (1) "_law_store" s__law_store ["_law_script"] (Sp1 (pStore K)) := by
  obtain ⟨f, fd, m, F⟩ := T.f__law_store.ex
  refine ⟨f, fd, m, F.kp, F.bindsN (ps := ["_law_script"]) (fun _ _ _ _ _ _ us hl => match us, hl with | [_], _ => rfl), ?_, F⟩
  refine F.ok (CX := CX0) sc__law_store len1 (fun cdv A outer s H vs Q E hr h => ?_)
  obtain ⟨v0, rfl, h⟩ := h
  refine ⟨_, PSs.nox (pss_one (ps_ret (pe_lst (pa_cons (pe_callTy call_list0 (by rfl) T.b_list (by decide +kernel) (pa_cons (pv 0) pa_nil)) (pa_cons pe_int (pa_cons pe_int (pa_cons pe_int (pa_cons pe_int (pa_cons pe_int (pa_cons pe_int pa_nil)))))))))), ?_⟩
  try dsimp only [cxOf, Cx.nox, Cx.wish]
  rw [show start N__law_store [v0] = [some v0] from rfl]
  obtain ⟨a, ns, rfl, hs, k⟩ := h
  walk_at "go"
  refine ⟨a, _, rfl, .inl hs, fun l hl => ?_⟩
  walk_at "go"
  refine ⟨by show 7 ≤ sizeLine; decide, fun p hp => ?_⟩
  walk_at "go"
  have hpl : p ≠ l := fun e => by
    rw [e, upd_same] at hp
    cases hp
  have hp0 : H p = none := by
    rw [upd_ne hpl] at hp
    exact hp
  refine k p _ ((Dx.new hl).trans (Dx.new hp)) hp0 ⟨rfl, fun x e => ?_, ⟨l, 0, 0, 0, 0, 1, 1, ns, upd_same, ?_, Ne.symm hpl, by decide, by decide, by decide⟩⟩
  · have e' : x = p := e
    rw [e', upd_same]
    exact fun z => by cases z
  · rw [upd_ne (Ne.symm hpl), upd_same]
abbrev N__law_stir : List Str := ["_law_store_here", "_law_cell", "_law_one", "_law_two"]
theorem sc__law_stir : FnScope N__law_stir ["_law_store_here", "_law_cell"] (defScope s__law_stir) := ⟨rfl, rfl, rfl, by decide +kernel, rfl, by decide +kernel, by decide +kernel⟩
set_option maxHeartbeats 4000000 in
theorem D_law_stir  (T : Txt K mg) : Def P w K mg base CX0 (1) "_law_stir" s__law_stir ["_law_store_here", "_law_cell"] (Sp2 pStir) := by
  obtain ⟨f, fd, m, F⟩ := T.f__law_stir.ex
  refine ⟨f, fd, m, F.kp, F.bindsN (ps := ["_law_store_here", "_law_cell"]) (fun _ _ _ _ _ _ us hl => match us, hl with | [_, _], _ => rfl), ?_, F⟩
  refine F.ok (CX := CX0) sc__law_stir len2 (fun cdv A outer s H vs Q E hr h => ?_)
  obtain ⟨v0, v1, rfl, h⟩ := h
  refine ⟨_, PSs.nox (pss_cons (ps_asg (pe_op op_addU (pe_callTy call_int0 (by rfl) T.b_int (by decide +kernel) (pa_cons (pe_ix ix_U (pv 0) pe_int (fun _ _ => rfl)) pa_nil)) pe_int) (pg_sub (pv 0) pe_int set_list))
      (pss_cons (ps_set (i := 2) sc__law_stir.nd rfl (Or.inl rfl) (pe_op op_addU (pe_op op_addU (pe_op op_mul0 (pe_callTy call_int0 (by rfl) T.b_int (by decide +kernel) (pa_cons (pe_ix ix_U (pv 0) pe_int (fun _ _ => rfl)) pa_nil)) pe_int) (pe_op op_mod0 (pe_callTy call_int0 (by rfl) T.b_int (by decide +kernel) (pa_cons (pv 1) pa_nil)) pe_int)) (pe_callTy call_int0 (by rfl) T.b_int (by decide +kernel) (pa_cons (pe_ix ix_U (pv 0) pe_int (fun _ _ => rfl)) pa_nil))))
      (pss_cons (ps_asg (pe_op op_mod0 (pe_callTy call_int0 (by rfl) T.b_int (by decide +kernel) (pa_cons (pv 2) pa_nil)) pe_int) (pg_sub (pv 0) pe_int set_list))
      (pss_cons (ps_set (i := 3) sc__law_stir.nd rfl (Or.inl rfl) (pe_op op_addU (pe_op op_addU (pe_op op_addU (pe_op op_mul0 (pe_callTy call_int0 (by rfl) T.b_int (by decide +kernel) (pa_cons (pe_ix ix_U (pv 0) pe_int (fun _ _ => rfl)) pa_nil)) pe_int) (pe_op op_mul0 (pe_callTy call_int0 (by rfl) T.b_int (by decide +kernel) (pa_cons (pe_ix ix_U (pv 0) pe_int (fun _ _ => rfl)) pa_nil)) pe_int)) (pe_op op_mod0 (pe_callTy call_int0 (by rfl) T.b_int (by decide +kernel) (pa_cons (pv 1) pa_nil)) pe_int)) (pe_callTy call_int0 (by rfl) T.b_int (by decide +kernel) (pa_cons (pe_ix ix_U (pv 0) pe_int (fun _ _ => rfl)) pa_nil))))
      (pss_one (ps_asg (pe_op op_mod0 (pe_callTy call_int0 (by rfl) T.b_int (by decide +kernel) (pa_cons (pv 3) pa_nil)) pe_int) (pg_sub (pv 0) pe_int set_list))))))), ?_⟩
  try dsimp only [cxOf, Cx.nox, Cx.wish]
  rw [show start N__law_stir [v0, v1] = [some v0, some v1, none, none] from rfl]
  obtain ⟨c, p, i, rest, left, n, a, b, cell, rfl, rfl, hc, ha, hb, k⟩ := h
  unfold stL at hc
  walk_at "go"
  refine go_ixL (SqL.of hc) (atI_nat (j := 4) rfl) ?_
  walk_at "go"
  refine go_setL hc (k := 4) (by rfl) ?_
  walk_at "go"
  refine go_ixL (SqL.of upd_same) (atI_nat (j := 5) rfl) ?_
  walk_at "go"
  walk_at "go"
  refine go_ixL (SqL.of upd_same) (atI_nat (j := 4) rfl) ?_
  walk_at "go"
  refine go_setL upd_same (k := 5) (by rfl) ?_
  walk_at "go"
  refine go_ixL (SqL.of upd_same) (atI_nat (j := 6) rfl) ?_
  walk_at "go"
  walk_at "go"
  refine go_ixL (SqL.of upd_same) (atI_nat (j := 5) rfl) ?_
  walk_at "go"
  walk_at "go"
  refine go_ixL (SqL.of upd_same) (atI_nat (j := 4) rfl) ?_
  walk_at "go"
  refine go_setL upd_same (k := 6) (by rfl) ?_
  walk_at "go"
  rw [upd_upd, upd_upd]
  exact k _ _ _ _ ⟨Int.emod_nonneg _ (by decide), Int.emod_lt_of_pos _ (by decide)⟩ ⟨Int.emod_nonneg _ (by decide), Int.emod_lt_of_pos _ (by decide)⟩ rfl
abbrev N__law_take : List Str := ["_law_store_here", "_law_many", "_law_cells", "_law_cell", "_law_rest"]
theorem sc__law_take : FnScope N__law_take ["_law_store_here", "_law_many"] (defScope s__law_take) := ⟨rfl, rfl, rfl, by decide +kernel, rfl, by decide +kernel, by decide +kernel⟩
set_option maxHeartbeats 4000000 in
theorem D_law_take  (T : Txt K mg) : Def P w K mg base CX0 (2) "_law_take" s__law_take ["_law_store_here", "_law_many"] (Sp2 pTake) := by
  obtain ⟨f, fd, m, F⟩ := T.f__law_take.ex
  refine ⟨f, fd, m, F.kp, F.bindsN (ps := ["_law_store_here", "_law_many"]) (fun _ _ _ _ _ _ us hl => match us, hl with | [_, _], _ => rfl), ?_, F⟩
  obtain ⟨f_law_stir, fd_law_stir, m_law_stir, kp_law_stir, b_law_stir, G_law_stir, F_law_stir⟩ := (D_law_stir (P := P) (w := w) (base := base) T).ex
  refine F.ok (CX := CX0) sc__law_take len2 (fun cdv A outer s H vs Q E hr h => ?_)
  obtain ⟨v0, v1, rfl, h⟩ := h
  refine ⟨_, PSs.nox (pss_cons (ps_set (i := 1) sc__law_take.nd rfl (Or.inl rfl) (pe_callB (call_max0 rfl) (by rfl) T.b_max (by decide +kernel) (pa_cons pe_int (pa_cons (pe_callTy call_int0 (by rfl) T.b_int (by decide +kernel) (pa_cons (pv 1) pa_nil)) pa_nil))))
      (pss_cons (ps_set (i := 2) sc__law_take.nd rfl (Or.inl rfl) (pe_ix ix_U (pv 0) pe_int (fun _ _ => rfl)))
      (C8.pss_cut (ps_if (PW.pt (pw_and (pt_cmpR op_eq (pe_callTy call_int0 (by rfl) T.b_int (by decide +kernel) (pa_cons (pe_ix ix_U (pv 0) pe_int (fun _ _ => rfl)) pa_nil)) pe_int (nomark _)) (pw_and (pt_cmpR op_eq (pe_callTy call_int0 (by rfl) T.b_int (by decide +kernel) (pa_cons (pe_ix ix_U (pv 0) pe_int (fun _ _ => rfl)) pa_nil)) pe_int (nomark _)) (pw_and1 (pt_cmpR op_ltU (pe_callTy call_int0 (by rfl) T.b_int (by decide +kernel) (pa_cons (pe_ix ix_U (pv 0) pe_int (fun _ _ => rfl)) pa_nil)) (pe_callB call_lenU (by rfl) T.b_len (by decide +kernel) (pa_cons (pv 2) pa_nil)) (nomark _)))))) (pss_cons (ps_set (i := 3) sc__law_take.nd rfl (Or.inl rfl) (pe_callTy call_int0 (by rfl) T.b_int (by decide +kernel) (pa_cons (pe_ix ix_U (pv 2) (pe_callTy call_int0 (by rfl) T.b_int (by decide +kernel) (pa_cons (pe_ix ix_U (pv 0) pe_int (fun _ _ => rfl)) pa_nil)) (fun _ _ => rfl)) pa_nil)))
      (pss_cons (ps_asg (pe_op op_addU (pe_callTy call_int0 (by rfl) T.b_int (by decide +kernel) (pa_cons (pe_ix ix_U (pv 0) pe_int (fun _ _ => rfl)) pa_nil)) pe_int) (pg_sub (pv 0) pe_int set_list))
      (pss_cons (ps_asg pe_int (pg_sub (pv 0) pe_int set_list))
      (pss_cons (ps_expr (pe_call G_law_stir (hr.mono (by first | decide | omega)) (by rfl) m_law_stir kp_law_stir b_law_stir .nil pass0 (pa_cons (pv 0) (pa_cons (pv 3) pa_nil))))
      (pss_one (ps_if (pt_cmpR op_ge0 (pv 3) (pe_op op_pow0 pe_int pe_int) (nomark _)) (pss_cons (ps_asg (pv 3) (pg_sub (pv 0) pe_int set_list))
      (pss_one (ps_asg pe_int (pg_sub (pv 0) pe_int set_list)))) pss_nil)))))) pss_nil)
      (pss_cons (ps_set (i := 4) sc__law_take.nd rfl (Or.inl rfl) (pe_callTy call_int0 (by rfl) T.b_int (by decide +kernel) (pa_cons (pe_ix ix_U (pv 0) pe_int (fun _ _ => rfl)) pa_nil)))
      (pss_cons (ps_if (pt_cmpR op_gt0 (pv 4) pe_int (nomark _)) (pss_cons (ps_asg (pe_op op_div0 (pv 4) (pv 1)) (pg_sub (pv 0) pe_int set_list))
      (pss_one (ps_ret (pe_op op_mod0 (pe_callTy call_int0 (by rfl) T.b_int (by decide +kernel) (pa_cons (pv 4) pa_nil)) (pv 1))))) pss_nil)
      (pss_cons (ps_expr (pe_call G_law_stir (hr.mono (by first | decide | omega)) (by rfl) m_law_stir kp_law_stir b_law_stir .nil pass0 (pa_cons (pv 0) (pa_cons pe_int pa_nil))))
      (pss_cons (ps_asg (pe_callB (call_max0 rfl) (by rfl) T.b_max (by decide +kernel) (pa_cons pe_int (pa_cons (pe_op op_sub0 (pe_callTy call_int0 (by rfl) T.b_int (by decide +kernel) (pa_cons (pe_ix ix_U (pv 0) pe_int (fun _ _ => rfl)) pa_nil)) pe_int) pa_nil))) (pg_sub (pv 0) pe_int set_list))
      (pss_one (ps_ret (pe_op op_mod0 (pe_callTy call_int0 (by rfl) T.b_int (by decide +kernel) (pa_cons (pe_op op_addU (pe_op op_mul0 (pe_callTy call_int0 (by rfl) T.b_int (by decide +kernel) (pa_cons (pe_ix ix_U (pv 0) pe_int (fun _ _ => rfl)) pa_nil)) pe_int) (pe_callTy call_int0 (by rfl) T.b_int (by decide +kernel) (pa_cons (pe_ix ix_U (pv 0) pe_int (fun _ _ => rfl)) pa_nil))) pa_nil)) (pv 1))))))))))), ?_⟩
  try dsimp only [cxOf, Cx.nox, Cx.wish]
  rw [show start N__law_take [v0, v1] = [some v0, some v1, none, none, none] from rfl]
  obtain ⟨c, M, n, rfl, rfl, hn0, hn1, ok, k⟩ := h
  obtain ⟨p, i, rest, left, cnt, a, b, cells, hc, hp, hpm, hi, ha, hb⟩ := ok.st.ex
  have hpc : p ≠ c := fun e => hpm (by rw [e]; exact ok.inM)
  unfold stL at hc
  walk_at "go"
  generalize hm : (if n > 1 then n else 1) = m at k ⊢
  have hm0 : 0 < m := by
    rw [← hm]
    split <;> omega
  have hm1 : m ≤ 1000000000000000000 := by
    rw [← hm]
    split <;> omega
  refine go_ixL (SqL.of hc) (atI_nat (j := 0) rfl) ?_
  walk_at "go"
  refine ⟨fun σ' H' => ∃ (x : Option V) (i' rest' left' cnt' a' b' : Int), σ' = [some (.ref c), some (.int m), some (.ref p), x, none] ∧ H' = upd H c (.lst (stL p i' rest' left' cnt' a' b')) ∧ 0 ≤ i' ∧ (0 ≤ a' ∧ a' < 2147483647) ∧ (0 ≤ b' ∧ b' < 2147483399), ?_, ?_⟩
  · -- the test
    have same : H = upd H c (.lst (stL p i rest left cnt a b)) := by
      funext x
      by_cases e : x = c
      · rw [e, upd_same]
        exact hc
      · rw [upd_ne e]
    have stay : ∃ (x : Option V) (i' rest' left' cnt' a' b' : Int), [some (V.ref c), some (V.int m), some (V.ref p), none, none] = [some (V.ref c), some (.int m), some (.ref p), x, none] ∧ H = upd H c (.lst (stL p i' rest' left' cnt' a' b')) ∧ 0 ≤ i' ∧ (0 ≤ a' ∧ a' < 2147483647) ∧ (0 ≤ b' ∧ b' < 2147483399) :=
      ⟨none, i, rest, left, cnt, a, b, rfl, same, hi, ha, hb⟩
    walk_at "go"
    refine go_ixL (SqL.of hc) (atI_nat (j := 2) rfl) ?_
    walk_at "go"
    refine go_dec (fun _ => ?_) (fun _ => ?_)
    rotate_left
    · walk_at "go"
      exact stay
    walk_at "go"
    refine go_ixL (SqL.of hc) (atI_nat (j := 3) rfl) ?_
    walk_at "go"
    refine go_dec (fun _ => ?_) (fun _ => ?_)
    rotate_left
    · walk_at "go"
      exact stay
    walk_at "go"
    refine go_ixL (SqL.of hc) (atI_nat (j := 1) rfl) ?_
    walk_at "go"
    refine go_lenL (SqL.of hp) ?_
    walk_at "go"
    refine go_dec (fun hlt => ?_) (fun _ => ?_)
    rotate_left
    · walk_at "go"
      exact stay
    walk_at "go"
    refine go_ixL (SqL.of hc) (atI_nat (j := 1) rfl) ?_
    walk_at "go"
    have hlt2 : i.toNat < (cells.map V.int).length := by omega
    have hlt3 : i.toNat < cells.length := by
      rw [List.length_map] at hlt2
      exact hlt2
    obtain ⟨cell, hcell⟩ : ∃ z, cells[i.toNat]? = some z := ⟨_, List.getElem?_eq_getElem hlt3⟩
    refine go_ixL (v := .int cell) (SqL.of hp) (atI_of hi (by rw [List.getElem?_map, hcell]; rfl)) ?_
    walk_at "go"
    refine go_ixL (SqL.of hc) (atI_nat (j := 1) rfl) ?_
    walk_at "go"
    refine go_setL hc (k := 1) (by rfl) ?_
    walk_at "go"
    refine go_setL upd_same (k := 3) (by rfl) ?_
    walk_at "go"
    refine ⟨c, p, i + 1, rest, 3, cnt, a, b, cell, rfl, rfl, upd_same, ha, hb, fun n' a' b' H' ha' hb' hH => ?_⟩
    rw [upd_upd, upd_upd] at hH
    subst hH
    walk_at "go"
    walk_at "go"
    refine go_dec (fun _ => ?_) (fun _ => ?_)
    · walk_at "go"
      refine go_setL upd_same (k := 2) (by rfl) ?_
      walk_at "go"
      refine go_setL upd_same (k := 3) (by rfl) ?_
      walk_at "go"
      exact ⟨_, i + 1, cell, 0, n', a', b', rfl, by rw [upd_upd, upd_upd]; rfl, by omega, ha', hb'⟩
    · walk_at "go"
      exact ⟨_, i + 1, rest, 3, n', a', b', rfl, rfl, by omega, ha', hb'⟩
  · rintro σ' H' ⟨x, i', rest', left', cnt', a', b', rfl, rfl, hi', ha', hb'⟩
    unfold stL
    have d0 : ∀ o, Dx (Only1 c) H (upd H c o) := fun o => Dx.mut rfl
    walk_at "go"
    refine go_ixL (SqL.of upd_same) (atI_nat (j := 2) rfl) ?_
    walk_at "go"
    refine go_dec (fun _ => ?_) (fun _ => ?_)
    · walk_at "go"
      refine go_div0 (div_ok hm0 hm1) ?_
      walk_at "go"
      refine go_setL upd_same (k := 2) (by rfl) ?_
      walk_at "go"
      rw [upd_upd]
      exact k _ _ (Int.emod_nonneg _ (by omega)) (Int.emod_lt_of_pos _ hm0) (d0 _) (ok.set upd_same hp hpm (d0 _) hi' ha' hb')
    · walk_at "go"
      refine ⟨c, p, i', rest', left', cnt', a', b', 0, rfl, rfl, upd_same, ha', hb', fun n2 a2 b2 H2 ha2 hb2 hH => ?_⟩
      rw [upd_upd] at hH
      subst hH
      unfold stL
      walk_at "go"
      refine go_ixL (SqL.of upd_same) (atI_nat (j := 3) rfl) ?_
      walk_at "go"
      refine go_setL upd_same (k := 3) (by rfl) ?_
      walk_at "go"
      refine go_ixL (SqL.of upd_same) (atI_nat (j := 5) rfl) ?_
      walk_at "go"
      walk_at "go"
      refine go_ixL (SqL.of upd_same) (atI_nat (j := 6) rfl) ?_
      walk_at "go"
      rw [upd_upd]
      exact k _ _ (Int.emod_nonneg _ (by omega)) (Int.emod_lt_of_pos _ hm0) (d0 _) (ok.set upd_same hp hpm (d0 _) hi' ha2 hb2)
abbrev N__law_pick : List Str := ["_law_store_here", "_law_items"]
theorem sc__law_pick : FnScope N__law_pick ["_law_store_here", "_law_items"] (defScope s__law_pick) := ⟨rfl, rfl, rfl, by decide +kernel, rfl, by decide +kernel, by decide +kernel⟩
set_option maxHeartbeats 4000000 in
theorem D_law_pick  (T : Txt K mg) : Def P w K mg base CX0 (3) "_law_pick" s__law_pick ["_law_store_here", "_law_items"] (Sp2 (pPick K)) := by
  obtain ⟨f, fd, m, F⟩ := T.f__law_pick.ex
  refine ⟨f, fd, m, F.kp, F.bindsN (ps := ["_law_store_here", "_law_items"]) (fun _ _ _ _ _ _ us hl => match us, hl with | [_, _], _ => rfl), ?_, F⟩
  obtain ⟨f_law_take, fd_law_take, m_law_take, kp_law_take, b_law_take, G_law_take, F_law_take⟩ := (D_law_take (P := P) (w := w) (base := base) T).ex
  refine F.ok (CX := CX0) sc__law_pick len2 (fun cdv A outer s H vs Q E hr h => ?_)
  obtain ⟨v0, v1, rfl, h⟩ := h
  refine ⟨_, PSs.nox (pss_one (ps_ret (pe_ix ix_U (pv 1) (pe_call G_law_take (hr.mono (by first | decide | omega)) (by rfl) m_law_take kp_law_take b_law_take .nil pass0 (pa_cons (pv 0) (pa_cons (pe_callB call_lenU (by rfl) T.b_len (by decide +kernel) (pa_cons (pv 1) pa_nil)) pa_nil))) (fun _ _ => rfl)))), ?_⟩
  try dsimp only [cxOf, Cx.nox, Cx.wish]
  rw [show start N__law_pick [v0, v1] = [some v0, some v1] from rfl]
  obtain ⟨c, M, rfl, ok, ⟨z, rfl, hz, hz2, k⟩ | ⟨p, xs, rfl, hs, hp, hl, hl2, k⟩⟩ := h
  · walk_at "go"
    refine ⟨c, M, _, rfl, rfl, by omega, by omega, ok, fun r H' h0 h1 d ok' => ?_⟩
    have hr : r.toNat < z.cps.toList.length := by
      have e : z.cps.toList.length = z.length := by simp [Str.length]
      split at h1 <;> omega
    obtain ⟨ch, hc⟩ : ∃ ch, z.cps.toList[r.toNat]? = some ch := ⟨_, List.getElem?_eq_getElem hr⟩
    refine go_ixS (size_ok hz2) (atI_of h0 hc) ?_
    walk_at "go"
    exact k _ _ ⟨ch, List.mem_of_getElem? hc, rfl⟩ d ok'
  · walk_at "go"
    refine go_lenL hs ?_
    walk_at "go"
    refine ⟨c, M, _, rfl, rfl, by omega, by omega, ok, fun r H' h0 h1 d ok' => ?_⟩
    have hr : r.toNat < xs.length := by
      split at h1 <;> omega
    obtain ⟨x, hx⟩ : ∃ x, xs[r.toNat]? = some x := ⟨_, List.getElem?_eq_getElem hr⟩
    refine go_ixL ((ok.sub d).sqL hp hs) (atI_of h0 hx) ?_
    walk_at "go"
    exact k _ _ (List.mem_of_getElem? hx) d ok'
abbrev N__law_shuffled : List Str := ["_law_store_here", "_law_items", "_law_mixed", "_law_k", "_law_j", "_law_held"]
theorem sc__law_shuffled : FnScope N__law_shuffled ["_law_store_here", "_law_items"] (defScope s__law_shuffled) := ⟨rfl, rfl, rfl, by decide +kernel, rfl, by decide +kernel, by decide +kernel⟩
set_option maxHeartbeats 4000000 in
theorem D_law_shuffled  (T : Txt K mg) : Def P w K mg base CX0 (3) "_law_shuffled" s__law_shuffled ["_law_store_here", "_law_items"] (Sp2 (pShuf K)) := by
  obtain ⟨f, fd, m, F⟩ := T.f__law_shuffled.ex
  refine ⟨f, fd, m, F.kp, F.bindsN (ps := ["_law_store_here", "_law_items"]) (fun _ _ _ _ _ _ us hl => match us, hl with | [_, _], _ => rfl), ?_, F⟩
  obtain ⟨f_law_take, fd_law_take, m_law_take, kp_law_take, b_law_take, G_law_take, F_law_take⟩ := (D_law_take (P := P) (w := w) (base := base) T).ex
  refine F.ok (CX := CX0) sc__law_shuffled len2 (fun cdv A outer s H vs Q E hr h => ?_)
  obtain ⟨v0, v1, rfl, h⟩ := h
  refine ⟨_, PSs.nox (pss_cons (ps_set (i := 2) sc__law_shuffled.nd rfl (Or.inl rfl) (pe_callTy call_list0 (by rfl) T.b_list (by decide +kernel) (pa_cons (pv 1) pa_nil)))
      (pss_cons (ps_for PassesOwn.never rfl (pi_range1 (by rfl) T.b_range (pa_cons (pe_callB call_lenU (by rfl) T.b_len (by decide +kernel) (pa_cons (pv 2) pa_nil)) pa_nil)) (pg_name (i := 3) sc__law_shuffled.nd rfl (Or.inl rfl)) (pss_cons (ps_set (i := 4) sc__law_shuffled.nd rfl (Or.inl rfl) (pe_op op_addU (pv 3) (pe_call G_law_take (hr.mono (by first | decide | omega)) (by rfl) m_law_take kp_law_take b_law_take .nil pass0 (pa_cons (pv 0) (pa_cons (pe_op op_sub0 (pe_callB call_lenU (by rfl) T.b_len (by decide +kernel) (pa_cons (pv 2) pa_nil)) (pv 3)) pa_nil)))))
      (pss_cons (ps_set (i := 5) sc__law_shuffled.nd rfl (Or.inl rfl) (pe_ix ix_U (pv 2) (pv 3) (fun _ _ => rfl)))
      (pss_cons (ps_asg (pe_ix ix_U (pv 2) (pv 4) (fun _ _ => rfl)) (pg_sub (pv 2) (pv 3) set_list))
      (pss_one (ps_asg (pv 5) (pg_sub (pv 2) (pv 4) set_list)))))))
      (pss_one (ps_ret (pv 2))))), ?_⟩
  try dsimp only [cxOf, Cx.nox, Cx.wish]
  rw [show start N__law_shuffled [v0, v1] = [some v0, some v1, none, none, none, none] from rfl]
  obtain ⟨c, M, p, xs, rfl, rfl, ok, hp, hl, k⟩ := h
  walk_at "go"
  refine ⟨p, xs, rfl, .inl hp, fun l hn => ?_⟩
  have hlc : l ≠ c := ok.ne_new hn
  walk_at "go"
  refine go_lenL (SqL.of upd_same) ?_
  walk_at "go"
  refine for_r (by omega) (fun i σ' H' => ∃ (ys : List V) (v3 v4 v5 : Option V), σ' = [some (.ref c), some (.ref p), some (.ref l), v3, v4, v5] ∧ H' l = some (.lst ys) ∧ ys.Perm xs ∧ Dx (Only1 c) H H' ∧ Ok (Add M l) H' c) ⟨xs, none, none, none, rfl, upd_same, .refl _, Dx.new hn, ok.add hn⟩ ?_ ?_
  · rintro i σ' H' hi ⟨ys, v3, v4, v5, rfl, h1, h2, h3, h4⟩
    have hy := h2.length_eq
    walk_at "go"
    refine go_lenL (SqL.of h1) ?_
    walk_at "go"
    refine take_go h4 (by omega) (by omega) fun r H2 a2 b2 d2 ok2 => ?_
    have g1 := d2.st _ _ hlc h1
    walk_at "go"
    have hi1 : i < ys.length := by omega
    have hj1 : (i + r.toNat) < ys.length := by omega
    have er : ((i : Int) + r) = ((i + r.toNat : Nat) : Int) := by omega
    refine go_ixL (SqL.of g1) (atI_nat (List.getElem?_eq_getElem hi1)) ?_
    walk_at "go"
    rw [er]
    refine go_ixL (SqL.of g1) (atI_nat (List.getElem?_eq_getElem hj1)) ?_
    walk_at "go"
    refine go_setL g1 (k := i) (Evl.ixN_nat hi1) ?_
    walk_at "go"
    refine go_setL upd_same (k := i + r.toNat) (Evl.ixN_nat (by rw [List.length_set]; exact hj1)) ?_
    walk_at "go"
    rw [upd_upd]
    exact ⟨_, _, _, _, rfl, upd_same, (List.set_set_perm hi1 hj1).trans h2, (h3.trans d2).own hn, ok2.mut (.inl rfl) hlc⟩
  · rintro σ' H' ⟨ys, v3, v4, v5, rfl, h1, h2, h3, h4⟩
    walk_at "go"
    exact k _ _ _ hn h1 h2 h3 h4
end
end Q
namespace Q
section
variable {P : Program} {w : World} {K : PySem.W.Frag} {mg : Str → Option Value} {base : Heap}
abbrev N__law_number : List Str := ["_law_store_here", "_law_kind"]
theorem sc__law_number : FnScope N__law_number ["_law_store_here"] (defScope s__law_number) := ⟨rfl, rfl, rfl, by decide +kernel, rfl, by decide +kernel, by decide +kernel⟩
set_option maxHeartbeats 4000000 in
theorem D_law_number  (T : Txt K mg) : Def P w K mg base CX0 (4) "_law_number" s__law_number ["_law_store_here"] (Sp1 (pDraw IsNum)) := by
  obtain ⟨f, fd, m, F⟩ := T.f__law_number.ex
  refine ⟨f, fd, m, F.kp, F.bindsN (ps := ["_law_store_here"]) (fun _ _ _ _ _ _ us hl => match us, hl with | [_], _ => rfl), ?_, F⟩
  obtain ⟨f_law_pick, fd_law_pick, m_law_pick, kp_law_pick, b_law_pick, G_law_pick, F_law_pick⟩ := (D_law_pick (P := P) (w := w) (base := base) T).ex
  obtain ⟨f_law_take, fd_law_take, m_law_take, kp_law_take, b_law_take, G_law_take, F_law_take⟩ := (D_law_take (P := P) (w := w) (base := base) T).ex
  refine F.ok (CX := CX0) sc__law_number len1 (fun cdv A outer s H vs Q E hr h => ?_)
  obtain ⟨v0, rfl, h⟩ := h
  refine ⟨_, PSs.nox (pss_cons (ps_set (i := 1) sc__law_number.nd rfl (Or.inl rfl) (pe_call G_law_take (hr.mono (by first | decide | omega)) (by rfl) m_law_take kp_law_take b_law_take .nil pass0 (pa_cons (pv 0) (pa_cons pe_int pa_nil))))
      (pss_cons (ps_if (pt_cmpR op_eq (pv 1) pe_int (nomark _)) (pss_one (ps_ret (pe_op op_sub0 (pe_call G_law_take (hr.mono (by first | decide | omega)) (by rfl) m_law_take kp_law_take b_law_take .nil pass0 (pa_cons (pv 0) (pa_cons pe_int pa_nil))) pe_int))) pss_nil)
      (pss_cons (ps_if (pt_cmpR op_eq (pv 1) pe_int (nomark _)) (pss_one (ps_ret (pe_call G_law_pick (hr.mono (by first | decide | omega)) (by rfl) m_law_pick kp_law_pick b_law_pick .nil pass0 (pa_cons (pv 0) (pa_cons (pe_lst (pa_cons pe_int (pa_cons pe_int (pa_cons (pe_un un_neg0 pe_int) (pa_cons (pe_op op_pow0 pe_int pe_int) (pa_cons (pe_un un_neg0 (pe_op op_pow0 pe_int pe_int)) (pa_cons (pe_op op_sub0 (pe_op op_pow0 pe_int pe_int) pe_int) (pa_cons (pe_op op_sub0 pe_int (pe_op op_pow0 pe_int pe_int)) (pa_cons pe_int pa_nil))))))))) pa_nil))))) pss_nil)
      (pss_one (ps_ret (pe_op op_sub0 (pe_call G_law_take (hr.mono (by first | decide | omega)) (by rfl) m_law_take kp_law_take b_law_take .nil pass0 (pa_cons (pv 0) (pa_cons (pe_op op_addU (pe_op op_mul0 pe_int (pe_op op_pow0 pe_int pe_int)) pe_int) pa_nil))) (pe_op op_pow0 pe_int pe_int))))))), ?_⟩
  try dsimp only [cxOf, Cx.nox, Cx.wish]
  rw [show start N__law_number [v0] = [some v0, none] from rfl]
  obtain ⟨c, M, rfl, ok, k⟩ := h
  walk_at "go"
  refine take_go ok (by decide) (by decide) fun r1 H1 a1 b1 d1 ok1 => ?_
  walk_at "go"
  refine go_dec (fun _ => ?_) (fun _ => ?_)
  · walk_at "go"
    refine take_go ok1 (by decide) (by decide) fun r2 H2 a2 b2 d2 ok2 => ?_
    walk_at "go"
    exact k _ _ ⟨_, rfl, by omega⟩ (d1.trans d2) ok2
  walk_at "go"
  refine go_dec (fun _ => ?_) (fun _ => ?_)
  · walk_at "go"
    refine ⟨by show 8 ≤ sizeLine; decide, fun p hp => ?_⟩
    walk_at "go"
    refine ⟨c, M, rfl, ok1.new hp, .inr ⟨p, _, rfl, SqL.of upd_same, ok1.notM hp, by show 0 < 8; decide, by show 8 ≤ 100000; decide, fun r H' hr d ok' => ?_⟩⟩
    exact k _ _ (nums_at (by decide +kernel) hr) ((d1.trans (Dx.new hp)).trans d) ok'
  walk_at "go"
  refine take_go ok1 (by decide) (by decide) fun r2 H2 a2 b2 d2 ok2 => ?_
  walk_at "go"
  exact k _ _ ⟨_, rfl, by omega⟩ (d1.trans d2) ok2
abbrev N__law_clamped : List Str := ["_law_number_here"]
theorem sc__law_clamped : FnScope N__law_clamped ["_law_number_here"] (defScope s__law_clamped) := ⟨rfl, rfl, rfl, by decide +kernel, rfl, by decide +kernel, by decide +kernel⟩
set_option maxHeartbeats 4000000 in
theorem D_law_clamped  (T : Txt K mg) : Def P w K mg base CX0 (1) "_law_clamped" s__law_clamped ["_law_number_here"] (Sp1 pClamp) := by
  obtain ⟨f, fd, m, F⟩ := T.f__law_clamped.ex
  refine ⟨f, fd, m, F.kp, F.bindsN (ps := ["_law_number_here"]) (fun _ _ _ _ _ _ us hl => match us, hl with | [_], _ => rfl), ?_, F⟩
  refine F.ok (CX := CX0) sc__law_clamped len1 (fun cdv A outer s H vs Q E hr h => ?_)
  obtain ⟨v0, rfl, h⟩ := h
  refine ⟨_, PSs.nox (pss_one (ps_ret (pe_callB (call_max0 rfl) (by rfl) T.b_max (by decide +kernel) (pa_cons (pe_un un_neg0 (pe_op op_pow0 pe_int pe_int)) (pa_cons (pe_callB (call_min0 rfl) (by rfl) T.b_min (by decide +kernel) (pa_cons (pe_op op_pow0 pe_int pe_int) (pa_cons (pv 0) pa_nil))) pa_nil))))), ?_⟩
  try dsimp only [cxOf, Cx.nox, Cx.wish]
  rw [show start N__law_clamped [v0] = [some v0] from rfl]
  obtain ⟨i, rfl, k⟩ := h
  walk_at "go"
  exact k _ (by constructor <;> split <;> split <;> omega) (fun z => by split <;> split <;> omega)
abbrev N__law_pool : List Str := ["_law_store_here", "_law_many", "_law_kind", "_law_ends_here", "_law_start", "_law_step", "_law_numbers", "_law_k"]
theorem sc__law_pool : FnScope N__law_pool ["_law_store_here"] (defScope s__law_pool) := ⟨rfl, rfl, rfl, by decide +kernel, rfl, by decide +kernel, by decide +kernel⟩
theorem perm_ints {ys : List V} {ns : List Int} (h : ys.Perm (ns.map V.int)) : ∃ ms : List Int, ys = ms.map V.int ∧ ms.length = ns.length ∧ ∀ m ∈ ms, m ∈ ns := by
  obtain ⟨ms, rfl⟩ := ints_of (xs := ys) fun v hv => by
    obtain ⟨i, e, _⟩ := int_mem (h.mem_iff.mp hv)
    exact ⟨i, e⟩
  refine ⟨ms, rfl, ?_, fun m hm => mem_int (h.mem_iff.mp (List.mem_map_of_mem hm))⟩
  have e := h.length_eq
  rw [List.length_map, List.length_map] at e
  exact e
set_option maxHeartbeats 4000000 in
theorem D_law_pool  (T : Txt K mg) : Def P w K mg base CX0 (4) "_law_pool" s__law_pool ["_law_store_here"] (Sp1 (pPool)) := by
  obtain ⟨f, fd, m, F⟩ := T.f__law_pool.ex
  refine ⟨f, fd, m, F.kp, F.bindsN (ps := ["_law_store_here"]) (fun _ _ _ _ _ _ us hl => match us, hl with | [_], _ => rfl), ?_, F⟩
  obtain ⟨f_law_shuffled, fd_law_shuffled, m_law_shuffled, kp_law_shuffled, b_law_shuffled, G_law_shuffled, F_law_shuffled⟩ := (D_law_shuffled (P := P) (w := w) (base := base) T).ex
  obtain ⟨f_law_take, fd_law_take, m_law_take, kp_law_take, b_law_take, G_law_take, F_law_take⟩ := (D_law_take (P := P) (w := w) (base := base) T).ex
  refine F.ok (CX := CX0) sc__law_pool len1 (fun cdv A outer s H vs Q E hr h => ?_)
  obtain ⟨v0, rfl, h⟩ := h
  refine ⟨_, PSs.nox (pss_cons (ps_set (i := 1) sc__law_pool.nd rfl (Or.inl rfl) (pe_op op_addU pe_int (pe_call G_law_take (hr.mono (by first | decide | omega)) (by rfl) m_law_take kp_law_take b_law_take .nil pass0 (pa_cons (pv 0) (pa_cons pe_int pa_nil)))))
      (pss_cons (ps_set (i := 2) sc__law_pool.nd rfl (Or.inl rfl) (pe_call G_law_take (hr.mono (by first | decide | omega)) (by rfl) m_law_take kp_law_take b_law_take .nil pass0 (pa_cons (pv 0) (pa_cons pe_int pa_nil))))
      (pss_cons (ps_if (pt_cmpR op_eq (pv 2) pe_int (nomark _)) (pss_cons (ps_set (i := 3) sc__law_pool.nd rfl (Or.inl rfl) (pe_lst (pa_cons (pe_un un_neg0 (pe_op op_pow0 pe_int pe_int)) (pa_cons (pe_op op_sub0 pe_int (pe_op op_pow0 pe_int pe_int)) (pa_cons (pe_un un_neg0 pe_int) (pa_cons pe_int (pa_cons (pe_op op_sub0 (pe_op op_pow0 pe_int pe_int) pe_int) (pa_cons (pe_op op_pow0 pe_int pe_int) pa_nil))))))))
      (pss_one (ps_ret (pe_callB cr_sortedI (by rfl) T.b_sorted (by decide +kernel) (pa_cons (pe_slice sl_list (pe_call G_law_shuffled (hr.mono (by first | decide | omega)) (by rfl) m_law_shuffled kp_law_shuffled b_law_shuffled .nil pass0 (pa_cons (pv 0) (pa_cons (pv 3) pa_nil))) po_none (po_some (pv 1))) pa_nil))))) pss_nil)
      (pss_cons (ps_set (i := 4) sc__law_pool.nd rfl (Or.inl rfl) (pe_op op_sub0 (pe_call G_law_take (hr.mono (by first | decide | omega)) (by rfl) m_law_take kp_law_take b_law_take .nil pass0 (pa_cons (pv 0) (pa_cons pe_int pa_nil))) pe_int))
      (pss_cons (ps_set (i := 5) sc__law_pool.nd rfl (Or.inl rfl) pe_int)
      (C8.pss_cut (ps_if (pt_cmpR op_eq (pv 2) pe_int (nomark _)) (pss_cons (ps_set (i := 4) sc__law_pool.nd rfl (Or.inl rfl) (pe_op op_sub0 (pe_call G_law_take (hr.mono (by first | decide | omega)) (by rfl) m_law_take kp_law_take b_law_take .nil pass0 (pa_cons (pv 0) (pa_cons pe_int pa_nil))) pe_int))
      (pss_one (ps_set (i := 5) sc__law_pool.nd rfl (Or.inl rfl) pe_int))) pss_nil)
      (C8.pss_cut (ps_if (pt_cmpR op_eq (pv 2) pe_int (nomark _)) (pss_cons (ps_set (i := 4) sc__law_pool.nd rfl (Or.inl rfl) (pe_op op_sub0 (pe_call G_law_take (hr.mono (by first | decide | omega)) (by rfl) m_law_take kp_law_take b_law_take .nil pass0 (pa_cons (pv 0) (pa_cons (pe_op op_pow0 pe_int pe_int) pa_nil))) (pe_op op_pow0 pe_int pe_int)))
      (pss_one (ps_set (i := 5) sc__law_pool.nd rfl (Or.inl rfl) (pe_op op_mul0 pe_int (pe_op op_pow0 pe_int pe_int))))) pss_nil)
      (pss_cons (ps_set (i := 6) sc__law_pool.nd rfl (Or.inl rfl) (pe_lst (pa_cons (pv 4) pa_nil)))
      (pss_cons (ps_for PassesOwn.never rfl (pi_range1 (by rfl) T.b_range (pa_cons (pe_op op_sub0 (pv 1) pe_int) pa_nil)) (pg_name (i := 7) sc__law_pool.nd rfl (Or.inl rfl)) (pss_one (ps_expr (pe_bm PySem.F.plainAttrs_list PySem.F.slot_list_append PySem.F.type_list_append mt_append (pv 6) (pa_cons (pe_op op_addU (pe_op op_addU (pe_ix ix_U (pv 6) (pv 7) (fun _ _ => rfl)) pe_int) (pe_call G_law_take (hr.mono (by first | decide | omega)) (by rfl) m_law_take kp_law_take b_law_take .nil pass0 (pa_cons (pv 0) (pa_cons (pv 5) pa_nil)))) pa_nil)))))
      (pss_one (ps_ret (pv 6)))))))))))), ?_⟩
  try dsimp only [cxOf, Cx.nox, Cx.wish]
  rw [show start N__law_pool [v0] = [some v0, none, none, none, none, none, none, none] from rfl]
  obtain ⟨c, M, rfl, ok, k⟩ := h
  walk_at "go"
  refine take_go ok (by decide) (by decide) fun r1 H1 a1 b1 d1 ok1 => ?_
  walk_at "go"
  refine take_go ok1 (by decide) (by decide) fun r2 H2 a2 b2 d2 ok2 => ?_
  have d02 := d1.trans d2
  walk_at "go"
  refine go_dec (fun _ => ?_) (fun _ => ?_)
  · walk_at "go"
    refine ⟨by show 6 ≤ sizeLine; decide, fun p hp => ?_⟩
    walk_at "go"
    refine ⟨c, M, p, _, rfl, rfl, ok2.new hp, SqL.of upd_same, by show 6 ≤ 100000; decide, fun l ys H3 hl h1 h2 d3 ok3 => ?_⟩
    obtain ⟨ms, rfl, h3, h4⟩ := perm_ints (ns := [-1000000000000, 1 - 1000000000000, -1, 0, 1000000000000 - 1, 1000000000000]) h2
    have h5 : ms.length = 6 := h3
    walk_at "go"
    refine go_slL (SqL.of h1) fun q hq => ?_
    walk_at "go"
    have e : cutV (ms.map V.int) none (some (2 + r1)) = (ms.take (2 + r1).toNat).map V.int := by
      rw [cut_to (by omega) (by rw [List.length_map]; omega), List.map_take]
    rw [e]
    refine go_sorted (SqL.of upd_same) fun ns' u hperm _ hu => ?_
    have hu3 : H3 u = none := by
      rw [upd_ne (fun z => by rw [z, upd_same] at hu; exact nomatch hu)] at hu
      exact hu
    have ok3' : Ok M H3 c := ok3.less ok.inM fun a z => .inr z
    have hq2 : H u = none := d02.dm u ((Dx.new (M := Only1 c) hp).dm u (d3.dm u hu3))
    refine k u _ _ hq2 upd_same ⟨ns', rfl, fun n hn => ?_, ?_, ?_⟩ (((d02.trans (Dx.new hp)).trans d3).trans ((Dx.new hq).trans (Dx.new hu))) ((ok3'.new hq).add hu)
    · have z := h4 n (List.mem_of_mem_take (hperm.mem_iff.mp hn))
      simp only [List.mem_cons, List.not_mem_nil, or_false] at z
      omega
    · rw [hperm.length_eq, List.length_take]
      omega
    · rw [hperm.length_eq, List.length_take]
      omega
  walk_at "go"
  refine take_go ok2 (by decide) (by decide) fun r3 H3 a3 b3 d3 ok3 => ?_
  have d03 := d02.trans d3
  walk_at "go"
  refine ⟨fun σ' H' => ∃ st sp : Int, σ' = [some (.ref c), some (.int (2 + r1)), some (.int r2), none, some (.int st), some (.int sp), none, none] ∧ 0 < sp ∧ InR st ∧ st + 5 * sp ≤ 1000000000000 ∧ sp ≤ 1000000000000 ∧ Dx (Only1 c) H H' ∧ Ok M H' c, ?_, ?_⟩
  · walk_at "go"
    refine go_dec (fun _ => ?_) (fun _ => ?_)
    · walk_at "go"
      refine take_go ok3 (by decide) (by decide) fun r4 H4 a4 b4 d4 ok4 => ?_
      walk_at "go"
      exact ⟨_, _, rfl, by decide, by omega, by omega, by decide, d03.trans d4, ok4⟩
    · walk_at "go"
      exact ⟨_, _, rfl, by decide, by omega, by omega, by decide, d03, ok3⟩
  rintro σ' H4 ⟨st, sp, rfl, s1, s2, s3, s4, d4, ok4⟩
  walk_at "go"
  refine ⟨fun σ' H' => ∃ st sp : Int, σ' = [some (.ref c), some (.int (2 + r1)), some (.int r2), none, some (.int st), some (.int sp), none, none] ∧ 0 < sp ∧ InR st ∧ st + 5 * sp ≤ 1000000000000 ∧ sp ≤ 1000000000000 ∧ Dx (Only1 c) H H' ∧ Ok M H' c, ?_, ?_⟩
  · walk_at "go"
    refine go_dec (fun _ => ?_) (fun _ => ?_)
    · walk_at "go"
      refine take_go ok4 (by decide) (by decide) fun r5 H5 a5 b5 d5 ok5 => ?_
      walk_at "go"
      exact ⟨_, _, rfl, by decide, by omega, by omega, by decide, d4.trans d5, ok5⟩
    · walk_at "go"
      exact ⟨_, _, rfl, s1, s2, s3, s4, d4, ok4⟩
  clear s1 s2 s3 s4 st sp
  rintro σ' H5 ⟨st, sp, rfl, s1, s2, s3, s4, d5, ok5⟩
  walk_at "go"
  refine ⟨by show 1 ≤ sizeLine; decide, fun l hl => ?_⟩
  have hlc : l ≠ c := ok5.ne_new hl
  have hl0 : H l = none := d5.dm l hl
  walk_at "go"
  refine for_r (by omega) (fun i σ' H' => ∃ (ns : List Int) (v7 : Option V), σ' = [some (.ref c), some (.int (2 + r1)), some (.int r2), none, some (.int st), some (.int sp), some (.ref l), v7] ∧ H' l = some (.lst (ns.map V.int)) ∧ ns.length = i + 1 ∧ (∀ n ∈ ns, st ≤ n ∧ n ≤ st + (i : Int) * sp) ∧ Dx (Only1 c) H H' ∧ Ok (Add M l) H' c) ⟨[st], none, rfl, upd_same, rfl, fun n hn => ?_, d5.trans (Dx.new hl), ok5.add hl⟩ ?_ ?_
  · rw [List.mem_singleton.mp hn]
    omega
  · rintro i σ' H6 hi ⟨ns, v7, rfl, h1, h2, h3, d6, ok6⟩
    walk_at "go"
    refine ⟨ty_lst (SqL.of h1), ?_⟩
    walk_at "go"
    have hin : i < ns.length := by omega
    obtain ⟨n, hn⟩ : ∃ n, ns[i]? = some n := ⟨_, List.getElem?_eq_getElem hin⟩
    have hb := h3 n (List.mem_of_getElem? hn)
    refine go_ixL (v := .int n) (SqL.of h1) (atI_nat (by rw [List.getElem?_map, hn]; rfl)) ?_
    walk_at "go"
    refine take_go ok6 s1 (by omega) fun r7 H7 a7 b7 d7 ok7 => ?_
    walk_at "go"
    refine go_app (d7.st _ _ hlc h1) (by rw [List.length_map]; exact size_lt (by omega)) ?_
    walk_at "go"
    have em : ((i + 1 : Nat) : Int) * sp = (i : Int) * sp + sp := by
      rw [Int.natCast_add, Int.add_mul]
      omega
    refine ⟨ns ++ [n + 1 + r7], _, rfl, by rw [upd_same, List.map_append]; rfl, by rw [List.length_append, h2]; rfl, fun m hm => ?_, (d6.trans d7).own hl0, ok7.mut (.inl rfl) hlc⟩
    rw [em]
    rcases List.mem_append.mp hm with z | z
    · have := h3 m z
      omega
    · rw [List.mem_singleton.mp z]
      omega
  · rintro σ' H6 ⟨ns, v7, rfl, h1, h2, h3, d6, ok6⟩
    walk_at "go"
    refine k l _ _ hl0 h1 ⟨ns, rfl, fun n hn => ?_, by omega, by omega⟩ d6 ok6
    have hb := h3 n hn
    have hm : ((2 + r1 - 1).toNat : Int) * sp ≤ 5 * sp := Int.mul_le_mul_of_nonneg_right (by omega) (by omega)
    omega
abbrev N__law_near : List Str := ["_law_store_here", "_law_pool_here"]
theorem sc__law_near : FnScope N__law_near ["_law_store_here", "_law_pool_here"] (defScope s__law_near) := ⟨rfl, rfl, rfl, by decide +kernel, rfl, by decide +kernel, by decide +kernel⟩
set_option maxHeartbeats 4000000 in
theorem D_law_near  (T : Txt K mg) : Def P w K mg base CX0 (4) "_law_near" s__law_near ["_law_store_here", "_law_pool_here"] (Sp2 (pNear K)) := by
  obtain ⟨f, fd, m, F⟩ := T.f__law_near.ex
  refine ⟨f, fd, m, F.kp, F.bindsN (ps := ["_law_store_here", "_law_pool_here"]) (fun _ _ _ _ _ _ us hl => match us, hl with | [_, _], _ => rfl), ?_, F⟩
  obtain ⟨f_law_clamped, fd_law_clamped, m_law_clamped, kp_law_clamped, b_law_clamped, G_law_clamped, F_law_clamped⟩ := (D_law_clamped (P := P) (w := w) (base := base) T).ex
  obtain ⟨f_law_pick, fd_law_pick, m_law_pick, kp_law_pick, b_law_pick, G_law_pick, F_law_pick⟩ := (D_law_pick (P := P) (w := w) (base := base) T).ex
  obtain ⟨f_law_take, fd_law_take, m_law_take, kp_law_take, b_law_take, G_law_take, F_law_take⟩ := (D_law_take (P := P) (w := w) (base := base) T).ex
  refine F.ok (CX := CX0) sc__law_near len2 (fun cdv A outer s H vs Q E hr h => ?_)
  obtain ⟨v0, v1, rfl, h⟩ := h
  refine ⟨_, PSs.nox (pss_one (ps_ret (pe_call G_law_clamped (hr.mono (by first | decide | omega)) (by rfl) m_law_clamped kp_law_clamped b_law_clamped .nil pass0 (pa_cons (pe_op op_addU (pe_call G_law_pick (hr.mono (by first | decide | omega)) (by rfl) m_law_pick kp_law_pick b_law_pick .nil pass0 (pa_cons (pv 0) (pa_cons (pv 1) pa_nil))) (pe_ix ix_U (pe_lst (pa_cons pe_int (pa_cons pe_int (pa_cons pe_int (pa_cons (pe_un un_neg0 pe_int) pa_nil))))) (pe_call G_law_take (hr.mono (by first | decide | omega)) (by rfl) m_law_take kp_law_take b_law_take .nil pass0 (pa_cons (pv 0) (pa_cons pe_int pa_nil))) (fun _ _ => rfl))) pa_nil)))), ?_⟩
  try dsimp only [cxOf, Cx.nox, Cx.wish]
  rw [show start N__law_near [v0, v1] = [some v0, some v1] from rfl]
  obtain ⟨c, M, p, ns, rfl, rfl, ok, hp, hM, hl0, hl1, hn, k⟩ := h
  walk_at "go"
  refine ⟨c, M, rfl, ok, .inr ⟨p, _, rfl, hp, hM, by rw [List.length_map]; omega, by rw [List.length_map]; omega, fun r H1 hr d1 ok1 => ?_⟩⟩
  obtain ⟨n, rfl, hn1⟩ := int_mem hr
  walk_at "go"
  refine ⟨by show 4 ≤ sizeLine; decide, fun q hq => ?_⟩
  walk_at "go"
  refine take_go (ok1.new hq) (by decide) (by decide) fun r2 H2 a2 b2 d2 ok2 => ?_
  have g := d2.st _ _ (Ok.ne ok1 (ok1.notM hq)) upd_same
  obtain ⟨z, hz⟩ : ∃ z : Int, atI [V.int 0, V.int 0, V.int 1, V.int (-1)] r2 = some (.int z) := by
    rcases (show r2 = 0 ∨ r2 = 1 ∨ r2 = 2 ∨ r2 = 3 by omega) with e | e | e | e <;> subst e
    · exact ⟨0, by rfl⟩
    · exact ⟨0, by rfl⟩
    · exact ⟨1, by rfl⟩
    · exact ⟨-1, by rfl⟩
  refine go_ixL (SqL.of g) hz ?_
  walk_at "go"
  refine ⟨_, rfl, fun r hr _ => ?_⟩
  exact k _ _ ⟨r, rfl, hr⟩ ((d1.trans (Dx.new hq)).trans d2) ok2
abbrev N__law_bad_number : List Str := ["_law_store_here", "_law_keyed", "_law_far", "_law_kind"]
theorem sc__law_bad_number : FnScope N__law_bad_number ["_law_store_here", "_law_keyed"] (defScope s__law_bad_number) := ⟨rfl, rfl, rfl, by decide +kernel, rfl, by decide +kernel, by decide +kernel⟩
/-- items of the menu -/
def badsB (xs : List V) : Bool := xs.all fun v => match v with
  | .int i => (decide (i < -1000000000000) || decide (1000000000000 < i)) && (decide (-1000000000000000000000000000000 ≤ i) && decide (i ≤ 1000000000000000000000000000000))
  | _ => false
theorem bads_of {xs : List V} {v : V} (h : badsB xs = true) (hv : v ∈ xs) : ∃ i : Int, v = .int i ∧ (i < -1000000000000 ∨ 1000000000000 < i) ∧ -1000000000000000000000000000000 ≤ i ∧ i ≤ 1000000000000000000000000000000 := by
  have q := List.all_eq_true.mp h v hv
  cases v with
  | int i =>
    obtain ⟨q1, q2⟩ := Bool.and_eq_true_iff.mp q
    obtain ⟨q2, q3⟩ := Bool.and_eq_true_iff.mp q2
    refine ⟨i, rfl, ?_, of_decide_eq_true q2, of_decide_eq_true q3⟩
    rcases Bool.or_eq_true_iff.mp q1 with z | z
    · exact .inl (of_decide_eq_true z)
    · exact .inr (of_decide_eq_true z)
  | _ => exact nomatch q
set_option maxHeartbeats 4000000 in
theorem D_law_bad_number  (T : Txt K mg) : Def P w K mg base CX0 (4) "_law_bad_number" s__law_bad_number ["_law_store_here", "_law_keyed"] (Sp2 pBadNumber) := by
  obtain ⟨f, fd, m, F⟩ := T.f__law_bad_number.ex
  refine ⟨f, fd, m, F.kp, F.bindsN (ps := ["_law_store_here", "_law_keyed"]) (fun _ _ _ _ _ _ us hl => match us, hl with | [_, _], _ => rfl), ?_, F⟩
  obtain ⟨f_law_pick, fd_law_pick, m_law_pick, kp_law_pick, b_law_pick, G_law_pick, F_law_pick⟩ := (D_law_pick (P := P) (w := w) (base := base) T).ex
  obtain ⟨f_law_take, fd_law_take, m_law_take, kp_law_take, b_law_take, G_law_take, F_law_take⟩ := (D_law_take (P := P) (w := w) (base := base) T).ex
  refine F.ok (CX := CX0) sc__law_bad_number len2 (fun cdv A outer s H vs Q E hr h => ?_)
  obtain ⟨v0, v1, rfl, h⟩ := h
  refine ⟨_, PSs.nox (pss_cons (ps_set (i := 2) sc__law_bad_number.nd rfl (Or.inl rfl) (pe_lst (pa_cons (pe_op op_addU (pe_op op_pow0 pe_int pe_int) pe_int) (pa_cons (pe_op op_sub0 (pe_un un_neg0 (pe_op op_pow0 pe_int pe_int)) pe_int) (pa_cons (pe_op op_pow0 pe_int pe_int) (pa_cons (pe_un un_neg0 (pe_op op_pow0 pe_int pe_int)) (pa_cons (pe_op op_addU (pe_op op_addU (pe_op op_pow0 pe_int pe_int) pe_int) (pe_call G_law_take (hr.mono (by first | decide | omega)) (by rfl) m_law_take kp_law_take b_law_take .nil pass0 (pa_cons (pv 0) (pa_cons (pe_op op_pow0 pe_int pe_int) pa_nil)))) pa_nil)))))))
      (pss_cons (ps_set (i := 3) sc__law_bad_number.nd rfl (Or.inl rfl) (pe_call G_law_take (hr.mono (by first | decide | omega)) (by rfl) m_law_take kp_law_take b_law_take .nil pass0 (pa_cons (pv 0) (pa_cons pe_int pa_nil))))
      (pss_cons (ps_if (PW.pt (pw_or (pt_val (pv 1)) (pw_or1 (pt_cmpR op_eq (pv 3) pe_int (nomark _))))) (pss_one (ps_ret (pe_call G_law_pick (hr.mono (by first | decide | omega)) (by rfl) m_law_pick kp_law_pick b_law_pick .nil pass0 (pa_cons (pv 0) (pa_cons (pv 2) pa_nil))))) pss_nil)
      (pss_one (ps_ret (pe_cmpR op_eq (pv 3) pe_int (nomark _))))))), ?_⟩
  try dsimp only [cxOf, Cx.nox, Cx.wish]
  rw [show start N__law_bad_number [v0, v1] = [some v0, some v1, none, none] from rfl]
  obtain ⟨c, M, kb, rfl, rfl, ok, k⟩ := h
  walk_at "go"
  refine take_go ok (by decide) (by decide) fun r1 H1 a1 b1 d1 ok1 => ?_
  walk_at "go"
  refine ⟨by show 5 ≤ sizeLine; decide, fun p hp => ?_⟩
  walk_at "go"
  refine take_go (ok1.new hp) (by decide) (by decide) fun r2 H2 a2 b2 d2 ok2 => ?_
  have g := d2.st _ _ (Ok.ne ok1 (ok1.notM hp)) upd_same
  have d02 := (d1.trans (Dx.new hp)).trans d2
  have pick : ∀ {E : XK}, pPick K (.ref c) (.ref p) H2 Q E := fun {E} => ⟨c, M, rfl, ok2, .inr ⟨p, _, rfl, SqL.of g, ok1.notM hp, by show 0 < 5; decide, by show 5 ≤ 100000; decide, fun r H' hr d ok' => by
    have hb : ∃ i : Int, r = .int i ∧ (i < -1000000000000 ∨ 1000000000000 < i) ∧ -1000000000000000000000000000000 ≤ i ∧ i ≤ 1000000000000000000000000000000 := by
      simp only [List.mem_cons, List.not_mem_nil, or_false] at hr
      rcases hr with e | e | e | e | e
      all_goals exact ⟨_, e, by omega⟩
    obtain ⟨i, e, hi⟩ := hb
    exact k _ _ ⟨.inl ⟨i, e, hi⟩, fun _ => ⟨i, e⟩⟩ (d02.trans d) ok'⟩⟩
  walk_at "go"
  refine go_bool (fun _ => ?_) (fun e => ?_)
  · walk_at "go"
    exact pick
  walk_at "go"
  refine go_dec (fun _ => ?_) (fun _ => ?_)
  · walk_at "go"
    exact pick
  walk_at "go"
  exact k _ _ ⟨.inr ⟨_, rfl⟩, fun z => by rw [e] at z; exact nomatch z⟩ d02 ok2
abbrev N__law_sign : List Str := ["_law_store_here", "_law_signs"]
theorem sc__law_sign : FnScope N__law_sign ["_law_store_here"] (defScope s__law_sign) := ⟨rfl, rfl, rfl, by decide +kernel, rfl, by decide +kernel, by decide +kernel⟩
set_option maxHeartbeats 4000000 in
theorem D_law_sign  (T : Txt K mg) : Def P w K mg base CX0 (4) "_law_sign" s__law_sign ["_law_store_here"] (Sp1 (pDraw (IsText 1 1))) := by
  obtain ⟨f, fd, m, F⟩ := T.f__law_sign.ex
  refine ⟨f, fd, m, F.kp, F.bindsN (ps := ["_law_store_here"]) (fun _ _ _ _ _ _ us hl => match us, hl with | [_], _ => rfl), ?_, F⟩
  obtain ⟨f_law_pick, fd_law_pick, m_law_pick, kp_law_pick, b_law_pick, G_law_pick, F_law_pick⟩ := (D_law_pick (P := P) (w := w) (base := base) T).ex
  refine F.ok (CX := CX0) sc__law_sign len1 (fun cdv A outer s H vs Q E hr h => ?_)
  obtain ⟨v0, rfl, h⟩ := h
  refine ⟨_, PSs.nox (pss_cons (ps_set (i := 1) sc__law_sign.nd rfl (Or.inl rfl) pe_str)
      (pss_one (ps_ret (pe_call G_law_pick (hr.mono (by first | decide | omega)) (by rfl) m_law_pick kp_law_pick b_law_pick .nil pass0 (pa_cons (pv 0) (pa_cons (pe_op op_addU (pv 1) pe_str) pa_nil)))))), ?_⟩
  try dsimp only [cxOf, Cx.nox, Cx.wish]
  rw [show start N__law_sign [v0] = [some v0, none] from rfl]
  obtain ⟨c, M, rfl, ok, k⟩ := h
  walk_at "go"
  refine ⟨c, M, rfl, ok, .inl ⟨_, rfl, by decide +kernel, by decide +kernel, fun y H4 hy d4 ok4 => ?_⟩⟩
  exact k _ _ (one_sign hy) d4 ok4
end
end Q
namespace Q
section
variable {P : Program} {w : World} {K : PySem.W.Frag} {mg : Str → Option Value} {base : Heap}
abbrev N__law_is_number : List Str := ["_law_value"]
theorem sc__law_is_number : FnScope N__law_is_number ["_law_value"] (defScope s__law_is_number) := ⟨rfl, rfl, rfl, by decide +kernel, rfl, by decide +kernel, by decide +kernel⟩
set_option maxHeartbeats 4000000 in
theorem D_law_is_number  (T : Txt K mg) : Def P w K mg base CX0 (1) "_law_is_number" s__law_is_number ["_law_value"] (Sp1 pIsNum) := by
  obtain ⟨f, fd, m, F⟩ := T.f__law_is_number.ex
  refine ⟨f, fd, m, F.kp, F.bindsN (ps := ["_law_value"]) (fun _ _ _ _ _ _ us hl => match us, hl with | [_], _ => rfl), ?_, F⟩
  refine F.ok (CX := CX0) sc__law_is_number len1 (fun cdv A outer s H vs Q E hr h => ?_)
  obtain ⟨v0, rfl, h⟩ := h
  refine ⟨_, PSs.nox (pss_one (ps_ret (pe_and (pe_callB call_isi (by rfl) T.b_isinstance (by decide +kernel) (pa_cons (pv 0) (pa_cons (pe_bltn (v := .ty "int") (by rfl) T.b_int (by decide +kernel) rfl) pa_nil))) (pe_and (pe_not (pe_callB call_isi (by rfl) T.b_isinstance (by decide +kernel) (pa_cons (pv 0) (pa_cons (pe_bltn (v := .ty "bool") (by rfl) T.b_bool (by decide +kernel) rfl) pa_nil)))) (pe_one (pe_chain op_le0 op_le0 (pe_un un_neg0 (pe_op op_pow0 pe_int pe_int)) (pv 0) (pe_op op_pow0 pe_int pe_int))))))), ?_⟩
  try dsimp only [cxOf, Cx.nox, Cx.wish]
  rw [show start N__law_is_number [v0] = [some v0] from rfl]
  obtain ⟨hf, k⟩ := h
  cases v0 with
  | non =>
    walk_at "gi"
    exact k
  | bl b =>
    walk_at "gi"
    exact k
  | str s =>
    walk_at "gi"
    exact k
  | int i =>
    walk_at "gi"
    refine go_bool (fun e => ?_) (fun e => ?_)
    · walk_at "gi"
      have z : (decide (-1000000000000 ≤ i) && decide (i ≤ 1000000000000)) = decide (i ≤ 1000000000000) := by rw [e, Bool.true_and]
      rw [← z]
      exact k
    · have z : (decide (-1000000000000 ≤ i) && decide (i ≤ 1000000000000)) = false := by rw [e, Bool.false_and]
      rw [← z]
      exact k
  | _ => exact nomatch hf
abbrev N_is_number : List Str := ["value"]
theorem sc_is_number : FnScope N_is_number ["value"] (defScope s_is_number) := ⟨rfl, rfl, rfl, by decide +kernel, rfl, by decide +kernel, by decide +kernel⟩
set_option maxHeartbeats 4000000 in
theorem Dis_number  (T : Txt K mg) : Def P w K mg base CX0 (1) "is_number" s_is_number ["value"] (Sp1 pIsNum) := by
  obtain ⟨f, fd, m, F⟩ := T.f_is_number.ex
  refine ⟨f, fd, m, F.kp, F.bindsN (ps := ["value"]) (fun _ _ _ _ _ _ us hl => match us, hl with | [_], _ => rfl), ?_, F⟩
  obtain ⟨tc_LIMIT, ec_LIMIT⟩ := T.c_LIMIT
  refine F.ok (CX := CX0) sc_is_number len1 (fun cdv A outer s H vs Q E hr h => ?_)
  obtain ⟨v0, rfl, h⟩ := h
  refine ⟨_, PSs.nox (pss_cons (ps_if (PW.pt (pw_or (pt_not (pt_val (pe_callB call_isi (by rfl) T.b_isinstance (by decide +kernel) (pa_cons (pv 0) (pa_cons (pe_bltn (v := .ty "int") (by rfl) T.b_int (by decide +kernel) rfl) pa_nil))))) (pw_or1 (pt_val (pe_callB call_isi (by rfl) T.b_isinstance (by decide +kernel) (pa_cons (pv 0) (pa_cons (pe_bltn (v := .ty "bool") (by rfl) T.b_bool (by decide +kernel) rfl) pa_nil))))))) (pss_one (ps_ret pe_bl)) pss_nil)
      (pss_one (ps_ret (pe_chain op_le0 op_le0 (pe_un un_neg0 (pe_glob (v := .int 1000000000000) (by rfl) ec_LIMIT ⟨_, rfl⟩)) (pv 0) (pe_glob (v := .int 1000000000000) (by rfl) ec_LIMIT ⟨_, rfl⟩))))), ?_⟩
  try dsimp only [cxOf, Cx.nox, Cx.wish]
  rw [show start N_is_number [v0] = [some v0] from rfl]
  obtain ⟨hf, k⟩ := h
  cases v0 with
  | non =>
    walk_at "gi"
    exact k
  | bl b =>
    walk_at "gi"
    exact k
  | str s =>
    walk_at "gi"
    exact k
  | int i =>
    walk_at "gi"
    refine go_bool (fun e => ?_) (fun e => ?_)
    · walk_at "gi"
      have z : (decide (-1000000000000 ≤ i) && decide (i ≤ 1000000000000)) = decide (i ≤ 1000000000000) := by rw [e, Bool.true_and]
      rw [← z]
      exact k
    · have z : (decide (-1000000000000 ≤ i) && decide (i ≤ 1000000000000)) = false := by rw [e, Bool.false_and]
      rw [← z]
      exact k
  | _ => exact nomatch hf
abbrev N_check_number : List Str := ["value"]
theorem sc_check_number : FnScope N_check_number ["value"] (defScope s_check_number) := ⟨rfl, rfl, rfl, by decide +kernel, rfl, by decide +kernel, by decide +kernel⟩
set_option maxHeartbeats 4000000 in
theorem Dcheck_number  (T : Txt K mg) : Def P w K mg base (L2.CX P w) (3) "check_number" s_check_number ["value"] (Sp1 (pCheckNum K)) := by
  obtain ⟨f, fd, m, F⟩ := T.f_check_number.ex
  refine ⟨f, fd, m, F.kp, F.bindsN (ps := ["value"]) (fun _ _ _ _ _ _ us hl => match us, hl with | [_], _ => rfl), ?_, F⟩
  obtain ⟨fis_number, fdis_number, mis_number, kpis_number, bis_number, Gis_number, Fis_number⟩ := (Dis_number (P := P) (w := w) (base := base) T).ex
  obtain ⟨fdi_BadNumber, bi_BadNumber, Gi_BadNumber⟩ := (Di_BadNumber (P := P) (w := w) (base := base) T)
  refine F.ok (CX := (L2.CX P w)) sc_check_number len1 (fun cdv A outer s H vs Q E hr h => ?_)
  obtain ⟨v0, rfl, h⟩ := h
  refine ⟨_, (pss_cons (ps_if (pt_not (pt_val (pe_call Gis_number (hr.mono (by first | decide | omega)) (by rfl) mis_number kpis_number bis_number .nil pass0 (pa_cons (pv 0) pa_nil)))) (pss_one (ps_raise rfl (takes_of rfl rfl rfl rfl) (pmk_oex T.x_BadNumber.oex T.i_BadNumber.ini T.i_BadNumber.ty Gi_BadNumber (hr.mono (by first | decide | omega)) bi_BadNumber .nil pass0 (by rfl) T.g_BadNumber (pa_cons (pv 0) pa_nil)))) pss_nil)
      (pss_one (ps_ret (pv 0)))), ?_⟩
  try dsimp only [cxOf, Cx.nox, Cx.wish]
  rw [show start N_check_number [v0] = [some v0] from rfl]
  obtain ⟨hf, k1, k2⟩ := h
  walk_at "go"
  refine ⟨hf, ?_⟩
  walk_at "go"
  refine go_nbool (fun e => ?_) (fun e => ?_)
  · refine go_mkO ?_
    walk_at "go"
    exact mk1 (k2 e)
  · walk_at "go"
    exact k1 e
abbrev N_check_end : List Str := ["value"]
theorem sc_check_end : FnScope N_check_end ["value"] (defScope s_check_end) := ⟨rfl, rfl, rfl, by decide +kernel, rfl, by decide +kernel, by decide +kernel⟩
set_option maxHeartbeats 4000000 in
theorem Dcheck_end  (T : Txt K mg) : Def P w K mg base (L2.CX P w) (4) "check_end" s_check_end ["value"] (Sp1 (pCheckEnd K)) := by
  obtain ⟨f, fd, m, F⟩ := T.f_check_end.ex
  refine ⟨f, fd, m, F.kp, F.bindsN (ps := ["value"]) (fun _ _ _ _ _ _ us hl => match us, hl with | [_], _ => rfl), ?_, F⟩
  obtain ⟨fcheck_number, fdcheck_number, mcheck_number, kpcheck_number, bcheck_number, Gcheck_number, Fcheck_number⟩ := (Dcheck_number (P := P) (w := w) (base := base) T).ex
  refine F.ok (CX := (L2.CX P w)) sc_check_end len1 (fun cdv A outer s H vs Q E hr h => ?_)
  obtain ⟨v0, rfl, h⟩ := h
  refine ⟨_, (pss_one (ps_if (pt_cmpR op_isnot0 (pv 0) pe_non (nomark _)) (pss_one (ps_expr (pe_call Gcheck_number (hr.mono (by first | decide | omega)) (by rfl) mcheck_number kpcheck_number bcheck_number .nil (passes_call (takes_of rfl rfl rfl rfl) (fun _ _ _ _ z => z)) (pa_cons (pv 0) pa_nil)))) pss_nil)), ?_⟩
  try dsimp only [cxOf, Cx.nox, Cx.wish]
  rw [show start N_check_end [v0] = [some v0] from rfl]
  obtain ⟨hf, k1, k2⟩ := h
  by_cases e : v0 = .non
  · subst e
    walk_at "go"
    exact k1 rfl
  · rw [endOk_ne e] at k1 k2
    walk_at "go"
    refine ⟨hf, fun z => ?_, fun z => k2 z⟩
    walk_at "go"
    exact k1 z
abbrev N_number_text : List Str := ["number"]
theorem sc_number_text : FnScope N_number_text ["number"] (defScope s_number_text) := ⟨rfl, rfl, rfl, by decide +kernel, rfl, by decide +kernel, by decide +kernel⟩
set_option maxHeartbeats 4000000 in
theorem Dnumber_text  (T : Txt K mg) : Def P w K mg base (L2.CX P w) (4) "number_text" s_number_text ["number"] (Sp1 (pNumText K)) := by
  obtain ⟨f, fd, m, F⟩ := T.f_number_text.ex
  refine ⟨f, fd, m, F.kp, F.bindsN (ps := ["number"]) (fun _ _ _ _ _ _ us hl => match us, hl with | [_], _ => rfl), ?_, F⟩
  obtain ⟨fcheck_number, fdcheck_number, mcheck_number, kpcheck_number, bcheck_number, Gcheck_number, Fcheck_number⟩ := (Dcheck_number (P := P) (w := w) (base := base) T).ex
  refine F.ok (CX := (L2.CX P w)) sc_number_text len1 (fun cdv A outer s H vs Q E hr h => ?_)
  obtain ⟨v0, rfl, h⟩ := h
  refine ⟨_, (pss_one (ps_ret (pe_callTy call_strI (by rfl) T.b_str (by decide +kernel) (pa_cons (pe_call Gcheck_number (hr.mono (by first | decide | omega)) (by rfl) mcheck_number kpcheck_number bcheck_number .nil (passes_call (takes_of rfl rfl rfl rfl) (fun _ _ _ _ z => z)) (pa_cons (pv 0) pa_nil)) pa_nil)))), ?_⟩
  try dsimp only [cxOf, Cx.nox, Cx.wish]
  rw [show start N_number_text [v0] = [some v0] from rfl]
  obtain ⟨hf, k1, k2⟩ := h
  walk_at "go"
  refine ⟨hf, fun e => ?_, k2⟩
  obtain ⟨i, rfl, hi⟩ := isNum_to e
  walk_at "go"
  exact go_strZ (by omega) fun _ => k1 i rfl hi
abbrev N_is_digits : List Str := ["text", "sign"]
theorem sc_is_digits : FnScope N_is_digits ["text"] (defScope s_is_digits) := ⟨rfl, rfl, rfl, by decide +kernel, rfl, by decide +kernel, by decide +kernel⟩
set_option maxHeartbeats 4000000 in
theorem Dis_digits  (T : Txt K mg) : Def P w K mg base CX0 (1) "is_digits" s_is_digits ["text"] (Sp1 pIsDigits) := by
  obtain ⟨f, fd, m, F⟩ := T.f_is_digits.ex
  refine ⟨f, fd, m, F.kp, F.bindsN (ps := ["text"]) (fun _ _ _ _ _ _ us hl => match us, hl with | [_], _ => rfl), ?_, F⟩
  obtain ⟨tc_DIGITS, ec_DIGITS⟩ := T.c_DIGITS
  obtain ⟨tc_MOST_DIGITS, ec_MOST_DIGITS⟩ := T.c_MOST_DIGITS
  refine F.ok (CX := CX0) sc_is_digits len1 (fun cdv A outer s H vs Q E hr h => ?_)
  obtain ⟨v0, rfl, h⟩ := h
  refine ⟨_, PSs.nox (pss_cons (ps_if (PW.pt (pw_or (pt_cmpR op_ltU (pe_callB call_lenU (by rfl) T.b_len (by decide +kernel) (pa_cons (pv 0) pa_nil)) pe_int (nomark _)) (pw_or1 (pt_cmpR op_gt0 (pe_callB call_lenU (by rfl) T.b_len (by decide +kernel) (pa_cons (pv 0) pa_nil)) (pe_glob (v := .int 13) (by rfl) ec_MOST_DIGITS ⟨_, rfl⟩) (nomark _))))) (pss_one (ps_ret pe_bl)) pss_nil)
      (pss_cons (ps_for PassesOwn.never rfl (pi_str (pv 0)) (pg_name (i := 1) sc_is_digits.nd rfl (Or.inl rfl)) (pss_one (ps_if (pt_cmpR op_niU (pv 1) (pe_glob (v := .str digS) (by rfl) ec_DIGITS ⟨_, rfl⟩) (by rfl)) (pss_one (ps_ret pe_bl)) pss_nil)))
      (pss_one (ps_ret pe_bl)))), ?_⟩
  try dsimp only [cxOf, Cx.nox, Cx.wish]
  rw [show start N_is_digits [v0] = [some v0, none] from rfl]
  obtain ⟨x, rfl, hl, k⟩ := h
  have et := tl_len x
  have kf : digsB (tl x) = false → Q (.bl false) H := fun e => by
    rw [e] at k
    exact k
  have kt : digsB (tl x) = true → Q (.bl true) H := fun e => by
    rw [e] at k
    exact k
  clear k
  walk_at "go"
  refine go_dec (fun a => ?_) (fun a => ?_)
  · walk_at "go"
    exact kf (by unfold digsB; rw [decide_eq_false (by omega)]; rfl)
  walk_at "go"
  refine go_dec (fun b => ?_) (fun b => ?_)
  · walk_at "go"
    exact kf (by unfold digsB; rw [decide_eq_false (p := (tl x).length ≤ 13) (by omega), Bool.false_and, Bool.and_false])
  walk_at "go"
  refine for_s (fun i σ' H' => ∃ (v1 : Option V), σ' = [some (.str x), v1] ∧ H' = H ∧ ∀ (j c : Nat), j < i → (tl x)[j]? = some c → isDig c = true) ⟨_, rfl, rfl, fun j c hj => absurd hj (Nat.not_lt_zero j)⟩ ?_ ?_
  · rintro i c σ' H' hc ⟨v1, rfl, e0, hp⟩
    subst e0
    walk_at "go"
    refine go_ndec (fun m => ?_) (fun m => ?_)
    · walk_at "go"
      refine kf ?_
      have : (tl x).all isDig = false := by
        rw [List.all_eq_false]
        exact ⟨c, List.mem_of_getElem? hc, fun z => m (dig_mem.mpr z)⟩
      unfold digsB
      rw [this, Bool.and_false, Bool.and_false]
    · walk_at "go"
      refine ⟨_, rfl, rfl, fun j d hj hd => ?_⟩
      by_cases q : j = i
      · subst q
        rw [show (tl x)[j]? = some c from hc] at hd
        cases hd
        exact dig_mem.mp m
      · exact hp j d (by omega) hd
  · rintro σ' H' ⟨v1, rfl, e0, hp⟩
    subst e0
    walk_at "go"
    refine kt ?_
    unfold digsB
    rw [decide_eq_true (by omega), decide_eq_true (p := (tl x).length ≤ 13) (by omega), Bool.true_and, Bool.true_and]
    refine List.all_eq_true.mpr fun c hc => ?_
    obtain ⟨j, hj⟩ := List.mem_iff_getElem?.mp hc
    exact hp j c (by rw [← et]; exact (List.getElem?_eq_some_iff.mp hj).1) hj
abbrev N_parse_number : List Str := ["text", "digits", "number"]
theorem sc_parse_number : FnScope N_parse_number ["text"] (defScope s_parse_number) := ⟨rfl, rfl, rfl, by decide +kernel, rfl, by decide +kernel, by decide +kernel⟩
set_option maxHeartbeats 4000000 in
theorem Dparse_number  (T : Txt K mg) : Def P w K mg base (L2.CX P w) (3) "parse_number" s_parse_number ["text"] (Sp1 (pParseNum K)) := by
  obtain ⟨f, fd, m, F⟩ := T.f_parse_number.ex
  refine ⟨f, fd, m, F.kp, F.bindsN (ps := ["text"]) (fun _ _ _ _ _ _ us hl => match us, hl with | [_], _ => rfl), ?_, F⟩
  obtain ⟨fis_digits, fdis_digits, mis_digits, kpis_digits, bis_digits, Gis_digits, Fis_digits⟩ := (Dis_digits (P := P) (w := w) (base := base) T).ex
  obtain ⟨fis_number, fdis_number, mis_number, kpis_number, bis_number, Gis_number, Fis_number⟩ := (Dis_number (P := P) (w := w) (base := base) T).ex
  obtain ⟨fdi_BadText, bi_BadText, Gi_BadText⟩ := (Di_BadText (P := P) (w := w) (base := base) T)
  refine F.ok (CX := (L2.CX P w)) sc_parse_number len1 (fun cdv A outer s H vs Q E hr h => ?_)
  obtain ⟨v0, rfl, h⟩ := h
  refine ⟨_, (pss_cons (ps_set (i := 1) sc_parse_number.nd rfl (Or.inl rfl) (pv 0))
      (C8.pss_cut (ps_if (pt_val (pe_bm PySem.F.plainAttrs_str PySem.F.slot_str_startswith PySem.F.type_str_startswith mt_startsU (pv 0) (pa_cons pe_str pa_nil))) (pss_one (ps_set (i := 1) sc_parse_number.nd rfl (Or.inl rfl) (pe_slice sl_str (pv 0) (po_some pe_int) po_none))) pss_nil)
      (pss_cons (ps_if (pt_not (pt_val (pe_call Gis_digits (hr.mono (by first | decide | omega)) (by rfl) mis_digits kpis_digits bis_digits .nil pass0 (pa_cons (pv 1) pa_nil)))) (pss_one (ps_raise rfl (takes_of rfl rfl rfl rfl) (pmk_oex T.x_BadText.oex T.i_BadText.ini T.i_BadText.ty Gi_BadText (hr.mono (by first | decide | omega)) bi_BadText .nil pass0 (by rfl) T.g_BadText (pa_cons pe_int pa_nil)))) pss_nil)
      (pss_cons (ps_set (i := 2) sc_parse_number.nd rfl (Or.inl rfl) (pe_callTy call_intS (by rfl) T.b_int (by decide +kernel) (pa_cons (pv 0) pa_nil)))
      (pss_cons (ps_if (PW.pt (pw_or (pt_cmpR op_ne (pe_callTy call_strI (by rfl) T.b_str (by decide +kernel) (pa_cons (pv 2) pa_nil)) (pv 0) (nomark _)) (pw_or1 (pt_not (pt_val (pe_call Gis_number (hr.mono (by first | decide | omega)) (by rfl) mis_number kpis_number bis_number .nil pass0 (pa_cons (pv 2) pa_nil))))))) (pss_one (ps_raise rfl (takes_of rfl rfl rfl rfl) (pmk_oex T.x_BadText.oex T.i_BadText.ini T.i_BadText.ty Gi_BadText (hr.mono (by first | decide | omega)) bi_BadText .nil pass0 (by rfl) T.g_BadText (pa_cons pe_int pa_nil)))) pss_nil)
      (pss_one (ps_ret (pv 2)))))))), ?_⟩
  try dsimp only [cxOf, Cx.nox, Cx.wish]
  rw [show start N_parse_number [v0] = [some v0, none, none] from rfl]
  obtain ⟨x, rfl, hl, k1, k2⟩ := h
  walk_at "go"
  refine ⟨fun σ' H' => ∃ f : Str, σ' = [some (.str x), some (.str f), none] ∧ tl f = figs (tl x) ∧ f.length ≤ 10000 ∧ H' = H, ?_, ?_⟩
  · walk_at "go"
    refine go_starts ?_
    rw [starts_minus]
    walk_at "go"
    refine go_bool (fun e => ?_) (fun e => ?_)
    · walk_at "go"
      have hc := cutS_length x (some 1) none
      exact ⟨_, rfl, figs_cut e, by omega, rfl⟩
    · walk_at "go"
      exact ⟨x, rfl, (figs_pos e).symm, hl, rfl⟩
  rintro σ' H' ⟨f, rfl, hf, hfl, e0⟩
  subst e0
  walk_at "go"
  refine ⟨f, rfl, by omega, ?_⟩
  walk_at "go"
  rw [hf, ← shape_digs]
  refine go_nbool (fun e => ?_) (fun e => ?_)
  · walk_at "go"
    refine go_mkO ?_
    walk_at "go"
    exact mk1 (k2 (shape_no e))
  · have hx := shape_len e
    have hv := val_small e
    walk_at "go"
    refine go_intS e (by omega) ?_
    walk_at "go"
    refine go_strZ hv fun hzl => ?_
    walk_at "go"
    refine go_ndec (fun z => ?_) (fun z => ?_)
    · walk_at "go"
      refine go_mkO ?_
      walk_at "go"
      refine mk1 (k2 (zero_no ?_))
      cases q : zeroL (tl x) with
      | false => rfl
      | true => exact absurd ((canon e).mpr q) z
    · walk_at "go"
      refine ⟨rfl, ?_⟩
      walk_at "go"
      refine go_nbool (fun b => ?_) (fun b => ?_)
      · walk_at "go"
        refine go_mkO ?_
        walk_at "go"
        exact mk1 (k2 (range_no fun r => by rw [isNum_int r] at b; exact nomatch b))
      · walk_at "go"
        obtain ⟨i, ei, hi⟩ := isNum_to b
        cases ei
        exact k1 _ (read_yes e ((canon e).mp z) hi) hi
abbrev N_end_text : List Str := ["end"]
theorem sc_end_text : FnScope N_end_text ["end"] (defScope s_end_text) := ⟨rfl, rfl, rfl, by decide +kernel, rfl, by decide +kernel, by decide +kernel⟩
set_option maxHeartbeats 4000000 in
theorem Dend_text  (T : Txt K mg) : Def P w K mg base CX0 (1) "end_text" s_end_text ["end"] (Sp1 pEndText) := by
  obtain ⟨f, fd, m, F⟩ := T.f_end_text.ex
  refine ⟨f, fd, m, F.kp, F.bindsN (ps := ["end"]) (fun _ _ _ _ _ _ us hl => match us, hl with | [_], _ => rfl), ?_, F⟩
  refine F.ok (CX := CX0) sc_end_text len1 (fun cdv A outer s H vs Q E hr h => ?_)
  obtain ⟨v0, rfl, h⟩ := h
  refine ⟨_, PSs.nox (pss_cons (ps_if (pt_cmpR op_is0 (pv 0) pe_non (nomark _)) (pss_one (ps_ret pe_str)) pss_nil)
      (pss_one (ps_ret (pe_callTy call_strI (by rfl) T.b_str (by decide +kernel) (pa_cons (pv 0) pa_nil))))), ?_⟩
  try dsimp only [cxOf, Cx.nox, Cx.wish]
  rw [show start N_end_text [v0] = [some v0] from rfl]
  obtain ⟨hv, k⟩ := h
  rcases hv with rfl | ⟨i, rfl, hi⟩
  · walk_at "go"
    exact k
  · walk_at "go"
    exact go_strZ (by omega) fun _ => k
abbrev N_parse_end : List Str := ["text"]
theorem sc_parse_end : FnScope N_parse_end ["text"] (defScope s_parse_end) := ⟨rfl, rfl, rfl, by decide +kernel, rfl, by decide +kernel, by decide +kernel⟩
set_option maxHeartbeats 4000000 in
theorem Dparse_end  (T : Txt K mg) : Def P w K mg base (L2.CX P w) (4) "parse_end" s_parse_end ["text"] (Sp1 (pParseEnd K)) := by
  obtain ⟨f, fd, m, F⟩ := T.f_parse_end.ex
  refine ⟨f, fd, m, F.kp, F.bindsN (ps := ["text"]) (fun _ _ _ _ _ _ us hl => match us, hl with | [_], _ => rfl), ?_, F⟩
  obtain ⟨fparse_number, fdparse_number, mparse_number, kpparse_number, bparse_number, Gparse_number, Fparse_number⟩ := (Dparse_number (P := P) (w := w) (base := base) T).ex
  refine F.ok (CX := (L2.CX P w)) sc_parse_end len1 (fun cdv A outer s H vs Q E hr h => ?_)
  obtain ⟨v0, rfl, h⟩ := h
  refine ⟨_, (pss_cons (ps_if (pt_cmpR op_eq (pv 0) pe_str (nomark _)) (pss_one (ps_ret pe_non)) pss_nil)
      (pss_one (ps_ret (pe_call Gparse_number (hr.mono (by first | decide | omega)) (by rfl) mparse_number kpparse_number bparse_number .nil (passes_call (takes_of rfl rfl rfl rfl) (fun _ _ _ _ z => z)) (pa_cons (pv 0) pa_nil))))), ?_⟩
  try dsimp only [cxOf, Cx.nox, Cx.wish]
  rw [show start N_parse_end [v0] = [some v0] from rfl]
  obtain ⟨x, rfl, hl, k1, k2⟩ := h
  walk_at "go"
  refine go_dec (fun e => ?_) (fun e => ?_)
  · walk_at "go"
    exact k1 .non (by unfold endR; rw [e]; rfl) (.inl rfl)
  · walk_at "go"
    have hx : x.length ≠ 0 := fun z => e (str_zero z)
    have ee := endR_read hx
    exact ⟨x, rfl, hl, fun i hi hr => k1 (.int i) (by rw [ee, hi]; rfl) (.inr ⟨i, rfl, hr⟩), fun z => k2 (by rw [ee, z]; rfl)⟩
end
end Q
namespace Q
section
variable {P : Program} {w : World} {K : PySem.W.Frag} {mg : Str → Option Value} {base : Heap}
abbrev N__law_match : List Str := ["_law_left", "_law_right", "_law_strict", "_law_k"]
theorem sc__law_match : FnScope N__law_match ["_law_left", "_law_right", "_law_strict"] (defScope s__law_match) := ⟨rfl, rfl, rfl, by decide +kernel, rfl, by decide +kernel, by decide +kernel⟩
theorem match_zero {K : PySem.W.Frag} : ∀ vs H Q E, Sp3 (pMatch K 0) vs H Q E → Sp3 pMatchF vs H Q E ∨ Sp3 pMatchF vs H Q E := by
  rintro vs H Q E ⟨a, b, c, rfl, h | ⟨st, x, rfl, rfl, h, _⟩⟩
  · exact .inl ⟨a, b, c, rfl, h⟩
  · rcases h.cases with ⟨f, _⟩ | ⟨_, m, _, e⟩
    · exact nomatch f
    · exact absurd e (by omega)
theorem match_succ {K : PySem.W.Frag} {n : Nat} : ∀ vs H Q E, Sp3 (pMatch K (n + 1)) vs H Q E → Sp3 pMatchF vs H Q E ∨ Sp3 (pMatchE K (n + 1)) vs H Q E := by
  rintro vs H Q E ⟨a, b, c, rfl, h | h⟩
  · exact .inl ⟨a, b, c, rfl, h⟩
  · exact .inr ⟨a, b, c, rfl, h⟩
set_option maxHeartbeats 4000000 in
theorem D_law_match_0  (T : Txt K mg) : Def P w K mg base CX0 (1) "_law_match" s__law_match ["_law_left", "_law_right", "_law_strict"] (Sp3 pMatchF) := by
  obtain ⟨f, fd, m, F⟩ := T.f__law_match.ex
  refine ⟨f, fd, m, F.kp, F.bindsN (ps := ["_law_left", "_law_right", "_law_strict"]) (fun _ _ _ _ _ _ us hl => match us, hl with | [_, _, _], _ => rfl), ?_, F⟩
  refine F.ok (CX := CX0) sc__law_match len3 (fun cdv A outer s H vs Q E hr h => ?_)
  obtain ⟨v0, v1, v2, rfl, h⟩ := h
  refine ⟨_, PSs.nox (pss_cons (ps_if (PW.pt (pw_or (pt_cmpR op_is0 (pv 0) pe_non (nomark _)) (pw_or1 (pt_cmpR op_is0 (pv 1) pe_non (nomark _))))) (pss_one (ps_ret (pe_and (pe_cmpR op_is0 (pv 0) pe_non (nomark _)) (pe_one (pe_cmpR op_is0 (pv 1) pe_non (nomark _)))))) pss_nil)
      (pss_cons (ps_if (PW.pt (pw_or (pt_val (pe_callB call_isi (by rfl) T.b_isinstance (by decide +kernel) (pa_cons (pv 0) (pa_cons (pe_bltn (v := .ty "bool") (by rfl) T.b_bool (by decide +kernel) rfl) pa_nil)))) (pw_or1 (pt_val (pe_callB call_isi (by rfl) T.b_isinstance (by decide +kernel) (pa_cons (pv 1) (pa_cons (pe_bltn (v := .ty "bool") (by rfl) T.b_bool (by decide +kernel) rfl) pa_nil))))))) (pss_one (ps_ret (pe_and (pe_callB call_isi (by rfl) T.b_isinstance (by decide +kernel) (pa_cons (pv 0) (pa_cons (pe_bltn (v := .ty "bool") (by rfl) T.b_bool (by decide +kernel) rfl) pa_nil))) (pe_and (pe_callB call_isi (by rfl) T.b_isinstance (by decide +kernel) (pa_cons (pv 1) (pa_cons (pe_bltn (v := .ty "bool") (by rfl) T.b_bool (by decide +kernel) rfl) pa_nil))) (pe_one (pe_cmpR op_eq (pv 0) (pv 1) (nomark _))))))) pss_nil)
      (pss_cons (ps_if (PW.pt (pw_or (pt_val (pe_callB call_isi (by rfl) T.b_isinstance (by decide +kernel) (pa_cons (pv 0) (pa_cons (pe_bltn (v := .ty "int") (by rfl) T.b_int (by decide +kernel) rfl) pa_nil)))) (pw_or1 (pt_val (pe_callB call_isi (by rfl) T.b_isinstance (by decide +kernel) (pa_cons (pv 1) (pa_cons (pe_bltn (v := .ty "int") (by rfl) T.b_int (by decide +kernel) rfl) pa_nil))))))) (pss_one (ps_ret (pe_and (pe_callB call_isi (by rfl) T.b_isinstance (by decide +kernel) (pa_cons (pv 0) (pa_cons (pe_bltn (v := .ty "int") (by rfl) T.b_int (by decide +kernel) rfl) pa_nil))) (pe_and (pe_callB call_isi (by rfl) T.b_isinstance (by decide +kernel) (pa_cons (pv 1) (pa_cons (pe_bltn (v := .ty "int") (by rfl) T.b_int (by decide +kernel) rfl) pa_nil))) (pe_one (pe_cmpR op_eq (pv 0) (pv 1) (nomark _))))))) pss_nil)
      (pss_cons (ps_if (PW.pt (pw_or (pt_val (pe_callB call_isi (by rfl) T.b_isinstance (by decide +kernel) (pa_cons (pv 0) (pa_cons (pe_bltn (v := .ty "str") (by rfl) T.b_str (by decide +kernel) rfl) pa_nil)))) (pw_or1 (pt_val (pe_callB call_isi (by rfl) T.b_isinstance (by decide +kernel) (pa_cons (pv 1) (pa_cons (pe_bltn (v := .ty "str") (by rfl) T.b_str (by decide +kernel) rfl) pa_nil))))))) (pss_one (ps_ret (pe_and (pe_callB call_isi (by rfl) T.b_isinstance (by decide +kernel) (pa_cons (pv 0) (pa_cons (pe_bltn (v := .ty "str") (by rfl) T.b_str (by decide +kernel) rfl) pa_nil))) (pe_and (pe_callB call_isi (by rfl) T.b_isinstance (by decide +kernel) (pa_cons (pv 1) (pa_cons (pe_bltn (v := .ty "str") (by rfl) T.b_str (by decide +kernel) rfl) pa_nil))) (pe_one (pe_cmpR op_eq (pv 0) (pv 1) (nomark _))))))) pss_nil)
      (pss_cons (ps_if (PW.pt (pw_or (pt_val (pe_callB call_isi (by rfl) T.b_isinstance (by decide +kernel) (pa_cons (pv 0) (pa_cons (pe_bltn (v := .ty "dict") (by rfl) T.b_dict (by decide +kernel) rfl) pa_nil)))) (pw_or1 (pt_val (pe_callB call_isi (by rfl) T.b_isinstance (by decide +kernel) (pa_cons (pv 1) (pa_cons (pe_bltn (v := .ty "dict") (by rfl) T.b_dict (by decide +kernel) rfl) pa_nil))))))) (pss_one ps_never) pss_nil)
      (pss_cons (ps_if (PW.pt (pw_or (pt_not (pt_val (pe_callB call_isiT (by rfl) T.b_isinstance (by decide +kernel) (pa_cons (pv 0) (pa_cons (pe_tup (pa_cons (pe_bltn (v := .ty "list") (by rfl) T.b_list (by decide +kernel) rfl) (pa_cons (pe_bltn (v := .ty "tuple") (by rfl) T.b_tuple (by decide +kernel) rfl) pa_nil))) pa_nil))))) (pw_or1 (pt_not (pt_val (pe_callB call_isiT (by rfl) T.b_isinstance (by decide +kernel) (pa_cons (pv 1) (pa_cons (pe_tup (pa_cons (pe_bltn (v := .ty "list") (by rfl) T.b_list (by decide +kernel) rfl) (pa_cons (pe_bltn (v := .ty "tuple") (by rfl) T.b_tuple (by decide +kernel) rfl) pa_nil))) pa_nil)))))))) (pss_one (ps_ret pe_bl)) pss_nil)
      (pss_cons (ps_if (PW.pt (pw_or (pt_cmpR op_ne (pe_callB call_lenU (by rfl) T.b_len (by decide +kernel) (pa_cons (pv 0) pa_nil)) (pe_callB call_lenU (by rfl) T.b_len (by decide +kernel) (pa_cons (pv 1) pa_nil)) (nomark _)) (pw_or1 (PW.pt (pw_and (pt_val (pv 2)) (pw_and1 (pt_cmpR op_ne (pe_callB call_isi (by rfl) T.b_isinstance (by decide +kernel) (pa_cons (pv 0) (pa_cons (pe_bltn (v := .ty "list") (by rfl) T.b_list (by decide +kernel) rfl) pa_nil))) (pe_callB call_isi (by rfl) T.b_isinstance (by decide +kernel) (pa_cons (pv 1) (pa_cons (pe_bltn (v := .ty "list") (by rfl) T.b_list (by decide +kernel) rfl) pa_nil))) (nomark _)))))))) (pss_one (ps_ret pe_bl)) pss_nil)
      (pss_cons ps_never
      (pss_one (ps_ret pe_bl)))))))))), ?_⟩
  try dsimp only [cxOf, Cx.nox, Cx.wish]
  rw [show start N__law_match [v0, v1, v2] = [some v0, some v1, some v2, none] from rfl]
  obtain ⟨st, rfl, f0, f1, k⟩ := h
  cases v0 with
  | ref a => exact nomatch f0
  | non =>
    cases v1 with
    | non =>
      walk_at "gi"
      exact k
    | bl b =>
      walk_at "gi"
      exact k
    | int b =>
      walk_at "gi"
      exact k
    | str b =>
      walk_at "gi"
      exact k
    | _ => exact nomatch f1
  | bl a =>
    cases v1 with
    | non =>
      walk_at "gi"
      exact k
    | bl b =>
      walk_at "gi"
      rw [show decide (V.bl a = V.bl b) = decide (a = b) by rw [dec_bl, Bool.beq_eq_decide_eq]] at k
      exact k
    | int b =>
      walk_at "gi"
      exact k
    | str b =>
      walk_at "gi"
      exact k
    | _ => exact nomatch f1
  | int a =>
    cases v1 with
    | non =>
      walk_at "gi"
      exact k
    | bl b =>
      walk_at "gi"
      exact k
    | int b =>
      walk_at "gi"
      rw [show decide (V.int a = V.int b) = decide (a = b) by rw [dec_int, Bool.beq_eq_decide_eq]] at k
      exact k
    | str b =>
      walk_at "gi"
      exact k
    | _ => exact nomatch f1
  | str a =>
    cases v1 with
    | non =>
      walk_at "gi"
      exact k
    | bl b =>
      walk_at "gi"
      exact k
    | int b =>
      walk_at "gi"
      exact k
    | str b =>
      walk_at "gi"
      rw [show decide (V.str a = V.str b) = decide (a = b) by rw [dec_str, Bool.beq_eq_decide_eq]] at k
      exact k
    | _ => exact nomatch f1
  | _ => exact nomatch f0
set_option maxHeartbeats 4000000 in
theorem D_law_match_s {n : Nat} (T : Txt K mg) (ih_law_match : Def P w K mg base CX0 (n + 1) "_law_match" s__law_match ["_law_left", "_law_right", "_law_strict"] (Sp3 (pMatch K n))) : Def P w K mg base CX0 (n + 2) "_law_match" s__law_match ["_law_left", "_law_right", "_law_strict"] (Sp3 (pMatchE K (n + 1))) := by
  obtain ⟨f, fd, m, F⟩ := T.f__law_match.ex
  refine ⟨f, fd, m, F.kp, F.bindsN (ps := ["_law_left", "_law_right", "_law_strict"]) (fun _ _ _ _ _ _ us hl => match us, hl with | [_, _, _], _ => rfl), ?_, F⟩
  obtain ⟨f_law_match, fd_law_match, m_law_match, kp_law_match, b_law_match, G_law_match, F_law_match⟩ := (ih_law_match).ex
  refine F.ok (CX := CX0) sc__law_match len3 (fun cdv A outer s H vs Q E hr h => ?_)
  obtain ⟨v0, v1, v2, rfl, h⟩ := h
  refine ⟨_, PSs.nox (pss_cons (ps_if (PW.pt (pw_or (pt_cmpR op_is0 (pv 0) pe_non (nomark _)) (pw_or1 (pt_cmpR op_is0 (pv 1) pe_non (nomark _))))) (pss_one (ps_ret (pe_and (pe_cmpR op_is0 (pv 0) pe_non (nomark _)) (pe_one (pe_cmpR op_is0 (pv 1) pe_non (nomark _)))))) pss_nil)
      (pss_cons (ps_if (PW.pt (pw_or (pt_val (pe_callB call_isi (by rfl) T.b_isinstance (by decide +kernel) (pa_cons (pv 0) (pa_cons (pe_bltn (v := .ty "bool") (by rfl) T.b_bool (by decide +kernel) rfl) pa_nil)))) (pw_or1 (pt_val (pe_callB call_isi (by rfl) T.b_isinstance (by decide +kernel) (pa_cons (pv 1) (pa_cons (pe_bltn (v := .ty "bool") (by rfl) T.b_bool (by decide +kernel) rfl) pa_nil))))))) (pss_one (ps_ret (pe_and (pe_callB call_isi (by rfl) T.b_isinstance (by decide +kernel) (pa_cons (pv 0) (pa_cons (pe_bltn (v := .ty "bool") (by rfl) T.b_bool (by decide +kernel) rfl) pa_nil))) (pe_and (pe_callB call_isi (by rfl) T.b_isinstance (by decide +kernel) (pa_cons (pv 1) (pa_cons (pe_bltn (v := .ty "bool") (by rfl) T.b_bool (by decide +kernel) rfl) pa_nil))) (pe_one (pe_cmpR op_eq (pv 0) (pv 1) (nomark _))))))) pss_nil)
      (pss_cons (ps_if (PW.pt (pw_or (pt_val (pe_callB call_isi (by rfl) T.b_isinstance (by decide +kernel) (pa_cons (pv 0) (pa_cons (pe_bltn (v := .ty "int") (by rfl) T.b_int (by decide +kernel) rfl) pa_nil)))) (pw_or1 (pt_val (pe_callB call_isi (by rfl) T.b_isinstance (by decide +kernel) (pa_cons (pv 1) (pa_cons (pe_bltn (v := .ty "int") (by rfl) T.b_int (by decide +kernel) rfl) pa_nil))))))) (pss_one (ps_ret (pe_and (pe_callB call_isi (by rfl) T.b_isinstance (by decide +kernel) (pa_cons (pv 0) (pa_cons (pe_bltn (v := .ty "int") (by rfl) T.b_int (by decide +kernel) rfl) pa_nil))) (pe_and (pe_callB call_isi (by rfl) T.b_isinstance (by decide +kernel) (pa_cons (pv 1) (pa_cons (pe_bltn (v := .ty "int") (by rfl) T.b_int (by decide +kernel) rfl) pa_nil))) (pe_one (pe_cmpR op_eq (pv 0) (pv 1) (nomark _))))))) pss_nil)
      (pss_cons (ps_if (PW.pt (pw_or (pt_val (pe_callB call_isi (by rfl) T.b_isinstance (by decide +kernel) (pa_cons (pv 0) (pa_cons (pe_bltn (v := .ty "str") (by rfl) T.b_str (by decide +kernel) rfl) pa_nil)))) (pw_or1 (pt_val (pe_callB call_isi (by rfl) T.b_isinstance (by decide +kernel) (pa_cons (pv 1) (pa_cons (pe_bltn (v := .ty "str") (by rfl) T.b_str (by decide +kernel) rfl) pa_nil))))))) (pss_one (ps_ret (pe_and (pe_callB call_isi (by rfl) T.b_isinstance (by decide +kernel) (pa_cons (pv 0) (pa_cons (pe_bltn (v := .ty "str") (by rfl) T.b_str (by decide +kernel) rfl) pa_nil))) (pe_and (pe_callB call_isi (by rfl) T.b_isinstance (by decide +kernel) (pa_cons (pv 1) (pa_cons (pe_bltn (v := .ty "str") (by rfl) T.b_str (by decide +kernel) rfl) pa_nil))) (pe_one (pe_cmpR op_eq (pv 0) (pv 1) (nomark _))))))) pss_nil)
      (pss_cons (ps_if (PW.pt (pw_or (pt_val (pe_callB call_isi (by rfl) T.b_isinstance (by decide +kernel) (pa_cons (pv 0) (pa_cons (pe_bltn (v := .ty "dict") (by rfl) T.b_dict (by decide +kernel) rfl) pa_nil)))) (pw_or1 (pt_val (pe_callB call_isi (by rfl) T.b_isinstance (by decide +kernel) (pa_cons (pv 1) (pa_cons (pe_bltn (v := .ty "dict") (by rfl) T.b_dict (by decide +kernel) rfl) pa_nil))))))) (pss_one ps_never) pss_nil)
      (pss_cons (ps_if (PW.pt (pw_or (pt_not (pt_val (pe_callB call_isiT (by rfl) T.b_isinstance (by decide +kernel) (pa_cons (pv 0) (pa_cons (pe_tup (pa_cons (pe_bltn (v := .ty "list") (by rfl) T.b_list (by decide +kernel) rfl) (pa_cons (pe_bltn (v := .ty "tuple") (by rfl) T.b_tuple (by decide +kernel) rfl) pa_nil))) pa_nil))))) (pw_or1 (pt_not (pt_val (pe_callB call_isiT (by rfl) T.b_isinstance (by decide +kernel) (pa_cons (pv 1) (pa_cons (pe_tup (pa_cons (pe_bltn (v := .ty "list") (by rfl) T.b_list (by decide +kernel) rfl) (pa_cons (pe_bltn (v := .ty "tuple") (by rfl) T.b_tuple (by decide +kernel) rfl) pa_nil))) pa_nil)))))))) (pss_one (ps_ret pe_bl)) pss_nil)
      (pss_cons (ps_if (PW.pt (pw_or (pt_cmpR op_ne (pe_callB call_lenU (by rfl) T.b_len (by decide +kernel) (pa_cons (pv 0) pa_nil)) (pe_callB call_lenU (by rfl) T.b_len (by decide +kernel) (pa_cons (pv 1) pa_nil)) (nomark _)) (pw_or1 (PW.pt (pw_and (pt_val (pv 2)) (pw_and1 (pt_cmpR op_ne (pe_callB call_isi (by rfl) T.b_isinstance (by decide +kernel) (pa_cons (pv 0) (pa_cons (pe_bltn (v := .ty "list") (by rfl) T.b_list (by decide +kernel) rfl) pa_nil))) (pe_callB call_isi (by rfl) T.b_isinstance (by decide +kernel) (pa_cons (pv 1) (pa_cons (pe_bltn (v := .ty "list") (by rfl) T.b_list (by decide +kernel) rfl) pa_nil))) (nomark _)))))))) (pss_one (ps_ret pe_bl)) pss_nil)
      (pss_cons (ps_for PassesOwn.never rfl (pi_range1 (by rfl) T.b_range (pa_cons (pe_callB call_lenU (by rfl) T.b_len (by decide +kernel) (pa_cons (pv 0) pa_nil)) pa_nil)) (pg_name (i := 3) sc__law_match.nd rfl (Or.inl rfl)) (pss_one (ps_if (pt_not (pt_val (pe_call G_law_match (hr.mono (by first | decide | omega)) (by rfl) m_law_match kp_law_match b_law_match .nil pass0 (pa_cons (pe_ix ix_U (pv 0) (pv 3) (fun _ _ => rfl)) (pa_cons (pe_ix ix_U (pv 1) (pv 3) (fun _ _ => rfl)) (pa_cons (pv 2) pa_nil)))))) (pss_one (ps_ret pe_bl)) pss_nil)))
      (pss_one (ps_ret pe_bl)))))))))), ?_⟩
  try dsimp only [cxOf, Cx.nox, Cx.wish]
  rw [show start N__law_match [v0, v1, v2] = [some v0, some v1, some v2, none] from rfl]
  obtain ⟨st, x, rfl, rfl, e, k⟩ := h
  cases e with
  | tup ha hb e l hi =>
    rename_i b xs ys
    walk_at "gi"
    refine ⟨by show 2 ≤ sizeLine; decide, fun p hp => ?_⟩
    walk_at "gi"
    refine go_isi2 (b := false) (b' := true) (.tup (sqt_new ha hp)) upd_same ?_ ?_ (c := true) rfl ?_
    · decide +kernel
    · decide +kernel
    walk_at "gi"
    refine ⟨by show 2 ≤ sizeLine; decide, fun p2 hp2 => ?_⟩
    walk_at "gi"
    refine go_isi2 (b := false) (b' := true) (.tup (sqt_new (sqt_new hb hp) hp2)) upd_same ?_ ?_ (c := true) rfl ?_
    · decide +kernel
    · decide +kernel
    have d2 : Dx No H (upd (upd H p (.tup [.ty "list", .ty "tuple"])) p2 (.tup [.ty "list", .ty "tuple"])) := (Dx.new hp).trans (Dx.new hp2)
    have ha2 := d2.sqT id ha
    have hb2 := d2.sqT id hb
    have hi2 := fun i x y e1 e2 => (hi i x y e1 e2).keep d2
    generalize upd (upd H p (.tup [.ty "list", .ty "tuple"])) p2 (.tup [.ty "list", .ty "tuple"]) = H2 at d2 ha2 hb2 hi2 ⊢
    walk_at "gi"
    refine go_lenT ha2 ?_
    walk_at "gi"
    refine go_lenT hb2 ?_
    walk_at "gi"
    rw [e, decide_eq_true rfl]
    walk_at "gi"
    refine go_bool (fun _ => ?_) (fun _ => ?_)
    all_goals
      walk_at "gi"
      try (rw [decide_eq_true rfl]; walk_at "gi")
      refine go_lenT ha2 ?_
      walk_at "gi"
      refine for_r (by omega) (fun i σ' H' => ∃ v, σ' = [some (.ref x), some (.ref b), some (.bl st), v] ∧ Dx No H H' ∧ Dx No H2 H') ⟨none, rfl, d2, Dx.refl⟩ ?_ ?_
      · rintro i σ' H' hi ⟨v, rfl, d3, d4⟩
        have hx : i < xs.length := by omega
        have hy : i < ys.length := by omega
        walk_at "go"
        refine go_ixT (d4.sqT id ha2) (atI_nat (List.getElem?_eq_getElem hx)) ?_
        walk_at "go"
        refine go_ixT (d4.sqT id hb2) (atI_nat (List.getElem?_eq_getElem hy)) ?_
        walk_at "go"
        refine ((hi2 i _ _ (List.getElem?_eq_getElem hx) (List.getElem?_eq_getElem hy)).keep d4).match fun H3 d5 => ?_
        walk_at "go"
        exact ⟨_, rfl, d3.trans d5, d4.trans d5⟩
      · rintro σ' H' ⟨v, rfl, d3, d4⟩
        walk_at "go"
        exact k _ d3
  | lst ha hb e l hi =>
    rename_i b xs ys
    walk_at "gi"
    refine ⟨by show 2 ≤ sizeLine; decide, fun p hp => ?_⟩
    walk_at "gi"
    refine go_isi2 (b := true) (b' := false) (.lst (sql_new ha hp)) upd_same ?_ ?_ (c := true) rfl ?_
    · decide +kernel
    · decide +kernel
    walk_at "gi"
    refine ⟨by show 2 ≤ sizeLine; decide, fun p2 hp2 => ?_⟩
    walk_at "gi"
    refine go_isi2 (b := true) (b' := false) (.lst (sql_new (sql_new hb hp) hp2)) upd_same ?_ ?_ (c := true) rfl ?_
    · decide +kernel
    · decide +kernel
    have d2 : Dx No H (upd (upd H p (.tup [.ty "list", .ty "tuple"])) p2 (.tup [.ty "list", .ty "tuple"])) := (Dx.new hp).trans (Dx.new hp2)
    have ha2 := d2.sqL id ha
    have hb2 := d2.sqL id hb
    have hi2 := fun i x y e1 e2 => (hi i x y e1 e2).keep d2
    generalize upd (upd H p (.tup [.ty "list", .ty "tuple"])) p2 (.tup [.ty "list", .ty "tuple"]) = H2 at d2 ha2 hb2 hi2 ⊢
    walk_at "gi"
    refine go_lenL ha2 ?_
    walk_at "gi"
    refine go_lenL hb2 ?_
    walk_at "gi"
    rw [e, decide_eq_true rfl]
    walk_at "gi"
    refine go_bool (fun _ => ?_) (fun _ => ?_)
    all_goals
      walk_at "gi"
      try (rw [decide_eq_true rfl]; walk_at "gi")
      refine go_lenL ha2 ?_
      walk_at "gi"
      refine for_r (by omega) (fun i σ' H' => ∃ v, σ' = [some (.ref x), some (.ref b), some (.bl st), v] ∧ Dx No H H' ∧ Dx No H2 H') ⟨none, rfl, d2, Dx.refl⟩ ?_ ?_
      · rintro i σ' H' hi ⟨v, rfl, d3, d4⟩
        have hx : i < xs.length := by omega
        have hy : i < ys.length := by omega
        walk_at "go"
        refine go_ixL (d4.sqL id ha2) (atI_nat (List.getElem?_eq_getElem hx)) ?_
        walk_at "go"
        refine go_ixL (d4.sqL id hb2) (atI_nat (List.getElem?_eq_getElem hy)) ?_
        walk_at "go"
        refine ((hi2 i _ _ (List.getElem?_eq_getElem hx) (List.getElem?_eq_getElem hy)).keep d4).match fun H3 d5 => ?_
        walk_at "go"
        exact ⟨_, rfl, d3.trans d5, d4.trans d5⟩
      · rintro σ' H' ⟨v, rfl, d3, d4⟩
        walk_at "go"
        exact k _ d3
theorem D_law_match (T : Txt K mg) : ∀ n : Nat, Def P w K mg base CX0 (n + 1) "_law_match" s__law_match ["_law_left", "_law_right", "_law_strict"] (Sp3 (pMatch K n))
  | 0 => def_or (D_law_match_0 T) (D_law_match_0 T) (Nat.le_refl _) (Nat.le_refl _) match_zero
  | n + 1 => def_or (D_law_match_0 T) (D_law_match_s T (D_law_match T n)) (by omega) (Nat.le_refl _) match_succ
abbrev N__law_same : List Str := ["_law_actual", "_law_expected"]
theorem sc__law_same : FnScope N__law_same ["_law_actual", "_law_expected"] (defScope s__law_same) := ⟨rfl, rfl, rfl, by decide +kernel, rfl, by decide +kernel, by decide +kernel⟩
set_option maxHeartbeats 4000000 in
theorem D_law_same  (T : Txt K mg) : Def P w K mg base CX0 (3) "_law_same" s__law_same ["_law_actual", "_law_expected"] (Sp2 (pSame K 1)) := by
  obtain ⟨f, fd, m, F⟩ := T.f__law_same.ex
  refine ⟨f, fd, m, F.kp, F.bindsN (ps := ["_law_actual", "_law_expected"]) (fun _ _ _ _ _ _ us hl => match us, hl with | [_, _], _ => rfl), ?_, F⟩
  obtain ⟨f_law_match, fd_law_match, m_law_match, kp_law_match, b_law_match, G_law_match, F_law_match⟩ := (D_law_match (P := P) (w := w) (base := base) T 1).ex
  refine F.ok (CX := CX0) sc__law_same len2 (fun cdv A outer s H vs Q E hr h => ?_)
  obtain ⟨v0, v1, rfl, h⟩ := h
  refine ⟨_, PSs.nox (pss_one (ps_ret (pe_call G_law_match (hr.mono (by first | decide | omega)) (by rfl) m_law_match kp_law_match b_law_match .nil pass0 (pa_cons (pv 0) (pa_cons (pv 1) (pa_cons pe_bl pa_nil)))))), ?_⟩
  try dsimp only [cxOf, Cx.nox, Cx.wish]
  rw [show start N__law_same [v0, v1] = [some v0, some v1] from rfl]
  rcases h with ⟨e, k⟩ | ⟨f0, f1, k⟩
  · walk_at "go"
    exact e.match k
  · walk_at "go"
    exact .inl ⟨true, rfl, f0, f1, k⟩
end
end Q
namespace Q
section
variable {P : Program} {w : World} {K : PySem.W.Frag} {mg : Str → Option Value} {base : Heap}
abbrev N_Span___init__ : List Str := ["self", "low", "high"]
theorem sc_Span___init__ : FnScope N_Span___init__ ["self", "low", "high"] (defScope s_Span___init__) := ⟨rfl, rfl, rfl, by decide +kernel, rfl, by decide +kernel, by decide +kernel⟩
set_option maxHeartbeats 4000000 in
theorem DSpan___init__  (T : Txt K mg) : MDef P w K mg base (L2.CX P w) (5) (He.ma K (gA K "Span") "__init__") "__init__" "Span.__init__" s_Span___init__ [V.non, V.non] ["self", "low", "high"] (Sp3 (pSpanInit K)) := by
  obtain ⟨fd, F⟩ := T.f_Span___init__
  refine ⟨fd, ?_, F⟩
  obtain ⟨fcheck_end, fdcheck_end, mcheck_end, kpcheck_end, bcheck_end, Gcheck_end, Fcheck_end⟩ := (Dcheck_end (P := P) (w := w) (base := base) T).ex
  obtain ⟨fdi_BadSpan, bi_BadSpan, Gi_BadSpan⟩ := (Di_BadSpan (P := P) (w := w) (base := base) T)
  refine F.ok (CX := (L2.CX P w)) sc_Span___init__ len3 (fun cdv A outer s H vs Q E hr h => ?_)
  obtain ⟨v0, v1, v2, rfl, h⟩ := h
  refine ⟨_, (pss_cons (ps_expr (pe_call Gcheck_end (hr.mono (by first | decide | omega)) (by rfl) mcheck_end kpcheck_end bcheck_end .nil (passes_call (takes_of rfl rfl rfl rfl) (fun _ _ _ _ z => z)) (pa_cons (pv 1) pa_nil)))
      (pss_cons (ps_expr (pe_call Gcheck_end (hr.mono (by first | decide | omega)) (by rfl) mcheck_end kpcheck_end bcheck_end .nil (passes_call (takes_of rfl rfl rfl rfl) (fun _ _ _ _ z => z)) (pa_cons (pv 2) pa_nil)))
      (pss_cons (ps_if (PW.pt (pw_and (pt_cmpR op_isnot0 (pv 1) pe_non (nomark _)) (pw_and (pt_cmpR op_isnot0 (pv 2) pe_non (nomark _)) (pw_and1 (pt_cmpR op_gt0 (pv 1) (pv 2) (nomark _)))))) (pss_one (ps_raise rfl (takes_of rfl rfl rfl rfl) (pmk_oex T.x_BadSpan.oex T.i_BadSpan.ini T.i_BadSpan.ty Gi_BadSpan (hr.mono (by first | decide | omega)) bi_BadSpan .nil pass0 (by rfl) T.g_BadSpan (pa_cons (pv 1) (pa_cons (pv 2) pa_nil))))) pss_nil)
      (pss_cons (ps_fld (pv 0) (pv 1) rfl)
      (pss_one (ps_fld (pv 0) (pv 2) rfl)))))), ?_⟩
  try dsimp only [cxOf, Cx.nox, Cx.wish]
  rw [show start N_Span___init__ [v0, v1, v2] = [some v0, some v1, some v2] from rfl]
  obtain ⟨a, dx, rfl, ha, f1, f2, k⟩ := h
  unfold spanR at k
  walk_at "go"
  refine ⟨f1, fun e1 => ?_, fun e1 => ?_⟩
  rotate_left
  · rw [e1, if_neg Bool.false_ne_true] at k
    exact k
  rw [if_pos e1] at k
  walk_at "go"
  refine ⟨f2, fun e2 => ?_, fun e2 => ?_⟩
  rotate_left
  · rw [e2, if_neg Bool.false_ne_true] at k
    exact k
  rw [if_pos e2] at k
  have nlo := T.no_Span "low" (by decide +kernel)
  have nhi := T.no_Span "high" (by decide +kernel)
  have ok : crossed v1 v2 = false → Q .non (upd H a (spanO K dx v1 v2)) := fun c => by
    rw [c, if_neg Bool.false_ne_true] at k
    exact k
  rcases endOk_to e1 with rfl | ⟨i, rfl, hi⟩
  · walk_at "go"
    refine go_sfq ha T.cl_Span nlo (by decide) ?_
    walk_at "go"
    refine go_sfq upd_same T.cl_Span nhi (by show 1 < 1000; decide) ?_
    rw [upd_upd]
    exact ok rfl
  rcases endOk_to e2 with rfl | ⟨j, rfl, hj⟩
  · walk_at "go"
    refine go_sfq ha T.cl_Span nlo (by decide) ?_
    walk_at "go"
    refine go_sfq upd_same T.cl_Span nhi (by show 1 < 1000; decide) ?_
    rw [upd_upd]
    exact ok rfl
  walk_at "go"
  refine go_dec (fun c => ?_) (fun c => ?_)
  · refine go_mkO ?_
    walk_at "go"
    rw [show crossed (.int i) (.int j) = true from decide_eq_true c, if_pos rfl] at k
    exact mk2 k
  · walk_at "go"
    refine go_sfq ha T.cl_Span nlo (by decide) ?_
    walk_at "go"
    refine go_sfq upd_same T.cl_Span nhi (by show 1 < 1000; decide) ?_
    rw [upd_upd]
    exact ok (decide_eq_false c)
abbrev N_Span_text : List Str := ["self"]
theorem sc_Span_text : FnScope N_Span_text ["self"] (defScope s_Span_text) := ⟨rfl, rfl, rfl, by decide +kernel, rfl, by decide +kernel, by decide +kernel⟩
set_option maxHeartbeats 4000000 in
theorem DSpan_text  (T : Txt K mg) : MDef P w K mg base CX0 (2) (propG K (gA K "Span") "text") "text" "Span.text" s_Span_text [] ["self"] (Sp1 (pSpanText K)) := by
  obtain ⟨fd, F⟩ := T.f_Span_text
  refine ⟨fd, ?_, F⟩
  obtain ⟨fend_text, fdend_text, mend_text, kpend_text, bend_text, Gend_text, Fend_text⟩ := (Dend_text (P := P) (w := w) (base := base) T).ex
  refine F.ok (CX := CX0) sc_Span_text len1 (fun cdv A outer s H vs Q E hr h => ?_)
  obtain ⟨v0, rfl, h⟩ := h
  refine ⟨_, PSs.nox (pss_one (ps_ret (pe_fstr (.cons (pe_fmt (pe_call Gend_text (hr.mono (by first | decide | omega)) (by rfl) mend_text kpend_text bend_text .nil pass0 (pa_cons (pe_fld (pv 0) rfl) pa_nil))) (.cons pe_str (.cons (pe_fmt (pe_call Gend_text (hr.mono (by first | decide | omega)) (by rfl) mend_text kpend_text bend_text .nil pass0 (pa_cons (pe_fld (pv 0) rfl) pa_nil))) .nil)))))), ?_⟩
  try dsimp only [cxOf, Cx.nox, Cx.wish]
  rw [show start N_Span_text [v0] = [some v0] from rfl]
  obtain ⟨a, lo, hi, rfl, sp, h1, h2, k⟩ := h
  obtain ⟨dx, ha⟩ := sp.ex
  have nlo := T.no_Span "low" (by decide +kernel)
  have nhi := T.no_Span "high" (by decide +kernel)
  have l1 := endT_len h1
  have l2 := endT_len h2
  have hd : (Str.ofString "..").length = 2 := by decide +kernel
  have he : Str.empty.length = 0 := rfl
  walk_at "go"
  refine go_fldq ha T.cl_Span nlo rfl ?_
  walk_at "go"
  refine ⟨h1, ?_⟩
  walk_at "go"
  refine go_fldq ha T.cl_Span nhi rfl ?_
  walk_at "go"
  refine ⟨h2, ?_⟩
  walk_at "go"
  rw [empty_app]
  exact k
abbrev N_Span_parse : List Str := ["text", "left", "dots", "right", "low", "high"]
theorem sc_Span_parse : FnScope N_Span_parse ["text"] (defScope s_Span_parse) := ⟨rfl, rfl, rfl, by decide +kernel, rfl, by decide +kernel, by decide +kernel⟩
set_option maxHeartbeats 4000000 in
theorem DSpan_parse  (T : Txt K mg) : MDef P w K mg base (L2.CX P w) (7) (He5.wf K (gA K "Span") "staticmethod" "parse") "parse" "Span.parse" s_Span_parse [] ["text"] (Sp1 (pSpanParse K)) := by
  obtain ⟨fd, F⟩ := T.f_Span_parse
  refine ⟨fd, ?_, F⟩
  obtain ⟨fdSpan___init__, GSpan___init__, FSpan___init__⟩ := (DSpan___init__ (P := P) (w := w) (base := base) T).ex
  obtain ⟨ds_Span___init___2, vd0, bd_Span___init___2⟩ := FSpan___init__.binds1 (ps := ["self", "low", "high"]) 3 2 (by decide) rfl (fun _ _ _ _ _ _ _ us its h1 h2 => match us, its, h1, h2 with | [_, _, _], [_, _], _, _ => ⟨_, rfl, rfl⟩)
  have vd_Span___init___2 : Vals [] ds_Span___init___2 := vd0
  obtain ⟨fparse_end, fdparse_end, mparse_end, kpparse_end, bparse_end, Gparse_end, Fparse_end⟩ := (Dparse_end (P := P) (w := w) (base := base) T).ex
  obtain ⟨fdi_BadText, bi_BadText, Gi_BadText⟩ := (Di_BadText (P := P) (w := w) (base := base) T)
  refine F.ok (CX := (L2.CX P w)) sc_Span_parse len1 (fun cdv A outer s H vs Q E hr h => ?_)
  obtain ⟨v0, rfl, h⟩ := h
  refine ⟨_, (pss_cons (ps_asg (pe_bm PySem.F.plainAttrs_str PySem.F.slot_str_partition PySem.F.type_str_partition mt_partU (pv 0) (pa_cons pe_str pa_nil)) (pg_tup rfl (pgs_cons (pg_name (i := 1) sc_Span_parse.nd rfl (Or.inl rfl)) (pgs_cons (pg_name (i := 2) sc_Span_parse.nd rfl (Or.inl rfl)) (pgs_cons (pg_name (i := 3) sc_Span_parse.nd rfl (Or.inl rfl)) pgs_nil)))))
      (pss_cons (ps_if (pt_cmpR op_eq (pv 2) pe_str (nomark _)) (pss_one (ps_raise rfl (takes_of rfl rfl rfl rfl) (pmk_oex T.x_BadText.oex T.i_BadText.ini T.i_BadText.ty Gi_BadText (hr.mono (by first | decide | omega)) bi_BadText .nil pass0 (by rfl) T.g_BadText (pa_cons pe_int pa_nil)))) pss_nil)
      (pss_cons (ps_set (i := 4) sc_Span_parse.nd rfl (Or.inl rfl) (pe_call Gparse_end (hr.mono (by first | decide | omega)) (by rfl) mparse_end kpparse_end bparse_end .nil (passes_call (takes_of rfl rfl rfl rfl) (fun _ _ _ _ z => z)) (pa_cons (pv 1) pa_nil)))
      (pss_cons (ps_set (i := 5) sc_Span_parse.nd rfl (Or.inl rfl) (pe_call Gparse_end (hr.mono (by first | decide | omega)) (by rfl) mparse_end kpparse_end bparse_end .nil (passes_call (takes_of rfl rfl rfl rfl) (fun _ _ _ _ z => z)) (pa_cons (pv 3) pa_nil)))
      (pss_cons (ps_if (PW.pt (pw_and (pt_cmpR op_isnot0 (pv 4) pe_non (nomark _)) (pw_and (pt_cmpR op_isnot0 (pv 5) pe_non (nomark _)) (pw_and1 (pt_cmpR op_gt0 (pv 4) (pv 5) (nomark _)))))) (pss_one (ps_raise rfl (takes_of rfl rfl rfl rfl) (pmk_oex T.x_BadText.oex T.i_BadText.ini T.i_BadText.ty Gi_BadText (hr.mono (by first | decide | omega)) bi_BadText .nil pass0 (by rfl) T.g_BadText (pa_cons pe_int pa_nil)))) pss_nil)
      (pss_one (ps_ret (pe_make T.mk_Span GSpan___init__ (hr.mono (by first | decide | omega)) (by rfl) T.g_Span bd_Span___init___2 vd_Span___init___2 (passes_call (takes_of rfl rfl rfl rfl) (fun _ _ _ _ z => z)) (pa_cons (pv 4) (pa_cons (pv 5) pa_nil)))))))))), ?_⟩
  try dsimp only [cxOf, Cx.nox, Cx.wish]
  rw [show start N_Span_parse [v0] = [some v0, none, none, none, none, none] from rfl]
  obtain ⟨x, rfl, hl, k1, k2⟩ := h
  obtain ⟨p1, p2⟩ := part_len x
  unfold spanRd at k1 k2
  walk_at "go"
  refine go_partD (size_ok (by omega)) ?_
  generalize hA : (Txt.partition x dotS).1 = A at k1 k2 p1
  generalize hD : (Txt.partition x dotS).2.1 = Dt at k1 k2
  generalize hB : (Txt.partition x dotS).2.2 = B at k1 k2 p2
  intro p hp
  have d0 : Dx No H (upd H p (.tup [.str A, .str Dt, .str B])) := Dx.new hp
  have hp0 : (upd H p (.tup [.str A, .str Dt, .str B])) p = some (.tup [.str A, .str Dt, .str B]) := upd_same
  generalize upd H p (.tup [.str A, .str Dt, .str B]) = H0 at d0 hp0
  refine go_gt (SqT.of hp0) rfl ?_
  walk_at "go"
  refine go_dec (fun e => ?_) (fun e => ?_)
  · walk_at "go"
    refine go_mkO ?_
    walk_at "go"
    refine mk1 fun d hd => k2 ?_ d _ (d0.dm d hd) (d0.trans (Dx.new hd)) upd_same
    unfold spanPR
    rw [e]
    rfl
  have hDl : ¬ Dt.length = 0 := fun z => e (str_zero z)
  have bad : ∀ {d}, bothV (endR A) (endR B) = none → H0 d = none → E (.ref (gA K "BadText")) (some d) (upd H0 d (.xd [("line", .int 1)])) := fun {d} z hd => k2 (by unfold spanPR; rw [if_neg hDl]; exact z) d _ (d0.dm d hd) (d0.trans (Dx.new hd)) upd_same
  walk_at "go"
  refine ⟨A, rfl, by omega, fun lo e1 i1 => ?_, fun z d hd => bad (by rw [z]; rfl) hd⟩
  walk_at "go"
  refine ⟨B, rfl, by omega, fun hi e2 i2 => ?_, fun z d hd => bad (by rw [z, e1]; rfl) hd⟩
  walk_at "go"
  have cb : crossed lo hi = true → bothV (endR A) (endR B) = none := fun c => by
    rw [e1, e2]
    show (if crossed lo hi = true then none else some (lo, hi)) = _
    rw [if_pos c]
  have co : crossed lo hi = false → spanPR A Dt B = some (lo, hi) := fun c => by
    unfold spanPR
    rw [if_neg hDl, e1, e2]
    show (if crossed lo hi = true then none else some (lo, hi)) = _
    rw [c, if_neg Bool.false_ne_true]
  have make : ∀ {Qv : VK}, crossed lo hi = false → (∀ p H', H p = none → Dx No H H' → SpanAt K H' p lo hi → Qv (.ref p) H') → mkQ (gA K "Span") (Sp3 (pSpanInit K)) [] E Qv [lo, hi] H0 := fun {Qv} c kk => by
    refine mk_span (flat_end i1) (flat_end i2) ?_
    exact spanR_ok i1 i2 c fun p H' hp' d s => kk p H' (d0.dm p hp') (d0.trans d) s
  rcases i1 with rfl | ⟨i, rfl, hi1⟩
  · walk_at "go"
    exact make (by cases hi <;> rfl) (k1 _ _ (co (by cases hi <;> rfl)))
  rcases i2 with rfl | ⟨j, rfl, hj1⟩
  · walk_at "go"
    exact make rfl (k1 _ _ (co rfl))
  walk_at "go"
  refine go_dec (fun c => ?_) (fun c => ?_)
  · walk_at "go"
    refine go_mkO ?_
    walk_at "go"
    refine mk1 fun d hd => bad (cb ?_) hd
    exact decide_eq_true c
  · walk_at "go"
    exact make (decide_eq_false c) (k1 _ _ (co (decide_eq_false c)))
end
end Q
namespace Q
section
variable {P : Program} {w : World} {K : PySem.W.Frag} {mg : Str → Option Value} {base : Heap}
abbrev N__law_ends : List Str := ["_law_store_here", "_law_pool_here", "_law_kind", "_law_one", "_law_other"]
theorem sc__law_ends : FnScope N__law_ends ["_law_store_here", "_law_pool_here"] (defScope s__law_ends) := ⟨rfl, rfl, rfl, by decide +kernel, rfl, by decide +kernel, by decide +kernel⟩
set_option maxHeartbeats 4000000 in
theorem D_law_ends  (T : Txt K mg) : Def P w K mg base CX0 (5) "_law_ends" s__law_ends ["_law_store_here", "_law_pool_here"] (Sp2 (pEnds K)) := by
  obtain ⟨f, fd, m, F⟩ := T.f__law_ends.ex
  refine ⟨f, fd, m, F.kp, F.bindsN (ps := ["_law_store_here", "_law_pool_here"]) (fun _ _ _ _ _ _ us hl => match us, hl with | [_, _], _ => rfl), ?_, F⟩
  obtain ⟨f_law_near, fd_law_near, m_law_near, kp_law_near, b_law_near, G_law_near, F_law_near⟩ := (D_law_near (P := P) (w := w) (base := base) T).ex
  obtain ⟨f_law_take, fd_law_take, m_law_take, kp_law_take, b_law_take, G_law_take, F_law_take⟩ := (D_law_take (P := P) (w := w) (base := base) T).ex
  refine F.ok (CX := CX0) sc__law_ends len2 (fun cdv A outer s H vs Q E hr h => ?_)
  obtain ⟨v0, v1, rfl, h⟩ := h
  refine ⟨_, PSs.nox (pss_cons (ps_set (i := 2) sc__law_ends.nd rfl (Or.inl rfl) (pe_call G_law_take (hr.mono (by first | decide | omega)) (by rfl) m_law_take kp_law_take b_law_take .nil pass0 (pa_cons (pv 0) (pa_cons pe_int pa_nil))))
      (pss_cons (ps_if (pt_cmpR op_ltU (pv 2) pe_int (nomark _)) (pss_one (ps_ret (pe_tup (pa_cons pe_non (pa_cons pe_non pa_nil))))) pss_nil)
      (pss_cons (ps_set (i := 3) sc__law_ends.nd rfl (Or.inl rfl) (pe_call G_law_near (hr.mono (by first | decide | omega)) (by rfl) m_law_near kp_law_near b_law_near .nil pass0 (pa_cons (pv 0) (pa_cons (pv 1) pa_nil))))
      (pss_cons (ps_if (pt_cmpR op_eq (pv 2) pe_int (nomark _)) (pss_one (ps_ret (pe_tup (pa_cons pe_non (pa_cons (pv 3) pa_nil))))) pss_nil)
      (pss_cons (ps_if (pt_cmpR op_eq (pv 2) pe_int (nomark _)) (pss_one (ps_ret (pe_tup (pa_cons (pv 3) (pa_cons pe_non pa_nil))))) pss_nil)
      (pss_cons (ps_if (pt_cmpR op_eq (pv 2) pe_int (nomark _)) (pss_one (ps_ret (pe_tup (pa_cons (pv 3) (pa_cons (pv 3) pa_nil))))) pss_nil)
      (pss_cons (ps_set (i := 4) sc__law_ends.nd rfl (Or.inl rfl) (pe_call G_law_near (hr.mono (by first | decide | omega)) (by rfl) m_law_near kp_law_near b_law_near .nil pass0 (pa_cons (pv 0) (pa_cons (pv 1) pa_nil))))
      (pss_one (ps_ret (pe_tup (pa_cons (pe_callB (call_min0 rfl) (by rfl) T.b_min (by decide +kernel) (pa_cons (pv 3) (pa_cons (pv 4) pa_nil))) (pa_cons (pe_callB (call_max0 rfl) (by rfl) T.b_max (by decide +kernel) (pa_cons (pv 3) (pa_cons (pv 4) pa_nil))) pa_nil)))))))))))), ?_⟩
  try dsimp only [cxOf, Cx.nox, Cx.wish]
  rw [show start N__law_ends [v0, v1] = [some v0, some v1, none, none, none] from rfl]
  obtain ⟨c, M, p, ns, rfl, rfl, ok, hp, hM, hl0, hl1, hn, k⟩ := h
  walk_at "go"
  refine take_go ok (by decide) (by decide) fun r1 H1 a1 b1 d1 ok1 => ?_
  have hp1 := (ok.sub d1).sqL hM hp
  walk_at "go"
  refine go_dec (fun _ => ?_) (fun _ => ?_)
  · walk_at "go"
    refine ⟨by show 2 ≤ sizeLine; decide, fun q hq => ?_⟩
    walk_at "go"
    exact k q _ _ _ (d1.dm q hq) upd_same (.inl rfl) (.inl rfl) rfl (d1.trans (Dx.new hq)) (ok1.new hq)
  walk_at "go"
  refine ⟨c, M, p, ns, rfl, rfl, ok1, hp1, hM, hl0, hl1, hn, fun r H2 hr d2 ok2 => ?_⟩
  have d02 := d1.trans d2
  obtain ⟨i, rfl, hi⟩ := hr
  have ei : IsEnd (.int i) := .inr ⟨i, rfl, hi⟩
  walk_at "go"
  refine go_dec (fun _ => ?_) (fun _ => ?_)
  · walk_at "go"
    refine ⟨by show 2 ≤ sizeLine; decide, fun q hq => ?_⟩
    walk_at "go"
    exact k q _ _ _ (d02.dm q hq) upd_same (.inl rfl) ei rfl (d02.trans (Dx.new hq)) (ok2.new hq)
  walk_at "go"
  refine go_dec (fun _ => ?_) (fun _ => ?_)
  · walk_at "go"
    refine ⟨by show 2 ≤ sizeLine; decide, fun q hq => ?_⟩
    walk_at "go"
    exact k q _ _ _ (d02.dm q hq) upd_same ei (.inl rfl) rfl (d02.trans (Dx.new hq)) (ok2.new hq)
  walk_at "go"
  refine go_dec (fun _ => ?_) (fun _ => ?_)
  · walk_at "go"
    refine ⟨by show 2 ≤ sizeLine; decide, fun q hq => ?_⟩
    walk_at "go"
    exact k q _ _ _ (d02.dm q hq) upd_same ei ei (decide_eq_false (Int.lt_irrefl i)) (d02.trans (Dx.new hq)) (ok2.new hq)
  walk_at "go"
  refine ⟨c, M, p, ns, rfl, rfl, ok2, (ok1.sub d2).sqL hM hp1, hM, hl0, hl1, hn, fun r3 H3 hr3 d3 ok3 => ?_⟩
  have d03 := d02.trans d3
  obtain ⟨j, rfl, hj⟩ := hr3
  walk_at "go"
  refine ⟨by show 2 ≤ sizeLine; decide, fun q hq => ?_⟩
  walk_at "go"
  refine k q _ _ _ (d03.dm q hq) upd_same (.inr ⟨_, rfl, ?_⟩) (.inr ⟨_, rfl, ?_⟩) (decide_eq_false ?_) (d03.trans (Dx.new hq)) (ok3.new hq)
  · split <;> omega
  · split <;> omega
  · split <;> split <;> omega
abbrev N__law_read : List Str := ["_law_word", "_law_figures", "_law_sign_here"]
theorem sc__law_read : FnScope N__law_read ["_law_word"] (defScope s__law_read) := ⟨rfl, rfl, rfl, by decide +kernel, rfl, by decide +kernel, by decide +kernel⟩
set_option maxHeartbeats 4000000 in
theorem D_law_read  (T : Txt K mg) : Def P w K mg base CX0 (2) "_law_read" s__law_read ["_law_word"] (Sp1 pReadN) := by
  obtain ⟨f, fd, m, F⟩ := T.f__law_read.ex
  refine ⟨f, fd, m, F.kp, F.bindsN (ps := ["_law_word"]) (fun _ _ _ _ _ _ us hl => match us, hl with | [_], _ => rfl), ?_, F⟩
  obtain ⟨f_law_is_number, fd_law_is_number, m_law_is_number, kp_law_is_number, b_law_is_number, G_law_is_number, F_law_is_number⟩ := (D_law_is_number (P := P) (w := w) (base := base) T).ex
  refine F.ok (CX := CX0) sc__law_read len1 (fun cdv A outer s H vs Q E hr h => ?_)
  obtain ⟨v0, rfl, h⟩ := h
  refine ⟨_, PSs.nox (pss_cons (ps_set (i := 1) sc__law_read.nd rfl (Or.inl rfl) (pv 0))
      (C8.pss_cut (ps_if (pt_val (pe_bm PySem.F.plainAttrs_str PySem.F.slot_str_startswith PySem.F.type_str_startswith mt_startsU (pv 0) (pa_cons pe_str pa_nil))) (pss_one (ps_set (i := 1) sc__law_read.nd rfl (Or.inl rfl) (pe_slice sl_str (pv 0) (po_some pe_int) po_none))) pss_nil)
      (pss_cons (ps_if (PW.pt (pw_or (pt_cmpR op_eq (pv 1) pe_str (nomark _)) (pw_or1 (pt_cmpR op_gt0 (pe_callB call_lenU (by rfl) T.b_len (by decide +kernel) (pa_cons (pv 1) pa_nil)) pe_int (nomark _))))) (pss_one (ps_ret pe_non)) pss_nil)
      (pss_cons (ps_for PassesOwn.never rfl (pi_str (pv 1)) (pg_name (i := 2) sc__law_read.nd rfl (Or.inl rfl)) (pss_one (ps_if (pt_cmpR op_niU (pv 2) pe_str (by rfl)) (pss_one (ps_ret pe_non)) pss_nil)))
      (pss_cons (ps_if (PW.pt (pw_and (pt_cmpR op_eq (pe_ix ix_U (pv 1) pe_int (fun _ _ => rfl)) pe_str (nomark _)) (pw_and1 (pt_cmpR op_ne (pv 0) pe_str (nomark _))))) (pss_one (ps_ret pe_non)) pss_nil)
      (pss_cons (ps_if (pt_not (pt_val (pe_call G_law_is_number (hr.mono (by first | decide | omega)) (by rfl) m_law_is_number kp_law_is_number b_law_is_number .nil pass0 (pa_cons (pe_callTy call_intS (by rfl) T.b_int (by decide +kernel) (pa_cons (pv 0) pa_nil)) pa_nil)))) (pss_one (ps_ret pe_non)) pss_nil)
      (pss_one (ps_ret (pe_callTy call_intS (by rfl) T.b_int (by decide +kernel) (pa_cons (pv 0) pa_nil)))))))))), ?_⟩
  try dsimp only [cxOf, Cx.nox, Cx.wish]
  rw [show start N__law_read [v0] = [some v0, none, none] from rfl]
  obtain ⟨x, rfl, hl, k⟩ := h
  have kn : readL (tl x) = none → Q .non H := fun e => by
    rw [e] at k
    exact k
  have ky : ∀ i, readL (tl x) = some i → Q (.int i) H := fun i e => by
    rw [e] at k
    exact k
  clear k
  walk_at "go"
  refine ⟨fun σ' H' => ∃ f : Str, σ' = [some (.str x), some (.str f), none] ∧ tl f = figs (tl x) ∧ f.length ≤ 10000 ∧ H' = H, ?_, ?_⟩
  · walk_at "go"
    refine go_starts ?_
    rw [starts_minus]
    walk_at "go"
    refine go_bool (fun e => ?_) (fun e => ?_)
    · walk_at "go"
      have hc := cutS_length x (some 1) none
      exact ⟨_, rfl, figs_cut e, by omega, rfl⟩
    · walk_at "go"
      exact ⟨x, rfl, (figs_pos e).symm, hl, rfl⟩
  rintro σ' H' ⟨f, rfl, hf, hfl, e0⟩
  subst e0
  walk_at "go"
  have ef := tl_len f
  refine go_dec (fun a => ?_) (fun a => ?_)
  · walk_at "go"
    refine kn (shape_no ?_)
    rw [shape_digs, ← hf, a]
    rfl
  walk_at "go"
  refine go_dec (fun b => ?_) (fun b => ?_)
  · walk_at "go"
    refine kn (shape_no ?_)
    rw [shape_digs, ← hf]
    unfold digsB
    rw [decide_eq_false (p := (tl f).length ≤ 13) (by omega), Bool.false_and, Bool.and_false]
  have hf1 : 1 ≤ (tl f).length := by
    by_cases z : (tl f).length = 0
    · exact absurd (str_zero (by omega)) a
    · omega
  walk_at "go"
  refine for_s (fun i σ' H2 => ∃ (v2 : Option V), σ' = [some (.str x), some (.str f), v2] ∧ H2 = H' ∧ ∀ (j c : Nat), j < i → (tl f)[j]? = some c → isDig c = true) ⟨_, rfl, rfl, fun j c hj => absurd hj (Nat.not_lt_zero j)⟩ ?_ ?_
  · rintro i c σ' H2 hc ⟨v1, rfl, e0, hp⟩
    subst e0
    walk_at "go"
    refine go_ndec (fun m => ?_) (fun m => ?_)
    · walk_at "go"
      refine kn (shape_no ?_)
      rw [shape_digs, ← hf]
      have : (tl f).all isDig = false := by
        rw [List.all_eq_false]
        exact ⟨c, List.mem_of_getElem? hc, fun z => m (dig_mem.mpr z)⟩
      unfold digsB
      rw [this, Bool.and_false, Bool.and_false]
    · walk_at "go"
      refine ⟨_, rfl, rfl, fun j d hj hd => ?_⟩
      by_cases q : j = i
      · subst q
        rw [show (tl f)[j]? = some c from hc] at hd
        cases hd
        exact dig_mem.mp m
      · exact hp j d (by omega) hd
  rintro σ' H2 ⟨v1, rfl, e0, hp⟩
  subst e0
  have hs : shapeL (tl x) = true := by
    rw [shape_digs, ← hf]
    unfold digsB
    rw [decide_eq_true hf1, decide_eq_true (p := (tl f).length ≤ 13) (by omega), Bool.true_and, Bool.true_and]
    refine List.all_eq_true.mpr fun c hc => ?_
    obtain ⟨j, hj⟩ := List.mem_iff_getElem?.mp hc
    exact hp j c (by rw [← ef]; exact (List.getElem?_eq_some_iff.mp hj).1) hj
  have hx := shape_len hs
  have hv := val_small hs
  obtain ⟨c, r, ec⟩ : ∃ c r, figs (tl x) = c :: r := by
    rw [← hf]
    cases q : tl f with
    | nil => rw [q] at hf1; exact absurd hf1 (by decide)
    | cons c r => exact ⟨c, r, rfl⟩
  have tail : zeroL (tl x) = true → Q (if isNumV (.int (valL (tl x))) = true then .int (valL (tl x)) else .non) H2 := fun z => by
    cases b : isNumV (.int (valL (tl x))) with
    | false =>
      rw [if_neg Bool.false_ne_true]
      exact kn (range_no fun r => by rw [isNum_int r] at b; exact nomatch b)
    | true =>
      rw [if_pos rfl]
      obtain ⟨i, ei, hi⟩ := isNum_to b
      cases ei
      exact ky _ (read_yes hs z hi)
  walk_at "go"
  refine go_ixS (c := c) (size_ok (by omega)) (atI_nat (j := 0) (by rw [show f.cps.toList = tl f from rfl, hf, ec]; rfl)) ?_
  walk_at "go"
  refine go_dec (fun z => ?_) (fun z => ?_)
  · have c48 : c = 48 := by
      have := congrArg tl z
      have e0 : tl (Str.ofString "0") = [48] := rfl
      rw [e0] at this
      cases this
      rfl
    subst c48
    have hz : zeroL (tl x) = decide (tl x = [48]) := by
      unfold zeroL
      rw [ec]
      rfl
    walk_at "go"
    refine go_ndec (fun y => ?_) (fun y => ?_)
    · walk_at "go"
      refine kn (zero_no ?_)
      rw [hz, decide_eq_false]
      exact fun w => y (tl_inj w)
    · walk_at "go"
      refine go_intS hs (by omega) ?_
      walk_at "go"
      have t := tail (by rw [hz, y]; rfl)
      refine ⟨rfl, ?_⟩
      walk_at "go"
      refine go_nbool (fun b => ?_) (fun b => ?_)
      · walk_at "go"
        rw [b, if_neg Bool.false_ne_true] at t
        exact t
      · walk_at "go"
        rw [b, if_pos rfl] at t
        exact go_intS hs (by omega) t
  · have hz : zeroL (tl x) = true := by
      unfold zeroL
      rw [ec]
      split
      · rename_i q
        cases q
        exact absurd rfl z
      · rfl
    walk_at "go"
    refine go_intS hs (by omega) ?_
    walk_at "go"
    have t := tail hz
    refine ⟨rfl, ?_⟩
    walk_at "go"
    refine go_nbool (fun b => ?_) (fun b => ?_)
    · walk_at "go"
      rw [b, if_neg Bool.false_ne_true] at t
      exact t
    · walk_at "go"
      rw [b, if_pos rfl] at t
      exact go_intS hs (by omega) t
abbrev N__law_ends_text : List Str := ["_law_ends_here", "_law_text"]
theorem sc__law_ends_text : FnScope N__law_ends_text ["_law_ends_here"] (defScope s__law_ends_text) := ⟨rfl, rfl, rfl, by decide +kernel, rfl, by decide +kernel, by decide +kernel⟩
set_option maxHeartbeats 4000000 in
theorem D_law_ends_text  (T : Txt K mg) : Def P w K mg base CX0 (1) "_law_ends_text" s__law_ends_text ["_law_ends_here"] (Sp1 (pEndsText K)) := by
  obtain ⟨f, fd, m, F⟩ := T.f__law_ends_text.ex
  refine ⟨f, fd, m, F.kp, F.bindsN (ps := ["_law_ends_here"]) (fun _ _ _ _ _ _ us hl => match us, hl with | [_], _ => rfl), ?_, F⟩
  refine F.ok (CX := CX0) sc__law_ends_text len1 (fun cdv A outer s H vs Q E hr h => ?_)
  obtain ⟨v0, rfl, h⟩ := h
  refine ⟨_, PSs.nox (pss_cons (ps_set (i := 1) sc__law_ends_text.nd rfl (Or.inl rfl) pe_str)
      (C8.pss_cut (ps_if (pt_cmpR op_isnot0 (pe_ix ix_U (pv 0) pe_int (fun _ _ => rfl)) pe_non (nomark _)) (pss_one (ps_set (i := 1) sc__law_ends_text.nd rfl (Or.inl rfl) (pe_op op_addU (pe_callTy call_strI (by rfl) T.b_str (by decide +kernel) (pa_cons (pe_ix ix_U (pv 0) pe_int (fun _ _ => rfl)) pa_nil)) (pv 1)))) pss_nil)
      (C8.pss_cut (ps_if (pt_cmpR op_isnot0 (pe_ix ix_U (pv 0) pe_int (fun _ _ => rfl)) pe_non (nomark _)) (pss_one (ps_set (i := 1) sc__law_ends_text.nd rfl (Or.inl rfl) (pe_op op_addU (pv 1) (pe_callTy call_strI (by rfl) T.b_str (by decide +kernel) (pa_cons (pe_ix ix_U (pv 0) pe_int (fun _ _ => rfl)) pa_nil))))) pss_nil)
      (pss_one (ps_ret (pv 1)))))), ?_⟩
  try dsimp only [cxOf, Cx.nox, Cx.wish]
  rw [show start N__law_ends_text [v0] = [some v0, none] from rfl]
  obtain ⟨p, lo, hi, rfl, hp, h1, h2, k⟩ := h
  have l1 := endT_len h1
  have l2 := endT_len h2
  have hd : (Str.ofString "..").length = 2 := by decide +kernel
  have i0 : atI [lo, hi] 0 = some lo := rfl
  have i1 : atI [lo, hi] 1 = some hi := rfl
  walk_at "go"
  refine ⟨fun σ' H' => σ' = [some (.ref p), some (.str (endT lo ++ dotS))] ∧ H' = H, ?_, ?_⟩
  · walk_at "go"
    refine go_ixT hp i0 ?_
    rcases h1 with rfl | ⟨i, rfl, hi1⟩
    · walk_at "go"
      exact ⟨by rw [show endT .non = Str.empty from rfl, empty_app]; rfl, rfl⟩
    · walk_at "go"
      refine go_ixT hp i0 ?_
      walk_at "go"
      refine go_strZ (i := i) (by omega) fun hzl => ?_
      walk_at "go"
      exact ⟨rfl, rfl⟩
  rintro σ' H' ⟨rfl, e0⟩
  subst e0
  have l3 : (endT lo ++ dotS).length ≤ 16 := by
    rw [length_append]
    have : dotS.length = 2 := hd
    omega
  walk_at "go"
  refine ⟨fun σ' H2 => σ' = [some (.ref p), some (.str (spanT lo hi))] ∧ H2 = H', ?_, ?_⟩
  · walk_at "go"
    refine go_ixT hp i1 ?_
    rcases h2 with rfl | ⟨i, rfl, hi1⟩
    · walk_at "go"
      exact ⟨by unfold spanT; rw [show endT .non = Str.empty from rfl, app_empty], rfl⟩
    · walk_at "go"
      refine go_ixT hp i1 ?_
      walk_at "go"
      refine go_strZ (i := i) (by omega) fun hzl => ?_
      walk_at "go"
      exact ⟨rfl, rfl⟩
  rintro σ' H2 ⟨rfl, e0⟩
  subst e0
  walk_at "go"
  exact k
abbrev N__law_read_ends : List Str := ["_law_text", "_law_pieces", "_law_ends_here", "_law_word"]
theorem sc__law_read_ends : FnScope N__law_read_ends ["_law_text"] (defScope s__law_read_ends) := ⟨rfl, rfl, rfl, by decide +kernel, rfl, by decide +kernel, by decide +kernel⟩
set_option maxHeartbeats 4000000 in
theorem D_law_read_ends  (T : Txt K mg) : Def P w K mg base CX0 (3) "_law_read_ends" s__law_read_ends ["_law_text"] (Sp1 (pReadEnds K)) := by
  obtain ⟨f, fd, m, F⟩ := T.f__law_read_ends.ex
  refine ⟨f, fd, m, F.kp, F.bindsN (ps := ["_law_text"]) (fun _ _ _ _ _ _ us hl => match us, hl with | [_], _ => rfl), ?_, F⟩
  obtain ⟨f_law_read, fd_law_read, m_law_read, kp_law_read, b_law_read, G_law_read, F_law_read⟩ := (D_law_read (P := P) (w := w) (base := base) T).ex
  refine F.ok (CX := CX0) sc__law_read_ends len1 (fun cdv A outer s H vs Q E hr h => ?_)
  obtain ⟨v0, rfl, h⟩ := h
  refine ⟨_, PSs.nox (pss_cons (ps_set (i := 1) sc__law_read_ends.nd rfl (Or.inl rfl) (pe_bm PySem.F.plainAttrs_str PySem.F.slot_str_partition PySem.F.type_str_partition mt_partU (pv 0) (pa_cons pe_str pa_nil)))
      (pss_cons (ps_set (i := 2) sc__law_read_ends.nd rfl (Or.inl rfl) (pe_lst pa_nil))
      (pss_cons (ps_for PassesOwn.never rfl (pi_list (pe_lst (pa_cons (pe_ix ix_U (pv 1) pe_int (fun _ _ => rfl)) (pa_cons (pe_ix ix_U (pv 1) pe_int (fun _ _ => rfl)) pa_nil)))) (pg_name (i := 3) sc__law_read_ends.nd rfl (Or.inl rfl)) (pss_one (ps_if (pt_cmpR op_eq (pv 3) pe_str (nomark _)) (pss_one (ps_expr (pe_bm PySem.F.plainAttrs_list PySem.F.slot_list_append PySem.F.type_list_append mt_append (pv 2) (pa_cons pe_non pa_nil)))) (pss_cons (ps_expr (pe_bm PySem.F.plainAttrs_list PySem.F.slot_list_append PySem.F.type_list_append mt_append (pv 2) (pa_cons (pe_call G_law_read (hr.mono (by first | decide | omega)) (by rfl) m_law_read kp_law_read b_law_read .nil pass0 (pa_cons (pv 3) pa_nil)) pa_nil)))
      (pss_one (ps_if (pt_cmpR op_is0 (pe_ix ix_U (pv 2) (pe_op op_sub0 (pe_callB call_lenU (by rfl) T.b_len (by decide +kernel) (pa_cons (pv 2) pa_nil)) pe_int) (fun _ _ => rfl)) pe_non (nomark _)) (pss_one (ps_ret pe_non)) pss_nil))))))
      (pss_cons (ps_if (PW.pt (pw_or (pt_cmpR op_eq (pe_ix ix_U (pv 1) pe_int (fun _ _ => rfl)) pe_str (nomark _)) (pw_or1 (PW.pt (pw_and (pt_cmpR op_isnot0 (pe_ix ix_U (pv 2) pe_int (fun _ _ => rfl)) pe_non (nomark _)) (pw_and (pt_cmpR op_isnot0 (pe_ix ix_U (pv 2) pe_int (fun _ _ => rfl)) pe_non (nomark _)) (pw_and1 (pt_cmpR op_gt0 (pe_ix ix_U (pv 2) pe_int (fun _ _ => rfl)) (pe_ix ix_U (pv 2) pe_int (fun _ _ => rfl)) (nomark _))))))))) (pss_one (ps_ret pe_non)) pss_nil)
      (pss_one (ps_ret (pe_tup (pa_cons (pe_ix ix_U (pv 2) pe_int (fun _ _ => rfl)) (pa_cons (pe_ix ix_U (pv 2) pe_int (fun _ _ => rfl)) pa_nil))))))))), ?_⟩
  try dsimp only [cxOf, Cx.nox, Cx.wish]
  rw [show start N__law_read_ends [v0] = [some v0, none, none, none] from rfl]
  obtain ⟨x, rfl, hl, k1, k2⟩ := h
  obtain ⟨p1, p2⟩ := part_len x
  unfold spanRd at k1 k2
  walk_at "go"
  refine go_partD (size_ok (by omega)) ?_
  generalize hA : (Txt.partition x dotS).1 = A at k1 k2 p1
  generalize hD : (Txt.partition x dotS).2.1 = Dt at k1 k2
  generalize hB : (Txt.partition x dotS).2.2 = B at k1 k2 p2
  intro p hp
  have d0 : Dx No H (upd H p (.tup [.str A, .str Dt, .str B])) := Dx.new hp
  have hp0 : (upd H p (.tup [.str A, .str Dt, .str B])) p = some (.tup [.str A, .str Dt, .str B]) := upd_same
  generalize upd H p (.tup [.str A, .str Dt, .str B]) = H0 at d0 hp0
  have t0 : SqT K H0 p [.str A, .str Dt, .str B] := SqT.of hp0
  walk_at "go"
  refine ⟨by show 0 ≤ sizeLine; exact Nat.zero_le _, fun l hl0 => ?_⟩
  have hlH := d0.dm l hl0
  walk_at "go"
  refine go_ixT (sqt_new t0 hl0) (show atI [V.str A, V.str Dt, V.str B] 0 = some (.str A) from rfl) ?_
  walk_at "go"
  refine go_ixT (sqt_new t0 hl0) (show atI [V.str A, V.str Dt, V.str B] 2 = some (.str B) from rfl) ?_
  walk_at "go"
  refine ⟨by show 2 ≤ sizeLine; decide, fun q hq => ?_⟩
  walk_at "go"
  have d1 : Dx No H (upd (upd H0 l (.lst [])) q (.lst [.str A, .str B])) := (d0.trans (Dx.new hl0)).trans (Dx.new hq)
  have g0 : (upd (upd H0 l (.lst [])) q (.lst [.str A, .str B])) l = some (.lst []) := stands upd_same hq
  have q0 : SqL K (upd (upd H0 l (.lst [])) q (.lst [.str A, .str B])) q [.str A, .str B] := SqL.of upd_same
  have hql : q ≠ l := fun e => by
    rw [e, upd_same] at hq
    exact nomatch hq
  have dq : Dx No H0 (upd (upd H0 l (.lst [])) q (.lst [.str A, .str B])) := (Dx.new hl0).trans (Dx.new hq)
  generalize upd (upd H0 l (.lst [])) q (.lst [.str A, .str B]) = H1 at d1 g0 q0 dq
  have none_of : (∃ y, (y = A ∨ y = B) ∧ endR y = none) → spanPR A Dt B = none := fun ⟨y, hy, e⟩ => by
    unfold spanPR
    split
    · rfl
    · rcases hy with z | z
      · rw [← z, e]; rfl
      · rw [← z, e]
        cases endR A <;> rfl
  refine for_l q0 (fun i σ' H' => ∃ (v3 : Option V) (es : List V), σ' = [some (.str x), some (.ref p), some (.ref l), v3] ∧ H' l = some (.lst es) ∧ es.length = i ∧ (∀ (j : Nat) (v : V), es[j]? = some v → ∃ y, [A, B][j]? = some y ∧ endR y = some v) ∧ Dx (Only1 l) H1 H' ∧ Dx No H H' ∧ SqT K H' p [.str A, .str Dt, .str B]) ⟨_, [], rfl, g0, rfl, (fun j v z => by rw [List.getElem?_nil] at z; exact nomatch z), Dx.refl, d1, dq.sqT id t0⟩ (fun i σ' H' _ ⟨_, _, _, _, _, _, d, _⟩ => d.sqL (fun e => hql e) q0) ?_ ?_
  · rintro i v σ' H2 hv ⟨v3, es, rfl, g1, g2, g3, d2, d3, t2⟩
    obtain ⟨y, hy, rfl, hy2⟩ : ∃ y, [A, B][i]? = some y ∧ v = .str y ∧ (y = A ∨ y = B) := by
      have hi := (List.getElem?_eq_some_iff.mp hv).1
      simp only [List.length_cons, List.length_nil] at hi
      rcases (show i = 0 ∨ i = 1 by omega) with z | z <;> subst z <;> cases hv
      · exact ⟨A, rfl, rfl, .inl rfl⟩
      · exact ⟨B, rfl, rfl, .inr rfl⟩
    have hyl : y.length ≤ 10000 := by
      rcases hy2 with z | z <;> rw [z] <;> omega
    have hi2 : i < 2 := by
      have := (List.getElem?_eq_some_iff.mp hy).1
      simpa using this
    have more : ∀ {w : V}, endR y = some w → ∀ (j : Nat) (v : V), (es ++ [w])[j]? = some v → ∃ y, [A, B][j]? = some y ∧ endR y = some v := fun {w} hw j v hj => by
      by_cases z : j < es.length
      · rw [List.getElem?_append_left z] at hj
        exact g3 j v hj
      · rw [List.getElem?_append_right (by omega)] at hj
        have : j - es.length = 0 := by
          have := (List.getElem?_eq_some_iff.mp hj).1
          simp only [List.length_cons, List.length_nil] at this
          omega
        rw [this] at hj
        cases hj
        exact ⟨y, by rw [show j = i by omega]; exact hy, hw⟩
    have st : ∀ {o : HO}, SqT K (upd H2 l o) p [.str A, .str Dt, .str B] := fun {o} => by
      have hpl : ¬ Only1 l p := fun e => by
        have e' : p = l := e
        rw [e', hl0] at hp0
        exact nomatch hp0
      exact (Dx.mut (M := Only1 l) (H := H2) (u := o) rfl).sqT hpl t2
    walk_at "go"
    refine go_dec (fun e => ?_) (fun e => ?_)
    · have ey : endR y = some .non := by
        unfold endR
        rw [e]
        rfl
      walk_at "go"
      refine ⟨ty_lst (SqL.of g1), ?_⟩
      walk_at "go"
      refine go_app g1 (size_lt (by omega)) ?_
      walk_at "go"
      exact ⟨_, _, rfl, upd_same, by rw [List.length_append, g2]; rfl, more ey, d2.trans (Dx.mut rfl), d3.own hlH, st⟩
    · have hx : y.length ≠ 0 := fun z => e (str_zero z)
      have ee := endR_read hx
      walk_at "go"
      refine ⟨ty_lst (SqL.of g1), ?_⟩
      walk_at "go"
      refine ⟨y, rfl, hyl, ?_⟩
      walk_at "go"
      refine go_app g1 (size_lt (by omega)) ?_
      walk_at "go"
      refine go_lenL (SqL.of upd_same) ?_
      walk_at "go"
      refine go_ixL (v := optV (readL (tl y))) (SqL.of upd_same) (atI_of (by rw [List.length_append]; simp only [List.length_cons, List.length_nil]; omega) (by
        rw [show (((es ++ [optV (readL (tl y))]).length : Int) - 1).toNat = es.length by rw [List.length_append]; simp only [List.length_cons, List.length_nil]; omega, List.getElem?_append_right (Nat.le_refl _), Nat.sub_self]
        rfl)) ?_
      cases er : readL (tl y) with
      | none =>
        dsimp only [optV]
        walk_at "go"
        exact k1 (none_of ⟨y, hy2, by rw [ee, er]; rfl⟩) _ (d3.own hlH)
      | some i0 =>
        dsimp only [optV]
        walk_at "go"
        exact ⟨_, _, rfl, upd_same, by rw [List.length_append, g2]; rfl, more (by rw [ee, er]; rfl), d2.trans (Dx.mut rfl), d3.own hlH, st⟩
  rintro σ' H2 ⟨v3, es, rfl, g1, g2, g3, d2, d3, t2⟩
  obtain ⟨a, b, rfl⟩ : ∃ a b, es = [a, b] := by
    match es, g2 with
    | [a, b], _ => exact ⟨a, b, rfl⟩
  obtain ⟨ya, ha1, ha⟩ := g3 0 a rfl
  obtain ⟨yb, hb1, hb⟩ := g3 1 b rfl
  cases ha1
  cases hb1
  have ia := endR_end ha
  have ib := endR_end hb
  have lst2 : SqL K H2 l [a, b] := SqL.of g1
  have a0 : atI [a, b] 0 = some a := rfl
  have a1 : atI [a, b] 1 = some b := rfl
  walk_at "go"
  refine go_ixT t2 (show atI [V.str A, V.str Dt, V.str B] 1 = some (.str Dt) from rfl) ?_
  walk_at "go"
  refine go_dec (fun e => ?_) (fun e => ?_)
  · walk_at "go"
    refine k1 ?_ _ d3
    unfold spanPR
    rw [e]
    rfl
  have hDl : ¬ Dt.length = 0 := fun z => e (str_zero z)
  have co : crossed a b = false → spanPR A Dt B = some (a, b) := fun c => by
    unfold spanPR
    rw [if_neg hDl, ha, hb]
    show (if crossed a b = true then none else some (a, b)) = _
    rw [c, if_neg Bool.false_ne_true]
  have fin : crossed a b = false → ∀ q, H2 q = none → Q (.ref q) (upd H2 q (.tup [a, b])) := fun c q hq => k2 a b (co c) q _ (d3.dm q hq) upd_same (d3.trans (Dx.new hq))
  walk_at "go"
  refine go_ixL lst2 a0 ?_
  rcases ia with rfl | ⟨i, rfl, hi1⟩
  · walk_at "go"
    refine go_ixL lst2 a0 ?_
    walk_at "go"
    refine go_ixL lst2 a1 ?_
    walk_at "go"
    exact ⟨by show 2 ≤ sizeLine; decide, fin (by cases b <;> rfl)⟩
  walk_at "go"
  refine go_ixL lst2 a1 ?_
  rcases ib with rfl | ⟨j, rfl, hj1⟩
  · walk_at "go"
    refine go_ixL lst2 a0 ?_
    walk_at "go"
    refine go_ixL lst2 a1 ?_
    walk_at "go"
    exact ⟨by show 2 ≤ sizeLine; decide, fin rfl⟩
  walk_at "go"
  refine go_ixL lst2 a0 ?_
  walk_at "go"
  refine go_ixL lst2 a1 ?_
  walk_at "go"
  refine go_dec (fun c => ?_) (fun c => ?_)
  · walk_at "go"
    refine k1 ?_ _ d3
    unfold spanPR
    rw [if_neg hDl, ha, hb]
    show (if crossed (V.int i) (V.int j) = true then none else some (V.int i, V.int j)) = _
    rw [show crossed (V.int i) (V.int j) = true from decide_eq_true c, if_pos rfl]
  · walk_at "go"
    refine go_ixL lst2 a0 ?_
    walk_at "go"
    refine go_ixL lst2 a1 ?_
    walk_at "go"
    exact ⟨by show 2 ≤ sizeLine; decide, fin (decide_eq_false c)⟩
end
end Q
namespace Q
section
variable {P : Program} {w : World} {K : PySem.W.Frag} {mg : Str → Option Value} {base : Heap}
abbrev N__law_bent_text : List Str := ["_law_store_here", "_law_text", "_law_kind", "_law_lines", "_law_at", "_law_odd", "_law_words", "_law_told", "_law_spot"]
theorem sc__law_bent_text : FnScope N__law_bent_text ["_law_store_here", "_law_text"] (defScope s__law_bent_text) := ⟨rfl, rfl, rfl, by decide +kernel, rfl, by decide +kernel, by decide +kernel⟩
set_option maxHeartbeats 4000000 in
theorem D_law_bent_text  (T : Txt K mg) : Def P w K mg base CX0 (5) "_law_bent_text" s__law_bent_text ["_law_store_here", "_law_text"] (Sp2 pBent) := by
  obtain ⟨f, fd, m, F⟩ := T.f__law_bent_text.ex
  refine ⟨f, fd, m, F.kp, F.bindsN (ps := ["_law_store_here", "_law_text"]) (fun _ _ _ _ _ _ us hl => match us, hl with | [_, _], _ => rfl), ?_, F⟩
  obtain ⟨f_law_pick, fd_law_pick, m_law_pick, kp_law_pick, b_law_pick, G_law_pick, F_law_pick⟩ := (D_law_pick (P := P) (w := w) (base := base) T).ex
  obtain ⟨f_law_sign, fd_law_sign, m_law_sign, kp_law_sign, b_law_sign, G_law_sign, F_law_sign⟩ := (D_law_sign (P := P) (w := w) (base := base) T).ex
  obtain ⟨f_law_take, fd_law_take, m_law_take, kp_law_take, b_law_take, G_law_take, F_law_take⟩ := (D_law_take (P := P) (w := w) (base := base) T).ex
  refine F.ok (CX := CX0) sc__law_bent_text len2 (fun cdv A outer s H vs Q E hr h => ?_)
  obtain ⟨v0, v1, rfl, h⟩ := h
  refine ⟨_, PSs.nox (pss_cons (ps_set (i := 2) sc__law_bent_text.nd rfl (Or.inl rfl) (pe_call G_law_take (hr.mono (by first | decide | omega)) (by rfl) m_law_take kp_law_take b_law_take .nil pass0 (pa_cons (pv 0) (pa_cons pe_int pa_nil))))
      (pss_cons (ps_set (i := 3) sc__law_bent_text.nd rfl (Or.inl rfl) (pe_bm PySem.F.plainAttrs_str PySem.F.slot_str_split PySem.F.type_str_split mt_splitU (pv 1) (pa_cons pe_str pa_nil)))
      (pss_cons (ps_set (i := 4) sc__law_bent_text.nd rfl (Or.inl rfl) (pe_call G_law_take (hr.mono (by first | decide | omega)) (by rfl) m_law_take kp_law_take b_law_take .nil pass0 (pa_cons (pv 0) (pa_cons (pe_callB call_lenU (by rfl) T.b_len (by decide +kernel) (pa_cons (pv 3) pa_nil)) pa_nil))))
      (C8.pss_cut (ps_if (PW.pt (pw_and (pt_cmpR op_eq (pv 2) pe_int (nomark _)) (pw_and1 (pt_cmpR op_ltU (pe_op op_addU (pv 4) pe_int) (pe_callB call_lenU (by rfl) T.b_len (by decide +kernel) (pa_cons (pv 3) pa_nil)) (nomark _))))) (pss_one (ps_set (i := 3) sc__law_bent_text.nd rfl (Or.inl rfl) (pe_op op_addU (pe_op op_addU (pe_slice sl_list (pv 3) po_none (po_some (pv 4))) (pe_lst (pa_cons (pe_ix ix_U (pv 3) (pe_op op_addU (pv 4) pe_int) (fun _ _ => rfl)) (pa_cons (pe_ix ix_U (pv 3) (pv 4) (fun _ _ => rfl)) pa_nil)))) (pe_slice sl_list (pv 3) (po_some (pe_op op_addU (pv 4) pe_int)) po_none)))) pss_nil)
      (C8.pss_cut (ps_if (pt_cmpR op_eq (pv 2) pe_int (nomark _)) (pss_one (ps_set (i := 3) sc__law_bent_text.nd rfl (Or.inl rfl) (pe_op op_addU (pe_slice sl_list (pv 3) po_none (po_some (pv 4))) (pe_slice sl_list (pv 3) (po_some (pe_op op_addU (pv 4) pe_int)) po_none)))) pss_nil)
      (C8.pss_cut (ps_if (pt_cmpR op_eq (pv 2) pe_int (nomark _)) (pss_one (ps_set (i := 3) sc__law_bent_text.nd rfl (Or.inl rfl) (pe_op op_addU (pe_slice sl_list (pv 3) po_none (po_some (pe_op op_addU (pv 4) pe_int))) (pe_slice sl_list (pv 3) (po_some (pv 4)) po_none)))) pss_nil)
      (C8.pss_cut (ps_if (pt_cmpR op_eq (pv 2) pe_int (nomark _)) (pss_one (ps_set (i := 3) sc__law_bent_text.nd rfl (Or.inl rfl) (pe_slice sl_list (pv 3) po_none (po_some (pv 4))))) pss_nil)
      (C8.pss_cut (ps_if (pt_cmpR op_eq (pv 2) pe_int (nomark _)) (pss_one (ps_asg (pe_op op_addU (pe_ix ix_U (pv 3) (pv 4) (fun _ _ => rfl)) (pe_call G_law_pick (hr.mono (by first | decide | omega)) (by rfl) m_law_pick kp_law_pick b_law_pick .nil pass0 (pa_cons (pv 0) (pa_cons (pe_lst (pa_cons pe_str (pa_cons pe_str (pa_cons pe_str (pa_cons pe_str pa_nil))))) pa_nil)))) (pg_sub (pv 3) (pv 4) set_list))) pss_nil)
      (C8.pss_cut (ps_if (PW.pt (pw_or (pt_cmpR op_eq (pv 2) pe_int (nomark _)) (pw_or1 (pt_cmpR op_eq (pv 2) pe_int (nomark _))))) (pss_cons (ps_set (i := 5) sc__law_bent_text.nd rfl (Or.inl rfl) (pe_lst (pa_cons pe_str (pa_cons pe_str (pa_cons pe_str (pa_cons pe_str (pa_cons pe_str (pa_cons pe_str (pa_cons pe_str (pa_cons pe_str (pa_cons pe_str (pa_cons pe_str (pa_cons pe_str (pa_cons pe_str (pa_cons pe_str pa_nil)))))))))))))))
      (pss_cons (ps_set (i := 6) sc__law_bent_text.nd rfl (Or.inl rfl) (pe_bm PySem.F.plainAttrs_str PySem.F.slot_str_split PySem.F.type_str_split mt_splitU (pe_ix ix_U (pv 3) (pv 4) (fun _ _ => rfl)) (pa_cons pe_str pa_nil)))
      (pss_cons (ps_asg (pe_call G_law_pick (hr.mono (by first | decide | omega)) (by rfl) m_law_pick kp_law_pick b_law_pick .nil pass0 (pa_cons (pv 0) (pa_cons (pv 5) pa_nil))) (pg_sub (pv 6) (pe_call G_law_take (hr.mono (by first | decide | omega)) (by rfl) m_law_take kp_law_take b_law_take .nil pass0 (pa_cons (pv 0) (pa_cons (pe_callB call_lenU (by rfl) T.b_len (by decide +kernel) (pa_cons (pv 6) pa_nil)) pa_nil))) set_list))
      (pss_one (ps_asg (pe_bm PySem.F.plainAttrs_str PySem.F.slot_str_join PySem.F.type_str_join (mt_joinU : MtR _ "str.join" (rJoin K)) pe_str (pa_cons (pv 6) pa_nil)) (pg_sub (pv 3) (pv 4) set_list)))))) pss_nil)
      (pss_cons (ps_set (i := 7) sc__law_bent_text.nd rfl (Or.inl rfl) (pe_bm PySem.F.plainAttrs_str PySem.F.slot_str_join PySem.F.type_str_join (mt_joinU : MtR _ "str.join" (rJoin K)) pe_str (pa_cons (pv 3) pa_nil)))
      (pss_cons (ps_set (i := 8) sc__law_bent_text.nd rfl (Or.inl rfl) (pe_call G_law_take (hr.mono (by first | decide | omega)) (by rfl) m_law_take kp_law_take b_law_take .nil pass0 (pa_cons (pv 0) (pa_cons (pe_op op_addU (pe_callB call_lenU (by rfl) T.b_len (by decide +kernel) (pa_cons (pv 7) pa_nil)) pe_int) pa_nil))))
      (pss_cons (ps_if (pt_cmpR op_eq (pv 2) pe_int (nomark _)) (pss_one (ps_ret (pe_op op_addU (pv 7) pe_str))) pss_nil)
      (pss_cons (ps_if (pt_cmpR op_eq (pv 2) pe_int (nomark _)) (pss_one (ps_ret (pe_op op_addU (pe_op op_addU (pe_slice sl_str (pv 7) po_none (po_some (pv 8))) (pe_call G_law_sign (hr.mono (by first | decide | omega)) (by rfl) m_law_sign kp_law_sign b_law_sign .nil pass0 (pa_cons (pv 0) pa_nil))) (pe_slice sl_str (pv 7) (po_some (pe_op op_addU (pv 8) pe_int)) po_none)))) pss_nil)
      (pss_cons (ps_if (pt_cmpR op_eq (pv 2) pe_int (nomark _)) (pss_one (ps_ret (pe_op op_addU (pe_op op_addU (pe_slice sl_str (pv 7) po_none (po_some (pv 8))) (pe_call G_law_pick (hr.mono (by first | decide | omega)) (by rfl) m_law_pick kp_law_pick b_law_pick .nil pass0 (pa_cons (pv 0) (pa_cons (pe_lst (pa_cons pe_str (pa_cons pe_str (pa_cons pe_str (pa_cons pe_str (pa_cons pe_str pa_nil)))))) pa_nil)))) (pe_slice sl_str (pv 7) (po_some (pv 8)) po_none)))) pss_nil)
      (pss_cons (ps_if (pt_cmpR op_eq (pv 2) pe_int (nomark _)) (pss_one (ps_ret (pe_op op_addU (pe_slice sl_str (pv 7) po_none (po_some (pv 8))) (pe_slice sl_str (pv 7) (po_some (pe_op op_addU (pv 8) pe_int)) po_none)))) pss_nil)
      (pss_one (ps_ret (pv 7)))))))))))))))))), ?_⟩
  try dsimp only [cxOf, Cx.nox, Cx.wish]
  rw [show start N__law_bent_text [v0, v1] = [some v0, some v1, none, none, none, none, none, none, none] from rfl]
  obtain ⟨c, M, x, rfl, rfl, hl, ok, k⟩ := h
  walk_at "go"
  refine take_go ok (by decide) (by decide) fun r1 H1 a1 b1 d1 ok1 => ?_
  walk_at "go"
  refine go_splitL (by decide +kernel) (by decide +kernel) (by omega) fun l0 ys0 hl0 hy0 hp0 => ?_
  walk_at "go"
  refine go_lenL (SqL.of upd_same) ?_
  rw [List.length_map]
  have hc0 := hy0.2
  walk_at "go"
  refine take_go (ok1.add hl0) (by omega) (by omega) fun r2 H2 a2 b2 d2 ok2 => ?_
  have hl0c : l0 ≠ c := ok1.ne_new hl0
  have g0 := d2.st _ _ hl0c (upd_same (H := H1) (a := l0))
  walk_at "go"
  refine ⟨fun σ' H' => ∃ (l : Addr) (ys : List Str) (v5 v6 : Option V), σ' = [some (.ref c), some (.str x), some (.int r1), some (.ref l), some (.int r2), v5, v6, none, none] ∧ H' l = some (.lst (ys.map V.str)) ∧ LinesAt 101 100 ys ∧ (4 ≤ r1 → r2 < ys.length) ∧ H l = none ∧ Dx (Only1 c) H H' ∧ Ok (Add M l) H' c, ?_, ?_⟩
  · have g1 := g0
    have hlH := d1.dm l0 hl0
    have dd : Dx (Only1 c) H H2 := (d1.trans (Dx.new hl0)).trans d2
    have g2 : LinesAt 101 100 ys0 := hy0.mono (by omega) hl
    walk_at "go"
    refine go_dec (fun e => ?_) (fun e => ?_)
    rotate_left 1
    · walk_at "go"
      exact ⟨l0, ys0, _, _, rfl, g0, g2, fun _ => by omega, hlH, dd, ok2⟩
    walk_at "go"
    refine go_lenL (SqL.of g0) ?_
    rw [List.length_map]
    walk_at "go"
    refine go_dec (fun e2 => ?_) (fun e2 => ?_)
    rotate_left 1
    · walk_at "go"
      exact ⟨l0, ys0, _, _, rfl, g0, g2, fun _ => by omega, hlH, dd, ok2⟩
    obtain ⟨z1, hz1⟩ : ∃ z, ys0[(r2 + 1).toNat]? = some z := ⟨_, List.getElem?_eq_getElem (by omega)⟩
    obtain ⟨z2, hz2⟩ : ∃ z, ys0[r2.toNat]? = some z := ⟨_, List.getElem?_eq_getElem (by omega)⟩
    walk_at "go"
    refine go_slL (SqL.of g0) fun p1 hp1 => ?_
    walk_at "go"
    refine go_ixL (v := .str z1) (SqL.of (stands g0 hp1)) (atI_of (by omega) (by rw [List.getElem?_map, hz1]; rfl)) ?_
    walk_at "go"
    refine go_ixL (v := .str z2) (SqL.of (stands g0 hp1)) (atI_of (by omega) (by rw [List.getElem?_map, hz2]; rfl)) ?_
    walk_at "go"
    refine ⟨by show 2 ≤ sizeLine; decide, fun p2 hp2 => ?_⟩
    walk_at "go"
    have c1 := cutV_length (ys0.map V.str) none (some r2)
    have c2 := cutV_length (ys0.map V.str) (some (r2 + 2)) none
    have e1 := cut_to (xs := ys0.map V.str) a2 (by rw [List.length_map]; omega)
    have e3 := cut_from (xs := ys0.map V.str) (n := r2 + 2) (by omega) (by rw [List.length_map]; omega)
    rw [List.length_map] at c1 c2
    refine go_cat (stands upd_same hp2) upd_same (size_ok (by show _ + 2 ≤ 100000; omega)) fun p3 hp3 => ?_
    walk_at "go"
    refine go_slL (SqL.of (stands (stands (stands g0 hp1) hp2) hp3)) fun p4 hp4 => ?_
    walk_at "go"
    refine go_cat (stands upd_same hp4) upd_same (by rw [List.length_append]; exact size_ok (by show _ + 2 + _ ≤ 100000; omega)) fun p5 hp5 => ?_
    walk_at "go"
    refine ⟨p5, (ys0.take r2.toNat ++ [z1, z2]) ++ ys0.drop (r2 + 2).toNat, _, _, rfl, by rw [upd_same, e1, e3, List.map_append, List.map_append, List.map_take, List.map_drop]; rfl, ?_, fun q => by omega, (dd.trans ((((Dx.new hp1).trans (Dx.new hp2)).trans (Dx.new hp3)).trans (Dx.new hp4))).dm p5 hp5, dd.trans (((((Dx.new hp1).trans (Dx.new hp2)).trans (Dx.new hp3)).trans (Dx.new hp4)).trans (Dx.new hp5)), (((((ok2.new hp1).new hp2).new hp3).new hp4).add hp5).less (.inr ok.inM) (fun a z => z.elim .inl fun w => .inr (.inr w))⟩
    have h12 : LinesAt 2 100 [z1, z2] := ⟨fun y hy => by
      simp only [List.mem_cons, List.not_mem_nil, or_false] at hy
      rcases hy with z | z
      · rw [z]; exact g2.1 _ (List.mem_of_getElem? hz1)
      · rw [z]; exact g2.1 _ (List.mem_of_getElem? hz2), Nat.le_refl 2⟩
    exact ((g2.own.take.app h12).app g2.own.drop).mono (by omega) (Nat.le_refl _)
  rintro σ' HH ⟨l, ys, v5, v6, rfl, g1, g2, g3, g4, g5, g6⟩
  have hlc : l ≠ c := fun e => by
    rw [e] at g4
    exact ok.al c ok.inM g4
  walk_at "go"
  refine ⟨fun σ' H' => ∃ (l : Addr) (ys : List Str) (v5 v6 : Option V), σ' = [some (.ref c), some (.str x), some (.int r1), some (.ref l), some (.int r2), v5, v6, none, none] ∧ H' l = some (.lst (ys.map V.str)) ∧ LinesAt 202 100 ys ∧ (4 ≤ r1 → r2 < ys.length) ∧ H l = none ∧ Dx (Only1 c) H H' ∧ Ok (Add M l) H' c, ?_, ?_⟩
  · walk_at "go"
    refine go_dec (fun e => ?_) (fun e => ?_)
    · walk_at "go"
      refine go_slL (SqL.of g1) fun p1 hp1 => ?_
      walk_at "go"
      refine go_slL (SqL.of (stands g1 hp1)) fun p2 hp2 => ?_
      walk_at "go"
      have c1 := cutV_length (ys.map V.str) none (some (r2))
      have c2 := cutV_length (ys.map V.str) (some (r2 + 1)) none
      rw [List.length_map] at c1 c2
      have gl := g2.2
      refine go_cat (stands upd_same hp2) upd_same (size_ok (by omega)) fun p3 hp3 => ?_
      walk_at "go"
      obtain ⟨zs, ez, hz⟩ := strs_sub (xs := ys) (ys := cutV (ys.map V.str) none (some (r2)) ++ cutV (ys.map V.str) (some (r2 + 1)) none) (fun v hv => (List.mem_append.mp hv).elim cut_mem cut_mem)
      have el := congrArg List.length ez
      rw [List.length_append, List.length_map] at el
      refine ⟨p3, zs, _, _, rfl, by rw [upd_same, ez], ⟨fun y hy => g2.1 y (hz y hy), ?_⟩, fun q => by omega, (g5.trans ((Dx.new hp1).trans (Dx.new hp2))).dm p3 hp3, g5.trans (((Dx.new hp1).trans (Dx.new hp2)).trans (Dx.new hp3)), (((g6.new hp1).new hp2).add hp3).less (.inr ok.inM) (fun a z => z.elim .inl fun w => .inr (.inr w))⟩
      omega
    · walk_at "go"
      exact ⟨l, ys, _, _, rfl, g1, g2.mono (by decide) (by decide), g3, g4, g5, g6⟩
  rintro σ' HH ⟨l, ys, v5, v6, rfl, g1, g2, g3, g4, g5, g6⟩
  have hlc : l ≠ c := fun e => by
    rw [e] at g4
    exact ok.al c ok.inM g4
  walk_at "go"
  refine ⟨fun σ' H' => ∃ (l : Addr) (ys : List Str) (v5 v6 : Option V), σ' = [some (.ref c), some (.str x), some (.int r1), some (.ref l), some (.int r2), v5, v6, none, none] ∧ H' l = some (.lst (ys.map V.str)) ∧ LinesAt 404 100 ys ∧ (4 ≤ r1 → r2 < ys.length) ∧ H l = none ∧ Dx (Only1 c) H H' ∧ Ok (Add M l) H' c, ?_, ?_⟩
  · walk_at "go"
    refine go_dec (fun e => ?_) (fun e => ?_)
    · walk_at "go"
      refine go_slL (SqL.of g1) fun p1 hp1 => ?_
      walk_at "go"
      refine go_slL (SqL.of (stands g1 hp1)) fun p2 hp2 => ?_
      walk_at "go"
      have c1 := cutV_length (ys.map V.str) none (some (r2 + 1))
      have c2 := cutV_length (ys.map V.str) (some (r2)) none
      rw [List.length_map] at c1 c2
      have gl := g2.2
      refine go_cat (stands upd_same hp2) upd_same (size_ok (by omega)) fun p3 hp3 => ?_
      walk_at "go"
      obtain ⟨zs, ez, hz⟩ := strs_sub (xs := ys) (ys := cutV (ys.map V.str) none (some (r2 + 1)) ++ cutV (ys.map V.str) (some (r2)) none) (fun v hv => (List.mem_append.mp hv).elim cut_mem cut_mem)
      have el := congrArg List.length ez
      rw [List.length_append, List.length_map] at el
      refine ⟨p3, zs, _, _, rfl, by rw [upd_same, ez], ⟨fun y hy => g2.1 y (hz y hy), ?_⟩, fun q => by omega, (g5.trans ((Dx.new hp1).trans (Dx.new hp2))).dm p3 hp3, g5.trans (((Dx.new hp1).trans (Dx.new hp2)).trans (Dx.new hp3)), (((g6.new hp1).new hp2).add hp3).less (.inr ok.inM) (fun a z => z.elim .inl fun w => .inr (.inr w))⟩
      omega
    · walk_at "go"
      exact ⟨l, ys, _, _, rfl, g1, g2.mono (by decide) (by decide), g3, g4, g5, g6⟩
  rintro σ' HH ⟨l, ys, v5, v6, rfl, g1, g2, g3, g4, g5, g6⟩
  have hlc : l ≠ c := fun e => by
    rw [e] at g4
    exact ok.al c ok.inM g4
  walk_at "go"
  refine ⟨fun σ' H' => ∃ (l : Addr) (ys : List Str) (v5 v6 : Option V), σ' = [some (.ref c), some (.str x), some (.int r1), some (.ref l), some (.int r2), v5, v6, none, none] ∧ H' l = some (.lst (ys.map V.str)) ∧ LinesAt 404 100 ys ∧ (4 ≤ r1 → r2 < ys.length) ∧ H l = none ∧ Dx (Only1 c) H H' ∧ Ok (Add M l) H' c, ?_, ?_⟩
  · walk_at "go"
    refine go_dec (fun e => ?_) (fun e => ?_)
    · walk_at "go"
      refine go_slL (SqL.of g1) fun p1 hp1 => ?_
      walk_at "go"
      have c1 := cutV_length (ys.map V.str) none (some r2)
      rw [List.length_map] at c1
      have gl := g2.2
      obtain ⟨zs, ez, hz⟩ := strs_sub (xs := ys) (ys := cutV (ys.map V.str) none (some r2)) (fun v hv => cut_mem hv)
      have el := congrArg List.length ez
      rw [List.length_map] at el
      refine ⟨p1, zs, _, _, rfl, by rw [upd_same, ez], ⟨fun y hy => g2.1 y (hz y hy), ?_⟩, fun q => by omega, g5.dm p1 hp1, g5.trans (Dx.new hp1), (g6.add hp1).less (.inr ok.inM) (fun a z => z.elim .inl fun w => .inr (.inr w))⟩
      omega
    · walk_at "go"
      exact ⟨l, ys, _, _, rfl, g1, g2.mono (by decide) (by decide), g3, g4, g5, g6⟩
  rintro σ' HH ⟨l, ys, v5, v6, rfl, g1, g2, g3, g4, g5, g6⟩
  have hlc : l ≠ c := fun e => by
    rw [e] at g4
    exact ok.al c ok.inM g4
  walk_at "go"
  refine ⟨fun σ' H' => ∃ (l : Addr) (ys : List Str) (v5 v6 : Option V), σ' = [some (.ref c), some (.str x), some (.int r1), some (.ref l), some (.int r2), v5, v6, none, none] ∧ H' l = some (.lst (ys.map V.str)) ∧ LinesAt 404 110 ys ∧ (4 ≤ r1 → r2 < ys.length) ∧ H l = none ∧ Dx (Only1 c) H H' ∧ Ok (Add M l) H' c, ?_, ?_⟩
  · walk_at "go"
    refine go_dec (fun e => ?_) (fun e => ?_)
    · have hr := g3 (by omega)
      obtain ⟨z, hz⟩ : ∃ z, ys[r2.toNat]? = some z := ⟨_, List.getElem?_eq_getElem (by omega)⟩
      have hzl := g2.1 z (List.mem_of_getElem? hz)
      walk_at "go"
      refine go_ixL (v := .str z) (SqL.of g1) (atI_of a2 (by rw [List.getElem?_map, hz]; rfl)) ?_
      walk_at "go"
      refine ⟨by show 4 ≤ sizeLine; decide, fun p1 hp1 => ?_⟩
      walk_at "go"
      refine ⟨c, _, rfl, g6.new hp1, .inr ⟨p1, _, rfl, SqL.of upd_same, g6.notM hp1, by show 0 < 4; decide, by show 4 ≤ 100000; decide, fun w H5 hw d5 ok5 => ?_⟩⟩
      obtain ⟨w, rfl, _, hwl⟩ := texts_ok (n := 10) (by decide +kernel) hw
      walk_at "go"
      have g1' := d5.st _ _ hlc (stands g1 hp1)
      refine go_setL (k := r2.toNat) g1' (by
        obtain ⟨kk, hkk⟩ : ∃ kk : Nat, r2 = (kk : Int) := ⟨r2.toNat, by omega⟩
        rw [hkk, Int.toNat_natCast]
        exact Evl.ixN_nat (by rw [List.length_map]; omega)) ?_
      walk_at "go"
      exact ⟨l, ys.set r2.toNat (z ++ w), _, _, rfl, by rw [upd_same, List.map_set], (g2.mono (Nat.le_refl _) (by decide)).set (by rw [length_append]; omega), fun q => by rw [List.length_set]; exact g3 q, g4, ((g5.trans (Dx.new hp1)).trans d5).own g4, ok5.mut (.inl rfl) hlc⟩
    · walk_at "go"
      exact ⟨l, ys, _, _, rfl, g1, g2.mono (by decide) (by decide), g3, g4, g5, g6⟩
  rintro σ' HH ⟨l, ys, v5, v6, rfl, g1, g2, g3, g4, g5, g6⟩
  have hlc : l ≠ c := fun e => by
    rw [e] at g4
    exact ok.al c ok.inM g4
  walk_at "go"
  refine ⟨fun σ' H' => ∃ (l : Addr) (ys : List Str) (v5 v6 : Option V), σ' = [some (.ref c), some (.str x), some (.int r1), some (.ref l), some (.int r2), v5, v6, none, none] ∧ H' l = some (.lst (ys.map V.str)) ∧ LinesAt 404 15000 ys ∧ (4 ≤ r1 → r2 < ys.length) ∧ H l = none ∧ Dx (Only1 c) H H' ∧ Ok (Add M l) H' c, ?_, ?_⟩
  · have body : 4 ≤ r1 → r2 < ys.length := g3
    walk_at "go"
    refine go_dec (fun e => ?_) (fun e => ?_)
    rotate_left 1
    walk_at "go"
    refine go_dec (fun e2 => ?_) (fun e2 => ?_)
    rotate_left 1
    · walk_at "go"
      exact ⟨l, ys, _, _, rfl, g1, g2.mono (by decide) (by decide), g3, g4, g5, g6⟩
    all_goals
      have hr := g3 (by omega)
      obtain ⟨z, hz⟩ : ∃ z, ys[r2.toNat]? = some z := ⟨_, List.getElem?_eq_getElem (by omega)⟩
      have hzl := g2.1 z (List.mem_of_getElem? hz)
      walk_at "go"
      refine ⟨by show 13 ≤ sizeLine; decide, fun p1 hp1 => ?_⟩
      walk_at "go"
      generalize hxs : ([V.str _, V.str _, V.str _, V.str _, V.str _, V.str _, V.str _, V.str _, V.str _, V.str _, V.str _, V.str _, V.str _] : List V) = xs
      have hx : textsB 20 xs = true ∧ xs.length = 13 := by
        rw [← hxs]
        decide +kernel
      refine go_ixL (v := .str z) (SqL.of (stands g1 hp1)) (atI_of a2 (by rw [List.getElem?_map, hz]; rfl)) ?_
      walk_at "go"
      refine go_splitL (by decide +kernel) (by decide +kernel) (by omega) fun p2 ws hp2 hws hw0 => ?_
      have hwc := hws.2
      have hp2c : p2 ≠ c := (g6.new hp1).ne_new hp2
      have hp1c : p1 ≠ c := g6.ne_new hp1
      have hl2 : l ≠ p2 := ne_of_none (stands g1 hp1) hp2
      walk_at "go"
      have h12 : p1 ≠ p2 := ne_of_none upd_same hp2
      refine ⟨c, _, rfl, (g6.new hp1).add hp2, .inr ⟨p1, _, rfl, SqL.of (stands upd_same hp2), (fun z => z.elim h12 (g6.notM hp1)), by omega, by omega, fun w H5 hw d5 ok5 => ?_⟩⟩
      obtain ⟨w, rfl, _, hwl⟩ := texts_ok hx.1 hw
      have g5a := d5.st _ _ hp2c upd_same
      walk_at "go"
      refine go_lenL (SqL.of g5a) ?_
      rw [List.length_map]
      walk_at "go"
      refine take_go ok5 (by omega) (by omega) fun r9 H9 a9 b9 d9 ok9 => ?_
      have g5b := d9.st _ _ hp2c g5a
      walk_at "go"
      refine go_setL (k := r9.toNat) g5b (by
        obtain ⟨kk, hkk⟩ : ∃ kk : Nat, r9 = (kk : Int) := ⟨r9.toNat, by omega⟩
        rw [hkk, Int.toNat_natCast]
        exact Evl.ixN_nat (by rw [List.length_map]; omega)) ?_
      walk_at "go"
      have hws2 : LinesAt 111 110 (ws.set r9.toNat w) := (hws.mono (by omega) hzl).set (by omega)
      refine go_joinL (SqL.of (by rw [upd_same, ← List.map_set])) hws2 (by decide +kernel) (by decide) fun j hj => ?_
      walk_at "go"
      have hp2H := (g5.trans (Dx.new hp1)).dm p2 hp2
      have g1' : (upd H9 p2 (.lst ((ws.map V.str).set r9.toNat (.str w)))) l = some (.lst (ys.map V.str)) := by
        rw [upd_ne hl2]
        exact d9.st _ _ hlc (d5.st _ _ hlc (stands (stands g1 hp1) hp2))
      refine go_setL (k := r2.toNat) g1' (by
        obtain ⟨kk, hkk⟩ : ∃ kk : Nat, r2 = (kk : Int) := ⟨r2.toNat, by omega⟩
        rw [hkk, Int.toNat_natCast]
        exact Evl.ixN_nat (by rw [List.length_map]; omega)) ?_
      walk_at "go"
      exact ⟨l, ys.set r2.toNat j, _, _, rfl, by rw [upd_same, List.map_set], (g2.mono (Nat.le_refl _) (by decide)).set (by omega), fun q => by rw [List.length_set]; exact g3 q, g4, (((((g5.trans (Dx.new hp1)).trans (Dx.new hp2)).trans d5).trans d9).own hp2H).own g4, ((ok9.mut (.inl rfl) hp2c).mut (.inr (.inl rfl)) hlc).less (.inr ok.inM) (fun a z => .inr z)⟩
  rintro σ' HH ⟨l, ys, v5, v6, rfl, g1, g2, g3, g4, g5, g6⟩
  have ln : (Str.ofString "\n").length = 1 := by decide +kernel
  walk_at "go"
  refine go_joinL (SqL.of g1) g2 (by decide +kernel) (by decide) fun td htd => ?_
  walk_at "go"
  refine take_go g6 (by omega) (by omega) fun r8 H8 a8 b8 d8 ok8 => ?_
  have okM := ok8.less (N := M) ok.inM fun a z => .inr z
  have dd := g5.trans d8
  have s1 := cutS_length td none (some r8)
  have s2 := cutS_length td (some r8) none
  have s3 := cutS_length td (some (r8 + 1)) none
  walk_at "go"
  refine go_dec (fun _ => ?_) (fun _ => ?_)
  · walk_at "go"
    exact k _ _ ⟨_, rfl, Nat.zero_le _, by rw [length_append]; omega⟩ dd okM
  walk_at "go"
  refine go_dec (fun _ => ?_) (fun _ => ?_)
  · walk_at "go"
    refine ⟨c, M, rfl, okM, fun y H9 hy d9 ok9 => ?_⟩
    obtain ⟨y, rfl, hy1, hy2⟩ := hy
    walk_at "go"
    exact k _ _ ⟨_, rfl, Nat.zero_le _, by rw [length_append, length_append]; omega⟩ (dd.trans d9) ok9
  walk_at "go"
  refine go_dec (fun _ => ?_) (fun _ => ?_)
  · walk_at "go"
    refine ⟨by show 5 ≤ sizeLine; decide, fun p1 hp1 => ?_⟩
    walk_at "go"
    refine ⟨c, M, rfl, okM.new hp1, .inr ⟨p1, _, rfl, SqL.of upd_same, okM.notM hp1, by show 0 < 5; decide, by show 5 ≤ 100000; decide, fun w H9 hw d9 ok9 => ?_⟩⟩
    obtain ⟨w, rfl, _, hwl⟩ := texts_ok (n := 10) (by decide +kernel) hw
    walk_at "go"
    exact k _ _ ⟨_, rfl, Nat.zero_le _, by rw [length_append, length_append]; omega⟩ ((dd.trans (Dx.new hp1)).trans d9) ok9
  walk_at "go"
  refine go_dec (fun _ => ?_) (fun _ => ?_)
  · walk_at "go"
    exact k _ _ ⟨_, rfl, Nat.zero_le _, by rw [length_append]; omega⟩ dd okM
  walk_at "go"
  exact k _ _ ⟨_, rfl, Nat.zero_le _, by omega⟩ dd okM
end
end Q
namespace Q
section
variable {P : Program} {w : World} {K : PySem.W.Frag} {mg : Str → Option Value} {base : Heap}
abbrev N__law_any_ends : List Str := ["_law_store_here", "_law_kind", "_law_one", "_law_other", "_law_ends_here"]
theorem sc__law_any_ends : FnScope N__law_any_ends ["_law_store_here"] (defScope s__law_any_ends) := ⟨rfl, rfl, rfl, by decide +kernel, rfl, by decide +kernel, by decide +kernel⟩
set_option maxHeartbeats 4000000 in
theorem D_law_any_ends  (T : Txt K mg) : Def P w K mg base CX0 (6) "_law_any_ends" s__law_any_ends ["_law_store_here"] (Sp1 (pAnyEnds K)) := by
  obtain ⟨f, fd, m, F⟩ := T.f__law_any_ends.ex
  refine ⟨f, fd, m, F.kp, F.bindsN (ps := ["_law_store_here"]) (fun _ _ _ _ _ _ us hl => match us, hl with | [_], _ => rfl), ?_, F⟩
  obtain ⟨f_law_ends, fd_law_ends, m_law_ends, kp_law_ends, b_law_ends, G_law_ends, F_law_ends⟩ := (D_law_ends (P := P) (w := w) (base := base) T).ex
  obtain ⟨f_law_number, fd_law_number, m_law_number, kp_law_number, b_law_number, G_law_number, F_law_number⟩ := (D_law_number (P := P) (w := w) (base := base) T).ex
  obtain ⟨f_law_pool, fd_law_pool, m_law_pool, kp_law_pool, b_law_pool, G_law_pool, F_law_pool⟩ := (D_law_pool (P := P) (w := w) (base := base) T).ex
  obtain ⟨f_law_take, fd_law_take, m_law_take, kp_law_take, b_law_take, G_law_take, F_law_take⟩ := (D_law_take (P := P) (w := w) (base := base) T).ex
  refine F.ok (CX := CX0) sc__law_any_ends len1 (fun cdv A outer s H vs Q E hr h => ?_)
  obtain ⟨v0, rfl, h⟩ := h
  refine ⟨_, PSs.nox (pss_cons (ps_set (i := 1) sc__law_any_ends.nd rfl (Or.inl rfl) (pe_call G_law_take (hr.mono (by first | decide | omega)) (by rfl) m_law_take kp_law_take b_law_take .nil pass0 (pa_cons (pv 0) (pa_cons pe_int pa_nil))))
      (pss_cons (ps_if (pt_cmpR op_gt0 (pv 1) pe_int (nomark _)) (pss_one (ps_ret (pe_call G_law_ends (hr.mono (by first | decide | omega)) (by rfl) m_law_ends kp_law_ends b_law_ends .nil pass0 (pa_cons (pv 0) (pa_cons (pe_call G_law_pool (hr.mono (by first | decide | omega)) (by rfl) m_law_pool kp_law_pool b_law_pool .nil pass0 (pa_cons (pv 0) pa_nil)) pa_nil))))) pss_nil)
      (pss_cons (ps_set (i := 2) sc__law_any_ends.nd rfl (Or.inl rfl) (pe_call G_law_number (hr.mono (by first | decide | omega)) (by rfl) m_law_number kp_law_number b_law_number .nil pass0 (pa_cons (pv 0) pa_nil)))
      (pss_cons (ps_set (i := 3) sc__law_any_ends.nd rfl (Or.inl rfl) (pe_call G_law_number (hr.mono (by first | decide | omega)) (by rfl) m_law_number kp_law_number b_law_number .nil pass0 (pa_cons (pv 0) pa_nil)))
      (pss_cons (ps_set (i := 4) sc__law_any_ends.nd rfl (Or.inl rfl) (pe_lst (pa_cons (pe_callB (call_min0 rfl) (by rfl) T.b_min (by decide +kernel) (pa_cons (pv 2) (pa_cons (pv 3) pa_nil))) (pa_cons (pe_callB (call_max0 rfl) (by rfl) T.b_max (by decide +kernel) (pa_cons (pv 2) (pa_cons (pv 3) pa_nil))) pa_nil))))
      (C8.pss_cut (ps_if (pt_cmpR op_ltU (pv 1) pe_int (nomark _)) (pss_one (ps_asg pe_non (pg_sub (pv 4) (pv 1) set_list))) pss_nil)
      (pss_one (ps_ret (pe_tup (pa_cons (pe_ix ix_U (pv 4) pe_int (fun _ _ => rfl)) (pa_cons (pe_ix ix_U (pv 4) pe_int (fun _ _ => rfl)) pa_nil))))))))))), ?_⟩
  try dsimp only [cxOf, Cx.nox, Cx.wish]
  rw [show start N__law_any_ends [v0] = [some v0, none, none, none, none] from rfl]
  obtain ⟨c, M, rfl, ok, k⟩ := h
  walk_at "go"
  refine take_go ok (by decide) (by decide) fun r1 H1 a1 b1 d1 ok1 => ?_
  walk_at "go"
  refine go_dec (fun _ => ?_) (fun h3 => ?_)
  · walk_at "go"
    refine ⟨c, M, rfl, ok1, fun l xs H2 hl2 h2 hxs d2 ok2 => ?_⟩
    obtain ⟨ns, rfl, hns, hp1, hp2⟩ := hxs
    walk_at "go"
    refine ⟨c, M, l, ns, rfl, rfl, ok2.less ok1.inM (fun a z => .inr z), SqL.of h2, ok1.notM hl2, by omega, by omega, hns, fun q lo hi H5 hq hq5 e1 e2 e3 d5 ok5 => ?_⟩
    exact k q lo hi H5 ((d1.trans d2).dm q hq) hq5 e1 e2 e3 ((d1.trans d2).trans d5) ok5
  walk_at "go"
  refine ⟨c, M, rfl, ok1, fun n1 H2 hn1 d2 ok2 => ?_⟩
  walk_at "go"
  refine ⟨c, M, rfl, ok2, fun n2 H3 hn2 d3 ok3 => ?_⟩
  obtain ⟨i, rfl, hi⟩ := hn1
  obtain ⟨j, rfl, hj⟩ := hn2
  have d03 := (d1.trans d2).trans d3
  walk_at "go"
  refine ⟨by show 2 ≤ sizeLine; decide, fun l hl => ?_⟩
  walk_at "go"
  generalize hm : (if j < i then j else i) = lo
  generalize hx : (if j > i then j else i) = hi2
  have hlo : InR lo := by rw [← hm]; split <;> assumption
  have hhi : InR hi2 := by rw [← hx]; split <;> assumption
  have hle : lo ≤ hi2 := by rw [← hm, ← hx]; split <;> split <;> omega
  have elo : IsEnd (.int lo) := .inr ⟨lo, rfl, hlo⟩
  have ehi : IsEnd (.int hi2) := .inr ⟨hi2, rfl, hhi⟩
  refine ⟨fun σ' H' => ∃ (a b : V) (v4 : Option V), σ' = [some (.ref c), some (.int r1), some (.int i), some (.int j), some (.ref l)] ∧ H' l = some (.lst [a, b]) ∧ IsEnd a ∧ IsEnd b ∧ crossed a b = false ∧ Dx (Only1 c) H H' ∧ Ok (Add M l) H' c, ?_, ?_⟩
  · walk_at "go"
    refine go_dec (fun h2 => ?_) (fun h2 => ?_)
    · walk_at "go"
      rcases (show r1 = 0 ∨ r1 = 1 by omega) with z | z <;> subst z
      · refine go_setL (k := 0) upd_same (Evl.ixN_nat (j := 0) (by show 0 < 2; decide)) ?_
        walk_at "go"
        exact ⟨.non, .int hi2, none, rfl, by rw [upd_same]; rfl, .inl rfl, ehi, rfl, (d03.trans (Dx.new hl)).own (d03.dm l hl), (ok3.add hl).mut (.inl rfl) (ok3.ne_new hl)⟩
      · refine go_setL (k := 1) upd_same (Evl.ixN_nat (j := 1) (by show 1 < 2; decide)) ?_
        walk_at "go"
        exact ⟨.int lo, .non, none, rfl, by rw [upd_same]; rfl, elo, .inl rfl, rfl, (d03.trans (Dx.new hl)).own (d03.dm l hl), (ok3.add hl).mut (.inl rfl) (ok3.ne_new hl)⟩
    · walk_at "go"
      exact ⟨.int lo, .int hi2, none, rfl, upd_same, elo, ehi, decide_eq_false (by omega), d03.trans (Dx.new hl), ok3.add hl⟩
  rintro σ' H4 ⟨a, b, v4, rfl, g1, g2, g3, g4, g5, g6⟩
  walk_at "go"
  refine go_ixL (SqL.of g1) (show atI [a, b] 0 = some a from rfl) ?_
  walk_at "go"
  refine go_ixL (SqL.of g1) (show atI [a, b] 1 = some b from rfl) ?_
  walk_at "go"
  refine ⟨by show 2 ≤ sizeLine; decide, fun q hq => ?_⟩
  exact k q a b _ (g5.dm q hq) upd_same g2 g3 g4 (g5.trans (Dx.new hq)) ((g6.new hq).less ok.inM fun a z => .inr z)
abbrev N__law_parsed : List Str := ["_law_word", "_law_span", "e"]
theorem sc__law_parsed : FnScope N__law_parsed ["_law_word"] (defScope s__law_parsed) := ⟨rfl, rfl, rfl, by decide +kernel, rfl, by decide +kernel, by decide +kernel⟩
set_option maxHeartbeats 4000000 in
theorem D_law_parsed  (T : Txt K mg) : Def P w K mg base CX0 (8) "_law_parsed" s__law_parsed ["_law_word"] (Sp1 (pParsed K)) := by
  obtain ⟨f, fd, m, F⟩ := T.f__law_parsed.ex
  refine ⟨f, fd, m, F.kp, F.bindsN (ps := ["_law_word"]) (fun _ _ _ _ _ _ us hl => match us, hl with | [_], _ => rfl), ?_, F⟩
  obtain ⟨fdSpan_parse, GSpan_parse, FSpan_parse⟩ := (DSpan_parse (P := P) (w := w) (base := base) T).ex
  have bSpan_parse := FSpan_parse.bindsN (ps := ["text"]) (fun _ _ _ _ _ _ us hl => match us, hl with | [_], _ => rfl)
  refine F.ok (CX := CX0) sc__law_parsed len1 (fun cdv A outer s H vs Q E hr h => ?_)
  obtain ⟨v0, rfl, h⟩ := h
  refine ⟨_, PSs.nox (pss_cons (ps_try_as (i := 2) (Wout := (fun _ _ _ _ => False)) rfl rfl sc__law_parsed.nd rfl rfl ⟨rfl, by decide, Or.inl T.g_BadText⟩ takes0 (fun W pn xe tk _ => (pss_one (ps_set (i := 1) sc__law_parsed.nd rfl (Or.inl rfl) (pe_smethS (pe_glob (v := .ref (gA K "Span")) (by rfl) T.g_Span rfl) T.cr_Span T.c_Span_parse (GSpan_parse.raw bSpan_parse .nil) (hr.mono (by first | decide | omega)) (fun s9 => passAt tk s9) (pa_cons (pv 0) pa_nil))))) (fun a oe cls d pn hz hf => (pss_one (ps_ret (pe_tup (pa_cons pe_str (pa_cons (pe_xf T.x_BadText.xf (T.i_BadText.no "line" (by decide +kernel)) hz hf (pv 2)) (pa_cons (pe_callB (call_isX hz hf) (by rfl) T.b_isinstance (by decide +kernel) (pa_cons (pv 2) (pa_cons (pe_glob (v := .ref (gA K "OutshinerError")) (by rfl) T.g_OutshinerError rfl) pa_nil))) (pa_cons (pe_callB (call_isX hz hf) (by rfl) T.b_isinstance (by decide +kernel) (pa_cons (pv 2) (pa_cons (pe_tup (pa_cons (pe_glob (v := .ref (gA K "BadNumber")) (by rfl) T.g_BadNumber rfl) (pa_cons (pe_glob (v := .ref (gA K "BadSpan")) (by rfl) T.g_BadSpan rfl) (pa_cons (pe_glob (v := .ref (gA K "BadName")) (by rfl) T.g_BadName rfl) pa_nil)))) pa_nil))) pa_nil)))))))))
      (pss_one (ps_ret (pe_tup (pa_cons (pe_callB call_isi (by rfl) T.b_isinstance (by decide +kernel) (pa_cons (pv 1) (pa_cons (pe_glob (v := .ref (gA K "Span")) (by rfl) T.g_Span rfl) pa_nil))) (pa_cons (pe_fld (pv 1) rfl) (pa_cons (pe_fld (pv 1) rfl) pa_nil))))))), ?_⟩
  try dsimp only [cxOf, Cx.nox, Cx.wish]
  rw [show start N__law_parsed [v0] = [some v0, none, none] from rfl]
  obtain ⟨x, rfl, hl, k1, k2⟩ := h
  have nlo := T.no_Span "low" (by decide +kernel)
  have nhi := T.no_Span "high" (by decide +kernel)
  walk_at "go"
  refine ⟨rfl, ?_⟩
  walk_at "go"
  refine ⟨x, rfl, hl, fun lo hi e p H' hp d sp => ?_, fun e d H0 hd d0 h0 => ?_⟩
  · obtain ⟨dx, hs⟩ := sp.ex
    walk_at "go"
    refine go_isiC hs T.cl_Span T.ty_Span T.s_self ?_
    walk_at "go"
    refine go_fldq hs T.cl_Span nlo rfl ?_
    walk_at "go"
    refine go_fldq hs T.cl_Span nhi rfl ?_
    walk_at "go"
    refine ⟨by show 3 ≤ sizeLine; decide, fun q hq => ?_⟩
    exact k2 lo hi e q _ (SqT.of upd_same) (d.trans (Dx.new hq))
  · refine ⟨true, T.x_BadText.te, fun _ a ha => ?_, fun z => nomatch z⟩
    walk_at "go"
    refine go_xfq h0 rfl ?_
    walk_at "go"
    refine go_isx1 T.x_BadText.isx ⟨rfl, d, _, rfl, h0⟩ T.k_base2 ?_
    walk_at "go"
    refine ⟨by show 3 ≤ sizeLine; decide, fun p1 hp1 => ?_⟩
    walk_at "go"
    refine go_isxL T.x_BadText.isx T.k_t2 ⟨rfl, d, _, rfl, stands h0 hp1⟩ upd_same ?_
    walk_at "go"
    refine ⟨by show 4 ≤ sizeLine; decide, fun p2 hp2 => ?_⟩
    walk_at "go"
    exact k1 e p2 _ (SqT.of upd_same) ((d0.trans (Dx.new hp1)).trans (Dx.new hp2))
abbrev N__law_parsed_number : List Str := ["_law_word", "_law_told", "e"]
theorem sc__law_parsed_number : FnScope N__law_parsed_number ["_law_word"] (defScope s__law_parsed_number) := ⟨rfl, rfl, rfl, by decide +kernel, rfl, by decide +kernel, by decide +kernel⟩
set_option maxHeartbeats 4000000 in
theorem D_law_parsed_number  (T : Txt K mg) : Def P w K mg base CX0 (4) "_law_parsed_number" s__law_parsed_number ["_law_word"] (Sp1 (pParsedNum K)) := by
  obtain ⟨f, fd, m, F⟩ := T.f__law_parsed_number.ex
  refine ⟨f, fd, m, F.kp, F.bindsN (ps := ["_law_word"]) (fun _ _ _ _ _ _ us hl => match us, hl with | [_], _ => rfl), ?_, F⟩
  obtain ⟨fparse_number, fdparse_number, mparse_number, kpparse_number, bparse_number, Gparse_number, Fparse_number⟩ := (Dparse_number (P := P) (w := w) (base := base) T).ex
  refine F.ok (CX := CX0) sc__law_parsed_number len1 (fun cdv A outer s H vs Q E hr h => ?_)
  obtain ⟨v0, rfl, h⟩ := h
  refine ⟨_, PSs.nox (pss_cons (ps_try_as (i := 2) (Wout := (fun _ _ _ _ => False)) rfl rfl sc__law_parsed_number.nd rfl rfl ⟨rfl, by decide, Or.inl T.g_BadText⟩ takes0 (fun W pn xe tk _ => (pss_one (ps_set (i := 1) sc__law_parsed_number.nd rfl (Or.inl rfl) (pe_callS Gparse_number (hr.mono (by first | decide | omega)) (by rfl) mparse_number kpparse_number bparse_number (fun s9 => passAt tk s9) (by exact (pa_cons (pv 0) pa_nil)))))) (fun a oe cls d pn hz hf => (pss_one (ps_ret (pe_tup (pa_cons pe_str (pa_cons (pe_xf T.x_BadText.xf (T.i_BadText.no "line" (by decide +kernel)) hz hf (pv 2)) (pa_cons (pe_callB (call_isX hz hf) (by rfl) T.b_isinstance (by decide +kernel) (pa_cons (pv 2) (pa_cons (pe_glob (v := .ref (gA K "OutshinerError")) (by rfl) T.g_OutshinerError rfl) pa_nil))) (pa_cons (pe_callB (call_isX hz hf) (by rfl) T.b_isinstance (by decide +kernel) (pa_cons (pv 2) (pa_cons (pe_tup (pa_cons (pe_glob (v := .ref (gA K "BadNumber")) (by rfl) T.g_BadNumber rfl) (pa_cons (pe_glob (v := .ref (gA K "BadSpan")) (by rfl) T.g_BadSpan rfl) (pa_cons (pe_glob (v := .ref (gA K "BadName")) (by rfl) T.g_BadName rfl) pa_nil)))) pa_nil))) pa_nil)))))))))
      (pss_one (ps_ret (pv 1)))), ?_⟩
  try dsimp only [cxOf, Cx.nox, Cx.wish]
  rw [show start N__law_parsed_number [v0] = [some v0, none, none] from rfl]
  obtain ⟨x, rfl, hl, k1, k2⟩ := h
  walk_at "go"
  refine ⟨x, rfl, hl, fun i e _ => ?_, fun e d hd => ?_⟩
  · walk_at "go"
    exact k2 i e
  · have d0 : Dx No H (upd H d (.xd [("line", .int 1)])) := Dx.new hd
    have h0 : (upd H d (.xd [("line", .int 1)])) d = some (.xd [("line", .int 1)]) := upd_same
    generalize upd H d (.xd [("line", .int 1)]) = H0 at d0 h0 ⊢
    refine ⟨true, T.x_BadText.te, fun _ a ha => ?_, fun z => nomatch z⟩
    walk_at "go"
    refine go_xfq h0 rfl ?_
    walk_at "go"
    refine go_isx1 T.x_BadText.isx ⟨rfl, d, _, rfl, h0⟩ T.k_base2 ?_
    walk_at "go"
    refine ⟨by show 3 ≤ sizeLine; decide, fun p1 hp1 => ?_⟩
    walk_at "go"
    refine go_isxL T.x_BadText.isx T.k_t2 ⟨rfl, d, _, rfl, stands h0 hp1⟩ upd_same ?_
    walk_at "go"
    refine ⟨by show 4 ≤ sizeLine; decide, fun p2 hp2 => ?_⟩
    walk_at "go"
    exact k1 e p2 _ (SqT.of upd_same) ((d0.trans (Dx.new hp1)).trans (Dx.new hp2))
abbrev N__law_told_number : List Str := ["_law_value", "_law_told", "e"]
theorem sc__law_told_number : FnScope N__law_told_number ["_law_value"] (defScope s__law_told_number) := ⟨rfl, rfl, rfl, by decide +kernel, rfl, by decide +kernel, by decide +kernel⟩
set_option maxHeartbeats 4000000 in
theorem D_law_told_number  (T : Txt K mg) : Def P w K mg base CX0 (5) "_law_told_number" s__law_told_number ["_law_value"] (Sp1 (pToldNum K)) := by
  obtain ⟨f, fd, m, F⟩ := T.f__law_told_number.ex
  refine ⟨f, fd, m, F.kp, F.bindsN (ps := ["_law_value"]) (fun _ _ _ _ _ _ us hl => match us, hl with | [_], _ => rfl), ?_, F⟩
  obtain ⟨fnumber_text, fdnumber_text, mnumber_text, kpnumber_text, bnumber_text, Gnumber_text, Fnumber_text⟩ := (Dnumber_text (P := P) (w := w) (base := base) T).ex
  refine F.ok (CX := CX0) sc__law_told_number len1 (fun cdv A outer s H vs Q E hr h => ?_)
  obtain ⟨v0, rfl, h⟩ := h
  refine ⟨_, PSs.nox (pss_cons (ps_try_as (i := 2) (Wout := (fun _ _ _ _ => False)) rfl rfl sc__law_told_number.nd rfl rfl ⟨rfl, by decide, Or.inl T.g_BadNumber⟩ takes0 (fun W pn xe tk _ => (pss_one (ps_set (i := 1) sc__law_told_number.nd rfl (Or.inl rfl) (pe_callS Gnumber_text (hr.mono (by first | decide | omega)) (by rfl) mnumber_text kpnumber_text bnumber_text (fun s9 => passAt tk s9) (by exact (pa_cons (pv 0) pa_nil)))))) (fun a oe cls d pn hz hf => (pss_one (ps_ret (pe_tup (pa_cons pe_str (pa_cons (pe_xf T.x_BadNumber.xf (T.i_BadNumber.no "number" (by decide +kernel)) hz hf (pv 2)) (pa_cons (pe_callB (call_isX hz hf) (by rfl) T.b_isinstance (by decide +kernel) (pa_cons (pv 2) (pa_cons (pe_glob (v := .ref (gA K "OutshinerError")) (by rfl) T.g_OutshinerError rfl) pa_nil))) (pa_cons (pe_callB (call_isX hz hf) (by rfl) T.b_isinstance (by decide +kernel) (pa_cons (pv 2) (pa_cons (pe_tup (pa_cons (pe_glob (v := .ref (gA K "BadText")) (by rfl) T.g_BadText rfl) (pa_cons (pe_glob (v := .ref (gA K "BadSpan")) (by rfl) T.g_BadSpan rfl) (pa_cons (pe_glob (v := .ref (gA K "BadName")) (by rfl) T.g_BadName rfl) pa_nil)))) pa_nil))) pa_nil)))))))))
      (pss_one (ps_ret (pv 1)))), ?_⟩
  try dsimp only [cxOf, Cx.nox, Cx.wish]
  rw [show start N__law_told_number [v0] = [some v0, none, none] from rfl]
  obtain ⟨hf, k1, k2⟩ := h
  walk_at "go"
  refine ⟨hf, fun i e hi => ?_, fun e d hd => ?_⟩
  · walk_at "go"
    exact k1 i e hi
  · have d0 : Dx No H (upd H d (.xd [("number", v0)])) := Dx.new hd
    have h0 : (upd H d (.xd [("number", v0)])) d = some (.xd [("number", v0)]) := upd_same
    generalize upd H d (.xd [("number", v0)]) = H0 at d0 h0 ⊢
    refine ⟨true, T.x_BadNumber.te, fun _ a ha => ?_, fun z => nomatch z⟩
    walk_at "go"
    refine go_xfq h0 rfl ?_
    walk_at "go"
    refine go_isx1 T.x_BadNumber.isx ⟨rfl, d, _, rfl, h0⟩ T.k_base ?_
    walk_at "go"
    refine ⟨by show 3 ≤ sizeLine; decide, fun p1 hp1 => ?_⟩
    walk_at "go"
    refine go_isxL T.x_BadNumber.isx T.k_t ⟨rfl, d, _, rfl, stands h0 hp1⟩ upd_same ?_
    walk_at "go"
    refine ⟨by show 4 ≤ sizeLine; decide, fun p2 hp2 => ?_⟩
    walk_at "go"
    exact k2 e p2 _ (SqT.of upd_same) ((d0.trans (Dx.new hp1)).trans (Dx.new hp2))
abbrev N__law_reads : List Str := ["_law_word", "_law_due", "_law_ends_here", "_law_number_here"]
theorem sc__law_reads : FnScope N__law_reads ["_law_word"] (defScope s__law_reads) := ⟨rfl, rfl, rfl, by decide +kernel, rfl, by decide +kernel, by decide +kernel⟩
set_option maxHeartbeats 4000000 in
theorem D_law_reads  (T : Txt K mg) : Def P w K mg base CX0 (9) "_law_reads" s__law_reads ["_law_word"] (Sp1 pReads) := by
  obtain ⟨f, fd, m, F⟩ := T.f__law_reads.ex
  refine ⟨f, fd, m, F.kp, F.bindsN (ps := ["_law_word"]) (fun _ _ _ _ _ _ us hl => match us, hl with | [_], _ => rfl), ?_, F⟩
  obtain ⟨f_law_parsed, fd_law_parsed, m_law_parsed, kp_law_parsed, b_law_parsed, G_law_parsed, F_law_parsed⟩ := (D_law_parsed (P := P) (w := w) (base := base) T).ex
  obtain ⟨f_law_parsed_number, fd_law_parsed_number, m_law_parsed_number, kp_law_parsed_number, b_law_parsed_number, G_law_parsed_number, F_law_parsed_number⟩ := (D_law_parsed_number (P := P) (w := w) (base := base) T).ex
  obtain ⟨f_law_read, fd_law_read, m_law_read, kp_law_read, b_law_read, G_law_read, F_law_read⟩ := (D_law_read (P := P) (w := w) (base := base) T).ex
  obtain ⟨f_law_read_ends, fd_law_read_ends, m_law_read_ends, kp_law_read_ends, b_law_read_ends, G_law_read_ends, F_law_read_ends⟩ := (D_law_read_ends (P := P) (w := w) (base := base) T).ex
  obtain ⟨f_law_same, fd_law_same, m_law_same, kp_law_same, b_law_same, G_law_same, F_law_same⟩ := (D_law_same (P := P) (w := w) (base := base) T).ex
  refine F.ok (CX := CX0) sc__law_reads len1 (fun cdv A outer s H vs Q E hr h => ?_)
  obtain ⟨v0, rfl, h⟩ := h
  refine ⟨_, PSs.nox (pss_cons (ps_set (i := 1) sc__law_reads.nd rfl (Or.inl rfl) (pe_tup (pa_cons pe_str (pa_cons pe_int (pa_cons pe_bl (pa_cons pe_bl pa_nil))))))
      (pss_cons (ps_set (i := 2) sc__law_reads.nd rfl (Or.inl rfl) (pe_call G_law_read_ends (hr.mono (by first | decide | omega)) (by rfl) m_law_read_ends kp_law_read_ends b_law_read_ends .nil pass0 (pa_cons (pv 0) pa_nil)))
      (C8.pss_cut (ps_if (pt_cmpR op_isnot0 (pv 2) pe_non (nomark _)) (pss_one (ps_set (i := 1) sc__law_reads.nd rfl (Or.inl rfl) (pe_tup (pa_cons pe_bl (pa_cons (pe_ix ix_U (pv 2) pe_int (fun _ _ => rfl)) (pa_cons (pe_ix ix_U (pv 2) pe_int (fun _ _ => rfl)) pa_nil)))))) pss_nil)
      (pss_cons (ps_if (pt_not (pt_val (pe_call G_law_same (hr.mono (by first | decide | omega)) (by rfl) m_law_same kp_law_same b_law_same .nil pass0 (pa_cons (pe_call G_law_parsed (hr.mono (by first | decide | omega)) (by rfl) m_law_parsed kp_law_parsed b_law_parsed .nil pass0 (pa_cons (pv 0) pa_nil)) (pa_cons (pv 1) pa_nil))))) (pss_one (ps_ret pe_bl)) pss_nil)
      (pss_cons (ps_set (i := 3) sc__law_reads.nd rfl (Or.inl rfl) (pe_call G_law_read (hr.mono (by first | decide | omega)) (by rfl) m_law_read kp_law_read b_law_read .nil pass0 (pa_cons (pv 0) pa_nil)))
      (pss_cons (ps_if (pt_cmpR op_is0 (pv 3) pe_non (nomark _)) (pss_one (ps_ret (pe_call G_law_same (hr.mono (by first | decide | omega)) (by rfl) m_law_same kp_law_same b_law_same .nil pass0 (pa_cons (pe_call G_law_parsed_number (hr.mono (by first | decide | omega)) (by rfl) m_law_parsed_number kp_law_parsed_number b_law_parsed_number .nil pass0 (pa_cons (pv 0) pa_nil)) (pa_cons (pe_tup (pa_cons pe_str (pa_cons pe_int (pa_cons pe_bl (pa_cons pe_bl pa_nil))))) pa_nil))))) pss_nil)
      (pss_one (ps_ret (pe_call G_law_same (hr.mono (by first | decide | omega)) (by rfl) m_law_same kp_law_same b_law_same .nil pass0 (pa_cons (pe_call G_law_parsed_number (hr.mono (by first | decide | omega)) (by rfl) m_law_parsed_number kp_law_parsed_number b_law_parsed_number .nil pass0 (pa_cons (pv 0) pa_nil)) (pa_cons (pv 3) pa_nil))))))))))), ?_⟩
  try dsimp only [cxOf, Cx.nox, Cx.wish]
  rw [show start N__law_reads [v0] = [some v0, none, none, none] from rfl]
  obtain ⟨x, rfl, hl, k⟩ := h
  have bf : badText.all flatE = true := rfl
  walk_at "go"
  refine ⟨by show 4 ≤ sizeLine; decide, fun t ht => ?_⟩
  walk_at "go"
  have d0 : Dx No H (upd H t (.tup [V.str (Str.ofString "BadText"), V.int 1, V.bl true, V.bl false])) := Dx.new ht
  have t0 : (upd H t (.tup [V.str (Str.ofString "BadText"), V.int 1, V.bl true, V.bl false])) t = some (.tup badText) := upd_same
  generalize upd H t (.tup [V.str (Str.ofString "BadText"), V.int 1, V.bl true, V.bl false]) = H0 at d0 t0
  refine ⟨x, rfl, hl, fun en H1 d1 => ?_, fun lo hi es p H1 hp hp1 d1 => ?_⟩
  · walk_at "go"
    refine ⟨fun σ' H' => ∃ w, σ' = [some (.str x), some (.ref w), some .non, none] ∧ SqT K H' w badText ∧ Dx No H H', ?_, ?_⟩
    · walk_at "go"
      exact ⟨t, rfl, d1.sqT id (SqT.of t0), d0.trans d1⟩
    rintro σ' H2 ⟨w, rfl, hw, d2⟩
    walk_at "go"
    refine ⟨x, rfl, hl, fun _ p H3 hp d3 => ?_, fun lo hi z => by rw [en] at z; exact nomatch z⟩
    walk_at "go"
    refine .inl ⟨eqv_tup hp (d3.sqT id hw) bf (by show 4 ≤ 100000; decide), fun H4 d4 => ?_⟩
    walk_at "go"
    refine ⟨x, rfl, hl, ?_⟩
    cases er : readL (tl x) with
    | none =>
      dsimp only [optV]
      walk_at "go"
      refine ⟨x, rfl, hl, fun _ p5 H5 hp5 d5 => ?_, fun i z => by rw [er] at z; exact nomatch z⟩
      walk_at "go"
      refine ⟨by show 4 ≤ sizeLine; decide, fun q5 hq5 => ?_⟩
      walk_at "go"
      exact .inl ⟨eqv_tup (xs := badText) (sqt_new hp5 hq5) (SqT.of upd_same) bf (by show 4 ≤ 100000; decide), fun H6 d6 => k _ ((((d2.trans d3).trans d4).trans d5).trans ((Dx.new hq5).trans d6))⟩
    | some i =>
      dsimp only [optV]
      walk_at "go"
      refine ⟨x, rfl, hl, fun z => by rw [er] at z; exact (nomatch z), fun i' z => ?_⟩
      rw [er] at z
      cases z
      walk_at "go"
      refine .inr ⟨rfl, rfl, ?_⟩
      rw [decide_eq_true rfl]
      exact k _ ((d2.trans d3).trans d4)
  · obtain ⟨ia, ib⟩ := spanRd_ends es
    walk_at "go"
    refine ⟨fun σ' H' => ∃ w, σ' = [some (.str x), some (.ref w), some (.ref p), none] ∧ SqT K H' w [.bl true, lo, hi] ∧ Dx No H H', ?_, ?_⟩
    · walk_at "go"
      refine go_ixT (SqT.of hp1) (show atI [lo, hi] 0 = some lo from rfl) ?_
      walk_at "go"
      refine go_ixT (SqT.of hp1) (show atI [lo, hi] 1 = some hi from rfl) ?_
      walk_at "go"
      refine ⟨by show 3 ≤ sizeLine; decide, fun q hq => ?_⟩
      walk_at "go"
      exact ⟨q, rfl, SqT.of upd_same, (d0.trans d1).trans (Dx.new hq)⟩
    rintro σ' H2 ⟨w, rfl, hw, d2⟩
    walk_at "go"
    refine ⟨x, rfl, hl, fun z => by rw [es] at z; exact (nomatch z), fun lo' hi' z p2 H3 hp2 d3 => ?_⟩
    rw [es] at z
    cases z
    walk_at "go"
    refine .inl ⟨eqv_tup hp2 (d3.sqT id hw) (by simp only [List.all_cons, List.all_nil, flat_end ia, flat_end ib, Bool.and_true]; rfl) (by show 3 ≤ 100000; decide), fun H4 d4 => ?_⟩
    walk_at "go"
    refine ⟨x, rfl, hl, ?_⟩
    cases er : readL (tl x) with
    | none =>
      dsimp only [optV]
      walk_at "go"
      refine ⟨x, rfl, hl, fun _ p5 H5 hp5 d5 => ?_, fun i z => by rw [er] at z; exact nomatch z⟩
      walk_at "go"
      refine ⟨by show 4 ≤ sizeLine; decide, fun q5 hq5 => ?_⟩
      walk_at "go"
      exact .inl ⟨eqv_tup (xs := badText) (sqt_new hp5 hq5) (SqT.of upd_same) bf (by show 4 ≤ 100000; decide), fun H6 d6 => k _ ((((d2.trans d3).trans d4).trans d5).trans ((Dx.new hq5).trans d6))⟩
    | some i =>
      dsimp only [optV]
      walk_at "go"
      refine ⟨x, rfl, hl, fun z => by rw [er] at z; exact (nomatch z), fun i' z => ?_⟩
      rw [er] at z
      cases z
      walk_at "go"
      refine .inr ⟨rfl, rfl, ?_⟩
      rw [decide_eq_true rfl]
      exact k _ ((d2.trans d3).trans d4)
abbrev N__law_spoilt_at : List Str := ["_law_word", "_law_at", "_law_sign_here"]
theorem sc__law_spoilt_at : FnScope N__law_spoilt_at ["_law_word", "_law_at", "_law_sign_here"] (defScope s__law_spoilt_at) := ⟨rfl, rfl, rfl, by decide +kernel, rfl, by decide +kernel, by decide +kernel⟩
set_option maxHeartbeats 4000000 in
theorem D_law_spoilt_at  (T : Txt K mg) : Def P w K mg base CX0 (1) "_law_spoilt_at" s__law_spoilt_at ["_law_word", "_law_at", "_law_sign_here"] (Sp3 (pSpoilt K)) := by
  obtain ⟨f, fd, m, F⟩ := T.f__law_spoilt_at.ex
  refine ⟨f, fd, m, F.kp, F.bindsN (ps := ["_law_word", "_law_at", "_law_sign_here"]) (fun _ _ _ _ _ _ us hl => match us, hl with | [_, _, _], _ => rfl), ?_, F⟩
  refine F.ok (CX := CX0) sc__law_spoilt_at len3 (fun cdv A outer s H vs Q E hr h => ?_)
  obtain ⟨v0, v1, v2, rfl, h⟩ := h
  refine ⟨_, PSs.nox (pss_one (ps_ret (pe_lst (pa_cons (pe_op op_addU (pe_op op_addU (pe_slice sl_str (pv 0) po_none (po_some (pv 1))) (pv 2)) (pe_slice sl_str (pv 0) (po_some (pv 1)) po_none)) (pa_cons (pe_op op_addU (pe_op op_addU (pe_slice sl_str (pv 0) po_none (po_some (pv 1))) (pv 2)) (pe_slice sl_str (pv 0) (po_some (pe_op op_addU (pv 1) pe_int)) po_none)) (pa_cons (pe_op op_addU (pe_slice sl_str (pv 0) po_none (po_some (pv 1))) (pe_slice sl_str (pv 0) (po_some (pe_op op_addU (pv 1) pe_int)) po_none)) pa_nil)))))), ?_⟩
  try dsimp only [cxOf, Cx.nox, Cx.wish]
  rw [show start N__law_spoilt_at [v0, v1, v2] = [some v0, some v1, some v2] from rfl]
  obtain ⟨x, s1, i, rfl, rfl, rfl, hl, hs, h0, h1, k⟩ := h
  have c1 := cutS_length x none (some i)
  have c2 := cutS_length x (some i) none
  have c3 := cutS_length x (some (i + 1)) none
  walk_at "go"
  refine ⟨by show 3 ≤ sizeLine; decide, fun p hp => ?_⟩
  refine k p _ [_, _, _] hp (by rw [upd_same]; rfl) (fun y hy => ?_) (Dx.new hp)
  simp only [List.mem_cons, List.not_mem_nil, or_false] at hy
  rcases hy with z | z | z
  · rw [z, length_append, length_append]; omega
  · rw [z, length_append, length_append]; omega
  · rw [z, length_append]; omega
abbrev N__law_reads_near : List Str := ["_law_store_here", "_law_word", "_law_sign_here", "_law_at", "_law_near_here", "_law_k"]
theorem sc__law_reads_near : FnScope N__law_reads_near ["_law_store_here", "_law_word"] (defScope s__law_reads_near) := ⟨rfl, rfl, rfl, by decide +kernel, rfl, by decide +kernel, by decide +kernel⟩
set_option maxHeartbeats 4000000 in
theorem D_law_reads_near  (T : Txt K mg) : Def P w K mg base CX0 (10) "_law_reads_near" s__law_reads_near ["_law_store_here", "_law_word"] (Sp2 pNear2) := by
  obtain ⟨f, fd, m, F⟩ := T.f__law_reads_near.ex
  refine ⟨f, fd, m, F.kp, F.bindsN (ps := ["_law_store_here", "_law_word"]) (fun _ _ _ _ _ _ us hl => match us, hl with | [_, _], _ => rfl), ?_, F⟩
  obtain ⟨f_law_bent_text, fd_law_bent_text, m_law_bent_text, kp_law_bent_text, b_law_bent_text, G_law_bent_text, F_law_bent_text⟩ := (D_law_bent_text (P := P) (w := w) (base := base) T).ex
  obtain ⟨f_law_pick, fd_law_pick, m_law_pick, kp_law_pick, b_law_pick, G_law_pick, F_law_pick⟩ := (D_law_pick (P := P) (w := w) (base := base) T).ex
  obtain ⟨f_law_reads, fd_law_reads, m_law_reads, kp_law_reads, b_law_reads, G_law_reads, F_law_reads⟩ := (D_law_reads (P := P) (w := w) (base := base) T).ex
  obtain ⟨f_law_sign, fd_law_sign, m_law_sign, kp_law_sign, b_law_sign, G_law_sign, F_law_sign⟩ := (D_law_sign (P := P) (w := w) (base := base) T).ex
  obtain ⟨f_law_spoilt_at, fd_law_spoilt_at, m_law_spoilt_at, kp_law_spoilt_at, b_law_spoilt_at, G_law_spoilt_at, F_law_spoilt_at⟩ := (D_law_spoilt_at (P := P) (w := w) (base := base) T).ex
  refine F.ok (CX := CX0) sc__law_reads_near len2 (fun cdv A outer s H vs Q E hr h => ?_)
  obtain ⟨v0, v1, rfl, h⟩ := h
  refine ⟨_, PSs.nox (pss_cons (ps_set (i := 2) sc__law_reads_near.nd rfl (Or.inl rfl) (pe_call G_law_pick (hr.mono (by first | decide | omega)) (by rfl) m_law_pick kp_law_pick b_law_pick .nil pass0 (pa_cons (pv 0) (pa_cons (pe_lst (pa_cons pe_str (pa_cons pe_str (pa_cons pe_str (pa_cons pe_str (pa_cons pe_str (pa_cons pe_str (pa_cons pe_str (pa_cons pe_str (pa_cons (pe_call G_law_sign (hr.mono (by first | decide | omega)) (by rfl) m_law_sign kp_law_sign b_law_sign .nil pass0 (pa_cons (pv 0) pa_nil)) pa_nil)))))))))) pa_nil))))
      (pss_cons (ps_for PassesOwn.never rfl (pi_range1 (by rfl) T.b_range (pa_cons (pe_op op_addU (pe_callB call_lenU (by rfl) T.b_len (by decide +kernel) (pa_cons (pv 1) pa_nil)) pe_int) pa_nil)) (pg_name (i := 3) sc__law_reads_near.nd rfl (Or.inl rfl)) (pss_one (ps_for PassesOwn.never rfl (pi_list (pe_call G_law_spoilt_at (hr.mono (by first | decide | omega)) (by rfl) m_law_spoilt_at kp_law_spoilt_at b_law_spoilt_at .nil pass0 (pa_cons (pv 1) (pa_cons (pv 3) (pa_cons (pv 2) pa_nil))))) (pg_name (i := 4) sc__law_reads_near.nd rfl (Or.inl rfl)) (pss_one (ps_if (pt_not (pt_val (pe_call G_law_reads (hr.mono (by first | decide | omega)) (by rfl) m_law_reads kp_law_reads b_law_reads .nil pass0 (pa_cons (pv 4) pa_nil)))) (pss_one (ps_ret pe_bl)) pss_nil)))))
      (pss_cons (ps_for PassesOwn.never rfl (pi_range1 (by rfl) T.b_range (pa_cons pe_int pa_nil)) (pg_name (i := 5) sc__law_reads_near.nd rfl (Or.inl rfl)) (pss_one (ps_if (pt_not (pt_val (pe_call G_law_reads (hr.mono (by first | decide | omega)) (by rfl) m_law_reads kp_law_reads b_law_reads .nil pass0 (pa_cons (pe_slice sl_str (pe_call G_law_bent_text (hr.mono (by first | decide | omega)) (by rfl) m_law_bent_text kp_law_bent_text b_law_bent_text .nil pass0 (pa_cons (pv 0) (pa_cons (pv 1) pa_nil))) po_none (po_some pe_int)) pa_nil)))) (pss_one (ps_ret pe_bl)) pss_nil)))
      (pss_one (ps_ret pe_bl))))), ?_⟩
  try dsimp only [cxOf, Cx.nox, Cx.wish]
  rw [show start N__law_reads_near [v0, v1] = [some v0, some v1, none, none, none, none] from rfl]
  obtain ⟨c, M, x, rfl, rfl, hl, ok, k⟩ := h
  walk_at "go"
  refine ⟨c, M, rfl, ok, fun y H1 hy d1 ok1 => ?_⟩
  obtain ⟨y, rfl, hy1, hy2⟩ := hy
  walk_at "go"
  refine ⟨by show 9 ≤ sizeLine; decide, fun p hp => ?_⟩
  walk_at "go"
  refine ⟨c, M, rfl, ok1.new hp, .inr ⟨p, _, rfl, SqL.of upd_same, ok1.notM hp, by show 0 < 9; decide, by show 9 ≤ 100000; decide, fun w H2 hw d2 ok2 => ?_⟩⟩
  obtain ⟨s1, rfl, hs⟩ : ∃ s : Str, w = .str s ∧ s.length ≤ 10 := by
    simp only [List.mem_cons, List.not_mem_nil, or_false] at hw
    rcases hw with e | e | e | e | e | e | e | e | e
    all_goals first | exact ⟨_, e, by omega⟩ | exact ⟨_, e, by decide +kernel⟩
  walk_at "go"
  refine for_r (by omega) (fun i σ' H' => ∃ (v3 v4 : Option V), σ' = [some (.ref c), some (.str x), some (.str s1), v3, v4, none] ∧ Dx (Only1 c) H H' ∧ Ok M H' c) ⟨_, _, rfl, (d1.trans (Dx.new hp)).trans d2, ok2⟩ ?_ ?_
  · rintro i σ' H3 hi ⟨v3, v4, rfl, d3, ok3⟩
    walk_at "go"
    refine ⟨x, s1, i, rfl, rfl, rfl, by omega, hs, by omega, by omega, fun p H4 ys hp4 hp5 hys d4 => ?_⟩
    refine for_l (SqL.of hp5) (fun j σ' H' => ∃ (v4 : Option V), σ' = [some (.ref c), some (.str x), some (.str s1), some (.int i), v4, none] ∧ Dx No H4 H') ⟨_, rfl, Dx.refl⟩ (fun j σ' H' _ ⟨_, _, d⟩ => d.sqL id (SqL.of hp5)) ?_ ?_
    · rintro j v σ' H5 hv ⟨v4, rfl, d5⟩
      rw [List.getElem?_map] at hv
      obtain ⟨z, hz, rfl⟩ := Option.map_eq_some_iff.mp hv
      have hzl := hys z (List.mem_of_getElem? hz)
      walk_at "go"
      refine ⟨z, rfl, by omega, fun H6 d6 => ?_⟩
      walk_at "go"
      exact ⟨_, rfl, d5.trans d6⟩
    · rintro σ' H5 ⟨v4, rfl, d5⟩
      have dn := d4.trans d5
      walk_at "go"
      exact ⟨_, _, rfl, d3.trans (dn.mono fun _ z => z.elim), ok3.no dn⟩
  rintro σ' H3 ⟨v3, v4, rfl, d3, ok3⟩
  walk_at "go"
  refine for_r (by omega) (fun i σ' H' => ∃ (v5 : Option V), σ' = [some (.ref c), some (.str x), some (.str s1), v3, v4, v5] ∧ Dx (Only1 c) H H' ∧ Ok M H' c) ⟨_, rfl, d3, ok3⟩ ?_ ?_
  · rintro i σ' H4 hi ⟨v5, rfl, d4, ok4⟩
    walk_at "go"
    refine ⟨c, M, x, rfl, rfl, hl, ok4, fun y H5 hy d5 ok5 => ?_⟩
    obtain ⟨y, rfl, _, hy⟩ := hy
    walk_at "go"
    have hc : (cutS y none (some 100)).length ≤ 100 := by
      rw [← tl_len, show tl (cutS y none (some 100)) = _ from cutS_to (by decide), List.length_take]
      show min 100 _ ≤ 100
      omega
    refine ⟨_, rfl, by omega, fun H6 d6 => ?_⟩
    walk_at "go"
    exact ⟨_, rfl, (d4.trans d5).trans (d6.mono fun _ z => z.elim), ok5.no d6⟩
  · rintro σ' H4 ⟨v5, rfl, d4, ok4⟩
    walk_at "go"
    exact k _ d4 ok4
end
end Q
namespace Q
section
variable {P : Program} {w : World} {K : PySem.W.Frag} {mg : Str → Option Value} {base : Heap}
abbrev N_law : List Str := ["_law_script", "_law_store_here", "_law_pairs", "_law_spans", "_law_turn", "_law_k", "_law_due", "_law_number_here", "_law_digits", "_law_many", "_law_word", "_law_odd", "_law_ends_here"]
theorem sc_law : FnScope N_law ["_law_script"] (defScope s_law) := ⟨rfl, rfl, rfl, by decide +kernel, rfl, by decide +kernel, by decide +kernel⟩
theorem span_ne {K : PySem.W.Frag} {M : Addr → Prop} {H : Hp} {s c : Addr} {lo hi : V} (h : SpanAt K H s lo hi) (ok : Ok M H c) : s ≠ c := fun e => by
  obtain ⟨dx, hs⟩ := h.ex
  obtain ⟨p, i, rest, left, n, a, b, cells, h1, _⟩ := ok.st.ex
  rw [e, h1] at hs
  exact nomatch hs
set_option maxHeartbeats 4000000 in
theorem Dlaw  (T : Txt K mg) : Def P w K mg base CX0 (11) "law" s_law ["_law_script"] (Sp1 (pLaw K)) := by
  obtain ⟨f, fd, m, F⟩ := T.f_law.ex
  refine ⟨f, fd, m, F.kp, F.bindsN (ps := ["_law_script"]) (fun _ _ _ _ _ _ us hl => match us, hl with | [_], _ => rfl), ?_, F⟩
  obtain ⟨fdSpan___init__, GSpan___init__, FSpan___init__⟩ := (DSpan___init__ (P := P) (w := w) (base := base) T).ex
  obtain ⟨ds_Span___init___2, vd0, bd_Span___init___2⟩ := FSpan___init__.binds1 (ps := ["self", "low", "high"]) 3 2 (by decide) rfl (fun _ _ _ _ _ _ _ us its h1 h2 => match us, its, h1, h2 with | [_, _, _], [_, _], _, _ => ⟨_, rfl, rfl⟩)
  have vd_Span___init___2 : Vals [] ds_Span___init___2 := vd0
  obtain ⟨fdSpan_text, GSpan_text, FSpan_text⟩ := (DSpan_text (P := P) (w := w) (base := base) T).ex
  have bSpan_text := FSpan_text.bindsN (ps := ["self"]) (fun _ _ _ _ _ _ us hl => match us, hl with | [_], _ => rfl)
  obtain ⟨f_law_any_ends, fd_law_any_ends, m_law_any_ends, kp_law_any_ends, b_law_any_ends, G_law_any_ends, F_law_any_ends⟩ := (D_law_any_ends (P := P) (w := w) (base := base) T).ex
  obtain ⟨f_law_bad_number, fd_law_bad_number, m_law_bad_number, kp_law_bad_number, b_law_bad_number, G_law_bad_number, F_law_bad_number⟩ := (D_law_bad_number (P := P) (w := w) (base := base) T).ex
  obtain ⟨f_law_ends_text, fd_law_ends_text, m_law_ends_text, kp_law_ends_text, b_law_ends_text, G_law_ends_text, F_law_ends_text⟩ := (D_law_ends_text (P := P) (w := w) (base := base) T).ex
  obtain ⟨f_law_number, fd_law_number, m_law_number, kp_law_number, b_law_number, G_law_number, F_law_number⟩ := (D_law_number (P := P) (w := w) (base := base) T).ex
  obtain ⟨f_law_pick, fd_law_pick, m_law_pick, kp_law_pick, b_law_pick, G_law_pick, F_law_pick⟩ := (D_law_pick (P := P) (w := w) (base := base) T).ex
  obtain ⟨f_law_read_ends, fd_law_read_ends, m_law_read_ends, kp_law_read_ends, b_law_read_ends, G_law_read_ends, F_law_read_ends⟩ := (D_law_read_ends (P := P) (w := w) (base := base) T).ex
  obtain ⟨f_law_reads, fd_law_reads, m_law_reads, kp_law_reads, b_law_reads, G_law_reads, F_law_reads⟩ := (D_law_reads (P := P) (w := w) (base := base) T).ex
  obtain ⟨f_law_reads_near, fd_law_reads_near, m_law_reads_near, kp_law_reads_near, b_law_reads_near, G_law_reads_near, F_law_reads_near⟩ := (D_law_reads_near (P := P) (w := w) (base := base) T).ex
  obtain ⟨f_law_same, fd_law_same, m_law_same, kp_law_same, b_law_same, G_law_same, F_law_same⟩ := (D_law_same (P := P) (w := w) (base := base) T).ex
  obtain ⟨f_law_store, fd_law_store, m_law_store, kp_law_store, b_law_store, G_law_store, F_law_store⟩ := (D_law_store (P := P) (w := w) (base := base) T).ex
  obtain ⟨f_law_take, fd_law_take, m_law_take, kp_law_take, b_law_take, G_law_take, F_law_take⟩ := (D_law_take (P := P) (w := w) (base := base) T).ex
  obtain ⟨f_law_told_number, fd_law_told_number, m_law_told_number, kp_law_told_number, b_law_told_number, G_law_told_number, F_law_told_number⟩ := (D_law_told_number (P := P) (w := w) (base := base) T).ex
  refine F.ok (CX := CX0) sc_law len1 (fun cdv A outer s H vs Q E hr h => ?_)
  obtain ⟨v0, rfl, h⟩ := h
  refine ⟨_, PSs.nox (pss_cons (ps_set (i := 1) sc_law.nd rfl (Or.inl rfl) (pe_call G_law_store (hr.mono (by first | decide | omega)) (by rfl) m_law_store kp_law_store b_law_store .nil pass0 (pa_cons (pv 0) pa_nil)))
      (pss_cons (ps_set (i := 2) sc_law.nd rfl (Or.inl rfl) (pe_lst (pa_cons (pe_call G_law_any_ends (hr.mono (by first | decide | omega)) (by rfl) m_law_any_ends kp_law_any_ends b_law_any_ends .nil pass0 (pa_cons (pv 1) pa_nil)) (pa_cons (pe_call G_law_any_ends (hr.mono (by first | decide | omega)) (by rfl) m_law_any_ends kp_law_any_ends b_law_any_ends .nil pass0 (pa_cons (pv 1) pa_nil)) pa_nil))))
      (pss_cons (ps_setLc (i := 3) (own := [("_law_ends_here", 12)]) (g := gName 12) (tt := tYes) rfl sc_law.nd rfl rfl (sw_true rfl rfl rfl (by decide +kernel)) (pi_list (pv 2)) (blkOk_by (own := [("_law_ends_here", 12)]) (N := N_law) (sc := defScope s_law) (by decide +kernel)) (fun _ _ _ _ _ => (pg_name (i := 12) sc_law.nd rfl (Or.inl rfl))) (fun _ _ _ _ _ => pts_nil) (fun _ _ _ _ _ => (pe_make T.mk_Span GSpan___init__ (hr.mono (by first | decide | omega)) (by rfl) T.g_Span bd_Span___init___2 vd_Span___init___2 passL (pa_cons (pe_ix (ix_U : IxR _ (rIx K)) (pv 12) pe_int (fun _ _ => rfl)) (pa_cons (pe_ix (ix_U : IxR _ (rIx K)) (pv 12) pe_int (fun _ _ => rfl)) pa_nil)))))
      (pss_cons (ps_for PassesOwn.never rfl (pi_range1 (by rfl) T.b_range (pa_cons pe_int pa_nil)) (pg_name (i := 4) sc_law.nd rfl (Or.inl rfl)) (pss_one (ps_for PassesOwn.never rfl (pi_range1 (by rfl) T.b_range (pa_cons pe_int pa_nil)) (pg_name (i := 5) sc_law.nd rfl (Or.inl rfl)) (pss_cons (ps_set (i := 6) sc_law.nd rfl (Or.inl rfl) (pe_call G_law_ends_text (hr.mono (by first | decide | omega)) (by rfl) m_law_ends_text kp_law_ends_text b_law_ends_text .nil pass0 (pa_cons (pe_ix ix_U (pv 2) (pv 5) (fun _ _ => rfl)) pa_nil)))
      (pss_cons (ps_if (PW.pt (pw_or (pt_not (pt_val (pe_call G_law_same (hr.mono (by first | decide | omega)) (by rfl) m_law_same kp_law_same b_law_same .nil pass0 (pa_cons (pe_prop (pe_ix ix_U (pv 3) (pv 5) (fun _ _ => rfl)) T.cl_Span T.c_Span_text GSpan_text (hr.mono (by first | decide | omega)) bSpan_text .nil pass0 (by rfl)) (pa_cons (pv 6) pa_nil))))) (pw_or (pt_cmpR (op_neP hr.units) (pe_call G_law_read_ends (hr.mono (by first | decide | omega)) (by rfl) m_law_read_ends kp_law_read_ends b_law_read_ends .nil pass0 (pa_cons (pv 6) pa_nil)) (pe_ix ix_U (pv 2) (pv 5) (fun _ _ => rfl)) (nomark _)) (pw_or1 (pt_not (pt_val (pe_call G_law_reads (hr.mono (by first | decide | omega)) (by rfl) m_law_reads kp_law_reads b_law_reads .nil pass0 (pa_cons (pv 6) pa_nil)))))))) (pss_one (ps_ret pe_bl)) pss_nil)
      (pss_one (ps_if (PW.pt (pw_and (pt_cmpR op_eq (pv 4) pe_int (nomark _)) (pw_and1 (pt_not (pt_val (pe_call G_law_reads_near (hr.mono (by first | decide | omega)) (by rfl) m_law_reads_near kp_law_reads_near b_law_reads_near .nil pass0 (pa_cons (pv 1) (pa_cons (pv 6) pa_nil)))))))) (pss_one (ps_ret pe_bl)) pss_nil)))))))
      (pss_cons (ps_set (i := 7) sc_law.nd rfl (Or.inl rfl) (pe_call G_law_number (hr.mono (by first | decide | omega)) (by rfl) m_law_number kp_law_number b_law_number .nil pass0 (pa_cons (pv 1) pa_nil)))
      (pss_cons (ps_if (PW.pt (pw_or (pt_not (pt_val (pe_call G_law_same (hr.mono (by first | decide | omega)) (by rfl) m_law_same kp_law_same b_law_same .nil pass0 (pa_cons (pe_call G_law_told_number (hr.mono (by first | decide | omega)) (by rfl) m_law_told_number kp_law_told_number b_law_told_number .nil pass0 (pa_cons (pv 7) pa_nil)) (pa_cons (pe_callTy call_strI (by rfl) T.b_str (by decide +kernel) (pa_cons (pv 7) pa_nil)) pa_nil))))) (pw_or1 (pt_not (pt_val (pe_call G_law_reads (hr.mono (by first | decide | omega)) (by rfl) m_law_reads kp_law_reads b_law_reads .nil pass0 (pa_cons (pe_callTy call_strI (by rfl) T.b_str (by decide +kernel) (pa_cons (pv 7) pa_nil)) pa_nil))))))) (pss_one (ps_ret pe_bl)) pss_nil)
      (pss_cons (ps_if (pt_not (pt_val (pe_call G_law_reads_near (hr.mono (by first | decide | omega)) (by rfl) m_law_reads_near kp_law_reads_near b_law_reads_near .nil pass0 (pa_cons (pv 1) (pa_cons (pe_callTy call_strI (by rfl) T.b_str (by decide +kernel) (pa_cons (pv 7) pa_nil)) pa_nil))))) (pss_one (ps_ret pe_bl)) pss_nil)
      (pss_cons (ps_set (i := 8) sc_law.nd rfl (Or.inl rfl) (pe_op op_mulS (pe_call G_law_pick (hr.mono (by first | decide | omega)) (by rfl) m_law_pick kp_law_pick b_law_pick .nil pass0 (pa_cons (pv 1) (pa_cons pe_str pa_nil))) (pe_op op_addU pe_int (pe_call G_law_take (hr.mono (by first | decide | omega)) (by rfl) m_law_take kp_law_take b_law_take .nil pass0 (pa_cons (pv 1) (pa_cons pe_int pa_nil))))))
      (pss_cons (ps_set (i := 9) sc_law.nd rfl (Or.inl rfl) (pe_lst (pa_cons (pv 8) (pa_cons (pe_op op_addU pe_str (pe_slice sl_str (pv 8) (po_some pe_int) po_none)) (pa_cons (pe_op op_addU pe_str (pe_slice sl_str (pv 8) (po_some pe_int) po_none)) (pa_cons (pe_op op_addU (pe_op op_addU (pe_slice sl_str (pv 8) po_none (po_some pe_int)) pe_str) (pe_slice sl_str (pv 8) po_none (po_some pe_int))) pa_nil))))))
      (pss_cons (ps_for PassesOwn.never rfl (pi_list (pe_op op_addU (pv 9) (pe_lst (pa_cons pe_str (pa_cons pe_str (pa_cons pe_str (pa_cons pe_str (pa_cons pe_str (pa_cons pe_str pa_nil))))))))) (pg_name (i := 10) sc_law.nd rfl (Or.inl rfl)) (pss_one (ps_if (pt_not (pt_val (pe_call G_law_reads (hr.mono (by first | decide | omega)) (by rfl) m_law_reads kp_law_reads b_law_reads .nil pass0 (pa_cons (pv 10) pa_nil)))) (pss_one (ps_ret pe_bl)) pss_nil)))
      (pss_cons (ps_set (i := 11) sc_law.nd rfl (Or.inl rfl) (pe_call G_law_bad_number (hr.mono (by first | decide | omega)) (by rfl) m_law_bad_number kp_law_bad_number b_law_bad_number .nil pass0 (pa_cons (pv 1) (pa_cons pe_bl pa_nil))))
      (pss_one (ps_ret (pe_call G_law_same (hr.mono (by first | decide | omega)) (by rfl) m_law_same kp_law_same b_law_same .nil pass0 (pa_cons (pe_call G_law_told_number (hr.mono (by first | decide | omega)) (by rfl) m_law_told_number kp_law_told_number b_law_told_number .nil pass0 (pa_cons (pv 11) pa_nil)) (pa_cons (pe_tup (pa_cons pe_str (pa_cons (pv 11) (pa_cons pe_bl (pa_cons pe_bl pa_nil))))) pa_nil)))))))))))))))), ?_⟩
  try dsimp only [cxOf, Cx.nox, Cx.wish]
  rw [show start N_law [v0] = [some v0, none, none, none, none, none, none, none, none, none, none, none, none] from rfl]
  obtain ⟨a, ns, rfl, hs, hl0, k⟩ := h
  walk_at "go"
  refine ⟨a, ns, rfl, hs, fun c H1 d1 hc ok1 => ?_⟩
  walk_at "go"
  refine ⟨c, _, rfl, ok1, fun q1 lo1 hi1 H2 hq1 hr1 x11 x12 x13 d2 ok2 => ?_⟩
  walk_at "go"
  refine ⟨c, _, rfl, ok2, fun q2 lo2 hi2 H3 hq2 hr2 x21 x22 x23 d3 ok3 => ?_⟩
  walk_at "go"
  refine ⟨by show 2 ≤ sizeLine; decide, fun l hl => ?_⟩
  walk_at "go"
  have hlc : l ≠ c := ok3.ne_new hl
  have t1 : SqT K (upd H3 l (.lst [.ref q1, .ref q2])) q1 [lo1, hi1] := SqT.of (stands (d3.st _ _ (ok1.ne_new hq1) hr1) hl)
  have t2 : SqT K (upd H3 l (.lst [.ref q1, .ref q2])) q2 [lo2, hi2] := SqT.of (stands hr2 hl)
  have gl : (upd H3 l (.lst [.ref q1, .ref q2])) l = some (.lst [.ref q1, .ref q2]) := upd_same
  have ok4 := ok3.new (o := .lst [.ref q1, .ref q2]) hl
  have hq1c : ¬ Only1 c q1 := ok1.ne_new hq1
  have hq2c : ¬ Only1 c q2 := ok2.ne_new hq2
  generalize upd H3 l (.lst [.ref q1, .ref q2]) = H4 at t1 t2 gl ok4
  have tq : ∀ {i : Nat}, i < 2 → ∃ (q : Addr) (lo hi : V), [V.ref q1, V.ref q2][i]? = some (.ref q) ∧ [(lo1, hi1), (lo2, hi2)][i]? = some (lo, hi) ∧ SqT K H4 q [lo, hi] ∧ ¬ Only1 c q ∧ IsEnd lo ∧ IsEnd hi ∧ crossed lo hi = false := fun {i} h => by
    rcases (show i = 0 ∨ i = 1 by omega) with z | z <;> subst z
    · exact ⟨q1, lo1, hi1, rfl, rfl, t1, hq1c, x11, x12, x13⟩
    · exact ⟨q2, lo2, hi2, rfl, rfl, t2, hq2c, x21, x22, x23⟩
  refine lc_l (SqL.of gl) fun E' hE => ⟨fun j H' => ∃ ss : List Addr, H' E' = some (.lst (ss.map V.ref)) ∧ ss.length = j ∧ (∀ (i : Nat) (s : Addr) (e : V × V), ss[i]? = some s → [(lo1, hi1), (lo2, hi2)][i]? = some e → SpanAt K H' s e.1 e.2 ∧ s ≠ E') ∧ Dx No H4 H',
    ⟨[], upd_same, rfl, (fun i q e z _ => by rw [List.getElem?_nil] at z; exact nomatch z), Dx.new hE⟩, (fun j H' _ ⟨_, _, _, _, d⟩ => d.sqL id (SqL.of gl)), ?_, ?_⟩
  · rintro j v H' hv ⟨ss, f1, f2, f3, d4⟩
    have hj : j < 2 := (List.getElem?_eq_some_iff.mp hv).1
    obtain ⟨q, lo, hi, i1, i2, i3, i4, i5, i6, i7⟩ := tq hj
    rw [i1] at hv
    cases hv
    dsimp only [wipe, List.map, List.set_cons_zero, List.set_cons_succ]
    walk_at "go"
    refine ⟨rfl, ?_⟩
    walk_at "go"
    refine go_ixT (d4.sqT id i3) (show atI [lo, hi] 0 = some lo from rfl) ?_
    walk_at "go"
    refine go_ixT (d4.sqT id i3) (show atI [lo, hi] 1 = some hi from rfl) ?_
    walk_at "go"
    refine mk_span (flat_end i5) (flat_end i6) ?_
    refine spanR_ok i5 i6 i7 fun s H5 hs5 d5 sp => ?_
    have hsE : s ≠ E' := fun z => by
      rw [z] at hs5
      rw [hs5] at f1
      exact nomatch f1
    have g1 := d5.st _ _ id f1
    have up : ∀ {u : Addr} {o : HO} {l1 h1 : V}, u ≠ E' → SpanAt K H5 u l1 h1 → SpanAt K (upd H5 E' o) u l1 h1 := fun {u o l1 h1} n sp => by
      obtain ⟨dx, e⟩ := sp.ex
      exact ⟨dx, by rw [upd_ne n]; exact e⟩
    refine go_lca g1 (by rw [List.length_map]; exact size_lt (by omega)) ⟨ss ++ [s], by rw [upd_same, List.map_append]; rfl, by rw [List.length_append, f2]; rfl, fun i u e hu he2 => ?_, (d4.trans d5).own hE⟩
    by_cases z : i < ss.length
    · rw [List.getElem?_append_left z] at hu
      obtain ⟨y1, y2⟩ := f3 i u e hu he2
      exact ⟨up y2 (y1.keep d5 id), y2⟩
    · rw [List.getElem?_append_right (by omega)] at hu
      have hi0 : i - ss.length = 0 := by
        have := (List.getElem?_eq_some_iff.mp hu).1
        simp only [List.length_cons, List.length_nil] at this
        omega
      rw [hi0] at hu
      cases hu
      rw [show i = j by omega, i2] at he2
      cases he2
      exact ⟨up hsE sp, hsE⟩
  rintro H5 ⟨ss, f1, f2, f3, d4⟩
  have f2' : ss.length = 2 := f2
  have ok5 := ok4.no d4
  have hEc : ¬ Only1 c E' := ok4.ne_new hE
  have sE : SqL K H5 E' (ss.map V.ref) := SqL.of f1
  have sl : SqL K H5 l [.ref q1, .ref q2] := d4.sqL id (SqL.of gl)
  have at2 : ∀ {i : Nat}, i < 2 → ∃ (s q : Addr) (lo hi : V), ss[i]? = some s ∧ [V.ref q1, V.ref q2][i]? = some (.ref q) ∧ SpanAt K H5 s lo hi ∧ s ≠ c ∧ SqT K H5 q [lo, hi] ∧ ¬ Only1 c q ∧ IsEnd lo ∧ IsEnd hi ∧ crossed lo hi = false := fun {i} h => by
    obtain ⟨q, lo, hi, i1, i2, i3, i4, i5, i6, i7⟩ := tq h
    obtain ⟨s, hs⟩ : ∃ s, ss[i]? = some s := ⟨_, List.getElem?_eq_getElem (by omega)⟩
    have sp := (f3 i s _ hs i2).1
    exact ⟨s, q, lo, hi, hs, i1, sp, span_ne sp ok5, d4.sqT id i3, i4, i5, i6, i7⟩
  walk_at "go"
  refine for_r (by omega) (fun i σ' H' => ∃ (v4 v5 v6 : Option V), σ' = [some (.ref a), some (.ref c), some (.ref l), some (.ref E'), v4, v5, v6, none, none, none, none, none, none] ∧ Dx (Only1 c) H5 H' ∧ Ok (Only1 c) H' c) ⟨_, _, _, rfl, Dx.refl, ok5⟩ ?_ ?_
  · rintro t σ' H6 ht ⟨v4, v5, v6, rfl, d6, ok6⟩
    walk_at "go"
    refine for_r (by omega) (fun i σ' H' => ∃ (v5 v6 : Option V), σ' = [some (.ref a), some (.ref c), some (.ref l), some (.ref E'), some (.int t), v5, v6, none, none, none, none, none, none] ∧ Dx (Only1 c) H5 H' ∧ Ok (Only1 c) H' c) ⟨_, _, rfl, d6, ok6⟩ ?_ ?_
    · rintro j σ' H7 hj ⟨v5, v6, rfl, d7, ok7⟩
      obtain ⟨s, q, lo, hi, i1, i2, i3, i4, i5, i6, i7, i8, i9⟩ := at2 (show j < 2 by omega)
      have l1 := endT_len i7
      have l2 := endT_len i8
      have lt : (spanT lo hi).length ≤ 30 := by
        unfold spanT
        rw [length_append, length_append]
        have : dotS.length = 2 := by decide +kernel
        omega
      have sp7 := i3.keep d7 i4
      obtain ⟨dx, hx⟩ := sp7.ex
      walk_at "go"
      refine go_ixL (v := .ref q) (d7.sqL hlc sl) (atI_nat i2) ?_
      walk_at "go"
      refine ⟨q, lo, hi, rfl, d7.sqT i6 i5, i7, i8, ?_⟩
      walk_at "go"
      refine go_ixL (v := .ref s) (d7.sqL hEc sE) (atI_nat (by rw [List.getElem?_map, i1]; rfl)) ?_
      refine go_prq hx ?_
      walk_at "go"
      refine ⟨s, lo, hi, rfl, sp7, i7, i8, ?_⟩
      walk_at "go"
      refine .inr ⟨rfl, rfl, ?_⟩
      rw [decide_eq_true rfl]
      walk_at "go"
      refine ⟨_, rfl, by omega, fun z => by rw [span_back i7 i8 i9] at z; exact (nomatch z), fun lo' hi' z p H8 hp hp2 d8 => ?_⟩
      rw [span_back i7 i8 i9] at z
      cases z
      have d8' : Dx (Only1 c) H5 H8 := d7.trans (d8.mono fun _ z => z.elim)
      walk_at "go"
      refine go_ixL (v := .ref q) (d8'.sqL hlc sl) (atI_nat i2) ?_
      refine go_neTT (SqT.of hp2) (d8'.sqT i6 i5) (isEndI i7) (isEndI i8) ?_
      walk_at "go"
      refine ⟨_, rfl, by omega, fun H9 d9 => ?_⟩
      have d9' := d8'.trans (d9.mono fun _ z => z.elim)
      have ok9 := (ok7.no d8).no d9
      walk_at "go"
      refine go_dec (fun _ => ?_) (fun _ => ?_)
      · walk_at "go"
        refine ⟨c, _, _, rfl, rfl, by omega, ok9, fun H10 d10 ok10 => ?_⟩
        walk_at "go"
        exact ⟨_, _, rfl, d9'.trans d10, ok10⟩
      · walk_at "go"
        exact ⟨_, _, rfl, d9', ok9⟩
    · rintro σ' H7 ⟨v5, v6, rfl, d7, ok7⟩
      walk_at "go"
      exact ⟨_, _, _, rfl, d7, ok7⟩
  rintro σ' H6 ⟨v4, v5, v6, rfl, d6, ok6⟩
  walk_at "go"
  refine ⟨c, _, rfl, ok6, fun n H7 hn d7 ok7 => ?_⟩
  obtain ⟨i, rfl, hi⟩ := hn
  walk_at "go"
  refine ⟨rfl, fun i' e _ => ?_, fun z => by rw [isNum_int hi] at z; exact nomatch z⟩
  cases e
  walk_at "go"
  refine go_strZ (i := i) (by omega) fun hz => ?_
  walk_at "go"
  refine .inr ⟨rfl, rfl, ?_⟩
  rw [decide_eq_true rfl]
  walk_at "go"
  refine go_strZ (i := i) (by omega) fun _ => ?_
  walk_at "go"
  refine ⟨_, rfl, by omega, fun H8 d8 => ?_⟩
  walk_at "go"
  refine go_strZ (i := i) (by omega) fun _ => ?_
  walk_at "go"
  refine ⟨c, _, _, rfl, rfl, by omega, ok7.no d8, fun H9 d9 ok9 => ?_⟩
  walk_at "go"
  refine ⟨c, _, rfl, ok9, .inl ⟨_, rfl, by decide +kernel, by decide +kernel, fun y H10 hy d10 ok10 => ?_⟩⟩
  obtain ⟨y, rfl, hy1, hy2⟩ := one_sign hy
  walk_at "go"
  refine take_go ok10 (by decide) (by decide) fun r H11 a11 b11 d11 ok11 => ?_
  walk_at "go"
  refine go_mulS (by omega) (by omega) (by omega) fun dg hdg => ?_
  have hyl : y.length = 1 := by omega
  rw [hyl] at hdg
  have hdl : dg.length ≤ 100 := by omega
  have m1 := cutS_length dg (some 1) none
  have m2 := cutS_length dg (some 2) none
  have m3 := cutS_length dg none (some 49)
  have lm : (Str.ofString "-").length = 1 := by decide +kernel
  have ld : (Str.ofString "..").length = 2 := by decide +kernel
  walk_at "go"
  refine ⟨by show 4 ≤ sizeLine; decide, fun w1 hw1 => ?_⟩
  generalize hA : ([V.str _, V.str _, V.str _, V.str _] : List V) = A
  have hA1 : A.length = 4 ∧ ∀ v ∈ A, ∃ x : Str, v = .str x ∧ x.length ≤ 10000 := by
    rw [← hA]
    refine ⟨rfl, fun v hv => ?_⟩
    simp only [List.mem_cons, List.not_mem_nil, or_false] at hv
    rcases hv with e | e | e | e
    · exact ⟨_, e, by omega⟩
    · exact ⟨_, e, by rw [length_append]; omega⟩
    · exact ⟨_, e, by rw [length_append]; omega⟩
    · exact ⟨_, e, by rw [length_append, length_append]; omega⟩
  clear hA
  walk_at "go"
  refine ⟨by show 6 ≤ sizeLine; decide, fun w2 hw2 => ?_⟩
  generalize hB : ([V.str _, V.str _, V.str _, V.str _, V.str _, V.str _] : List V) = B
  have hB1 : B.length = 6 ∧ textsB 10 B = true := by
    rw [← hB]
    decide +kernel
  clear hB
  walk_at "go"
  refine go_cat (stands upd_same hw2) upd_same (by rw [hA1.1, hB1.1]; show 4 + 6 ≤ sizeLine; decide) fun w3 hw3 => ?_
  have g3 : (upd (upd (upd H11 w1 (.lst A)) w2 (.lst B)) w3 (.lst (A ++ B))) w3 = some (.lst (A ++ B)) := upd_same
  have okn := ((ok11.new (o := .lst A) hw1).new (o := .lst B) hw2).new (o := .lst (A ++ B)) hw3
  generalize upd (upd (upd H11 w1 (.lst A)) w2 (.lst B)) w3 (.lst (A ++ B)) = H12 at g3 okn ⊢
  walk_at "go"
  refine for_l (SqL.of g3) (fun j σ' H' => ∃ (v10 : Option V), σ' = [some (.ref a), some (.ref c), some (.ref l), some (.ref E'), v4, v5, v6, some (.int i), some (.str dg), some (.ref w1), v10, none, none] ∧ Dx No H12 H') ⟨_, rfl, Dx.refl⟩ (fun j σ' H' _ ⟨_, _, d⟩ => d.sqL id (SqL.of g3)) ?_ ?_
  · rintro j v σ' H13 hv ⟨v10, rfl, d13⟩
    obtain ⟨x, rfl, hx⟩ : ∃ x : Str, v = .str x ∧ x.length ≤ 10000 := by
      rcases List.mem_append.mp (List.mem_of_getElem? hv) with z | z
      · exact hA1.2 v z
      · obtain ⟨x, e, _, hx⟩ := texts_ok hB1.2 z
        exact ⟨x, e, by omega⟩
    walk_at "go"
    refine ⟨x, rfl, hx, fun H14 d14 => ?_⟩
    walk_at "go"
    exact ⟨_, rfl, d13.trans d14⟩
  rintro σ' H13 ⟨v10, rfl, d13⟩
  walk_at "go"
  refine ⟨c, _, false, rfl, rfl, okn.no d13, fun n3 H14 hn3 d14 ok14 => ?_⟩
  have hf3 := flat_bad hn3.1
  have hb3 := isBad_of hn3.1
  walk_at "go"
  refine ⟨hf3, fun i e hi => by rw [e, isNum_int hi] at hb3; exact (nomatch hb3), fun _ p H15 hp d15 => ?_⟩
  walk_at "go"
  refine ⟨by show 4 ≤ sizeLine; decide, fun q hq => ?_⟩
  walk_at "go"
  exact .inl ⟨eqv_tup (sqt_new hp hq) (SqT.of upd_same) (by simp only [List.all_cons, List.all_nil, hf3, Bool.and_true, Bool.true_and]; rfl) (by show 4 ≤ 100000; decide), fun H16 d16 => k _⟩
end
end Q
namespace Q
open PySem PySem.Spec PyProof.Rows L2
def names0 : List Str := ["_wall", "__name__", "OutshinerError", "BadName", "BadNumber", "BadSpan", "BadText", "LIMIT", "DIGITS", "MOST_DIGITS", "is_number", "check_number", "check_end", "greater_end", "lesser_end", "number_text", "is_digits", "parse_number", "end_text", "parse_end", "Span", "_law_store", "_law_stir", "_law_take", "_law_pick", "_law_shuffled", "_law_number", "_law_clamped", "_law_pool", "_law_near"]
def names1 : List Str := ["_law_bad_number", "_law_ends", "_law_sign", "_law_is_number", "_law_read", "_law_ends_text", "_law_read_ends", "_law_bent_text", "_law_match", "_law_match_dicts", "_law_same", "_law_any_ends", "_law_parsed", "_law_parsed_number", "_law_told_number", "_law_reads", "_law_spoilt_at", "_law_reads_near"]
def names : List Str := names0 ++ names1
abbrev lawRow : PySem.W.OpenLaw := PySem.Challenge.rw_outshiners_k03_span_texts_read_back
abbrev hk : PySem.W.Hook := hookQ 5 fa fn exB
def ob (s : PySem.W.SharedT) : He.AlD × Bool := obsQ 5 fa fn exB (HandSHeadRun.getT s)
theorem ob_eq (s : PySem.W.SharedT) : ob s = hk.obs s.abs := obsQ_eq (HandSHeadRun.getT_eq s)
theorem run (w : World) : HandSHeadRun.RunEq (PySem.W.OpenLaw.row lawRow) (PySem.W.view lawRow.prog [50]) hk ob 9000 names w := by
  intro os
  kernel_rfl
end Q
open PySem PySem.W PyProof.Rows
set_option maxHeartbeats 0 in
theorem PySem.Challenge.cw_outshiners_k03_span_texts_read_back_holds : PySem.Challenge.rw_outshiners_k03_span_texts_read_back.Holds := by
  w_on; o_law
  refine HandSHeadRun.head_any (r := OpenLaw.row Q.lawRow) (q := view (OpenLaw.row Q.lawRow).prog [50]) (H := Q.hk) (ob := Q.ob) (M := 9000) (loose := Q.names) (d := HandSHeadRun.topDef (OpenLaw.row Q.lawRow).prog 50) (kwd := []) Q.ob_eq
    (by kernel_rfl) (fun s => by kernel_rfl) Q.run (by kernel_rfl) (by kernel_rfl) (by kernel_rfl) (by rfl) (by first | assumption | decide +kernel) (by decide +kernel) ⟨rfl, rfl, rfl, rfl, rfl, by decide +kernel⟩ ?hw ?hc
  case hw => w_witness2
  case hc =>
    refine L2.walk_ofE (l := Q.lawRow) (n := 63) (k := 11) (x := "_law_script") (CX := L2.CX0) rfl (by decide) (by kernel_rfl) ⟨rfl, by decide, by decide⟩ ?F (fun _ _ _ _ z => z)
    intro w mg fa h Y G hmg0
    obtain ⟨K, KX, c⟩ := Y
    have T := Q.txt_of KX G c
    have e0 : (HandSHeadRun.topDef (OpenLaw.row Q.lawRow).prog 50).name = ("law" : PySem.Str) := by kernel_rfl
    have hmg : mg ("law" : PySem.Str) = some (.ref fa) := by
      rw [← e0]
      exact hmg0
    obtain ⟨f, fd, m, F⟩ := T.f_law.ex
    have ef : f = fa := by
      rw [m] at hmg
      exact Value.ref.inj (Option.some.inj hmg)
    subst ef
    have b := FunD.bindsA (ps := ["_law_script"]) F fun _ _ _ _ _ _ us hl => match us, hl with | [_], _ => rfl
    refine ⟨K, fd, Q.Sp1 (Q.pLaw K), KX, fun s v => b s [v] rfl, fun H a ns hl _ hS => ⟨_, rfl, a, ns, rfl, hS, hl, fun _ => rfl⟩, fun base _ _ => ?_⟩
    obtain ⟨f2, fd2, m2, kp2, b2, G2, F2⟩ := (Q.Dlaw (P := Q.lawRow.prog) (w := w) (base := base) T).ex
    have ef : f2 = f := by
      rw [m] at m2
      exact (Value.ref.inj (Option.some.inj m2)).symm
    subst ef
    have ed := Q.fund_same F F2
    subst ed
    exact G2
