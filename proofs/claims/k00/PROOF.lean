import PyProof.Rows.All
import Wide.All
import OpenK.AllK
import Wide.FinOn
import HandS.ForMost
import HandS.Exc
import HandS.TryOnly
import HandS.TryMany
import HandS.ExcInit
import HandS.ExcField
import HandS.ExcIs
import HandS.IsInst
import HandS.Wide
import HandS.Defaults
import HandS.WordsExc
import HandS.FStr
import HandS.Codes
import HandS.Flow
import KE.KExcIs
import HandS.Rev
import KE.KStateDown
import HandS.Head0
import HandS.Head1
import HandS.Head2
import HandS.HeadEnd
import HandS.HeadHook1
import HandS.HeadHook2
import PySem.Challenge.RW_outshiners_k00_names_told
set_option Elab.async false
set_option linter.all false
set_option maxRecDepth 100000
set_option maxHeartbeats 4000000
/-! Q: words over the hand layer: universal operators, steps of readings, promises. -/
namespace Q
open PySem L2
/-! ### promises by the number of arguments -/
abbrev P1 := V → Hp → VK → XK → Prop
abbrev P2 := V → V → Hp → VK → XK → Prop
abbrev P3 := V → V → V → Hp → VK → XK → Prop
abbrev P4 := V → V → V → V → Hp → VK → XK → Prop
abbrev P5 := V → V → V → V → V → Hp → VK → XK → Prop
def Sp1 (f : P1) : Sp := fun vs H Q E => ∃ a, vs = [a] ∧ f a H Q E
def Sp2 (f : P2) : Sp := fun vs H Q E => ∃ a b, vs = [a, b] ∧ f a b H Q E
def Sp3 (f : P3) : Sp := fun vs H Q E => ∃ a b c, vs = [a, b, c] ∧ f a b c H Q E
def Sp4 (f : P4) : Sp := fun vs H Q E => ∃ a b c d, vs = [a, b, c, d] ∧ f a b c d H Q E
def Sp5 (f : P5) : Sp := fun vs H Q E => ∃ a b c d e, vs = [a, b, c, d, e] ∧ f a b c d e H Q E
theorem len1 {f : P1} : ∀ vs H Q E, Sp1 f vs H Q E → vs.length = 1 := by
  rintro vs H Q E ⟨a, rfl, _⟩
  rfl
theorem len2 {f : P2} : ∀ vs H Q E, Sp2 f vs H Q E → vs.length = 2 := by
  rintro vs H Q E ⟨a, b, rfl, _⟩
  rfl
theorem len3 {f : P3} : ∀ vs H Q E, Sp3 f vs H Q E → vs.length = 3 := by
  rintro vs H Q E ⟨a, b, c, rfl, _⟩
  rfl
theorem len4 {f : P4} : ∀ vs H Q E, Sp4 f vs H Q E → vs.length = 4 := by
  rintro vs H Q E ⟨a, b, c, d, rfl, _⟩
  rfl
theorem len5 {f : P5} : ∀ vs H Q E, Sp5 f vs H Q E → vs.length = 5 := by
  rintro vs H Q E ⟨a, b, c, d, e, rfl, _⟩
  rfl
/-! ### a def as it stands, a def with its promise -/
structure Raw (K : PySem.W.Frag) (mg : Str → Option Value) (x : Str) (st : Stmt) (dvs : List V) (kws : List (Str × V)) : Prop where
  ex : ∃ (f : Addr) (fd : FuncData), mg x = some (.ref f) ∧ FunD K x x (defArgs st) (defBody st) (defScope st) dvs kws f fd
structure Def (P : Program) (w : World) (K : PySem.W.Frag) (mg : Str → Option Value) (base : Heap) (CX : CXT) (k : Nat) (x : Str) (st : Stmt) (ps : List Str) (sp : Sp) : Prop where
  ex : ∃ (f : Addr) (fd : FuncData), mg x = some (.ref f) ∧ PySem.W.keepIn K (.ref f) = true ∧ Binds K fd ps [] ∧ FnOk P w K mg base CX k f fd ps sp ∧ FunD K x x (defArgs st) (defBody st) (defScope st) [] [] f fd
/-- the def at f is one -/
theorem fund_same {K : PySem.W.Frag} {x q x' q' : Str} {A A' : Arguments} {B B' : List Stmt} {S S' : Scope} {dvs dvs' : List V} {kws kws' : List (Str × V)} {f : Addr} {fd fd' : FuncData} (F : FunD K x q A B S dvs kws f fd) (F' : FunD K x' q' A' B' S' dvs' kws' f fd') : fd = fd' := by
  obtain ⟨oc, od, dV, kV, doc, pm, an, cdv, ct, osl, _, lk, _⟩ := F.ex
  obtain ⟨oc', od', dV', kV', doc', pm', an', cdv', ct', osl', _, lk', _⟩ := F'.ex
  rw [lk] at lk'
  have e := Option.some.inj lk'
  injection e with _ _ e3 _
  exact Data.func.inj e3
/-- every parameter by its keyword -/
theorem kbinds_all {K : PySem.W.Frag} {x q : Str} {A : Arguments} {B : List Stmt} {S : Scope} {kws : List (Str × V)} {f : Addr} {fd : FuncData} {ps ks : List Str} (F : FunD K x q A B S [] kws f fd)
    (h : ∀ (kV doc pm : Value) (an : Option Addr) (cdv ct : Value) (ws : List Value), ws.length = ks.length → bindArgs (PySem.W.fnOf x q A B S .none kV doc pm an cdv ct) ⟨[], ks.zip ws⟩ = pure (ps.zip ws)) : KBn K fd ps 0 ks (fun _ ws => ws) (fun _ zs => zs) := by
  obtain ⟨oc, od, dV, kV, doc, pm, an, cdv, ct, osl, rfl, lk, hcd, hD, hK⟩ := F.ex
  rcases hD with ⟨_, rfl⟩ | ⟨e, _⟩
  · refine ⟨fun s us ws X l1 l2 => ?_, fun _ r => r⟩
    have e : us = [] := List.eq_nil_of_length_eq_zero l1
    rw [e]
    exact .of_eq (h kV doc pm an cdv ct ws l2)
  · exact absurd rfl e
/-! ### universal operators -/
section
variable {X : Cx}
def rAddU (K : PySem.W.Frag) : R2 := fun x y H Q => (∃ i j, x = .int i ∧ y = .int j ∧ Q (.int (i + j)) H) ∨
  ((∃ i j, x = .str i ∧ y = .str j ∧ i.length + j.length ≤ sizeLine ∧ Q (.str (i ++ j)) H) ∨ (rCat x y H Q ∨ rCatT K x y H Q))
theorem op_addU : OpR X (binaryOp .Add) (rAddU X.K) := op_add.or (op_add_str.or (op_cat.or op_catT))
theorem iop_addU : OpR X (inplaceOp .Add) (fun x y H Q => (∃ i j, x = .int i ∧ y = .int j ∧ Q (.int (i + j)) H) ∨ (∃ i j, x = .str i ∧ y = .str j ∧ i.length + j.length ≤ sizeLine ∧ Q (.str (i ++ j)) H)) := iop_add.or iop_add_str
def rLtU : R2 := fun x y H Q => (∃ i j, x = .int i ∧ y = .int j ∧ Q (.bl (decide (i < j))) H) ∨ (∃ i j, x = .str i ∧ y = .str j ∧ Q (.bl (decide (i.cps.toList < j.cps.toList))) H)
theorem op_ltU : OpR X (compareOp .Lt) rLtU := op_lt.or op_lt_str
def rGt0 : R2 := rI0 fun i j => .bl (decide (j < i))
theorem op_gt0 : OpR X (compareOp .Gt) rGt0 := op_gt
def rLe0 : R2 := rI0 fun i j => .bl (decide (i ≤ j))
theorem op_le0 : OpR X (compareOp .LtE) rLe0 := op_le
def rGe0 : R2 := rI0 fun i j => .bl (decide (j ≤ i))
theorem op_ge0 : OpR X (compareOp .GtE) rGe0 := op_ge
def rSub0 : R2 := rI0 fun i j => .int (i - j)
theorem op_sub0 : OpR X (binaryOp .Sub) rSub0 := op_sub
def rMul0 : R2 := rI CMul fun i j => .int (i * j)
theorem op_mul0 : OpR X (binaryOp .Mult) rMul0 := op_mul
def rMod0 : R2 := rI (fun _ j => 0 < j) fun i j => .int (i % j)
theorem op_mod0 : OpR X (binaryOp .Mod) rMod0 := op_mod
def rDiv0 : R2 := rI CDivW fun i j => .int (i / j)
theorem op_div0 : OpR X (binaryOp .FloorDiv) rDiv0 := op_fdivW
def rPow0 : R2 := rI CPow fun i j => .int (i ^ j.toNat)
theorem op_pow0 : OpR X (binaryOp .Pow) rPow0 := op_pow
def uNeg0 : V → Hp → VK → Prop := rU fun i => .int (-i)
theorem un_neg0 : UnR X (unaryOp .USub) uNeg0 := un_neg
/-- in, not in: one sign in a text; a list or tuple of flat things -/
def rInU (K : PySem.W.Frag) : R2 := fun x y H Q => (∃ (c : Nat) (z : Str), x = .str ⟨#[c]⟩ ∧ y = .str z ∧ Q (.bl (decide (c ∈ z.cps.toList))) H) ∨ rIn K false x y H Q
theorem op_inU : OpR X (compareOp .In) (rInU X.K) := op_in_sign.or op_in_seq
def rNiU (K : PySem.W.Frag) : R2 := fun x y H Q => (∃ (c : Nat) (z : Str), x = .str ⟨#[c]⟩ ∧ y = .str z ∧ Q (.bl (!decide (c ∈ z.cps.toList))) H) ∨ rIn K true x y H Q
theorem op_niU : OpR X (compareOp .NotIn) (rNiU X.K) := op_notIn_sign.or op_notIn_seq
/-- len -/
def rLenU (K : PySem.W.Frag) : List V → Hp → VK → Prop := fun xs H Q => (∃ p ys, xs = [.ref p] ∧ (SqL K H p ys ∨ SqT K H p ys) ∧ Q (.int ys.length) H) ∨ (∃ z, xs = [.str z] ∧ z.length ≤ sizeLine ∧ Q (.int z.length) H)
theorem call_lenU : CallR X (.builtin "len") (rLenU X.K) := call_len_seq.or call_len_str
def rInt0 : List V → Hp → VK → Prop := fun xs H Q => (∃ i, xs = [.int i] ∧ Q (.int i) H) ∨ ∃ k, xs = [.bl k] ∧ Q (.int (if k then 1 else 0)) H
theorem call_int0 : CallR X (.type "int") rInt0 := call_int1
def rList0 (K : PySem.W.Frag) : List V → Hp → VK → Prop := fun xs H Q => ∃ p ys, xs = [.ref p] ∧ (SqL K H p ys ∨ SqT K H p ys) ∧ ∀ l, H l = none → Q (.ref l) (upd H l (.lst ys))
theorem call_list0 : CallR X (.type "list") (rList0 X.K) := call_list_of
def rMax0 : List V → Hp → VK → Prop := fun xs H Q => ∃ i j, xs = [.int i, .int j] ∧ Q (.int (if j > i then j else i)) H
theorem call_max0 (hc : X.calm = true) : CallR X (.builtin "max") rMax0 := call_max2 hc
def rMin0 : List V → Hp → VK → Prop := fun xs H Q => ∃ i j, xs = [.int i, .int j] ∧ Q (.int (if j < i then j else i)) H
theorem call_min0 (hc : X.calm = true) : CallR X (.builtin "min") rMin0 := call_min2 hc
/-- a[b] of a list, a tuple, a text -/
theorem ix_U : IxR X (rIx X.K) := ix_seq
end
/-! ### steps of readings -/
section
variable {K : PySem.W.Frag} {σ : L2.St} {H H1 : Hp} {Q : VK} {D : Ends} {t u : TS} {te ta tb tc : TE} {g : TG} {v x y : V} {i j : Int} {n : Nat} {tt tu : TT} {rt : VK} {nx bk ct : L2.St → Hp → Prop}
theorem go_seq (h : t ⟨u D, D.rt, D.bk, D.ct⟩ σ H) : tSeq t u D σ H := h
theorem go_next (h : D.nx σ H) : tNext D σ H := h
theorem go_nx (h : nx σ H) : Ends.nx ⟨nx, rt, bk, ct⟩ σ H := h
theorem go_rt (h : rt v H) : Ends.rt ⟨nx, rt, bk, ct⟩ v H := h
theorem go_bk (h : bk σ H) : Ends.bk ⟨nx, rt, bk, ct⟩ σ H := h
theorem go_ct (h : ct σ H) : Ends.ct ⟨nx, rt, bk, ct⟩ σ H := h
theorem go_asg (h : te σ H fun x H1 => g x σ H1 D.nx) : tAsg te g D σ H := h
theorem go_name {R : L2.St → Hp → Prop} (h : R (σ.set n (some v)) H) : gName n v σ H R := h
theorem go_sub {to ti : TE} {ts : TSet} {R : L2.St → Hp → Prop} (h : to σ H fun o H1 => ti σ H1 fun i H2 => ts o i v H2 fun H3 => R σ H3) : gSub to ti ts v σ H R := h
theorem go_var (h : σ[n]? = some (some v)) (q : Q v H) : tVar n σ H Q := ⟨v, h, q⟩
theorem go_c (q : Q v H) : tC v σ H Q := q
theorem go_op {r : R2} (h : ta σ H fun x H1 => tb σ H1 fun y H2 => r x y H2 Q) : tOp r ta tb σ H Q := h
theorem go_un {r : V → Hp → VK → Prop} (h : ta σ H fun x H1 => r x H1 Q) : tUn r ta σ H Q := h
theorem go_cb {r : List V → Hp → VK → Prop} {t : TA} (h : t σ H fun vs H1 => r vs H1 Q) : tCB r t σ H Q := h
theorem go_nil {R : List V → Hp → Prop} (h : R [] H) : tNil σ H R := h
theorem go_cons {tr : TA} {R : List V → Hp → Prop} (h : ta σ H fun x H1 => tr σ H1 fun xs H2 => R (x :: xs) H2) : tCons ta tr σ H R := h
theorem go_addI (q : Q (.int (i + j)) H) : rAddU K (.int i) (.int j) H Q := .inl ⟨i, j, rfl, rfl, q⟩
theorem go_addS {a b : Str} (l : a.length + b.length ≤ sizeLine) (q : Q (.str (a ++ b)) H) : rAddU K (.str a) (.str b) H Q := .inr (.inl ⟨a, b, rfl, rfl, l, q⟩)
theorem go_sub0 (q : Q (.int (i - j)) H) : rSub0 (.int i) (.int j) H Q := ⟨i, j, rfl, rfl, q⟩
theorem go_mul0 (c : CMul i j) (q : Q (.int (i * j)) H) : rMul0 (.int i) (.int j) H Q := ⟨i, j, rfl, rfl, c, q⟩
theorem go_mod0 (c : 0 < j) (q : Q (.int (i % j)) H) : rMod0 (.int i) (.int j) H Q := ⟨i, j, rfl, rfl, c, q⟩
theorem go_div0 (c : CDivW i j) (q : Q (.int (i / j)) H) : rDiv0 (.int i) (.int j) H Q := ⟨i, j, rfl, rfl, c, q⟩
theorem go_pow0 (c : CPow i j) (q : Q (.int (i ^ j.toNat)) H) : rPow0 (.int i) (.int j) H Q := ⟨i, j, rfl, rfl, c, q⟩
theorem go_neg0 (q : Q (.int (-i)) H) : uNeg0 (.int i) H Q := ⟨i, rfl, q⟩
theorem go_ltI (q : Q (.bl (decide (i < j))) H) : rLtU (.int i) (.int j) H Q := .inl ⟨i, j, rfl, rfl, q⟩
theorem go_ltS {a b : Str} (q : Q (.bl (decide (a.cps.toList < b.cps.toList))) H) : rLtU (.str a) (.str b) H Q := .inr ⟨a, b, rfl, rfl, q⟩
theorem go_gt0 (q : Q (.bl (decide (j < i))) H) : rGt0 (.int i) (.int j) H Q := ⟨i, j, rfl, rfl, q⟩
theorem go_le0 (q : Q (.bl (decide (i ≤ j))) H) : rLe0 (.int i) (.int j) H Q := ⟨i, j, rfl, rfl, q⟩
theorem go_ge0 (q : Q (.bl (decide (j ≤ i))) H) : rGe0 (.int i) (.int j) H Q := ⟨i, j, rfl, rfl, q⟩
theorem go_eqI (q : Q (.bl (decide (i = j))) H) : rEq (.int i) (.int j) H Q := ⟨rfl, by
  have e : decide (V.int i = V.int j) = decide (i = j) := by rw [dec_int, Bool.beq_eq_decide_eq]
  rw [e]; exact q⟩
theorem go_eqS {a b : Str} (q : Q (.bl (decide (a = b))) H) : rEq (.str a) (.str b) H Q := ⟨rfl, by
  have e : decide (V.str a = V.str b) = decide (a = b) := by rw [dec_str, Bool.beq_eq_decide_eq]
  rw [e]; exact q⟩
theorem go_eqB {a b : Bool} (q : Q (.bl (decide (a = b))) H) : rEq (.bl a) (.bl b) H Q := ⟨rfl, by
  have e : decide (V.bl a = V.bl b) = decide (a = b) := by rw [dec_bl, Bool.beq_eq_decide_eq]
  rw [e]; exact q⟩
theorem go_neI (q : Q (.bl (!decide (i = j))) H) : rNe (.int i) (.int j) H Q := ⟨rfl, by
  have e : decide (V.int i = V.int j) = decide (i = j) := by rw [dec_int, Bool.beq_eq_decide_eq]
  rw [e]; exact q⟩
theorem go_neS {a b : Str} (q : Q (.bl (!decide (a = b))) H) : rNe (.str a) (.str b) H Q := ⟨rfl, by
  have e : decide (V.str a = V.str b) = decide (a = b) := by rw [dec_str, Bool.beq_eq_decide_eq]
  rw [e]; exact q⟩
theorem go_neB {a b : Bool} (q : Q (.bl (!decide (a = b))) H) : rNe (.bl a) (.bl b) H Q := ⟨rfl, by
  have e : decide (V.bl a = V.bl b) = decide (a = b) := by rw [dec_bl, Bool.beq_eq_decide_eq]
  rw [e]; exact q⟩
theorem go_inS {c : Nat} {z : Str} (q : Q (.bl (decide (c ∈ z.cps.toList))) H) : rInU K (.str ⟨#[c]⟩) (.str z) H Q := .inl ⟨c, z, rfl, rfl, q⟩
theorem go_niS {c : Nat} {z : Str} (q : Q (.bl (!decide (c ∈ z.cps.toList))) H) : rNiU K (.str ⟨#[c]⟩) (.str z) H Q := .inl ⟨c, z, rfl, rfl, q⟩
theorem go_inL {p : Addr} {xs : List V} (h : SqL K H p xs) (fx : flatV x = true) (fs : xs.all flatV = true) (q : Q (.bl (inV x xs)) H) : rInU K x (.ref p) H Q := .inr ⟨p, xs, rfl, .inl h, fx, fs, q⟩
theorem go_inT {p : Addr} {xs : List V} (h : SqT K H p xs) (fx : flatV x = true) (fs : xs.all flatV = true) (q : Q (.bl (inV x xs)) H) : rInU K x (.ref p) H Q := .inr ⟨p, xs, rfl, .inr h, fx, fs, q⟩
theorem go_niL {p : Addr} {xs : List V} (h : SqL K H p xs) (fx : flatV x = true) (fs : xs.all flatV = true) (q : Q (.bl (!inV x xs)) H) : rNiU K x (.ref p) H Q := .inr ⟨p, xs, rfl, .inl h, fx, fs, q⟩
theorem go_lenS {z : Str} (l : z.length ≤ sizeLine) (q : Q (.int z.length) H) : rLenU K [.str z] H Q := .inr ⟨z, rfl, l, q⟩
theorem go_lenL {p : Addr} {xs : List V} (h : SqL K H p xs) (q : Q (.int xs.length) H) : rLenU K [.ref p] H Q := .inl ⟨p, xs, rfl, .inl h, q⟩
theorem go_lenT {p : Addr} {xs : List V} (h : SqT K H p xs) (q : Q (.int xs.length) H) : rLenU K [.ref p] H Q := .inl ⟨p, xs, rfl, .inr h, q⟩
theorem go_int0 (q : Q (.int i) H) : rInt0 [.int i] H Q := .inl ⟨i, rfl, q⟩
theorem go_intB {k : Bool} (q : Q (.int (if k then 1 else 0)) H) : rInt0 [.bl k] H Q := .inr ⟨k, rfl, q⟩
theorem go_max0 (q : Q (.int (if j > i then j else i)) H) : rMax0 [.int i, .int j] H Q := ⟨i, j, rfl, q⟩
theorem go_min0 (q : Q (.int (if j < i then j else i)) H) : rMin0 [.int i, .int j] H Q := ⟨i, j, rfl, q⟩
theorem go_ixL {p : Addr} {xs : List V} (h : SqL K H p xs) (e : atI xs i = some v) (q : Q v H) : rIx K (.ref p) (.int i) H Q := .inl ⟨p, xs, i, v, rfl, rfl, h, e, q⟩
theorem go_ixT {p : Addr} {xs : List V} (h : SqT K H p xs) (e : atI xs i = some v) (q : Q v H) : rIx K (.ref p) (.int i) H Q := .inr (.inl ⟨p, xs, i, v, rfl, rfl, h, e, q⟩)
theorem go_ixS {z : Str} {c : Nat} (l : z.length ≤ sizeLine) (e : atI z.cps.toList i = some c) (q : Q (.str ⟨#[c]⟩) H) : rIx K (.str z) (.int i) H Q := .inr (.inr ⟨z, i, c, rfl, rfl, l, e, q⟩)
theorem go_setL {p : Addr} {xs : List V} {k : Nat} {R : Hp → Prop} (h : H p = some (.lst xs)) (e : ixN xs.length i = some k) (q : R (upd H p (.lst (xs.set k v)))) : rSetL (.ref p) (.int i) v H R := ⟨p, xs, i, k, rfl, rfl, h, e, q⟩
/-! tests -/
theorem go_test {R : Bool → Hp → Prop} (h : te σ H fun x H1 => ∃ k, x = .bl k ∧ R k H1) : tTest te σ H R := h
theorem go_tB {R : Bool → Hp → Prop} (h : te σ H fun x H1 => ∃ k, x = .bl k ∧ R k H1) : tB te σ H R := h
theorem go_ex {k : Bool} {R : Bool → Prop} (q : R k) : ∃ k', V.bl k = .bl k' ∧ R k' := ⟨k, rfl, q⟩
theorem go_and {R : Bool → Hp → Prop} (h : tt σ H fun c H1 => if c = true then tu σ H1 R else R false H1) : tAnd tt tu σ H R := h
theorem go_or {R : Bool → Hp → Prop} (h : tt σ H fun c H1 => if c = true then R true H1 else tu σ H1 R) : tOr tt tu σ H R := h
theorem go_not {R : Bool → Hp → Prop} (h : tt σ H fun c H1 => R (!c) H1) : tNot tt σ H R := h
theorem go_andV (h : ta σ H fun x H1 => ∃ c, x = .bl c ∧ if c = true then tb σ H1 Q else Q (.bl false) H1) : tAndV ta tb σ H Q := h
theorem go_orV (h : ta σ H fun x H1 => ∃ c, x = .bl c ∧ if c = true then Q (.bl true) H1 else tb σ H1 Q) : tOrV ta tb σ H Q := h
theorem go_notV (h : ta σ H fun x H1 => ∃ c, x = .bl c ∧ Q (.bl (!c)) H1) : tNotV ta σ H Q := h
theorem go_ifE (h : tt σ H fun c H1 => if c = true then ta σ H1 Q else tb σ H1 Q) : tIf tt ta tb σ H Q := h
theorem go_if (h : tt σ H fun b H1 => if b = true then t D σ H1 else u D σ H1) : tIfS tt t u D σ H := h
theorem go_ret (h : te σ H D.rt) : tRet te D σ H := h
theorem go_retN (h : D.rt .non H) : tRetN D σ H := h
theorem go_drop (h : te σ H fun _ H1 => D.nx σ H1) : tDrop te D σ H := h
theorem go_brk (h : D.bk σ H) : tBreak D σ H := h
theorem go_cont (h : D.ct σ H) : tCont D σ H := h
theorem go_t {A B : Prop} (h : A) : if true = true then A else B := by rw [if_pos rfl]; exact h
theorem go_f {A B : Prop} (h : B) : if false = true then A else B := by rw [if_neg Bool.false_ne_true]; exact h
theorem go_nt {A B : Prop} (h : B) : if (!true) = true then A else B := go_f h
theorem go_nf {A B : Prop} (h : A) : if (!false) = true then A else B := go_t h
theorem go_dec {p A B : Prop} [Decidable p] (h1 : p → A) (h2 : ¬ p → B) : if decide p = true then A else B := by
  by_cases h : p
  · rw [if_pos (decide_eq_true h)]; exact h1 h
  · rw [decide_eq_false h, if_neg Bool.false_ne_true]; exact h2 h
theorem go_ndec {p A B : Prop} [Decidable p] (h1 : ¬ p → A) (h2 : p → B) : if (!decide p) = true then A else B := by
  by_cases h : p
  · rw [decide_eq_true h]; exact go_f (h2 h)
  · rw [decide_eq_false h]; exact go_t (h1 h)
theorem go_bool {b : Bool} {A B : Prop} (h1 : b = true → A) (h2 : b = false → B) : if b = true then A else B := by
  cases b with
  | true => exact go_t (h1 rfl)
  | false => exact go_f (h2 rfl)
theorem go_nbool {b : Bool} {A B : Prop} (h1 : b = false → A) (h2 : b = true → B) : if (!b) = true then A else B := by
  cases b with
  | true => exact go_f (h2 rfl)
  | false => exact go_t (h1 rfl)
/-! new objects -/
theorem go_lst {t : TA} (h : t σ H fun xs H1 => xs.length ≤ sizeLine ∧ ∀ p, H1 p = none → Q (.ref p) (upd H1 p (.lst xs))) : tLst t σ H Q := h
theorem go_tup {t : TA} (h : t σ H fun xs H1 => xs.length ≤ sizeLine ∧ ∀ p, H1 p = none → Q (.ref p) (upd H1 p (.tup xs))) : tTup t σ H Q := h
theorem go_call {sp : Sp} {E : XK} {t : TA} (h : t σ H fun vs H1 => sp vs H1 Q E) : tCall sp [] E t σ H Q := by
  have e : (fun (vs : List V) (H1 : Hp) => sp (vs ++ []) H1 Q E) = fun vs H1 => sp vs H1 Q E := by
    funext vs H1
    rw [List.append_nil]
  show t σ H fun vs H1 => sp (vs ++ []) H1 Q E
  rw [e]
  exact h
variable {a b c d e : V} {E : XK}
theorem go_sp1 {f : P1} (h : f a H Q E) : Sp1 f [a] H Q E := ⟨a, rfl, h⟩
theorem go_sp2 {f : P2} (h : f a b H Q E) : Sp2 f [a, b] H Q E := ⟨a, b, rfl, h⟩
theorem go_sp3 {f : P3} (h : f a b c H Q E) : Sp3 f [a, b, c] H Q E := ⟨a, b, c, rfl, h⟩
theorem go_sp4 {f : P4} (h : f a b c d H Q E) : Sp4 f [a, b, c, d] H Q E := ⟨a, b, c, d, rfl, h⟩
theorem go_sp5 {f : P5} (h : f a b c d e H Q E) : Sp5 f [a, b, c, d, e] H Q E := ⟨a, b, c, d, e, rfl, h⟩
end
theorem atI_of {α : Type} {xs : List α} {i : Int} {v : α} (h0 : 0 ≤ i) (h : xs[i.toNat]? = some v) : atI xs i = some v := by
  have e : ((i.toNat : Nat) : Int) = i := by omega
  have q := atI_nat (xs := xs) (j := i.toNat) h
  rw [e] at q
  exact q
/-! ### loops -/
/-- what a for asks of its iterator -/
def ForIt (J : It) (g : TG) (tb : TS) (D : Ends) (σ : L2.St) (H : Hp) : Prop := ∃ W : Nat → Nat → L2.St → Hp → Prop, (∃ m, W 0 m σ H) ∧ ∀ i m σ H, W i m σ H →
  (J.stop i H ∧ D.nx σ H) ∨ (J.go i H ∧ ∃ N : L2.St → Hp → Prop, (∀ σ' H', N σ' H' → ∃ m', m' < m ∧ W (i + 1) m' σ' H') ∧ ∀ x H', J.yld i H x H' → g x σ H' fun σ2 H2 => tb { D with nx := N, ct := N, bk := D.nx } σ2 H2)
section
variable {K : PySem.W.Frag} {σ : L2.St} {H : Hp} {D : Ends} {g : TG} {tb : TS} {tl : TE} {ta : TA} {a : Addr} {xs : List V} {R : It → Hp → Prop} {tc : TT}
theorem go_for {wi : TI} (h : wi σ H fun J H1 => ForIt J g tb D σ H1) : tFor wi g tb D σ H := h
def iL (K : PySem.W.Frag) (R : It → Hp → Prop) : VK := fun x H1 => ∃ a, x = .ref a ∧ (∃ xs, SqL K H1 a xs) ∧ R (Itl K a) H1
def iT (K : PySem.W.Frag) (R : It → Hp → Prop) : VK := fun x H1 => ∃ a, x = .ref a ∧ (∃ xs, SqT K H1 a xs) ∧ R (Itt K a) H1
def iS (R : It → Hp → Prop) : VK := fun v H1 => ∃ x, v = .str x ∧ R (Its x) H1
def iR1 (R : It → Hp → Prop) : List V → Hp → Prop := fun vs H1 => ∃ j : Int, vs = [.int j] ∧ -(2 ^ 62) ≤ j ∧ j < 2 ^ 62 ∧ R (Itr 0 j.toNat) H1
def iR2 (R : It → Hp → Prop) : List V → Hp → Prop := fun vs H1 => ∃ i j : Int, vs = [.int i, .int j] ∧ (-(2 ^ 62) ≤ i ∧ i < 2 ^ 62 ∧ -(2 ^ 62) ≤ j ∧ j < 2 ^ 62) ∧ R (Itr i (j - i).toNat) H1
theorem go_iL (h : tl σ H (iL K R)) : iList K tl σ H R := h
theorem go_iT (h : tl σ H (iT K R)) : iTup K tl σ H R := h
theorem go_iS (h : tl σ H (iS R)) : iStr tl σ H R := h
theorem go_iR1 (h : ta σ H (iR1 R)) : iRng1 ta σ H R := h
theorem go_iR2 (h : ta σ H (iR2 R)) : iRng2 ta σ H R := h
theorem for_l (h : SqL K H a xs) (Pv : Nat → L2.St → Hp → Prop) (h0 : Pv 0 σ H) (hl : ∀ i σ H, i ≤ xs.length → Pv i σ H → SqL K H a xs)
    (hs : ∀ (i : Nat) x σ H, xs[i]? = some x → Pv i σ H → g x σ H fun σ2 H2 => tb ⟨Pv (i + 1), D.rt, D.nx, Pv (i + 1)⟩ σ2 H2) (hd : ∀ σ H, Pv xs.length σ H → D.nx σ H) : iL K (fun J H1 => ForIt J g tb D σ H1) (.ref a) H :=
  ⟨a, rfl, ⟨xs, h⟩, for_list (K := K) (a := a) (xs := xs) Pv h0 hl hs hd⟩
theorem for_t (h : SqT K H a xs) (Pv : Nat → L2.St → Hp → Prop) (h0 : Pv 0 σ H) (hl : ∀ i σ H, i ≤ xs.length → Pv i σ H → SqT K H a xs)
    (hs : ∀ (i : Nat) x σ H, xs[i]? = some x → Pv i σ H → g x σ H fun σ2 H2 => tb ⟨Pv (i + 1), D.rt, D.nx, Pv (i + 1)⟩ σ2 H2) (hd : ∀ σ H, Pv xs.length σ H → D.nx σ H) : iT K (fun J H1 => ForIt J g tb D σ H1) (.ref a) H :=
  ⟨a, rfl, ⟨xs, h⟩, for_tup (K := K) (a := a) (xs := xs) Pv h0 hl hs hd⟩
theorem for_r {j : Int} (hj : -(2 ^ 62) ≤ j ∧ j < 2 ^ 62) (Pv : Nat → L2.St → Hp → Prop) (h0 : Pv 0 σ H)
    (hs : ∀ (i : Nat) σ H, (i : Int) < j → Pv i σ H → g (.int (i : Int)) σ H fun σ2 H2 => tb ⟨Pv (i + 1), D.rt, D.nx, Pv (i + 1)⟩ σ2 H2) (hd : ∀ σ H, Pv j.toNat σ H → D.nx σ H) : iR1 (fun J H1 => ForIt J g tb D σ H1) [.int j] H := by
  refine ⟨j, rfl, hj.1, hj.2, for_range (lo := 0) (n := j.toNat) Pv h0 (fun i σ H hi p => ?_) hd⟩
  have e : (0 : Int) + (i : Int) = (i : Int) := Int.zero_add _
  rw [e]
  exact hs i σ H (by omega) p
theorem for_r2 {l j : Int} (hj : -(2 ^ 62) ≤ l ∧ l < 2 ^ 62 ∧ -(2 ^ 62) ≤ j ∧ j < 2 ^ 62) (Pv : Nat → L2.St → Hp → Prop) (h0 : Pv 0 σ H)
    (hs : ∀ (i : Nat) σ H, l + (i : Int) < j → Pv i σ H → g (.int (l + (i : Int))) σ H fun σ2 H2 => tb ⟨Pv (i + 1), D.rt, D.nx, Pv (i + 1)⟩ σ2 H2) (hd : ∀ σ H, Pv (j - l).toNat σ H → D.nx σ H) : iR2 (fun J H1 => ForIt J g tb D σ H1) [.int l, .int j] H :=
  ⟨l, j, rfl, hj, for_range (lo := l) (n := (j - l).toNat) Pv h0 (fun i σ H hi p => hs i σ H (by omega) p) hd⟩
theorem for_s {z : Str} (Pv : Nat → L2.St → Hp → Prop) (h0 : Pv 0 σ H)
    (hs : ∀ (i : Nat) (c : Nat) σ H, z.cps.toList[i]? = some c → Pv i σ H → g (.str ⟨#[c]⟩) σ H fun σ2 H2 => tb ⟨Pv (i + 1), D.rt, D.nx, Pv (i + 1)⟩ σ2 H2) (hd : ∀ σ H, Pv z.length σ H → D.nx σ H) : iS (fun J H1 => ForIt J g tb D σ H1) (.str z) H := by
  refine ⟨z, rfl, fun i m σ H => m = z.length - i ∧ i ≤ z.length ∧ Pv i σ H, ⟨z.length, by simp, Nat.zero_le _, h0⟩, ?_⟩
  rintro i m σ H ⟨rfl, hi, p⟩
  by_cases hlt : i < z.length
  · refine .inr ⟨hlt, Pv (i + 1), fun σ' H' p' => ⟨z.length - (i + 1), by omega, rfl, hlt, p'⟩, fun x H' y => ?_⟩
    obtain ⟨e, c, hc, ex⟩ := y
    subst e ex
    exact hs i c σ _ (by simpa using hc) p
  · have e : i = z.length := by omega
    subst e
    exact .inl ⟨Nat.le_refl _, hd σ H p⟩
/-- a while by its word W with the measure -/
theorem go_while (W : Nat → L2.St → Hp → Prop) (m0 : Nat) (w0 : W m0 σ H) (turn : ∀ m σ H, W m σ H → tc σ H fun b H1 => if b = true then ∃ N : L2.St → Hp → Prop, (∀ σ' H', N σ' H' → ∃ m', m' < m ∧ W m' σ' H') ∧ tb ⟨N, D.rt, D.nx, N⟩ σ H1 else D.nx σ H1) : tWhile tc tb D σ H :=
  ⟨W, ⟨m0, w0⟩, turn⟩
/-- slices of a text -/
theorem go_sl {r : V → Option Int → Option Int → Hp → VK → Prop} {te : TE} {tl th : TO} {Q : VK} (h : te σ H fun x H1 => tl σ H1 fun l H2 => th σ H2 fun u H3 => r x l u H3 Q) : tSl r te tl th σ H Q := h
theorem go_part {t : TE} {Q : Option Int → Hp → Prop} (h : t σ H fun x H1 => ∃ i, x = .int i ∧ Q (some i) H1) : tPart t σ H Q := h
theorem go_nopart {Q : Option Int → Hp → Prop} (h : Q none H) : tNoPart σ H Q := h
theorem go_exi {i : Int} {R : Int → Prop} (q : R i) : ∃ k, V.int i = .int k ∧ R k := ⟨i, rfl, q⟩
theorem go_slS {z : Str} {lo hi : Option Int} {Q : VK} (l : z.length ≤ sizeLine) (q : Q (.str (cutS z lo hi)) H) : rSlS (.str z) lo hi H Q := ⟨z, rfl, l, q⟩
/-- list append -/
theorem go_bm {T : String} {r : V → List V → Hp → VK → Prop} {to : TE} {t : TA} {Q : VK} (h : to σ H fun x H1 => tyV K T x H1 ∧ t σ H1 fun xs H2 => r x xs H2 Q) : tBM K T r to t σ H Q := h
theorem go_app {l : Addr} {ys : List V} {y : V} {Q : VK} (h : H l = some (.lst ys)) (z : ys.length < sizeLine) (q : Q .non (upd H l (.lst (ys ++ [y])))) : rAppend (.ref l) [y] H Q := ⟨l, ys, y, rfl, rfl, h, z, q⟩
theorem ty_lst {l : Addr} {ys : List V} (h : SqL K H l ys) : tyV K "list" (.ref l) H := .inl ⟨rfl, ys, h⟩
end
theorem len_one (c : Nat) : (⟨#[c]⟩ : Str).length = 1 := rfl
theorem length_append (a b : Str) : (a ++ b).length = a.length + b.length := by
  show (a.cps ++ b.cps).size = a.cps.size + b.cps.size
  rw [Array.size_append]
theorem size_ok {n : Nat} (h : n ≤ 100000) : n ≤ sizeLine := Nat.le_trans h (by decide)
theorem size_lt {n : Nat} (h : n < 100000) : n < sizeLine := Nat.lt_of_lt_of_le h (by decide)
/-! ### heaps: what stands but at M -/
structure Dx (M : Addr → Prop) (H H' : Hp) : Prop where
  st : ∀ a o, ¬ M a → H a = some o → H' a = some o
  dm : ∀ a, H' a = none → H a = none
section
variable {M N : Addr → Prop} {H H' H1 H2 : Hp} {a p l : Addr} {o u : HO} {K : PySem.W.Frag} {xs : List V}
theorem Dx.refl : Dx M H H := ⟨fun _ _ _ h => h, fun _ h => h⟩
theorem Dx.trans (a : Dx M H H1) (b : Dx M H1 H2) : Dx M H H2 := ⟨fun c o n h => b.st c o n (a.st c o n h), fun c h => a.dm c (b.dm c h)⟩
theorem Dx.mono (a : Dx M H H1) (h : ∀ c, M c → N c) : Dx N H H1 := ⟨fun c o n q => a.st c o (fun z => n (h c z)) q, a.dm⟩
theorem Dx.new (h : H p = none) : Dx M H (upd H p o) := ⟨fun c u _ q => by rw [upd_ne (ne_of_none q h)]; exact q, fun c q => by
  by_cases e : c = p
  · rw [e]; exact h
  · rw [upd_ne e] at q; exact q⟩
theorem stands (h : H a = some u) (hp : H p = none) : upd H p o a = some u := by
  rw [upd_ne (ne_of_none h hp)]
  exact h
theorem Dx.mut (hm : M l) : Dx M H (upd H l u) := ⟨fun c o n q => by rw [upd_ne (fun e => n (by rw [e]; exact hm))]; exact q, fun c q => by
  by_cases e : c = l
  · rw [e, upd_same] at q; cases q
  · rw [upd_ne e] at q; exact q⟩
/-- what M holds besides is not yet there at H -/
theorem Dx.loc (d : Dx N H H1) (h : ∀ c, N c → M c ∨ H c = none) : Dx M H H1 := ⟨fun c o n q => d.st c o (fun z => by
  rcases h c z with e | e
  · exact n e
  · rw [q] at e
    exact nomatch e) q, d.dm⟩
theorem Dx.al (d : Dx M H H1) (h : H a ≠ none) : H1 a ≠ none := fun e => h (d.dm a e)
theorem Dx.rd (d : Dx M H H1) (n : ¬ M a) (h : Rd H a o) : Rd H1 a o := by
  rcases h with h | ⟨u, h⟩
  · exact .inl (d.st _ _ n h)
  · exact .inr ⟨u, d.st _ _ n h⟩
theorem Dx.sqL (d : Dx M H H1) (n : ¬ M a) (h : SqL K H a xs) : SqL K H1 a xs := by
  rcases h with h | h
  · exact .inl (d.rd n h)
  · exact .inr h
theorem Dx.sqT (d : Dx M H H1) (n : ¬ M a) (h : SqT K H a xs) : SqT K H1 a xs := by
  rcases h with h | h
  · exact .inl (d.rd n h)
  · exact .inr h
end
/-- the draws' store at c: six numbers behind the cells' list at p -/
def stL (p : Addr) (i rest left n a b : Int) : List V := [.ref p, .int i, .int rest, .int left, .int n, .int a, .int b]
structure StoreAt (M : Addr → Prop) (H : Hp) (c : Addr) : Prop where
  ex : ∃ (p : Addr) (i rest left n a b : Int) (cells : List Int), H c = some (.lst (stL p i rest left n a b)) ∧ H p = some (.lst (cells.map V.int)) ∧ ¬ M p ∧ 0 ≤ i ∧ (0 ≤ a ∧ a < 2147483647) ∧ (0 ≤ b ∧ b < 2147483399)
/-- the store is at c, which M holds; M's are all there -/
structure Ok (M : Addr → Prop) (H : Hp) (c : Addr) : Prop where
  inM : M c
  al : ∀ a, M a → H a ≠ none
  st : StoreAt M H c
abbrev Only1 (c : Addr) : Addr → Prop := fun a => a = c
/-- l besides -/
def Add (M : Addr → Prop) (l : Addr) : Addr → Prop := fun a => a = l ∨ M a
section
variable {M : Addr → Prop} {H H1 : Hp} {c l : Addr} {o u : HO}
theorem Only1.sub (h : M c) : ∀ a, Only1 c a → M a := fun a e => by
  have e' : a = c := e
  rw [e']
  exact h
theorem Ok.sub (k : Ok M H c) (d : Dx (Only1 c) H H1) : Dx M H H1 := d.mono (Only1.sub k.inM)
theorem Ok.alive (k : Ok M H c) (d : Dx M H H1) : ∀ a, M a → H1 a ≠ none := fun a h => d.al (k.al a h)
/-- anything but the store has changed -/
theorem Ok.keep (k : Ok M H c) (d : Dx M H H1) (e : H1 c = H c) : Ok M H1 c := by
  obtain ⟨p, i, rest, left, n, a, b, cells, h1, h2, h3, h4⟩ := k.st.ex
  exact ⟨k.inM, k.alive d, ⟨p, i, rest, left, n, a, b, cells, by rw [e]; exact h1, d.st _ _ h3 h2, h3, h4⟩⟩
theorem Ok.ne_new (k : Ok M H c) (h : H l = none) : l ≠ c := fun e => k.al c k.inM (by rw [← e]; exact h)
theorem Ok.notM (k : Ok M H c) (h : H l = none) : ¬ M l := fun e => k.al l e h
theorem Ok.new (k : Ok M H c) (h : H l = none) : Ok M (upd H l o) c := k.keep (Dx.new h) (upd_ne (Ne.symm (k.ne_new h)))
/-- a new object joins M -/
theorem Ok.add (k : Ok M H c) (h : H l = none) : Ok (Add M l) (upd H l o) c := by
  obtain ⟨p, i, rest, left, n, a, b, cells, h1, h2, h3, h4⟩ := k.st.ex
  have hp : p ≠ l := ne_of_none h2 h
  have hc : c ≠ l := Ne.symm (k.ne_new h)
  refine ⟨.inr k.inM, fun a z => ?_, ⟨p, i, rest, left, n, a, b, cells, by rw [upd_ne hc]; exact h1, by rw [upd_ne hp]; exact h2, fun z => ?_, h4⟩⟩
  · rcases z with e | z
    · rw [e, upd_same]
      exact fun q => by cases q
    · exact (k.new (o := o) h).al a z
  · rcases z with e | z
    · exact hp e
    · exact h3 z
theorem Ok.ne {a : Addr} (k : Ok M H c) (h : ¬ M a) : a ≠ c := fun e => h (by rw [e]; exact k.inM)
/-- a smaller M -/
theorem Ok.less {N : Addr → Prop} (k : Ok M H c) (hc : N c) (h : ∀ a, N a → M a) : Ok N H c := by
  obtain ⟨p, i, rest, left, n, a, b, cells, h1, h2, h3, h4⟩ := k.st.ex
  exact ⟨hc, fun a z => k.al a (h a z), ⟨p, i, rest, left, n, a, b, cells, h1, h2, fun z => h3 (h p z), h4⟩⟩
/-- what M holds, other than the store, is written -/
theorem Ok.mut (k : Ok M H c) (hm : M l) (hc : l ≠ c) : Ok M (upd H l o) c := k.keep (Dx.mut hm) (upd_ne (Ne.symm hc))
end
/-! ### drawn things -/
/-- a draw: the store turns, the rest stands -/
def Drawn (M : Addr → Prop) (c : Addr) (H : Hp) (R : V → Prop) (Q : VK) : Prop := ∀ r H', R r → Dx (Only1 c) H H' → Ok M H' c → Q r H'
/-- f(store): a value of R -/
def pDraw (R : V → Prop) : P1 := fun v0 H Q _ => ∃ (c : Addr) (M : Addr → Prop), v0 = .ref c ∧ Ok M H c ∧ Drawn M c H R Q
def IsText (lo hi : Nat) : V → Prop := fun v => ∃ x : Str, v = .str x ∧ lo ≤ x.length ∧ x.length ≤ hi
end Q
/-! list(reversed(xs)) -/
namespace QR
open PySem PySem.Spec PySem.Calls PyProof.Rows L2
open RT
section
variable {prog : Program} {w : World} {A : Around} {E : Value → Shared → Prop} {s : Shared}
/-- the list at S, empty, is filled from the iterator -/
theorem rev_ext {S it l : Addr} {items : Array Value} {R : Result → Shared → Prop} {c0 : Nat} (hh : A.handled = none) (hit : s.heap.IsRevIter it l ((items.size : Int) - 1)) (hl : s.heap.IsList l items) (hne : l ≠ it) (hn : items.size ≤ sizeLine)
    (hSi : S ≠ it) (hSl : S ≠ l) (hS : s.heap.get? S = some { cls := .type "list", data := .seq #[] c0 })
    (hR : ∀ (h' : Heap) (tk : Nat) (acc : Array Value) (c' : Nat), (∀ b o, b ≠ it → b ≠ S → s.heap.get? b = some o → h'.get? b = some o) → h'.get? S = some { cls := .type "list", dict := none, data := .seq acc c', slots := #[] } →
      ItemsOf (fun i v => items[items.size - 1 - i]? = some v) acc items.size → R (.ok (.ret .none)) { s with heap := h', toks := tk }) :
    wpAny (model prog w) A.in1 (Builtin.List.listExtendWith (.ref S) (.ref it) .none)
      (fun fin s' => match fin with | .done f => R (.ok f) s' | .again c' => c'.quiet = true ∧ codeAny (model prog w) A c' R s') (fun e s' => R (.error e) s') s := by
  have W := (Walks.listRev (prog := prog) (w := w) (A := A.in1) hh it l hne items).toS
  have hSf : S ∉ [it, l] := by
    intro z
    rcases List.mem_cons.mp z with z | z
    · exact hSi z
    · exact hSl (List.mem_singleton.mp z)
  have hT : s.TypeIs (.ref it) "list_reverseiterator" := hit.typeIs
  have hsame : Builtin.List.listSameRef (.ref S) (.ref it) = false := by simp [Builtin.List.listSameRef, hSi]
  unfold Builtin.List.listExtendWith; refine wpAny_bind (wpAny_typeOf hT ?_)
  rw [if_neg (by rw [hsame]; decide)]; refine wpAny_bind (wpAny_pyIter_revIter hit ?_)
  refine wpAny_bind (wpAny_holding ?_); unfold Builtin.List.listLengthHint
  refine wpAny_bind (wpAny_specialOf hT nolen_lri ?_)
  show wpAny _ A.in1 (specialOf (Value.ref it) (Str.ofString "__length_hint__") >>= fun r => _) _ _ _
  refine wpAny_bind (wpAny_specialOf hT hint_lri ?_); generalize hid : ("list_reverseiterator.__length_hint__" : String) = id1
  wp_delta; rw [show splitId id1 = some ("list_reverseiterator", "__length_hint__") from by subst hid; decide +kernel]
  subst hid; refine wpAny_bind (wpAny_isInstance (b := true) hT (by rw [isSubtype_type]; kernel_rfl) ?_)
  refine wpAny_pure ?_; rw [if_neg (by decide)]
  have e0 : ((items.size : Nat) : Int) - 1 - ((0 : Nat) : Int) = (items.size : Int) - 1 := by omega
  refine wpAny_pure ⟨plainId_quiet F.plain_extend_loop _, ?_⟩
  refine codeAny_extend_loopS W hn S hSf .none items.size 0 _ #[] c0 rfl (Nat.zero_le _) ⟨Nat.zero_le _, by rw [e0]; exact hit, hl⟩ hS (ItemsOf.nil _) fun s' acc' c' hm hS' hacc => ?_
  rw [Moved.eq_with hm]
  refine hR s'.heap s'.toks acc' c' (fun b o hb hb2 e => hm.heap b o (fun hmem => ?_) e) hS' hacc
  rcases List.mem_cons.mp hmem with e' | hmem
  · exact hb2 e'
  · exact hb (List.mem_singleton.mp hmem)
theorem rev_init {S it l : Addr} {items : Array Value} {R : Result → Shared → Prop} (hh : A.handled = none) (hit : s.heap.IsRevIter it l ((items.size : Int) - 1)) (hl : s.heap.IsList l items) (hne : l ≠ it) (hn : items.size ≤ sizeLine)
    (hSi : S ≠ it) (hSl : S ≠ l) (hS : s.heap.get? S = some { cls := .type "list", data := .seq #[] })
    (hR : ∀ (h' : Heap) (tk : Nat) (acc : Array Value) (c' : Nat), (∀ b o, b ≠ it → b ≠ S → s.heap.get? b = some o → h'.get? b = some o) → h'.get? S = some { cls := .type "list", dict := none, data := .seq acc c', slots := #[] } →
      ItemsOf (fun i v => items[items.size - 1 - i]? = some v) acc items.size → R (.ok (.ret .none)) { s with heap := h', toks := tk }) :
    wpAny (model prog w) A.in1 (Builtin.«list.__init__» ⟨[.ref S, .ref it], []⟩)
      (fun fin s' => match fin with | .done f => R (.ok f) s' | .again c' => c'.quiet = true ∧ codeAny (model prog w) A c' R s') (fun e s' => R (.error e) s') s := by
  show wpAny _ _ (do let was ← Builtin.List.listItems (.ref S); Builtin.List.listUpdate (.ref S) (fun _ => #[]); letGo was.toList.reverse; Builtin.List.listExtendWith (.ref S) (.ref it) .none) _ _ s
  refine wpAny_bind ?_; unfold Builtin.List.listItems
  refine wpAny_bind (wpAny_seqItems hS rfl (wpAny_pure ?_)); show wpAny _ _ (updateSeq S (fun _ => #[]) >>= fun _ => letGo (#[] : Array Value).toList.reverse >>= fun _ => Builtin.List.listExtendWith (.ref S) (.ref it) .none) _ _ s
  refine wpAny_bind (wpAny_updateSeq hS rfl ?_)
  have hS2 := Heap.get?_update_self (Obj.mapSeq (fun _ => (#[] : Array Value))) hS rfl
  have oth : ∀ b o, b ≠ S → s.heap.get? b = some o → (s.heap.update S (Obj.mapSeq (fun _ => (#[] : Array Value)))).get? b = some o := fun b o hb e => (Heap.get?_update_other _ _ (Ne.symm hb)).trans e
  refine wpAny_bind (wpAny_letGo ?_)
  obtain ⟨ol, hol, r1⟩ := hl
  refine rev_ext hh (hit.at fun o e => oth it o (Ne.symm hSi) e) ⟨ol, oth l ol (Ne.symm hSl) hol, r1⟩ hne hn hSi hSl hS2 fun h' tk acc c' hk hS' hacc => ?_
  exact hR h' tk acc c' (fun b o hb hb2 e => hk b o hb hb2 (oth b o hb2 e)) hS' hacc
theorem list_rev {it l : Addr} {items : Array Value} {Q : Value → Shared → Prop} (hh : A.handled = none) (hit : s.heap.IsRevIter it l ((items.size : Int) - 1)) (hl : s.heap.IsList l items) (hne : l ≠ it) (hn : items.size ≤ sizeLine)
    (hQ : ∀ (h' : Heap) (tk : Nat) (acc : Array Value) (c' : Nat), (∀ b o, b ≠ it → s.heap.get? b = some o → h'.get? b = some o) → h'.get? s.heap.objs.size = some { cls := .type "list", dict := none, data := .seq acc c', slots := #[] } →
      ItemsOf (fun i v => items[items.size - 1 - i]? = some v) acc items.size → Q (.ref s.heap.objs.size) { s with heap := h', toks := tk }) : wpAny (model prog w) A (call (.type "list") [.ref it]) Q E s := by
  refine callType_codes (Q₁ := fun obj s1 => obj = .ref s.heap.objs.size ∧ s1 = { s with heap := s.heap.push { cls := .type "list", data := .seq #[] } }) PySem.F.called_list (PySem.F.typeCall_list_1 _) PySem.F.entry_list_init (code_list_new _ ⟨rfl, rfl⟩) fun obj s1 h1 => ?_
  obtain ⟨rfl, rfl⟩ := h1
  have hS : (s.heap.push { cls := .type "list", data := .seq #[] }).get? s.heap.objs.size = some { cls := .type "list", data := .seq #[] } := Heap.get?_push_size _ rfl
  obtain ⟨oi, hoi, _⟩ := id hit
  obtain ⟨ol, hol, _⟩ := id hl
  refine ⟨⟨_, hS, rfl⟩, PySem.F.args_list_init_2 _ _, rev_init (A := A.in1) hh (hit.at fun o e => Heap.get?_push_of_some _ e) (hl.push _) hne hn (Nat.ne_of_gt (Heap.lt_size hoi)) (Nat.ne_of_gt (Heap.lt_size hol)) hS fun h' tk acc c' hk hS' hacc => ?_⟩
  exact ⟨rfl, hQ h' tk acc c' (fun b o hb e => hk b o hb (Nat.ne_of_lt (Heap.lt_size e)) (Heap.get?_push_of_some _ e)) hS' hacc⟩
end
end QR
namespace Q
open PySem PySem.Spec PySem.Calls PyProof.Rows L2
/-- list(reversed(x)), x a list: a new list -/
def tListRev (K : PySem.W.Frag) (te : TE) : TE := fun σ H Q => te σ H fun v H1 => ∃ (a : Addr) (xs : List V), v = .ref a ∧ SqL K H1 a xs ∧ ∀ q, H1 q = none → Q (.ref q) (upd H1 q (.lst xs.reverse))
theorem pe_listRev {X : Cx} {e : Expr} {te : TE} {p p2 pos pos2 : Pos} (hc : X.calm = true) (hg : Gl X "list") (hm : X.mg "list" = none) (hg2 : Gl X "reversed") (hm2 : X.mg "reversed" = none) (he : PE X e te)
    (hs : starEach [e] X.env = (false, eval e X.env) :: starEach [] X.env := by rfl)
    (hs2 : starEach [.Call (.Name "reversed" p2) [e] [] pos2] X.env = (false, eval (.Call (.Name "reversed" p2) [e] [] pos2) X.env) :: starEach [] X.env := by rfl) :
    PE X (.Call (.Name "list" p) [.Call (.Name "reversed" p2) [e] [] pos2] [] pos) (tListRev X.K te) := by
  refine ⟨fun pins s σ H Q I h => ?_⟩
  refine Call_ (ld_blt I hg hm boot_list (PyProof.Rows.callWith_type1 (args_cons (Call_ (ld_blt I hg2 hm2 PyProof.Rows.boot_reversed (PyProof.Rows.callWith_type1 (args_cons (thn (he.run pins s σ H _ I h) fun u s1 ⟨v, H1, I1, r1, q1⟩ => args_nil ?_) hs) hs rfl))) hs2) hs2 rfl))
  obtain ⟨a, xs, ev, hq, q⟩ := q1
  subst ev; obtain rfl : u = Value.ref a := r1
  obtain ⟨its, rv, p', hz⟩ := I1.list hq
  refine call_reversed_list p'.isList (args_nil ?_)
  have k0 : ∀ b o, s1.heap.get? b = some o → (s1.heap.push (revObj a ((its.toArray.size : Int) - 1))).get? b = some o := fun b o e => Heap.get?_push_of_some _ e
  have I2 : Inv X pins σ H1 { s1 with heap := s1.heap.push (revObj a ((its.toArray.size : Int) - 1)) } := I1.kept (t' := s1.toks) k0
  have hf := I1.fpOk (H' := H1) (b := s1.heap.objs.size) (Nat.le_refl _) (I1.hok.fresh (Nat.le_refl _))
  obtain ⟨f0, f1, f2, f3, f4, f5⟩ := hf
  have hl := p'.isList
  obtain ⟨ol, hol, _⟩ := id hl
  have hne : a ≠ s1.heap.objs.size := Nat.ne_of_lt (Heap.lt_size hol)
  have hn : its.toArray.size ≤ sizeLine := by
    rw [List.size_toArray, ← rv.length]
    exact hz
  refine QR.list_rev (s := { s1 with heap := s1.heap.push (revObj a ((its.toArray.size : Int) - 1)) }) (I1.ok.hd hc) ⟨_, Heap.get?_push_size _ rfl, rfl, rfl⟩ (hl.push _) hne hn fun h' tk acc c' hk hS hi => ?_
  have hD : H1 (s1.heap.push (revObj a ((its.toArray.size : Int) - 1))).objs.size = none := I2.hok.fresh (Nat.le_refl _)
  generalize hDe : (s1.heap.push (revObj a ((its.toArray.size : Int) - 1))).objs.size = D at hD hS
  have old : ∀ b o, (s1.heap.push (revObj a ((its.toArray.size : Int) - 1))).get? b = some o → b ≠ D := fun b o e => by
    rw [← hDe]
    exact Nat.ne_of_lt (Heap.lt_size e)
  have hz2 : xs.reverse.length ≤ sizeLine := by
    rw [List.length_reverse]
    exact hz
  have same : ∀ b u, H1 b = some u → upd H1 D (.lst xs.reverse) b = some u := fun b u e => by
    rw [upd_ne (ne_of_none e hD)]
    exact e
  have nit : ∀ b u, H1 b = some u → b ≠ s1.heap.objs.size := fun b u e z => by
    rw [z, f0] at e
    cases e
  have J : Inv X pins σ (upd H1 D (.lst xs.reverse)) { ({ s1 with heap := s1.heap.push (revObj a ((its.toArray.size : Int) - 1)) } : Shared) with heap := h', gens := s1.gens, drawn := s1.drawn, toks := tk } := by
    refine I2.step (g' := s1.gens) (d' := s1.drawn) (t' := tk) (h' := h') (ch := [s1.heap.objs.size]) (fun b hb => ?_) (fun b o _ _ hc e _ => hk b o (fun z => hc (by simp [z])) e) (fun b o _ _ hc e _ => ⟨o.slots, hk b o (fun z => hc (by simp [z])) e⟩)
      (fun b o _ e n => by rw [upd_ne (old b o e)]; exact n) (fun b o hc e => ⟨o, hk b o (fun z => hc (by simp [z])) e⟩) (fun b ys e => same b _ e) (fun b o v e => same b _ e) (fun b ps e => ⟨#[], by rw [same b _ e]; simp⟩) (fun m hm => ?_) (fun b u e => ?_) I1.bare
    · have e : b = s1.heap.objs.size := by simpa using hb
      subst e
      exact ⟨f3, f1, f4, f5⟩
    · obtain ⟨o, es, ep, ho, r⟩ := hm
      exact ⟨o, es, ep, hk _ o (Ne.symm f1) ho, r⟩
    · by_cases hb : b = D
      · subst hb
        rw [upd_same] at e
        cases e
        exact ⟨hz2, acc.toList, c', RT.vals_rev rv hi, by rw [Array.toArray_toList]; exact hS⟩
      · rw [upd_ne hb] at e
        refine (I2.hok b u e).stay (fun c v hc y => hk c v ?_ y) (fun c y => same c _ y) fun c ys y => same c _ y
        rcases hc with z | z
        · rw [z]
          exact nit b u e
        · exact nit c _ z
  exact ⟨.ref D, _, J, rfl, q D hD⟩
end Q
/-! isinstance of a caught exception that has its own dict -/
namespace Q
open PySem PySem.Spec PyProof.Rows L2
/-- the exception that the suite holds at a: its class is D, its dict stands -/
def XAt (cls : Value) (d : Option Addr) (D : Addr) (H : Hp) : Prop := cls = .ref D ∧ ∃ (dd : Addr) (fs : List (Str × V)), d = some dd ∧ H dd = some (.xd fs)
def rIsX (K : PySem.W.Frag) (a : Addr) (cls : Value) (d : Option Addr) : List V → Hp → VK → Prop := fun xs H Q => ∃ D : Addr, ExcC K D ∧ XAt cls d D H ∧
  ((∃ (c : V) (cv : Value) (b : Bool), xs = [.ref a, c] ∧ ClsV c cv ∧ PySem.W.kitOne K (.ref D) cv = some b ∧ Q (.bl b) H) ∨
   (∃ (tp : Addr) (cs : List V) (us : List Value) (b : Bool), xs = [.ref a, .ref tp] ∧ H tp = some (.tup cs) ∧ Paired ClsV cs us ∧ PySem.W.kitAny K (.ref D) us = some b ∧ Q (.bl b) H))
theorem call_isX {X : Cx} {a : Addr} {oe : Obj} {cls : Value} {d : Option Addr} {pn : List (Addr × Obj)} (hz : Zc cls d oe) (hf : ∃ vs, oe.data = .fields vs) : CallR (X.suite a ((a, oe) :: pn)) (.builtin "isinstance") (rIsX X.K a cls d) := by
  intro pins s σ H xs us Q I r h
  obtain ⟨D, C, ⟨ec, dd, fs, ed, ea⟩, h⟩ := h
  subst ec ed
  obtain ⟨ha, _⟩ := I.pin (a, oe) (List.mem_append.mpr (.inl List.mem_cons_self))
  obtain ⟨vs, hv⟩ := hf
  have hx : ObjOk X.prog X.w H s.heap dd (.xd fs) := I.hok dd _ ea
  obtain ⟨mA, hns, hr⟩ := hx
  obtain ⟨od, ho, hl⟩ := lookIn_ns hns
  have J : PySem.W.InstAt s.heap a oe D (some od) := ⟨ha, hz.1, by unfold PySem.W.notCls; rw [hv] <;> rfl, by rw [hz.2]; exact ho⟩
  have hcl : (PySem.W.clsIn X.K D).isSome = true := by
    obtain ⟨cd, e, _⟩ := PySem.W.any_some C.hd
    rw [e] <;> rfl
  have Z := PySem.W.kitx_exc (K := X.K) (x := a) (ox := oe) (od := some od) hcl C.hg C.hk C.hs C.ha C.hn C.ht C.hm
  rcases h with ⟨c, cv, b, rfl, k, e, q⟩ | ⟨tp, cs, ws, b, rfl, hT, k, e, q⟩
  · obtain ⟨u1, u2, rfl, r1, r2⟩ := vals2 r
    have e2 := k.eq r2
    subst e2
    cases (show u1 = Value.ref a from r1)
    exact PySem.W.kia_one Z I.kIn J e (fun z => nomatch z) fun tk => ⟨.bl b, H, I.tok tk, rfl, q⟩
  · obtain ⟨u1, u2, rfl, r1, r2⟩ := vals2 r
    cases (show u1 = Value.ref a from r1)
    cases (show u2 = Value.ref tp from r2)
    obtain ⟨_, its, rv, o, h1, h2, n, h3⟩ := (show ObjOk X.prog X.w H s.heap tp (.tup cs) from I.hok tp _ hT)
    have e3 := ClsV.all k rv
    subst e3
    obtain ⟨oc, od2, dt, sl⟩ := o
    simp only at h2 h3
    subst h2 h3
    exact PySem.W.kia_tup Z I.kIn J h1 e (fun z => nomatch z) fun tk => ⟨.bl b, H, I.tok tk, rfl, q⟩
/-! ### is None, isinstance of built-in types -/
def rIs0 : R2 := fun x y H Q => y = .non ∧ Q (.bl (decide (x = .non))) H
def rIsNot0 : R2 := fun x y H Q => y = .non ∧ Q (.bl (!decide (x = .non))) H
section
variable {X : Cx}
theorem op_is0 : OpR X (compareOp .Is) rIs0 := op_isN
theorem op_isnot0 : OpR X (compareOp .IsNot) rIsNot0 := op_notN
end
section
variable {K : PySem.W.Frag} {H : Hp} {Q : VK} {x c : V}
theorem go_isY (q : Q (.bl true) H) : rIs0 .non .non H Q := ⟨rfl, q⟩
theorem go_isN (h : x ≠ .non) (q : Q (.bl false) H) : rIs0 x .non H Q := ⟨rfl, by rw [decide_eq_false h]; exact q⟩
theorem go_isnotN (q : Q (.bl false) H) : rIsNot0 .non .non H Q := ⟨rfl, q⟩
theorem go_isnotY (h : x ≠ .non) (q : Q (.bl true) H) : rIsNot0 x .non H Q := ⟨rfl, by rw [decide_eq_false h]; exact q⟩
/-- the built-in type of a value -/
inductive Bt (K : PySem.W.Frag) (H : Hp) : V → String → Prop where
  | non : Bt K H .non "NoneType"
  | bl (b : Bool) : Bt K H (.bl b) "bool"
  | int (i : Int) : Bt K H (.int i) "int"
  | str (s : Str) : Bt K H (.str s) "str"
  | lst {a : Addr} {xs : List V} (h : SqL K H a xs) : Bt K H (.ref a) "list"
  | tup {a : Addr} {xs : List V} (h : SqT K H a xs) : Bt K H (.ref a) "tuple"
  | dic {a : Addr} {kvs : List (Key × V)} (h : H a = some (.dK kvs)) : Bt K H (.ref a) "dict"
theorem Bt.tyX {T : String} (h : Bt K H x T) : TyX K H x (.type T) := by
  cases h with
  | non => exact .base .non
  | bl b => exact .base (.bl b)
  | int i => exact .base (.int i)
  | str s => exact .base (.str s)
  | lst h =>
    rcases h with (h | ⟨o, h⟩) | ⟨o, its, n, h, c, _⟩
    · exact .base (.lst h)
    · exact .base (.frz h)
    · exact .kList h c
  | tup h =>
    rcases h with (h | ⟨o, h⟩) | ⟨o, its, n, h, c, _⟩
    · exact .base (.tup h)
    · exact .fTuple h
    · exact .kTuple h c
  | dic h => exact .base (.dK h)
theorem go_isi {T U : String} {b : Bool} (ty : Bt K H x T) (e : kitB T U = some b) (q : Q (.bl b) H) : rIsi K [x, .ty U] H Q :=
  ⟨x, .ty U, .type T, .type U, b, rfl, .ty U, ty.tyX, kit_ty e, q⟩
theorem go_isi2 {T U U' : String} {b b' c : Bool} {p : Addr} (ty : Bt K H x T) (hp : H p = some (.tup [.ty U, .ty U'])) (e : kitB T U = some b) (e' : kitB T U' = some b') (ec : (b || b') = c) (q : Q (.bl c) H) : rIsiT K [x, .ref p] H Q := by
  subst ec
  refine ⟨x, p, _, .type T, [.type U, .type U'], (b || b'), rfl, hp, .cons (.ty U) (.cons (.ty U') .nil), ty.tyX, kitAny_cons (kit_ty e) (fun hb => ?_) (fun hb => by rw [hb]; rfl), q⟩
  refine kitAny_cons (kit_ty e') (fun hb' => ?_) (fun hb' => by rw [hb']; cases b <;> rfl)
  rw [hb, hb']
  exact kitAny_nil
end
/-- texts of a menu -/
def textsB (n : Nat) (xs : List V) : Bool := xs.all fun v => match v with
  | .str x => decide (x.length ≤ n)
  | _ => false
theorem texts_ok {n : Nat} {xs : List V} {v : V} (h : textsB n xs = true) (hv : v ∈ xs) : IsText 0 n v := by
  have q := List.all_eq_true.mp h v hv
  cases v with
  | str x => exact ⟨x, rfl, Nat.zero_le _, of_decide_eq_true q⟩
  | _ => exact nomatch q
theorem one_sign {z : Str} {v : V} (h : ∃ ch, ch ∈ z.cps.toList ∧ v = .str ⟨#[ch]⟩) : IsText 1 1 v := by
  obtain ⟨ch, _, e⟩ := h
  exact ⟨_, e, Nat.le_refl _, Nat.le_refl _⟩
section
variable {K : PySem.W.Frag} {H : Hp} {Q : VK} {a D C : Addr} {cls : Value} {d : Option Addr} {b : Bool}
theorem go_isx1 {C : Addr} (x : ExcC K D) (z : XAt cls d D H) (e : PySem.W.kitOne K (.ref D) (.ref C) = some b) (q : Q (.bl b) H) : rIsX K a cls d [.ref a, .ref C] H Q := ⟨D, x, z, .inl ⟨.ref C, _, b, rfl, .own C, e, q⟩⟩
theorem go_isxT {T : String} (x : ExcC K D) (z : XAt cls d D H) (e : PySem.W.kitOne K (.ref D) (.type T) = some b) (q : Q (.bl b) H) : rIsX K a cls d [.ref a, .ty T] H Q := ⟨D, x, z, .inl ⟨.ty T, _, b, rfl, .ty T, e, q⟩⟩
theorem clsV_refs : ∀ Cs : List Addr, Paired ClsV (Cs.map V.ref) (Cs.map Value.ref)
  | [] => .nil
  | C :: r => .cons (.own C) (clsV_refs r)
theorem go_isxL {tp : Addr} {Cs : List Addr} (x : ExcC K D) (e : PySem.W.kitAny K (.ref D) (Cs.map Value.ref) = some b) (z : XAt cls d D H) (ht : H tp = some (.tup (Cs.map V.ref))) (q : Q (.bl b) H) : rIsX K a cls d [.ref a, .ref tp] H Q :=
  ⟨D, x, z, .inr ⟨tp, _, _, b, rfl, ht, clsV_refs Cs, e, q⟩⟩
end
section
variable {X : Cx} {CX : CXT} {k : Nat} {f : Addr} {fd : FuncData} {ps ks : List Str} {sp : Sp} {E : XK} {x : Str} {p pos : Pos} {kws : List Keyword} {tk : TA} {g : List Value → List Value → List Value} {gV : List V → List V → List V}
/-- f(k = v, ..): keywords alone -/
theorem pe_callN0 (F : FnOk X.prog X.w X.K X.mg X.base CX k f fd ps sp) (hr : Room k X.A) (hg : Gl X x) (hm : X.mg x = some (.ref f)) (hk : PySem.W.keepIn X.K (.ref f) = true) (hb : KBn X.K fd ps 0 ks g gV) (hx : Passes CX X E) (hkw : PK X kws tk)
    (hall : (backToKw pos (keywordEach kws X.env)).all (·.1.isSome) = true := by rfl) (hks : (backToKw pos (keywordEach kws X.env)).filterMap (·.1) = ks := by rfl) (hdb : (x == ("__debug__" : Str)) = false := by decide)
    (hpl : ((backTo pos (starEach [] X.env)).any (·.1) || (backToKw pos (keywordEach kws X.env)).any (·.1.isNone)) = false := by rfl) : PE X (.Call (.Name x p) [] kws pos) (tCallN 0 ks.length sp gV E tNil tk) := by
  refine ⟨fun pins s σ H Q I h => ?_⟩
  refine wpAny_Call_Name_kw (ld_glob I hg hm ?_ hdb)
  refine PySem.W.callWith_KW0 (h₀ := X.base) I.ok.mod.kin hk hall (thn (hkw.run pos pins s σ H _ I h) fun ws s2 ⟨zs, H2, I2, rz, l1, l2, q2⟩ => ⟨I2.kIn, ?_⟩) hpl
  rw [hks]
  exact run_fnN (us := []) (vs := []) F hr hb hx I2 .nil rz rfl l2 q2
end
end Q
/-! what the top has written, asked of the part K as Bools -/
namespace Q
open PySem PySem.Spec PyProof.Rows L2
/-! ### the Hook: the facts and defs of He, one Bool more -/
def obsQ (n : Nat) (fa : List He.Fa) (fn : List He.DefD) (ex : PySem.W.Frag → Bool) (g : Addr → Option Obj) : He.AlD × Bool := (He.obsD fa fn (He.frG g (He.asD g n)), ex (He.frG g (He.asD g n)))
structure SaysQ (fa : List He.Fa) (fn : List He.DefD) (ex : PySem.W.Frag → Bool) (K : PySem.W.Frag) : Prop where
  d : He.SaysD fa fn K
  x : ex K = true
def hookQ (n : Nat) (fa : List He.Fa) (fn : List He.DefD) (ex : PySem.W.Frag → Bool) : PySem.W.Hook where
  α := He.AlD × Bool
  obs := fun s => obsQ n fa fn ex s.heap.get?
  val := fun _ => (He.valD fn, true)
  says := fun _ h => ∃ K : PySem.W.Frag, K.In h ∧ SaysQ fa fn ex K
  of := fun _ _ e => ⟨_, He.frG_in, ⟨congrArg Prod.fst e, congrArg Prod.snd e⟩⟩
  keeps := fun _ _ _ ⟨K, hK, c⟩ k => ⟨K, PySem.W.Frag.In.keeps hK k, c⟩
theorem obsQ_eq {n : Nat} {fa : List He.Fa} {fn : List He.DefD} {ex : PySem.W.Frag → Bool} {g : Addr → Option Obj} {s : Shared} (h : ∀ a, g a = s.heap.get? a) : obsQ n fa fn ex g = (hookQ n fa fn ex).obs s := by
  have e : g = s.heap.get? := funext h
  rw [e]
  rfl
/-! ### exception classes -/
abbrev gA (K : PySem.W.Frag) (x : Str) : Addr := He.ga K x
/-- the class object: own classes, then ValueError's -/
def oexB (K : PySem.W.Frag) (C : Addr) : Bool := match K.lookup C with
  | some ⟨.type t, _, .cls cd, sl⟩ => (match cd.mro, sl.toList with
    | .ref C' :: bm, [_, _, _, _, some (.builtin n), _] => t == "type" && (C' == C && (n == "ValueError.__new__" && (!cd.hasDel && (cd.hasDict && PySem.HandSPX.refsVE bm))))
    | _, _ => false)
  | _ => false
def fnd (K : PySem.W.Frag) (C : Addr) (x : Str) (v : Option Value) : Bool := decide (PySem.W.findIn K (.ref C) x = some v)
/-- all that is asked of an exception class (with its own __init__ or without) -/
def xcB (K : PySem.W.Frag) (C : Addr) : Bool := oexB K C && (fnd K C "__setattr__" (some (.builtin "object.__setattr__")) && (decide (PySem.W.subIn K (.ref C) (.type "BaseException") = some true) && (decide (PySem.W.typeIn K (.ref C) = some (.type "type")) && (PySem.W.keepIn K (.ref C) &&
  (fnd K C "__getattribute__" (some (.builtin "BaseException.__getattribute__")) && (fnd K C "__getattr__" none && (PySem.W.hasDictIn K C && (fnd K C "__class__" (some (.builtin "object.__class__")) &&
  (decide (PySem.W.specialIn K (.builtin "object.__class__") "__get__" = some (some (.builtin "getset_descriptor.__get__"))) && (decide (PySem.W.takesIn K (.builtin "object.__class__") = some true) && (decide (PySem.W.mroIn K C (.type "object") = some true) &&
  decide (PySem.W.exmOne K (.ref C) (.ref C) = some true))))))))))))
structure XC (K : PySem.W.Frag) (C : Addr) : Prop where
  oex : OexC K C
  xf : XfC K C
  isx : ExcC K C
  te : PySem.W.exmOne K (.ref C) (.ref C) = some true
theorem oexB_ok {K : PySem.W.Frag} {C : Addr} (h : oexB K C = true) : ∃ nm q N bs bm sn sub ab col dd k0 k1 k2 k3 k5, K.lookup C = some (excClassObj nm q C N bs bm true sn sub ab col dd k0 k1 k2 k3 k5 "ValueError.__new__") ∧ PySem.HandSPX.refsVE bm = true := by
  unfold oexB at h
  split at h
  · rename_i t dd cd sl ho
    split at h
    · rename_i C' bm k0 k1 k2 k3 n k5 hm hs
      obtain ⟨h0, h⟩ := He.ba h
      obtain ⟨h1, h⟩ := He.ba h
      obtain ⟨h2, h⟩ := He.ba h
      obtain ⟨h3, h⟩ := He.ba h
      obtain ⟨h4, h5⟩ := He.ba h
      obtain ⟨nm, bs, mro, ns, qn, hd, sn, sub, ab, col, del⟩ := cd
      have e0 : t = "type" := beq_iff_eq.mp h0
      have e1 : C' = C := beq_iff_eq.mp h1
      have e2 : n = "ValueError.__new__" := beq_iff_eq.mp h2
      have e3 : del = false := by
        cases del with
        | false => rfl
        | true => exact nomatch h3
      have e4 : hd = true := h4
      dsimp only at hm
      have hsl : sl = #[k0, k1, k2, k3, some (.builtin n), k5] := by
        obtain ⟨l⟩ := sl
        have q : l = [k0, k1, k2, k3, some (.builtin n), k5] := hs
        rw [q]
      rw [hm, hsl, e0, e1, e2, e3, e4] at ho
      exact ⟨nm, qn, ns, bs, bm, sn, sub, ab, col, dd, k0, k1, k2, k3, k5, ho, h5⟩
    · exact nomatch h
  · exact nomatch h
theorem xcB_ok {K : PySem.W.Frag} {C : Addr} (h : xcB K C = true) : XC K C := by
  obtain ⟨h0, h⟩ := He.ba h
  obtain ⟨h1, h⟩ := He.ba h
  obtain ⟨h2, h⟩ := He.ba h
  obtain ⟨h3, h⟩ := He.ba h
  obtain ⟨h4, h⟩ := He.ba h
  obtain ⟨h5, h⟩ := He.ba h
  obtain ⟨h6, h⟩ := He.ba h
  obtain ⟨h7, h⟩ := He.ba h
  obtain ⟨h8, h⟩ := He.ba h
  obtain ⟨h9, h⟩ := He.ba h
  obtain ⟨h10, h⟩ := He.ba h
  obtain ⟨h11, h12⟩ := He.ba h
  have g1 := of_decide_eq_true h1
  have g2 := of_decide_eq_true h2
  have g5 := of_decide_eq_true h5
  have g6 := of_decide_eq_true h6
  exact ⟨⟨oexB_ok h0, g1, g2, of_decide_eq_true h3, h4⟩, ⟨g5, g6, g2, h7⟩, ⟨g5, g6, g2, h7, of_decide_eq_true h8, of_decide_eq_true h9, of_decide_eq_true h10, of_decide_eq_true h11⟩, of_decide_eq_true h12⟩
/-- its __init__ is a def of the text; the names are no attributes of the class -/
def xinB (K : PySem.W.Frag) (C : Addr) (fs : List Str) : Bool := fnd K C "__init__" (some (.ref (He.ma K C "__init__"))) && (decide (PySem.W.typeIn K (.ref (He.ma K C "__init__")) = some (.type "function")) && fs.all fun f => fnd K C f none)
structure XIn (K : PySem.W.Frag) (C : Addr) (fs : List Str) : Prop where
  ini : PySem.W.findIn K (.ref C) "__init__" = some (some (.ref (He.ma K C "__init__")))
  ty : PySem.W.typeIn K (.ref (He.ma K C "__init__")) = some (.type "function")
  no : ∀ f ∈ fs, PySem.W.findIn K (.ref C) f = some none
theorem xinB_ok {K : PySem.W.Frag} {C : Addr} {fs : List Str} (h : xinB K C fs = true) : XIn K C fs := by
  obtain ⟨h1, h⟩ := He.ba h
  obtain ⟨h2, h3⟩ := He.ba h
  exact ⟨of_decide_eq_true h1, of_decide_eq_true h2, fun f hf => of_decide_eq_true (List.all_eq_true.mp h3 f hf)⟩
/-- isinstance of an exception of x against several classes, one class; a clause -/
def kinB (K : PySem.W.Frag) (x : Str) (ys : List Str) (b : Bool) : Bool := decide (PySem.W.kitAny K (.ref (gA K x)) (ys.map fun y => .ref (gA K y)) = some b)
def kin1B (K : PySem.W.Frag) (x y : Str) (b : Bool) : Bool := decide (PySem.W.kitOne K (.ref (gA K x)) (.ref (gA K y)) = some b)
def kinTB (K : PySem.W.Frag) (x : Str) (T : String) (b : Bool) : Bool := decide (PySem.W.kitOne K (.ref (gA K x)) (.type T) = some b)
def exmB (K : PySem.W.Frag) (x y : Str) (b : Bool) : Bool := decide (PySem.W.exmOne K (.ref (gA K x)) (.ref (gA K y)) = some b)
/-! ### an exception's __init__ -/
/-- self.f = y, of a new exception -/
def pInit1 (K : PySem.W.Frag) (C : Addr) (f : Str) : P2 := fun v0 v1 H Q _ => ∃ a : Addr, v0 = .ref a ∧ H a = some (exo a C none) ∧ ∀ dx, H dx = none → dx ≠ a → Q .non (upd (upd H dx (exd dx [(f, v1)])) a (exo a C (some dx)))
def pInit2 (K : PySem.W.Frag) (C : Addr) (f g : Str) : P3 := fun v0 v1 v2 H Q _ => ∃ a : Addr, v0 = .ref a ∧ H a = some (exo a C none) ∧ ∀ dx, H dx = none → dx ≠ a → Q .non (upd (upd (upd H dx (exd dx [(f, v1)])) a (exo a C (some dx))) dx (exd dx [(g, v2), (f, v1)]))
def pInit3 (K : PySem.W.Frag) (C : Addr) (f g k : Str) : P4 := fun v0 v1 v2 v3 H Q _ => ∃ a : Addr, v0 = .ref a ∧ H a = some (exo a C none) ∧ ∀ dx, H dx = none → dx ≠ a →
  Q .non (upd (upd (upd (upd H dx (exd dx [(f, v1)])) a (exo a C (some dx))) dx (exd dx [(g, v2), (f, v1)])) dx (exd dx [(k, v3), (g, v2), (f, v1)]))
section
variable {K : PySem.W.Frag} {C : Addr} {f g k : Str} {σ : L2.St} {H : Hp} {R : XK} {te : TE} {ta : TA}
theorem go_ost {to te : TE} {D : Ends} (h : te σ H fun y H1 => to σ H1 fun x H2 => ∃ a C : Addr, x = .ref a ∧ OexC K C ∧ PySem.W.findIn K (.ref C) f = some none ∧
  ((H2 a = some (exo a C none) ∧ ∀ dx, H2 dx = none → dx ≠ a → D.nx σ (upd (upd H2 dx (exd dx [(f, y)])) a (exo a C (some dx)))) ∨
    ∃ (dx : Addr) (fs : List (Str × V)), H2 a = some (exo a C (some dx)) ∧ H2 dx = some (exd dx fs) ∧ fs.length ≤ 900 ∧ D.nx σ (upd H2 dx (exd dx ((f, y) :: fs))))) : tOst K f to te D σ H := h
theorem xo_eq {H1 : Hp} {a dx : Addr} {u o z : HO} (ha : H1 a = none) (hd : dx ≠ a) : upd (del (upd (upd (upd H1 a u) dx o) a z) a) dx o = upd H1 dx o := by
  funext b
  by_cases h1 : b = dx
  · rw [h1, upd_same, upd_same]
  · rw [upd_ne h1, upd_ne h1]
    by_cases h2 : b = a
    · rw [h2, del_same, ha]
    · rw [del_ne h2, upd_ne h2, upd_ne h1, upd_ne h2]
/-- C(e, ..), its __init__ keeping sp: behind the arguments -/
def mkO (C : Addr) (sp : Sp) (R : XK) : List V → Hp → Prop := fun vs H1 => vs.length ≤ 1000 ∧ ∀ a, H1 a = none → sp (.ref a :: (vs ++ [])) (upd H1 a (exo a C none))
  (fun v H2 => v = .non ∧ ∃ (d : Addr) (fs : List (Str × V)), H2 a = some (exo a C (some d)) ∧ H2 d = some (exd d fs) ∧ H1 d = none ∧ R (.ref C) (some d) (upd (del H2 a) d (.xd fs))) (fun _ _ _ => False)
theorem go_mkO {sp : Sp} (h : ta σ H (mkO C sp R)) : tMkO C sp [] ta σ H R := h
/-- raise C(v): what is wished at the error's new dict -/
theorem mk1 {v : V} (h : ∀ d, H d = none → R (.ref C) (some d) (upd H d (.xd [(f, v)]))) : mkO C (Sp2 (pInit1 K C f)) R [v] H := by
  refine ⟨by show 1 ≤ 1000; decide, fun a ha => ⟨.ref a, v, rfl, a, rfl, upd_same, fun dx hdx hne => ?_⟩⟩
  have hd1 : H dx = none := by
    rw [upd_ne hne] at hdx
    exact hdx
  refine ⟨rfl, dx, [(f, v)], upd_same, by rw [upd_ne hne, upd_same], hd1, ?_⟩
  have e : upd (del (upd (upd (upd H a (exo a C none)) dx (exd dx [(f, v)])) a (exo a C (some dx))) a) dx (.xd [(f, v)]) = upd H dx (.xd [(f, v)]) := by
    funext b
    by_cases h1 : b = dx
    · rw [h1, upd_same, upd_same]
    · rw [upd_ne h1, upd_ne h1]
      by_cases h2 : b = a
      · rw [h2, del_same, ha]
      · rw [del_ne h2, upd_ne h2, upd_ne h1, upd_ne h2]
  rw [e]
  exact h dx hd1
theorem mk2 {v w : V} (h : ∀ d, H d = none → R (.ref C) (some d) (upd H d (.xd [(g, w), (f, v)]))) : mkO C (Sp3 (pInit2 K C f g)) R [v, w] H := by
  refine ⟨by show 2 ≤ 1000; decide, fun a ha => ⟨.ref a, v, w, rfl, a, rfl, upd_same, fun dx hdx hne => ?_⟩⟩
  have hd1 : H dx = none := by
    rw [upd_ne hne] at hdx
    exact hdx
  refine ⟨rfl, dx, [(g, w), (f, v)], by rw [upd_ne (Ne.symm hne), upd_same], upd_same, hd1, ?_⟩
  have e : upd (del (upd (upd (upd (upd H a (exo a C none)) dx (exd dx [(f, v)])) a (exo a C (some dx))) dx (exd dx [(g, w), (f, v)])) a) dx (.xd [(g, w), (f, v)]) = upd H dx (.xd [(g, w), (f, v)]) := by
    funext b
    by_cases h1 : b = dx
    · rw [h1, upd_same, upd_same]
    · rw [upd_ne h1, upd_ne h1]
      by_cases h2 : b = a
      · rw [h2, del_same, ha]
      · rw [del_ne h2, upd_ne h1, upd_ne h2, upd_ne h1, upd_ne h2]
  rw [e]
  exact h dx hd1
theorem mk3 {v w x : V} (h : ∀ d, H d = none → R (.ref C) (some d) (upd H d (.xd [(k, x), (g, w), (f, v)]))) : mkO C (Sp4 (pInit3 K C f g k)) R [v, w, x] H := by
  refine ⟨by show 3 ≤ 1000; decide, fun a ha => ⟨.ref a, v, w, x, rfl, a, rfl, upd_same, fun dx hdx hne => ?_⟩⟩
  have hd1 : H dx = none := by
    rw [upd_ne hne] at hdx
    exact hdx
  refine ⟨rfl, dx, [(k, x), (g, w), (f, v)], by rw [upd_ne (Ne.symm hne), upd_ne (Ne.symm hne), upd_same], upd_same, hd1, ?_⟩
  have e : upd (del (upd (upd (upd (upd (upd H a (exo a C none)) dx (exd dx [(f, v)])) a (exo a C (some dx))) dx (exd dx [(g, w), (f, v)])) dx (exd dx [(k, x), (g, w), (f, v)])) a) dx (.xd [(k, x), (g, w), (f, v)]) = upd H dx (.xd [(k, x), (g, w), (f, v)]) := by
    funext b
    by_cases h1 : b = dx
    · rw [h1, upd_same, upd_same]
    · rw [upd_ne h1, upd_ne h1]
      by_cases h2 : b = a
      · rw [h2, del_same, ha]
      · rw [del_ne h2, upd_ne h1, upd_ne h1, upd_ne h2, upd_ne h1, upd_ne h2]
  rw [e]
  exact h dx hd1
end
end Q
/-! words that many of the laws share -/
namespace Q
open PySem L2
/-- the names of point 2 -/
def letS : Str := Str.ofString "abcdefghijklmnopqrstuvwxyz"
def signS : Str := Str.ofString "abcdefghijklmnopqrstuvwxyz0123456789"
def isNm (x : Str) : Bool := match x.cps.toList with
  | [] => false
  | c :: r => decide (r.length + 1 ≤ 8) && (decide (c ∈ letS.cps.toList) && (c :: r).all fun c => decide (c ∈ signS.cps.toList))
theorem nm_short {x : Str} (h : x.length < 1) : isNm x = false := by
  have e : x.cps.toList = [] := List.eq_nil_of_length_eq_zero (by simp only [Array.length_toList]; unfold Str.length at h; omega)
  unfold isNm
  rw [e]
theorem nm_long {x : Str} (h : (8 : Int) < x.length) : isNm x = false := by
  have e : x.cps.toList.length = x.length := by simp [Str.length]
  unfold isNm
  cases q : x.cps.toList with
  | nil => rfl
  | cons c r =>
    rw [q] at e
    show (decide (r.length + 1 ≤ 8) && _) = false
    rw [decide_eq_false (by simp only [List.length_cons] at e; omega)]
    rfl
theorem nm_head {x : Str} {c : Nat} (h : atI x.cps.toList 0 = some c) (hc : ¬ c ∈ letS.cps.toList) : isNm x = false := by
  unfold isNm
  cases q : x.cps.toList with
  | nil => rfl
  | cons c' r =>
    rw [q] at h
    have e : c' = c := by
      have h2 : atI (c' :: r) 0 = some c' := atI_of (by decide) rfl
      rw [h2] at h
      exact Option.some.inj h
    show (decide (r.length + 1 ≤ 8) && (decide (c' ∈ letS.cps.toList) && _)) = false
    rw [e, decide_eq_false hc, Bool.false_and, Bool.and_false]
theorem nm_sign {x : Str} {i c : Nat} (h : x.cps.toList[i]? = some c) (hc : ¬ c ∈ signS.cps.toList) : isNm x = false := by
  unfold isNm
  cases q : x.cps.toList with
  | nil => rfl
  | cons c' r =>
    rw [q] at h
    have e : ((c' :: r).all fun c => decide (c ∈ signS.cps.toList)) = false := by
      rw [List.all_eq_false]
      exact ⟨c, List.mem_of_getElem? h, by rw [decide_eq_false hc]; decide⟩
    show (decide (r.length + 1 ≤ 8) && (decide (c' ∈ letS.cps.toList) && _)) = false
    rw [e, Bool.and_false, Bool.and_false]
theorem nm_yes {x : Str} (h1 : ¬ (x.length : Int) < 1) (h2 : ¬ (8 : Int) < x.length) (h3 : ∀ c, atI x.cps.toList 0 = some c → c ∈ letS.cps.toList) (h4 : ∀ (i c : Nat), x.cps.toList[i]? = some c → c ∈ signS.cps.toList) : isNm x = true := by
  have e : x.cps.toList.length = x.length := by simp [Str.length]
  unfold isNm
  cases q : x.cps.toList with
  | nil =>
    rw [q] at e
    exact absurd e.symm (by simp only [List.length_nil]; omega)
  | cons c r =>
    rw [q] at e h3 h4
    have a1 : decide (r.length + 1 ≤ 8) = true := decide_eq_true (by simp only [List.length_cons] at e; omega)
    have a2 : decide (c ∈ letS.cps.toList) = true := decide_eq_true (h3 c (atI_of (by decide) rfl))
    have a3 : ((c :: r).all fun c => decide (c ∈ signS.cps.toList)) = true := List.all_eq_true.mpr fun d hd => by
      obtain ⟨i, hi⟩ := List.mem_iff_getElem?.mp hd
      exact decide_eq_true (h4 i d hi)
    show (decide (r.length + 1 ≤ 8) && (decide (c ∈ letS.cps.toList) && _)) = true
    rw [a1, a2, a3]
    rfl
def pIsName : P1 := fun v0 H Q _ => ∃ x : Str, v0 = .str x ∧ x.length ≤ 100000 ∧ Q (.bl (isNm x)) H
/-! ### comprehensions -/
def LcIt (J : It) (g : TG) (tt : TT) (te : TE) (vs : List Nat) (σ : L2.St) (Q : VK) (H1 : Hp) : Prop := ∀ D, H1 D = none → ∃ W : Nat → Nat → Hp → Prop, (∃ m, W 0 m (upd H1 D (.lst []))) ∧ ∀ i m H, W i m H →
  (J.stop i H ∧ Q (.ref D) H) ∨ (J.go i H ∧ ∃ Nx : Hp → Prop, (∀ H', Nx H' → ∃ m', m' < m ∧ W (i + 1) m' H') ∧ ∀ x H', J.yld i H x H' → g x (wipe σ vs) H' fun σ2 H2 => wipe σ2 vs = wipe σ vs ∧ tt σ2 H2 fun b H3 =>
    if b = true then te σ2 H3 fun y H4 => ∃ acc, H4 D = some (.lst acc) ∧ acc.length < sizeLine ∧ Nx (upd H4 D (.lst (acc ++ [y]))) else Nx H3)
/-- the item goes behind what the new list at D holds -/
def lcApp (D : Addr) (N : Hp → Prop) : VK := fun y H => ∃ acc, H D = some (.lst acc) ∧ acc.length < sizeLine ∧ N (upd H D (.lst (acc ++ [y])))
def lcTest (te : TE) (D : Addr) (N : Hp → Prop) (σ : L2.St) : Bool → Hp → Prop := fun b H => if b = true then te σ H (lcApp D N) else N H
section
variable {K : PySem.W.Frag} {σ : L2.St} {H : Hp} {g : TG} {tt : TT} {te : TE} {wi : TI} {vs : List Nat} {Q : VK} {a D : Addr} {xs : List V}
theorem go_lc (h : wi σ H fun J H1 => LcIt J g tt te vs σ Q H1) : tLc wi g tt te vs σ H Q := h
theorem go_yes {R : Bool → Hp → Prop} (h : R true H) : tYes σ H R := h
theorem go_lct {N : Hp → Prop} (h : te σ H (lcApp D N)) : lcTest te D N σ true H := h
theorem go_lcf {N : Hp → Prop} (h : N H) : lcTest te D N σ false H := by
  unfold lcTest
  rw [if_neg Bool.false_ne_true]
  exact h
theorem go_lca {y : V} {N : Hp → Prop} {acc : List V} (h : H D = some (.lst acc)) (l : acc.length < sizeLine) (n : N (upd H D (.lst (acc ++ [y])))) : lcApp D N y H := ⟨acc, h, l, n⟩
theorem lc_r {j : Int} (hj : -(2 ^ 62) ≤ j ∧ j < 2 ^ 62) (k : ∀ D, H D = none → ∃ Pv : Nat → Hp → Prop, Pv 0 (upd H D (.lst [])) ∧
    (∀ (i : Nat) (H' : Hp), (i : Int) < j → Pv i H' → g (.int (i : Int)) (wipe σ vs) H' fun σ2 H2 => wipe σ2 vs = wipe σ vs ∧ tt σ2 H2 (lcTest te D (Pv (i + 1)) σ2)) ∧ (∀ H', Pv j.toNat H' → Q (.ref D) H')) : iR1 (fun J H1 => LcIt J g tt te vs σ Q H1) [.int j] H := by
  refine ⟨j, rfl, hj.1, hj.2, fun D hD => ?_⟩
  obtain ⟨Pv, h0, hs, hd⟩ := k D hD
  refine lc_range (lo := 0) (n := j.toNat) Pv h0 (fun i H' hi p => ?_) hd
  have e : (0 : Int) + (i : Int) = (i : Int) := Int.zero_add _
  rw [e]
  exact hs i H' (by omega) p
theorem lc_r2 {l j : Int} (hj : -(2 ^ 62) ≤ l ∧ l < 2 ^ 62 ∧ -(2 ^ 62) ≤ j ∧ j < 2 ^ 62) (k : ∀ D, H D = none → ∃ Pv : Nat → Hp → Prop, Pv 0 (upd H D (.lst [])) ∧
    (∀ (i : Nat) (H' : Hp), l + (i : Int) < j → Pv i H' → g (.int (l + (i : Int))) (wipe σ vs) H' fun σ2 H2 => wipe σ2 vs = wipe σ vs ∧ tt σ2 H2 (lcTest te D (Pv (i + 1)) σ2)) ∧ (∀ H', Pv (j - l).toNat H' → Q (.ref D) H')) : iR2 (fun J H1 => LcIt J g tt te vs σ Q H1) [.int l, .int j] H := by
  refine ⟨l, j, rfl, hj, fun D hD => ?_⟩
  obtain ⟨Pv, h0, hs, hd⟩ := k D hD
  exact lc_range (lo := l) (n := (j - l).toNat) Pv h0 (fun i H' hi p => hs i H' (by omega) p) hd
theorem lc_l (h : SqL K H a xs) (k : ∀ D, H D = none → ∃ Pv : Nat → Hp → Prop, Pv 0 (upd H D (.lst [])) ∧ (∀ i H', i ≤ xs.length → Pv i H' → SqL K H' a xs) ∧
    (∀ (i : Nat) x (H' : Hp), xs[i]? = some x → Pv i H' → g x (wipe σ vs) H' fun σ2 H2 => wipe σ2 vs = wipe σ vs ∧ tt σ2 H2 (lcTest te D (Pv (i + 1)) σ2)) ∧ (∀ H', Pv xs.length H' → Q (.ref D) H')) : iL K (fun J H1 => LcIt J g tt te vs σ Q H1) (.ref a) H := by
  refine ⟨a, rfl, ⟨xs, h⟩, fun D hD => ?_⟩
  obtain ⟨Pv, h0, hl, hs, hd⟩ := k D hD
  exact lc_list (K := K) (a := a) (xs := xs) Pv h0 hl hs hd
end
/-! ### two things alike, n deep -/
inductive Eqv (K : PySem.W.Frag) (H : Hp) : Nat → V → V → Prop where
  | non {n : Nat} : Eqv K H n .non .non
  | bl {n : Nat} (b : Bool) : Eqv K H n (.bl b) (.bl b)
  | int {n : Nat} (i : Int) : Eqv K H n (.int i) (.int i)
  | str {n : Nat} (s : Str) : Eqv K H n (.str s) (.str s)
  | lst {n : Nat} {a b : Addr} {xs ys : List V} (ha : SqL K H a xs) (hb : SqL K H b ys) (e : xs.length = ys.length) (l : xs.length ≤ 100000) (h : ∀ (i : Nat) (x y : V), xs[i]? = some x → ys[i]? = some y → Eqv K H n x y) : Eqv K H (n + 1) (.ref a) (.ref b)
  | tup {n : Nat} {a b : Addr} {xs ys : List V} (ha : SqT K H a xs) (hb : SqT K H b ys) (e : xs.length = ys.length) (l : xs.length ≤ 100000) (h : ∀ (i : Nat) (x y : V), xs[i]? = some x → ys[i]? = some y → Eqv K H n x y) : Eqv K H (n + 1) (.ref a) (.ref b)
abbrev No : Addr → Prop := fun _ => False
theorem Eqv.keep {K : PySem.W.Frag} {H H' : Hp} (d : Dx No H H') {n : Nat} {x y : V} (h : Eqv K H n x y) : Eqv K H' n x y := by
  induction h with
  | non => exact .non
  | bl b => exact .bl b
  | int i => exact .int i
  | str s => exact .str s
  | lst ha hb e l _ ih => exact .lst (d.sqL id ha) (d.sqL id hb) e l ih
  | tup ha hb e l _ ih => exact .tup (d.sqT id ha) (d.sqT id hb) e l ih
def flatE : V → Bool
  | .non => true
  | .bl _ => true
  | .int _ => true
  | .str _ => true
  | _ => false
theorem flatE_eqv {K : PySem.W.Frag} {H : Hp} {n : Nat} {v : V} (h : flatE v = true) : Eqv K H n v v := by
  cases v with
  | non => exact .non
  | bl b => exact .bl b
  | int i => exact .int i
  | str s => exact .str s
  | _ => exact nomatch h
/-- two tuples of the same flat things -/
theorem eqv_tup {K : PySem.W.Frag} {H : Hp} {n : Nat} {a b : Addr} {xs : List V} (ha : SqT K H a xs) (hb : SqT K H b xs) (hx : xs.all flatE = true) (l : xs.length ≤ 100000) : Eqv K H (n + 1) (.ref a) (.ref b) :=
  .tup ha hb rfl l fun i x y e1 e2 => by
    rw [e1] at e2
    have e3 : x = y := Option.some.inj e2
    rw [← e3]
    exact flatE_eqv (List.all_eq_true.mp hx x (List.mem_of_getElem? e1))
theorem eqv_lst {K : PySem.W.Frag} {H : Hp} {n : Nat} {a b : Addr} {xs : List V} (ha : SqL K H a xs) (hb : SqL K H b xs) (hx : xs.all flatE = true) (l : xs.length ≤ 100000) : Eqv K H (n + 1) (.ref a) (.ref b) :=
  .lst ha hb rfl l fun i x y e1 e2 => by
    rw [e1] at e2
    have e3 : x = y := Option.some.inj e2
    rw [← e3]
    exact flatE_eqv (List.all_eq_true.mp hx x (List.mem_of_getElem? e1))
/-- list(reversed(x)) -/
def lrQ (K : PySem.W.Frag) (Q : VK) : VK := fun v H1 => ∃ (a : Addr) (xs : List V), v = .ref a ∧ SqL K H1 a xs ∧ ∀ q, H1 q = none → Q (.ref q) (upd H1 q (.lst xs.reverse))
theorem go_lrev {K : PySem.W.Frag} {te : TE} {σ : L2.St} {H : Hp} {Q : VK} (h : te σ H (lrQ K Q)) : tListRev K te σ H Q := h
theorem go_lrq {K : PySem.W.Frag} {H : Hp} {Q : VK} {a : Addr} {xs : List V} (h : SqL K H a xs) (q : ∀ p, H p = none → Q (.ref p) (upd H p (.lst xs.reverse))) : lrQ K Q (.ref a) H := ⟨a, xs, rfl, h, q⟩
theorem sqt_new {K : PySem.W.Frag} {H : Hp} {a p : Addr} {xs : List V} {o : HO} (h : SqT K H a xs) (hp : H p = none) : SqT K (upd H p o) a xs := (Dx.new (M := No) hp).sqT id h
theorem sql_new {K : PySem.W.Frag} {H : Hp} {a p : Addr} {xs : List V} {o : HO} (h : SqL K H a xs) (hp : H p = none) : SqL K (upd H p o) a xs := (Dx.new (M := No) hp).sqL id h
def pMatch (K : PySem.W.Frag) (n : Nat) : P3 := fun v0 v1 v2 H Q _ => ∃ st : Bool, v2 = .bl st ∧ Eqv K H n v0 v1 ∧ ∀ H', Dx No H H' → Q (.bl true) H'
def pSame (K : PySem.W.Frag) (n : Nat) : P2 := fun v0 v1 H Q _ => Eqv K H n v0 v1 ∧ ∀ H', Dx No H H' → Q (.bl true) H'
/-- the law's own promise -/
def pLaw (K : PySem.W.Frag) : P1 := fun v0 H Q _ => ∃ (a : Addr) (ns : List Int), v0 = .ref a ∧ SqL K H a (ns.map V.int) ∧ ns.length ≤ 63 ∧ ∀ H', Q (.bl true) H'
/-! ### the caught exception -/
section
variable {K : PySem.W.Frag} {H : Hp} {Q : VK} {a C dd : Addr} {f : Str} {te : TE} {σ : L2.St} {cls : Value} {d : Option Addr} {v : V} {fs : List (Str × V)}
def xfQ (a : Addr) (cls : Value) (d : Option Addr) (C : Addr) (f : Str) (Q : VK) : VK := fun x H1 => x = .ref a ∧ cls = .ref C ∧ ∃ (dd : Addr) (fs : List (Str × V)) (v : V), d = some dd ∧ H1 dd = some (.xd fs) ∧ fs.lookup f = some v ∧ Q v H1
theorem go_xf (h : te σ H (xfQ a cls d C f Q)) : tXf a cls d C f te σ H Q := h
theorem go_xfq (h : H dd = some (.xd fs)) (l : fs.lookup f = some v) (q : Q v H) : xfQ a (.ref C) (some dd) C f Q (.ref a) H := ⟨rfl, rfl, dd, fs, v, rfl, h, l, q⟩
theorem go_callS {sp : Sp} {E : L2.St → XK} {t : TA} (h : t σ H fun vs H1 => sp vs H1 Q (E σ)) : tCallS sp E t σ H Q := h
def kwQ (n m : Nat) (sp : Sp) (gV : List V → List V → List V) (E : XK) (Q : VK) (vs : List V) : List V → Hp → Prop := fun zs H2 => vs.length = n ∧ zs.length = m ∧ sp (gV vs zs) H2 Q E
theorem go_callN {n m : Nat} {sp : Sp} {gV : List V → List V → List V} {E : XK} {t tk : TA} (h : t σ H fun vs H1 => tk σ H1 (kwQ n m sp gV E Q vs)) : tCallN n m sp gV E t tk σ H Q := h
theorem go_kwq {m : Nat} {sp : Sp} {E : XK} {zs : List V} (l : zs.length = m) (h : sp zs H Q E) : kwQ 0 m sp (fun _ zs => zs) E Q [] zs H := ⟨rfl, l, h⟩
end
end Q
open PySem L2 Q
local macro_rules | `(tactic| walk_at "sz") => `(tactic| first
  | exact size_ok (by omega)
  | exact size_ok (by simp only [length_append, len_one]; omega)
  | decide +kernel)
local macro_rules | `(tactic| walk_at "go1") => `(tactic| first
  | with_reducible refine go_seq ?_
  | with_reducible refine go_asg ?_
  | ((with_reducible refine go_name ?_); try dsimp only [List.set_cons_zero, List.set_cons_succ])
  | ((with_reducible apply go_var); exact rfl)
  | with_reducible refine go_c ?_
  | with_reducible refine go_op ?_
  | with_reducible refine go_cb ?_
  | with_reducible refine go_cons ?_
  | with_reducible refine go_nil ?_
  | with_reducible refine go_nx ?_
  | with_reducible refine go_rt ?_
  | with_reducible refine go_next ?_
  | with_reducible refine go_if ?_
  | with_reducible refine go_ret ?_
  | with_reducible refine go_test ?_
  | with_reducible refine go_tB ?_
  | with_reducible refine go_and ?_
  | with_reducible refine go_or ?_
  | with_reducible refine go_not ?_
  | with_reducible refine go_ex ?_
  | with_reducible refine go_t ?_
  | with_reducible refine go_f ?_
  | with_reducible refine go_nt ?_
  | with_reducible refine go_nf ?_
  | with_reducible refine go_call ?_
  | with_reducible refine go_sp1 ?_
  | with_reducible refine go_sp2 ?_
  | with_reducible refine go_sp3 ?_
  | with_reducible refine go_sp4 ?_
  | with_reducible refine go_sp5 ?_
  | with_reducible refine go_un ?_
  | with_reducible refine go_sub ?_
  | with_reducible refine go_drop ?_
  | with_reducible refine go_addI ?_
  | with_reducible refine go_sub0 ?_
  | ((with_reducible refine go_mod0 ?_ ?_); (first | omega | decide))
  | with_reducible refine go_neg0 ?_
  | with_reducible refine go_ltI ?_
  | with_reducible refine go_ltS ?_
  | with_reducible refine go_gt0 ?_
  | with_reducible refine go_le0 ?_
  | with_reducible refine go_ge0 ?_
  | with_reducible refine go_eqI ?_
  | with_reducible refine go_eqS ?_
  | with_reducible refine go_eqB ?_
  | with_reducible refine go_neI ?_
  | with_reducible refine go_neS ?_
  | with_reducible refine go_neB ?_
  | with_reducible refine go_inS ?_
  | with_reducible refine go_niS ?_
  | with_reducible refine go_int0 ?_
  | with_reducible refine go_max0 ?_
  | with_reducible refine go_min0 ?_
  | with_reducible refine go_andV ?_
  | with_reducible refine go_orV ?_
  | with_reducible refine go_notV ?_
  | with_reducible refine go_ifE ?_
  | with_reducible refine go_retN ?_
  | with_reducible refine go_lst ?_
  | with_reducible refine go_tup ?_
  | with_reducible refine go_brk ?_
  | with_reducible refine go_cont ?_
  | with_reducible refine go_for ?_
  | with_reducible refine go_iL ?_
  | with_reducible refine go_iT ?_
  | with_reducible refine go_iS ?_
  | with_reducible refine go_iR1 ?_
  | with_reducible refine go_iR2 ?_
  | with_reducible refine go_sl ?_
  | with_reducible refine go_part ?_
  | with_reducible refine go_nopart ?_
  | with_reducible refine go_exi ?_
  | with_reducible refine go_bm ?_
  | with_reducible refine go_lc ?_
  | with_reducible refine go_lrev ?_
  | with_reducible refine go_yes ?_
  | with_reducible refine go_lct ?_
  | with_reducible refine go_lcf ?_
  | with_reducible refine go_callS ?_
  | with_reducible refine go_callN ?_
  | with_reducible refine go_kwq rfl ?_
  | with_reducible refine go_xf ?_
  | with_reducible refine go_isY ?_
  | ((with_reducible refine go_isN ?_ ?_); exact (fun z => nomatch z))
  | with_reducible refine go_isnotN ?_
  | ((with_reducible refine go_isnotY ?_ ?_); exact (fun z => nomatch z))
  | ((with_reducible refine go_slS ?_ ?_); walk_at "sz")
  | ((with_reducible refine go_lenS ?_ ?_); walk_at "sz")
  | ((with_reducible refine go_addS ?_ ?_); walk_at "sz")
  | (with_reducible refine go_bk ?_)
  | (with_reducible refine go_ct ?_))
local macro_rules | `(tactic| walk_at "go") => `(tactic| repeat walk_at "go1")
local macro_rules | `(tactic| walk_at "bt") => `(tactic| first | exact Bt.bl _ | exact Bt.int _ | exact Bt.str _ | exact Bt.non | exact Bt.lst (by assumption) | exact Bt.tup (by assumption) | exact Bt.lst (SqL.of (by assumption)) | exact Bt.tup (SqT.of (by assumption)) | exact Bt.dic (by assumption))
local macro_rules | `(tactic| walk_at "isi") => `(tactic| first
  | ((with_reducible apply go_isi (b := true)); walk_at "bt"; decide +kernel)
  | ((with_reducible apply go_isi (b := false)); walk_at "bt"; decide +kernel))
local macro_rules | `(tactic| walk_at "gi") => `(tactic| repeat (first | walk_at "go1" | walk_at "isi"))
/-! the text by places -/
namespace Q
open PySem L2
def top (i : Nat) : Stmt := PySem.Challenge.pw_outshiners_k00_names_told.main.body.getD i (.Pass ⟨0, 0, 0, 0⟩)
abbrev s__law_store : Stmt := top 30
abbrev s__law_stir : Stmt := top 31
abbrev s__law_take : Stmt := top 32
abbrev s__law_pick : Stmt := top 33
abbrev s__law_name : Stmt := top 34
abbrev s__law_bad_name : Stmt := top 35
abbrev s__law_sign : Stmt := top 36
abbrev s__law_text : Stmt := top 37
abbrev s__law_near_name : Stmt := top 38
abbrev s__law_word : Stmt := top 43
abbrev s__law_is_name : Stmt := top 39
abbrev s_is_name : Stmt := top 27
abbrev s_check_name : Stmt := top 28
abbrev s__law_match : Stmt := top 40
abbrev s__law_same : Stmt := top 42
abbrev s__law_checked : Stmt := top 44
abbrev s_law : Stmt := top 45
abbrev s_BadName_init : Stmt := inClass (top 2) 0
/-- what the top has written -/
structure Txt (K : PySem.W.Frag) (mg : Str → Option Value) : Prop where
  f__law_store : Raw K mg "_law_store" s__law_store [] []
  f__law_stir : Raw K mg "_law_stir" s__law_stir [] []
  f__law_take : Raw K mg "_law_take" s__law_take [] []
  f__law_pick : Raw K mg "_law_pick" s__law_pick [] []
  f__law_name : Raw K mg "_law_name" s__law_name [] []
  f__law_bad_name : Raw K mg "_law_bad_name" s__law_bad_name [] []
  f__law_sign : Raw K mg "_law_sign" s__law_sign [] []
  f__law_text : Raw K mg "_law_text" s__law_text [] []
  f__law_near_name : Raw K mg "_law_near_name" s__law_near_name [] []
  f__law_word : Raw K mg "_law_word" s__law_word [] []
  f__law_is_name : Raw K mg "_law_is_name" s__law_is_name [] []
  f_is_name : Raw K mg "is_name" s_is_name [] []
  f_check_name : Raw K mg "check_name" s_check_name [] []
  f__law_match : Raw K mg "_law_match" s__law_match [] []
  f__law_same : Raw K mg "_law_same" s__law_same [] []
  f__law_checked : Raw K mg "_law_checked" s__law_checked [] []
  f_law : Raw K mg "law" s_law [] []
  fi_BadName : ∃ fd, FunD K "__init__" "BadName.__init__" (defArgs s_BadName_init) (defBody s_BadName_init) (defScope s_BadName_init) [] [] (He.ma K (gA K "BadName") "__init__") fd
  i_BadName : XIn K (gA K "BadName") ["name"]
  g_BadName : mg "BadName" = some (.ref (gA K "BadName"))
  x_BadName : XC K (gA K "BadName")
  g_OutshinerError : mg "OutshinerError" = some (.ref (gA K "OutshinerError"))
  g_BadNumber : mg "BadNumber" = some (.ref (gA K "BadNumber"))
  g_BadSpan : mg "BadSpan" = some (.ref (gA K "BadSpan"))
  g_Doubled : mg "Doubled" = some (.ref (gA K "Doubled"))
  g_SelfBond : mg "SelfBond" = some (.ref (gA K "SelfBond"))
  g_Unknown : mg "Unknown" = some (.ref (gA K "Unknown"))
  g_Missing : mg "Missing" = some (.ref (gA K "Missing"))
  g_BadStretch : mg "BadStretch" = some (.ref (gA K "BadStretch"))
  g_WebsDiffer : mg "WebsDiffer" = some (.ref (gA K "WebsDiffer"))
  g_BordersDiffer : mg "BordersDiffer" = some (.ref (gA K "BordersDiffer"))
  g_OutOfRange : mg "OutOfRange" = some (.ref (gA K "OutOfRange"))
  g_TooLarge : mg "TooLarge" = some (.ref (gA K "TooLarge"))
  g_BadText : mg "BadText" = some (.ref (gA K "BadText"))
  g_BadErrand : mg "BadErrand" = some (.ref (gA K "BadErrand"))
  g_BadRow : mg "BadRow" = some (.ref (gA K "BadRow"))
  g_Refused : mg "Refused" = some (.ref (gA K "Refused"))
  g_Broken : mg "Broken" = some (.ref (gA K "Broken"))
  g_NotComing : mg "NotComing" = some (.ref (gA K "NotComing"))
  g_Ungranted : mg "Ungranted" = some (.ref (gA K "Ungranted"))
  g_Halted : mg "Halted" = some (.ref (gA K "Halted"))
  g_Empty : mg "Empty" = some (.ref (gA K "Empty"))
  c_LETTERS : ∃ t, mg "LETTERS" = some (.str letS t)
  c_SIGNS : ∃ t, mg "SIGNS" = some (.str signS t)
  c_LONGEST_NAME : ∃ t, mg "LONGEST_NAME" = some (.int 8 t)
  b_list : mg "list" = none
  b_int : mg "int" = none
  b_max : mg "max" = none
  b_len : mg "len" = none
  b_range : mg "range" = none
  b_isinstance : mg "isinstance" = none
  b_reversed : mg "reversed" = none
  b_bool : mg "bool" = none
  b_str : mg "str" = none
  b_tuple : mg "tuple" = none
  b_dict : mg "dict" = none
  b_ValueError : mg "ValueError" = none
  k_base : PySem.W.kitOne K (.ref (gA K "BadName")) (.ref (gA K "OutshinerError")) = some true
  k_val : PySem.W.kitOne K (.ref (gA K "BadName")) (.type "ValueError") = some true
  k_t1 : PySem.W.kitAny K (.ref (gA K "BadName")) ([gA K "BadNumber", gA K "BadSpan", gA K "Doubled", gA K "SelfBond", gA K "Unknown", gA K "Missing", gA K "BadStretch", gA K "WebsDiffer"].map Value.ref) = some false
  k_t2 : PySem.W.kitAny K (.ref (gA K "BadName")) ([gA K "BordersDiffer", gA K "OutOfRange", gA K "TooLarge", gA K "BadText", gA K "BadErrand", gA K "BadRow", gA K "Refused", gA K "Broken"].map Value.ref) = some false
  k_t3 : PySem.W.kitAny K (.ref (gA K "BadName")) ([gA K "NotComing", gA K "Ungranted", gA K "Halted", gA K "Empty"].map Value.ref) = some false
def fa : List He.Fa := [.glo "_law_store", .glo "_law_stir", .glo "_law_take", .glo "_law_pick", .glo "_law_name", .glo "_law_bad_name", .glo "_law_sign", .glo "_law_text", .glo "_law_near_name", .glo "_law_word", .glo "_law_is_name", .glo "is_name", .glo "check_name", .glo "_law_match", .glo "_law_same", .glo "_law_checked", .glo "law", .glo "BadName", .glo "OutshinerError", .glo "BadNumber", .glo "BadSpan", .glo "Doubled", .glo "SelfBond", .glo "Unknown", .glo "Missing", .glo "BadStretch", .glo "WebsDiffer", .glo "BordersDiffer", .glo "OutOfRange", .glo "TooLarge", .glo "BadText", .glo "BadErrand", .glo "BadRow", .glo "Refused", .glo "Broken", .glo "NotComing", .glo "Ungranted", .glo "Halted", .glo "Empty", .str "LETTERS" letS, .str "SIGNS" signS, .int "LONGEST_NAME" 8, .free "list", .free "int", .free "max", .free "len", .free "range", .free "isinstance", .free "reversed", .free "bool", .free "str", .free "tuple", .free "dict", .free "ValueError"]
def dd0 : He.DefD := ⟨("_law_store", none), "_law_store", "_law_store", defArgs s__law_store, defBody s__law_store, defScope s__law_store, [], []⟩
def dd1 : He.DefD := ⟨("_law_stir", none), "_law_stir", "_law_stir", defArgs s__law_stir, defBody s__law_stir, defScope s__law_stir, [], []⟩
def dd2 : He.DefD := ⟨("_law_take", none), "_law_take", "_law_take", defArgs s__law_take, defBody s__law_take, defScope s__law_take, [], []⟩
def dd3 : He.DefD := ⟨("_law_pick", none), "_law_pick", "_law_pick", defArgs s__law_pick, defBody s__law_pick, defScope s__law_pick, [], []⟩
def dd4 : He.DefD := ⟨("_law_name", none), "_law_name", "_law_name", defArgs s__law_name, defBody s__law_name, defScope s__law_name, [], []⟩
def dd5 : He.DefD := ⟨("_law_bad_name", none), "_law_bad_name", "_law_bad_name", defArgs s__law_bad_name, defBody s__law_bad_name, defScope s__law_bad_name, [], []⟩
def dd6 : He.DefD := ⟨("_law_sign", none), "_law_sign", "_law_sign", defArgs s__law_sign, defBody s__law_sign, defScope s__law_sign, [], []⟩
def dd7 : He.DefD := ⟨("_law_text", none), "_law_text", "_law_text", defArgs s__law_text, defBody s__law_text, defScope s__law_text, [], []⟩
def dd8 : He.DefD := ⟨("_law_near_name", none), "_law_near_name", "_law_near_name", defArgs s__law_near_name, defBody s__law_near_name, defScope s__law_near_name, [], []⟩
def dd9 : He.DefD := ⟨("_law_word", none), "_law_word", "_law_word", defArgs s__law_word, defBody s__law_word, defScope s__law_word, [], []⟩
def dd10 : He.DefD := ⟨("_law_is_name", none), "_law_is_name", "_law_is_name", defArgs s__law_is_name, defBody s__law_is_name, defScope s__law_is_name, [], []⟩
def dd11 : He.DefD := ⟨("is_name", none), "is_name", "is_name", defArgs s_is_name, defBody s_is_name, defScope s_is_name, [], []⟩
def dd12 : He.DefD := ⟨("check_name", none), "check_name", "check_name", defArgs s_check_name, defBody s_check_name, defScope s_check_name, [], []⟩
def dd13 : He.DefD := ⟨("_law_match", none), "_law_match", "_law_match", defArgs s__law_match, defBody s__law_match, defScope s__law_match, [], []⟩
def dd14 : He.DefD := ⟨("_law_same", none), "_law_same", "_law_same", defArgs s__law_same, defBody s__law_same, defScope s__law_same, [], []⟩
def dd15 : He.DefD := ⟨("_law_checked", none), "_law_checked", "_law_checked", defArgs s__law_checked, defBody s__law_checked, defScope s__law_checked, [], []⟩
def dd16 : He.DefD := ⟨("law", none), "law", "law", defArgs s_law, defBody s_law, defScope s_law, [], []⟩
def dd17 : He.DefD := ⟨("BadName", some "__init__"), "__init__", "BadName.__init__", defArgs s_BadName_init, defBody s_BadName_init, defScope s_BadName_init, [], []⟩
def fn : List He.DefD := [dd0, dd1, dd2, dd3, dd4, dd5, dd6, dd7, dd8, dd9, dd10, dd11, dd12, dd13, dd14, dd15, dd16, dd17]
def exL (K : PySem.W.Frag) : List Bool := [xinB K (gA K "BadName") ["name"], xcB K (gA K "BadName"), decide (PySem.W.kitOne K (.ref (gA K "BadName")) (.ref (gA K "OutshinerError")) = some true), decide (PySem.W.kitOne K (.ref (gA K "BadName")) (.type "ValueError") = some true), decide (PySem.W.kitAny K (.ref (gA K "BadName")) ([gA K "BadNumber", gA K "BadSpan", gA K "Doubled", gA K "SelfBond", gA K "Unknown", gA K "Missing", gA K "BadStretch", gA K "WebsDiffer"].map Value.ref) = some false), decide (PySem.W.kitAny K (.ref (gA K "BadName")) ([gA K "BordersDiffer", gA K "OutOfRange", gA K "TooLarge", gA K "BadText", gA K "BadErrand", gA K "BadRow", gA K "Refused", gA K "Broken"].map Value.ref) = some false), decide (PySem.W.kitAny K (.ref (gA K "BadName")) ([gA K "NotComing", gA K "Ungranted", gA K "Halted", gA K "Empty"].map Value.ref) = some false)]
def exB (K : PySem.W.Frag) : Bool := (exL K).all id
theorem exB_at {K : PySem.W.Frag} (h : exB K = true) (i : Nat) {b : Bool} (e : (exL K)[i]? = some b) : b = true := List.all_eq_true.mp h b (List.mem_of_getElem? e)
theorem txt_of {K : PySem.W.Frag} {h : Heap} {mg : Str → Option Value} (X : K.In h) (G : h.Ns mainGlobals mg) (c : SaysQ fa fn exB K) : Txt K mg where
  f__law_store := by
    obtain ⟨fd, F⟩ := c.d.def_ 0 rfl
    exact ⟨⟨_, fd, He.glo_ok X G (c.d.fact 0 (f := .glo "_law_store") rfl), F⟩⟩
  f__law_stir := by
    obtain ⟨fd, F⟩ := c.d.def_ 1 rfl
    exact ⟨⟨_, fd, He.glo_ok X G (c.d.fact 1 (f := .glo "_law_stir") rfl), F⟩⟩
  f__law_take := by
    obtain ⟨fd, F⟩ := c.d.def_ 2 rfl
    exact ⟨⟨_, fd, He.glo_ok X G (c.d.fact 2 (f := .glo "_law_take") rfl), F⟩⟩
  f__law_pick := by
    obtain ⟨fd, F⟩ := c.d.def_ 3 rfl
    exact ⟨⟨_, fd, He.glo_ok X G (c.d.fact 3 (f := .glo "_law_pick") rfl), F⟩⟩
  f__law_name := by
    obtain ⟨fd, F⟩ := c.d.def_ 4 rfl
    exact ⟨⟨_, fd, He.glo_ok X G (c.d.fact 4 (f := .glo "_law_name") rfl), F⟩⟩
  f__law_bad_name := by
    obtain ⟨fd, F⟩ := c.d.def_ 5 rfl
    exact ⟨⟨_, fd, He.glo_ok X G (c.d.fact 5 (f := .glo "_law_bad_name") rfl), F⟩⟩
  f__law_sign := by
    obtain ⟨fd, F⟩ := c.d.def_ 6 rfl
    exact ⟨⟨_, fd, He.glo_ok X G (c.d.fact 6 (f := .glo "_law_sign") rfl), F⟩⟩
  f__law_text := by
    obtain ⟨fd, F⟩ := c.d.def_ 7 rfl
    exact ⟨⟨_, fd, He.glo_ok X G (c.d.fact 7 (f := .glo "_law_text") rfl), F⟩⟩
  f__law_near_name := by
    obtain ⟨fd, F⟩ := c.d.def_ 8 rfl
    exact ⟨⟨_, fd, He.glo_ok X G (c.d.fact 8 (f := .glo "_law_near_name") rfl), F⟩⟩
  f__law_word := by
    obtain ⟨fd, F⟩ := c.d.def_ 9 rfl
    exact ⟨⟨_, fd, He.glo_ok X G (c.d.fact 9 (f := .glo "_law_word") rfl), F⟩⟩
  f__law_is_name := by
    obtain ⟨fd, F⟩ := c.d.def_ 10 rfl
    exact ⟨⟨_, fd, He.glo_ok X G (c.d.fact 10 (f := .glo "_law_is_name") rfl), F⟩⟩
  f_is_name := by
    obtain ⟨fd, F⟩ := c.d.def_ 11 rfl
    exact ⟨⟨_, fd, He.glo_ok X G (c.d.fact 11 (f := .glo "is_name") rfl), F⟩⟩
  f_check_name := by
    obtain ⟨fd, F⟩ := c.d.def_ 12 rfl
    exact ⟨⟨_, fd, He.glo_ok X G (c.d.fact 12 (f := .glo "check_name") rfl), F⟩⟩
  f__law_match := by
    obtain ⟨fd, F⟩ := c.d.def_ 13 rfl
    exact ⟨⟨_, fd, He.glo_ok X G (c.d.fact 13 (f := .glo "_law_match") rfl), F⟩⟩
  f__law_same := by
    obtain ⟨fd, F⟩ := c.d.def_ 14 rfl
    exact ⟨⟨_, fd, He.glo_ok X G (c.d.fact 14 (f := .glo "_law_same") rfl), F⟩⟩
  f__law_checked := by
    obtain ⟨fd, F⟩ := c.d.def_ 15 rfl
    exact ⟨⟨_, fd, He.glo_ok X G (c.d.fact 15 (f := .glo "_law_checked") rfl), F⟩⟩
  f_law := by
    obtain ⟨fd, F⟩ := c.d.def_ 16 rfl
    exact ⟨⟨_, fd, He.glo_ok X G (c.d.fact 16 (f := .glo "law") rfl), F⟩⟩
  fi_BadName := c.d.def_ 17 rfl
  i_BadName := xinB_ok (exB_at c.x 0 rfl)
  g_BadName := He.glo_ok X G (c.d.fact 17 (f := .glo "BadName") rfl)
  x_BadName := xcB_ok (exB_at c.x 1 rfl)
  g_OutshinerError := He.glo_ok X G (c.d.fact 18 (f := .glo "OutshinerError") rfl)
  g_BadNumber := He.glo_ok X G (c.d.fact 19 (f := .glo "BadNumber") rfl)
  g_BadSpan := He.glo_ok X G (c.d.fact 20 (f := .glo "BadSpan") rfl)
  g_Doubled := He.glo_ok X G (c.d.fact 21 (f := .glo "Doubled") rfl)
  g_SelfBond := He.glo_ok X G (c.d.fact 22 (f := .glo "SelfBond") rfl)
  g_Unknown := He.glo_ok X G (c.d.fact 23 (f := .glo "Unknown") rfl)
  g_Missing := He.glo_ok X G (c.d.fact 24 (f := .glo "Missing") rfl)
  g_BadStretch := He.glo_ok X G (c.d.fact 25 (f := .glo "BadStretch") rfl)
  g_WebsDiffer := He.glo_ok X G (c.d.fact 26 (f := .glo "WebsDiffer") rfl)
  g_BordersDiffer := He.glo_ok X G (c.d.fact 27 (f := .glo "BordersDiffer") rfl)
  g_OutOfRange := He.glo_ok X G (c.d.fact 28 (f := .glo "OutOfRange") rfl)
  g_TooLarge := He.glo_ok X G (c.d.fact 29 (f := .glo "TooLarge") rfl)
  g_BadText := He.glo_ok X G (c.d.fact 30 (f := .glo "BadText") rfl)
  g_BadErrand := He.glo_ok X G (c.d.fact 31 (f := .glo "BadErrand") rfl)
  g_BadRow := He.glo_ok X G (c.d.fact 32 (f := .glo "BadRow") rfl)
  g_Refused := He.glo_ok X G (c.d.fact 33 (f := .glo "Refused") rfl)
  g_Broken := He.glo_ok X G (c.d.fact 34 (f := .glo "Broken") rfl)
  g_NotComing := He.glo_ok X G (c.d.fact 35 (f := .glo "NotComing") rfl)
  g_Ungranted := He.glo_ok X G (c.d.fact 36 (f := .glo "Ungranted") rfl)
  g_Halted := He.glo_ok X G (c.d.fact 37 (f := .glo "Halted") rfl)
  g_Empty := He.glo_ok X G (c.d.fact 38 (f := .glo "Empty") rfl)
  c_LETTERS := He.str_ok X G (c.d.fact 39 (f := .str "LETTERS" letS) rfl)
  c_SIGNS := He.str_ok X G (c.d.fact 40 (f := .str "SIGNS" signS) rfl)
  c_LONGEST_NAME := He.int_ok X G (c.d.fact 41 (f := .int "LONGEST_NAME" 8) rfl)
  b_list := He.free_ok X G (c.d.fact 42 (f := .free "list") rfl)
  b_int := He.free_ok X G (c.d.fact 43 (f := .free "int") rfl)
  b_max := He.free_ok X G (c.d.fact 44 (f := .free "max") rfl)
  b_len := He.free_ok X G (c.d.fact 45 (f := .free "len") rfl)
  b_range := He.free_ok X G (c.d.fact 46 (f := .free "range") rfl)
  b_isinstance := He.free_ok X G (c.d.fact 47 (f := .free "isinstance") rfl)
  b_reversed := He.free_ok X G (c.d.fact 48 (f := .free "reversed") rfl)
  b_bool := He.free_ok X G (c.d.fact 49 (f := .free "bool") rfl)
  b_str := He.free_ok X G (c.d.fact 50 (f := .free "str") rfl)
  b_tuple := He.free_ok X G (c.d.fact 51 (f := .free "tuple") rfl)
  b_dict := He.free_ok X G (c.d.fact 52 (f := .free "dict") rfl)
  b_ValueError := He.free_ok X G (c.d.fact 53 (f := .free "ValueError") rfl)
  k_base := of_decide_eq_true (exB_at c.x 2 rfl)
  k_val := of_decide_eq_true (exB_at c.x 3 rfl)
  k_t1 := of_decide_eq_true (exB_at c.x 4 rfl)
  k_t2 := of_decide_eq_true (exB_at c.x 5 rfl)
  k_t3 := of_decide_eq_true (exB_at c.x 6 rfl)
section
variable {P : Program} {w : World} {K : PySem.W.Frag} {mg : Str → Option Value} {base : Heap}
theorem sci_BadName : FnScope ["self", "name"] ["self", "name"] (defScope s_BadName_init) := ⟨rfl, rfl, rfl, by decide +kernel, rfl, by decide +kernel, by decide +kernel⟩
theorem Di_BadName (T : Txt K mg) : ∃ fd, Binds K fd ["self", "name"] [] ∧ FnOk P w K mg base CX0 1 (He.ma K (gA K "BadName") "__init__") fd ["self", "name"] (Sp2 (pInit1 K (gA K "BadName") "name")) := by
  obtain ⟨fd, F⟩ := T.fi_BadName
  refine ⟨fd, F.bindsN (ps := ["self", "name"]) (fun _ _ _ _ _ _ us hl => match us, hl with | [_, _], _ => rfl), ?_⟩
  refine F.ok (CX := CX0) sci_BadName len2 (fun cdv A outer s H vs Q E hr h => ?_)
  obtain ⟨v0, v1, rfl, a, rfl, ha, k⟩ := h
  refine ⟨_, PSs.nox (pss_one (ps_ost (pv 0) (pv 1))), ?_⟩
  refine ⟨_, rfl, _, rfl, a, _, rfl, T.x_BadName.oex, T.i_BadName.no "name" (by decide +kernel), .inl ⟨ha, fun dx hd hn => ?_⟩⟩
  exact k dx hd hn
end
end Q
namespace Q
section
variable {P : Program} {w : World} {K : PySem.W.Frag} {mg : Str → Option Value} {base : Heap}
abbrev N__law_store : List Str := ["_law_script"]
theorem sc__law_store : FnScope N__law_store ["_law_script"] (defScope s__law_store) := ⟨rfl, rfl, rfl, by decide +kernel, rfl, by decide +kernel, by decide +kernel⟩
/-- a new store over the script -/
def pStore (K : PySem.W.Frag) : P1 := fun v0 H Q _ => ∃ (a : Addr) (ns : List Int), v0 = .ref a ∧ SqL K H a (ns.map V.int) ∧
  ∀ (c : Addr) (H' : Hp), Dx (fun _ => False) H H' → H c = none → Ok (Only1 c) H' c → Q (.ref c) H'
set_option maxHeartbeats 4000000 in
theorem D_law_store  (T : Txt K mg) : Def P w K mg base CX0 (1) "_law_store" s__law_store ["_law_script"] (Sp1 (pStore K)) := by
  obtain ⟨f, fd, m, F⟩ := T.f__law_store.ex
  refine ⟨f, fd, m, F.kp, F.bindsN (ps := ["_law_script"]) (fun _ _ _ _ _ _ us hl => match us, hl with | [_], _ => rfl), ?_, F⟩
  refine F.ok (CX := CX0) sc__law_store len1 (fun cdv A outer s H vs Q E hr h => ?_)
  obtain ⟨v0, rfl, h⟩ := h
  refine ⟨_, PSs.nox (pss_one (ps_ret (pe_lst (pa_cons (pe_callTy call_list0 (by rfl) T.b_list (by decide +kernel) (pa_cons (pv 0) pa_nil)) (pa_cons pe_int (pa_cons pe_int (pa_cons pe_int (pa_cons pe_int (pa_cons pe_int (pa_cons pe_int pa_nil)))))))))), ?_⟩
  try dsimp only [cxOf, Cx.nox, Cx.wish]
  rw [show start N__law_store [v0] = [some v0] from rfl]
  obtain ⟨a, ns, rfl, hs, k⟩ := h
  walk_at "go"
  refine ⟨a, _, rfl, .inl hs, fun l hl => ?_⟩
  walk_at "go"
  refine ⟨by show 7 ≤ sizeLine; decide, fun p hp => ?_⟩
  walk_at "go"
  have hpl : p ≠ l := fun e => by
    rw [e, upd_same] at hp
    cases hp
  have hp0 : H p = none := by
    rw [upd_ne hpl] at hp
    exact hp
  refine k p _ ((Dx.new hl).trans (Dx.new hp)) hp0 ⟨rfl, fun x e => ?_, ⟨l, 0, 0, 0, 0, 1, 1, ns, upd_same, ?_, Ne.symm hpl, by decide, by decide, by decide⟩⟩
  · have e' : x = p := e
    rw [e', upd_same]
    exact fun z => by cases z
  · rw [upd_ne (Ne.symm hpl), upd_same]
abbrev N__law_stir : List Str := ["_law_store_here", "_law_cell", "_law_one", "_law_two"]
theorem sc__law_stir : FnScope N__law_stir ["_law_store_here", "_law_cell"] (defScope s__law_stir) := ⟨rfl, rfl, rfl, by decide +kernel, rfl, by decide +kernel, by decide +kernel⟩
/-- the two sums turn, the count grows -/
def pStir : P2 := fun v0 v1 H Q _ => ∃ (c p : Addr) (i rest left n a b cell : Int), v0 = .ref c ∧ v1 = .int cell ∧ H c = some (.lst (stL p i rest left n a b)) ∧ (0 ≤ a ∧ a < 2147483647) ∧ (0 ≤ b ∧ b < 2147483399) ∧
  ∀ (n' a' b' : Int) (H' : Hp), (0 ≤ a' ∧ a' < 2147483647) → (0 ≤ b' ∧ b' < 2147483399) → H' = upd H c (.lst (stL p i rest left n' a' b')) → Q .non H'
theorem mul_ok {i j : Int} (h : 0 ≤ i ∧ i < 4294967296) : CMul i j := .inl ⟨by omega, by omega⟩
set_option maxHeartbeats 4000000 in
theorem D_law_stir  (T : Txt K mg) : Def P w K mg base CX0 (1) "_law_stir" s__law_stir ["_law_store_here", "_law_cell"] (Sp2 pStir) := by
  obtain ⟨f, fd, m, F⟩ := T.f__law_stir.ex
  refine ⟨f, fd, m, F.kp, F.bindsN (ps := ["_law_store_here", "_law_cell"]) (fun _ _ _ _ _ _ us hl => match us, hl with | [_, _], _ => rfl), ?_, F⟩
  refine F.ok (CX := CX0) sc__law_stir len2 (fun cdv A outer s H vs Q E hr h => ?_)
  obtain ⟨v0, v1, rfl, h⟩ := h
  refine ⟨_, PSs.nox (pss_cons (ps_asg (pe_op op_addU (pe_callTy call_int0 (by rfl) T.b_int (by decide +kernel) (pa_cons (pe_ix ix_U (pv 0) pe_int (fun _ _ => rfl)) pa_nil)) pe_int) (pg_sub (pv 0) pe_int set_list))
      (pss_cons (ps_set (i := 2) sc__law_stir.nd rfl (Or.inl rfl) (pe_op op_addU (pe_op op_addU (pe_op op_mul0 (pe_callTy call_int0 (by rfl) T.b_int (by decide +kernel) (pa_cons (pe_ix ix_U (pv 0) pe_int (fun _ _ => rfl)) pa_nil)) pe_int) (pe_op op_mod0 (pe_callTy call_int0 (by rfl) T.b_int (by decide +kernel) (pa_cons (pv 1) pa_nil)) pe_int)) (pe_callTy call_int0 (by rfl) T.b_int (by decide +kernel) (pa_cons (pe_ix ix_U (pv 0) pe_int (fun _ _ => rfl)) pa_nil))))
      (pss_cons (ps_asg (pe_op op_mod0 (pe_callTy call_int0 (by rfl) T.b_int (by decide +kernel) (pa_cons (pv 2) pa_nil)) pe_int) (pg_sub (pv 0) pe_int set_list))
      (pss_cons (ps_set (i := 3) sc__law_stir.nd rfl (Or.inl rfl) (pe_op op_addU (pe_op op_addU (pe_op op_addU (pe_op op_mul0 (pe_callTy call_int0 (by rfl) T.b_int (by decide +kernel) (pa_cons (pe_ix ix_U (pv 0) pe_int (fun _ _ => rfl)) pa_nil)) pe_int) (pe_op op_mul0 (pe_callTy call_int0 (by rfl) T.b_int (by decide +kernel) (pa_cons (pe_ix ix_U (pv 0) pe_int (fun _ _ => rfl)) pa_nil)) pe_int)) (pe_op op_mod0 (pe_callTy call_int0 (by rfl) T.b_int (by decide +kernel) (pa_cons (pv 1) pa_nil)) pe_int)) (pe_callTy call_int0 (by rfl) T.b_int (by decide +kernel) (pa_cons (pe_ix ix_U (pv 0) pe_int (fun _ _ => rfl)) pa_nil))))
      (pss_one (ps_asg (pe_op op_mod0 (pe_callTy call_int0 (by rfl) T.b_int (by decide +kernel) (pa_cons (pv 3) pa_nil)) pe_int) (pg_sub (pv 0) pe_int set_list))))))), ?_⟩
  try dsimp only [cxOf, Cx.nox, Cx.wish]
  rw [show start N__law_stir [v0, v1] = [some v0, some v1, none, none] from rfl]
  obtain ⟨c, p, i, rest, left, n, a, b, cell, rfl, rfl, hc, ha, hb, k⟩ := h
  unfold stL at hc
  walk_at "go"
  refine go_ixL (SqL.of hc) (atI_nat (j := 4) rfl) ?_
  walk_at "go"
  refine go_setL hc (k := 4) (by rfl) ?_
  walk_at "go"
  refine go_ixL (SqL.of upd_same) (atI_nat (j := 5) rfl) ?_
  walk_at "go"
  refine go_mul0 (mul_ok (by omega)) ?_
  walk_at "go"
  refine go_ixL (SqL.of upd_same) (atI_nat (j := 4) rfl) ?_
  walk_at "go"
  refine go_setL upd_same (k := 5) (by rfl) ?_
  walk_at "go"
  refine go_ixL (SqL.of upd_same) (atI_nat (j := 6) rfl) ?_
  walk_at "go"
  refine go_mul0 (mul_ok (by omega)) ?_
  walk_at "go"
  refine go_ixL (SqL.of upd_same) (atI_nat (j := 5) rfl) ?_
  walk_at "go"
  refine go_mul0 (.inr (by decide)) ?_
  walk_at "go"
  refine go_ixL (SqL.of upd_same) (atI_nat (j := 4) rfl) ?_
  walk_at "go"
  refine go_setL upd_same (k := 6) (by rfl) ?_
  walk_at "go"
  rw [upd_upd, upd_upd]
  exact k _ _ _ _ ⟨Int.emod_nonneg _ (by decide), Int.emod_lt_of_pos _ (by decide)⟩ ⟨Int.emod_nonneg _ (by decide), Int.emod_lt_of_pos _ (by decide)⟩ rfl
abbrev N__law_take : List Str := ["_law_store_here", "_law_many", "_law_cells", "_law_cell", "_law_rest"]
theorem sc__law_take : FnScope N__law_take ["_law_store_here", "_law_many"] (defScope s__law_take) := ⟨rfl, rfl, rfl, by decide +kernel, rfl, by decide +kernel, by decide +kernel⟩
/-- a number below many (below 1 if many is less) -/
def pTake : P2 := fun v0 v1 H Q _ => ∃ (c : Addr) (M : Addr → Prop) (n : Int), v0 = .ref c ∧ v1 = .int n ∧ -1000000000000000000 ≤ n ∧ n ≤ 1000000000000000000 ∧ Ok M H c ∧
  ∀ (r : Int) (H' : Hp), 0 ≤ r → r < (if n > 1 then n else 1) → Dx (Only1 c) H H' → Ok M H' c → Q (.int r) H'
/-- the store behind a write -/
theorem Ok.set {M : Addr → Prop} {H H' : Hp} {c p : Addr} {i rest left n a b : Int} {cells : List Int} (k : Ok M H c) (hc : H' c = some (.lst (stL p i rest left n a b))) (hp : H p = some (.lst (cells.map V.int))) (hm : ¬ M p) (d : Dx (Only1 c) H H')
    (h1 : 0 ≤ i) (h2 : 0 ≤ a ∧ a < 2147483647) (h3 : 0 ≤ b ∧ b < 2147483399) : Ok M H' c :=
  ⟨k.inM, k.alive (k.sub d), ⟨p, i, rest, left, n, a, b, cells, hc, (k.sub d).st _ _ hm hp, hm, h1, h2, h3⟩⟩
theorem div_ok {i j : Int} (h0 : 0 < j) (h : j ≤ 1000000000000000000) : CDivW i j := wide_div h0 (b := 64) (by omega) (by decide) (by decide)
set_option maxHeartbeats 4000000 in
theorem D_law_take  (T : Txt K mg) : Def P w K mg base CX0 (2) "_law_take" s__law_take ["_law_store_here", "_law_many"] (Sp2 pTake) := by
  obtain ⟨f, fd, m, F⟩ := T.f__law_take.ex
  refine ⟨f, fd, m, F.kp, F.bindsN (ps := ["_law_store_here", "_law_many"]) (fun _ _ _ _ _ _ us hl => match us, hl with | [_, _], _ => rfl), ?_, F⟩
  obtain ⟨f_law_stir, fd_law_stir, m_law_stir, kp_law_stir, b_law_stir, G_law_stir, F_law_stir⟩ := (D_law_stir (P := P) (w := w) (base := base) T).ex
  refine F.ok (CX := CX0) sc__law_take len2 (fun cdv A outer s H vs Q E hr h => ?_)
  obtain ⟨v0, v1, rfl, h⟩ := h
  refine ⟨_, PSs.nox (pss_cons (ps_set (i := 1) sc__law_take.nd rfl (Or.inl rfl) (pe_callB (call_max0 rfl) (by rfl) T.b_max (by decide +kernel) (pa_cons pe_int (pa_cons (pe_callTy call_int0 (by rfl) T.b_int (by decide +kernel) (pa_cons (pv 1) pa_nil)) pa_nil))))
      (pss_cons (ps_set (i := 2) sc__law_take.nd rfl (Or.inl rfl) (pe_ix ix_U (pv 0) pe_int (fun _ _ => rfl)))
      (C8.pss_cut (ps_if (PW.pt (pw_and (pt_cmpR op_eq (pe_callTy call_int0 (by rfl) T.b_int (by decide +kernel) (pa_cons (pe_ix ix_U (pv 0) pe_int (fun _ _ => rfl)) pa_nil)) pe_int (nomark _)) (pw_and (pt_cmpR op_eq (pe_callTy call_int0 (by rfl) T.b_int (by decide +kernel) (pa_cons (pe_ix ix_U (pv 0) pe_int (fun _ _ => rfl)) pa_nil)) pe_int (nomark _)) (pw_and1 (pt_cmpR op_ltU (pe_callTy call_int0 (by rfl) T.b_int (by decide +kernel) (pa_cons (pe_ix ix_U (pv 0) pe_int (fun _ _ => rfl)) pa_nil)) (pe_callB call_lenU (by rfl) T.b_len (by decide +kernel) (pa_cons (pv 2) pa_nil)) (nomark _)))))) (pss_cons (ps_set (i := 3) sc__law_take.nd rfl (Or.inl rfl) (pe_callTy call_int0 (by rfl) T.b_int (by decide +kernel) (pa_cons (pe_ix ix_U (pv 2) (pe_callTy call_int0 (by rfl) T.b_int (by decide +kernel) (pa_cons (pe_ix ix_U (pv 0) pe_int (fun _ _ => rfl)) pa_nil)) (fun _ _ => rfl)) pa_nil)))
      (pss_cons (ps_asg (pe_op op_addU (pe_callTy call_int0 (by rfl) T.b_int (by decide +kernel) (pa_cons (pe_ix ix_U (pv 0) pe_int (fun _ _ => rfl)) pa_nil)) pe_int) (pg_sub (pv 0) pe_int set_list))
      (pss_cons (ps_asg pe_int (pg_sub (pv 0) pe_int set_list))
      (pss_cons (ps_expr (pe_call G_law_stir (hr.mono (by first | decide | omega)) (by rfl) m_law_stir kp_law_stir b_law_stir .nil pass0 (pa_cons (pv 0) (pa_cons (pv 3) pa_nil))))
      (pss_one (ps_if (pt_cmpR op_ge0 (pv 3) (pe_op op_pow0 pe_int pe_int) (nomark _)) (pss_cons (ps_asg (pv 3) (pg_sub (pv 0) pe_int set_list))
      (pss_one (ps_asg pe_int (pg_sub (pv 0) pe_int set_list)))) pss_nil)))))) pss_nil)
      (pss_cons (ps_set (i := 4) sc__law_take.nd rfl (Or.inl rfl) (pe_callTy call_int0 (by rfl) T.b_int (by decide +kernel) (pa_cons (pe_ix ix_U (pv 0) pe_int (fun _ _ => rfl)) pa_nil)))
      (pss_cons (ps_if (pt_cmpR op_gt0 (pv 4) pe_int (nomark _)) (pss_cons (ps_asg (pe_op op_div0 (pv 4) (pv 1)) (pg_sub (pv 0) pe_int set_list))
      (pss_one (ps_ret (pe_op op_mod0 (pe_callTy call_int0 (by rfl) T.b_int (by decide +kernel) (pa_cons (pv 4) pa_nil)) (pv 1))))) pss_nil)
      (pss_cons (ps_expr (pe_call G_law_stir (hr.mono (by first | decide | omega)) (by rfl) m_law_stir kp_law_stir b_law_stir .nil pass0 (pa_cons (pv 0) (pa_cons pe_int pa_nil))))
      (pss_cons (ps_asg (pe_callB (call_max0 rfl) (by rfl) T.b_max (by decide +kernel) (pa_cons pe_int (pa_cons (pe_op op_sub0 (pe_callTy call_int0 (by rfl) T.b_int (by decide +kernel) (pa_cons (pe_ix ix_U (pv 0) pe_int (fun _ _ => rfl)) pa_nil)) pe_int) pa_nil))) (pg_sub (pv 0) pe_int set_list))
      (pss_one (ps_ret (pe_op op_mod0 (pe_callTy call_int0 (by rfl) T.b_int (by decide +kernel) (pa_cons (pe_op op_addU (pe_op op_mul0 (pe_callTy call_int0 (by rfl) T.b_int (by decide +kernel) (pa_cons (pe_ix ix_U (pv 0) pe_int (fun _ _ => rfl)) pa_nil)) pe_int) (pe_callTy call_int0 (by rfl) T.b_int (by decide +kernel) (pa_cons (pe_ix ix_U (pv 0) pe_int (fun _ _ => rfl)) pa_nil))) pa_nil)) (pv 1))))))))))), ?_⟩
  try dsimp only [cxOf, Cx.nox, Cx.wish]
  rw [show start N__law_take [v0, v1] = [some v0, some v1, none, none, none] from rfl]
  obtain ⟨c, M, n, rfl, rfl, hn0, hn1, ok, k⟩ := h
  obtain ⟨p, i, rest, left, cnt, a, b, cells, hc, hp, hpm, hi, ha, hb⟩ := ok.st.ex
  have hpc : p ≠ c := fun e => hpm (by rw [e]; exact ok.inM)
  unfold stL at hc
  walk_at "go"
  generalize hm : (if n > 1 then n else 1) = m at k ⊢
  have hm0 : 0 < m := by
    rw [← hm]
    split <;> omega
  have hm1 : m ≤ 1000000000000000000 := by
    rw [← hm]
    split <;> omega
  refine go_ixL (SqL.of hc) (atI_nat (j := 0) rfl) ?_
  walk_at "go"
  refine ⟨fun σ' H' => ∃ (x : Option V) (i' rest' left' cnt' a' b' : Int), σ' = [some (.ref c), some (.int m), some (.ref p), x, none] ∧ H' = upd H c (.lst (stL p i' rest' left' cnt' a' b')) ∧ 0 ≤ i' ∧ (0 ≤ a' ∧ a' < 2147483647) ∧ (0 ≤ b' ∧ b' < 2147483399), ?_, ?_⟩
  · -- the test
    have same : H = upd H c (.lst (stL p i rest left cnt a b)) := by
      funext x
      by_cases e : x = c
      · rw [e, upd_same]
        exact hc
      · rw [upd_ne e]
    have stay : ∃ (x : Option V) (i' rest' left' cnt' a' b' : Int), [some (V.ref c), some (V.int m), some (V.ref p), none, none] = [some (V.ref c), some (.int m), some (.ref p), x, none] ∧ H = upd H c (.lst (stL p i' rest' left' cnt' a' b')) ∧ 0 ≤ i' ∧ (0 ≤ a' ∧ a' < 2147483647) ∧ (0 ≤ b' ∧ b' < 2147483399) :=
      ⟨none, i, rest, left, cnt, a, b, rfl, same, hi, ha, hb⟩
    walk_at "go"
    refine go_ixL (SqL.of hc) (atI_nat (j := 2) rfl) ?_
    walk_at "go"
    refine go_dec (fun _ => ?_) (fun _ => ?_)
    rotate_left
    · walk_at "go"
      exact stay
    walk_at "go"
    refine go_ixL (SqL.of hc) (atI_nat (j := 3) rfl) ?_
    walk_at "go"
    refine go_dec (fun _ => ?_) (fun _ => ?_)
    rotate_left
    · walk_at "go"
      exact stay
    walk_at "go"
    refine go_ixL (SqL.of hc) (atI_nat (j := 1) rfl) ?_
    walk_at "go"
    refine go_lenL (SqL.of hp) ?_
    walk_at "go"
    refine go_dec (fun hlt => ?_) (fun _ => ?_)
    rotate_left
    · walk_at "go"
      exact stay
    walk_at "go"
    refine go_ixL (SqL.of hc) (atI_nat (j := 1) rfl) ?_
    walk_at "go"
    have hlt2 : i.toNat < (cells.map V.int).length := by omega
    have hlt3 : i.toNat < cells.length := by
      rw [List.length_map] at hlt2
      exact hlt2
    obtain ⟨cell, hcell⟩ : ∃ z, cells[i.toNat]? = some z := ⟨_, List.getElem?_eq_getElem hlt3⟩
    refine go_ixL (v := .int cell) (SqL.of hp) (atI_of hi (by rw [List.getElem?_map, hcell]; rfl)) ?_
    walk_at "go"
    refine go_ixL (SqL.of hc) (atI_nat (j := 1) rfl) ?_
    walk_at "go"
    refine go_setL hc (k := 1) (by rfl) ?_
    walk_at "go"
    refine go_setL upd_same (k := 3) (by rfl) ?_
    walk_at "go"
    refine ⟨c, p, i + 1, rest, 3, cnt, a, b, cell, rfl, rfl, upd_same, ha, hb, fun n' a' b' H' ha' hb' hH => ?_⟩
    rw [upd_upd, upd_upd] at hH
    subst hH
    walk_at "go"
    refine go_pow0 ⟨by decide, by decide, by decide⟩ ?_
    walk_at "go"
    refine go_dec (fun _ => ?_) (fun _ => ?_)
    · walk_at "go"
      refine go_setL upd_same (k := 2) (by rfl) ?_
      walk_at "go"
      refine go_setL upd_same (k := 3) (by rfl) ?_
      walk_at "go"
      exact ⟨_, i + 1, cell, 0, n', a', b', rfl, by rw [upd_upd, upd_upd]; rfl, by omega, ha', hb'⟩
    · walk_at "go"
      exact ⟨_, i + 1, rest, 3, n', a', b', rfl, rfl, by omega, ha', hb'⟩
  · rintro σ' H' ⟨x, i', rest', left', cnt', a', b', rfl, rfl, hi', ha', hb'⟩
    unfold stL
    have d0 : ∀ o, Dx (Only1 c) H (upd H c o) := fun o => Dx.mut rfl
    walk_at "go"
    refine go_ixL (SqL.of upd_same) (atI_nat (j := 2) rfl) ?_
    walk_at "go"
    refine go_dec (fun _ => ?_) (fun _ => ?_)
    · walk_at "go"
      refine go_div0 (div_ok hm0 hm1) ?_
      walk_at "go"
      refine go_setL upd_same (k := 2) (by rfl) ?_
      walk_at "go"
      rw [upd_upd]
      exact k _ _ (Int.emod_nonneg _ (by omega)) (Int.emod_lt_of_pos _ hm0) (d0 _) (ok.set upd_same hp hpm (d0 _) hi' ha' hb')
    · walk_at "go"
      refine ⟨c, p, i', rest', left', cnt', a', b', 0, rfl, rfl, upd_same, ha', hb', fun n2 a2 b2 H2 ha2 hb2 hH => ?_⟩
      rw [upd_upd] at hH
      subst hH
      unfold stL
      walk_at "go"
      refine go_ixL (SqL.of upd_same) (atI_nat (j := 3) rfl) ?_
      walk_at "go"
      refine go_setL upd_same (k := 3) (by rfl) ?_
      walk_at "go"
      refine go_ixL (SqL.of upd_same) (atI_nat (j := 5) rfl) ?_
      walk_at "go"
      refine go_mul0 (mul_ok (by omega)) ?_
      walk_at "go"
      refine go_ixL (SqL.of upd_same) (atI_nat (j := 6) rfl) ?_
      walk_at "go"
      rw [upd_upd]
      exact k _ _ (Int.emod_nonneg _ (by omega)) (Int.emod_lt_of_pos _ hm0) (d0 _) (ok.set upd_same hp hpm (d0 _) hi' ha2 hb2)
end
end Q
namespace Q
section
variable {P : Program} {w : World} {K : PySem.W.Frag} {mg : Str → Option Value} {base : Heap}
abbrev N__law_pick : List Str := ["_law_store_here", "_law_items"]
theorem sc__law_pick : FnScope N__law_pick ["_law_store_here", "_law_items"] (defScope s__law_pick) := ⟨rfl, rfl, rfl, by decide +kernel, rfl, by decide +kernel, by decide +kernel⟩
/-- an item of a text, or of a list -/
def pPick (K : PySem.W.Frag) : P2 := fun v0 v1 H Q _ => ∃ (c : Addr) (M : Addr → Prop), v0 = .ref c ∧ Ok M H c ∧
  ((∃ z : Str, v1 = .str z ∧ 0 < z.length ∧ z.length ≤ 100000 ∧ Drawn M c H (fun v => ∃ ch, ch ∈ z.cps.toList ∧ v = .str ⟨#[ch]⟩) Q) ∨
   (∃ (p : Addr) (xs : List V), v1 = .ref p ∧ SqL K H p xs ∧ ¬ M p ∧ 0 < xs.length ∧ xs.length ≤ 100000 ∧ Drawn M c H (fun v => v ∈ xs) Q))
set_option maxHeartbeats 4000000 in
theorem D_law_pick  (T : Txt K mg) : Def P w K mg base CX0 (3) "_law_pick" s__law_pick ["_law_store_here", "_law_items"] (Sp2 (pPick K)) := by
  obtain ⟨f, fd, m, F⟩ := T.f__law_pick.ex
  refine ⟨f, fd, m, F.kp, F.bindsN (ps := ["_law_store_here", "_law_items"]) (fun _ _ _ _ _ _ us hl => match us, hl with | [_, _], _ => rfl), ?_, F⟩
  obtain ⟨f_law_take, fd_law_take, m_law_take, kp_law_take, b_law_take, G_law_take, F_law_take⟩ := (D_law_take (P := P) (w := w) (base := base) T).ex
  refine F.ok (CX := CX0) sc__law_pick len2 (fun cdv A outer s H vs Q E hr h => ?_)
  obtain ⟨v0, v1, rfl, h⟩ := h
  refine ⟨_, PSs.nox (pss_one (ps_ret (pe_ix ix_U (pv 1) (pe_call G_law_take (hr.mono (by first | decide | omega)) (by rfl) m_law_take kp_law_take b_law_take .nil pass0 (pa_cons (pv 0) (pa_cons (pe_callB call_lenU (by rfl) T.b_len (by decide +kernel) (pa_cons (pv 1) pa_nil)) pa_nil))) (fun _ _ => rfl)))), ?_⟩
  try dsimp only [cxOf, Cx.nox, Cx.wish]
  rw [show start N__law_pick [v0, v1] = [some v0, some v1] from rfl]
  obtain ⟨c, M, rfl, ok, ⟨z, rfl, hz, hz2, k⟩ | ⟨p, xs, rfl, hs, hp, hl, hl2, k⟩⟩ := h
  · walk_at "go"
    refine ⟨c, M, _, rfl, rfl, by omega, by omega, ok, fun r H' h0 h1 d ok' => ?_⟩
    have hr : r.toNat < z.cps.toList.length := by
      have e : z.cps.toList.length = z.length := by simp [Str.length]
      split at h1 <;> omega
    obtain ⟨ch, hc⟩ : ∃ ch, z.cps.toList[r.toNat]? = some ch := ⟨_, List.getElem?_eq_getElem hr⟩
    refine go_ixS (size_ok hz2) (atI_of h0 hc) ?_
    walk_at "go"
    exact k _ _ ⟨ch, List.mem_of_getElem? hc, rfl⟩ d ok'
  · walk_at "go"
    refine go_lenL hs ?_
    walk_at "go"
    refine ⟨c, M, _, rfl, rfl, by omega, by omega, ok, fun r H' h0 h1 d ok' => ?_⟩
    have hr : r.toNat < xs.length := by
      split at h1 <;> omega
    obtain ⟨x, hx⟩ : ∃ x, xs[r.toNat]? = some x := ⟨_, List.getElem?_eq_getElem hr⟩
    refine go_ixL ((ok.sub d).sqL hp hs) (atI_of h0 hx) ?_
    walk_at "go"
    exact k _ _ (List.mem_of_getElem? hx) d ok'
abbrev N__law_name : List Str := ["_law_store_here", "_law_letters", "_law_signs", "_law_kind", "_law_length", "_law_name_here", "_law_k"]
theorem sc__law_name : FnScope N__law_name ["_law_store_here"] (defScope s__law_name) := ⟨rfl, rfl, rfl, by decide +kernel, rfl, by decide +kernel, by decide +kernel⟩
/-- take's promise in short -/
theorem take_go {c : Addr} {M : Addr → Prop} {H : Hp} {n : Int} {Q : VK} {E : XK} (ok : Ok M H c) (h0 : 0 < n) (h1 : n ≤ 1000000000000000000) (k : ∀ (r : Int) (H' : Hp), 0 ≤ r → r < n → Dx (Only1 c) H H' → Ok M H' c → Q (.int r) H') : pTake (.ref c) (.int n) H Q E :=
  ⟨c, M, n, rfl, rfl, by omega, h1, ok, fun r H' g0 g1 d ok' => k r H' g0 (by split at g1 <;> omega) d ok'⟩
theorem lit_len {s : String} {n : Nat} (h : (Str.ofString s).cps.size = n := by decide +kernel) : (Str.ofString s).length = n := h
theorem pick_ix {z : Str} {r : Int} (h0 : 0 ≤ r) (h1 : r < z.length) : ∃ ch, atI z.cps.toList r = some ch := by
  have e : z.cps.toList.length = z.length := by simp [Str.length]
  have hr : r.toNat < z.cps.toList.length := by omega
  exact ⟨_, atI_of h0 (List.getElem?_eq_getElem hr)⟩
set_option maxHeartbeats 4000000 in
theorem D_law_name  (T : Txt K mg) : Def P w K mg base CX0 (3) "_law_name" s__law_name ["_law_store_here"] (Sp1 (pDraw (IsText 1 8))) := by
  obtain ⟨f, fd, m, F⟩ := T.f__law_name.ex
  refine ⟨f, fd, m, F.kp, F.bindsN (ps := ["_law_store_here"]) (fun _ _ _ _ _ _ us hl => match us, hl with | [_], _ => rfl), ?_, F⟩
  obtain ⟨f_law_take, fd_law_take, m_law_take, kp_law_take, b_law_take, G_law_take, F_law_take⟩ := (D_law_take (P := P) (w := w) (base := base) T).ex
  refine F.ok (CX := CX0) sc__law_name len1 (fun cdv A outer s H vs Q E hr h => ?_)
  obtain ⟨v0, rfl, h⟩ := h
  refine ⟨_, PSs.nox (pss_cons (ps_set (i := 1) sc__law_name.nd rfl (Or.inl rfl) pe_str)
      (pss_cons (ps_set (i := 2) sc__law_name.nd rfl (Or.inl rfl) (pe_op op_addU (pv 1) pe_str))
      (pss_cons (ps_set (i := 3) sc__law_name.nd rfl (Or.inl rfl) (pe_call G_law_take (hr.mono (by first | decide | omega)) (by rfl) m_law_take kp_law_take b_law_take .nil pass0 (pa_cons (pv 0) (pa_cons pe_int pa_nil))))
      (pss_cons (ps_set (i := 4) sc__law_name.nd rfl (Or.inl rfl) (pe_op op_addU pe_int (pe_call G_law_take (hr.mono (by first | decide | omega)) (by rfl) m_law_take kp_law_take b_law_take .nil pass0 (pa_cons (pv 0) (pa_cons pe_int pa_nil)))))
      (C8.pss_cut (ps_if (pt_cmpR op_ltU (pv 3) pe_int (nomark _)) (pss_one (ps_set (i := 4) sc__law_name.nd rfl (Or.inl rfl) (pe_ix ix_U (pe_lst (pa_cons pe_int (pa_cons pe_int (pa_cons pe_int pa_nil)))) (pv 3) (fun _ _ => rfl)))) pss_nil)
      (pss_cons (ps_set (i := 5) sc__law_name.nd rfl (Or.inl rfl) (pe_ix ix_U (pv 1) (pe_call G_law_take (hr.mono (by first | decide | omega)) (by rfl) m_law_take kp_law_take b_law_take .nil pass0 (pa_cons (pv 0) (pa_cons pe_int pa_nil))) (fun _ _ => rfl)))
      (pss_cons (ps_for PassesOwn.never rfl (pi_range1 (by rfl) T.b_range (pa_cons (pe_op op_sub0 (pv 4) pe_int) pa_nil)) (pg_name (i := 6) sc__law_name.nd rfl (Or.inl rfl)) (pss_one (ps_set (i := 5) sc__law_name.nd rfl (Or.inl rfl) (pe_op op_addU (pv 5) (pe_ix ix_U (pv 2) (pe_call G_law_take (hr.mono (by first | decide | omega)) (by rfl) m_law_take kp_law_take b_law_take .nil pass0 (pa_cons (pv 0) (pa_cons pe_int pa_nil))) (fun _ _ => rfl))))))
      (pss_one (ps_ret (pv 5)))))))))), ?_⟩
  try dsimp only [cxOf, Cx.nox, Cx.wish]
  rw [show start N__law_name [v0] = [some v0, none, none, none, none, none, none] from rfl]
  obtain ⟨c, M, rfl, ok, k⟩ := h
  walk_at "go"
  generalize hl : (Str.ofString "abcdefghijklmnopqrstuvwxyz") = L
  generalize hsg : L ++ Str.ofString "0123456789" = S
  have hL : L.length = 26 := by
    rw [← hl]
    decide +kernel
  have hS : S.length = 36 := by
    rw [← hsg, ← hl]
    decide +kernel
  refine take_go ok (by decide) (by decide) fun r1 H1 a1 b1 d1 ok1 => ?_
  walk_at "go"
  refine take_go ok1 (by decide) (by decide) fun r2 H2 a2 b2 d2 ok2 => ?_
  walk_at "go"
  refine ⟨fun σ' H' => ∃ n : Int, 1 ≤ n ∧ n ≤ 8 ∧ Dx (Only1 c) H H' ∧ Ok M H' c ∧ σ' = [some (.ref c), some (.str L), some (.str S), some (.int r1), some (.int n), none, none], ?_, ?_⟩
  · walk_at "go"
    refine go_dec (fun h3 => ?_) (fun _ => ?_)
    · walk_at "go"
      refine ⟨by show 3 ≤ sizeLine; decide, fun p hp => ?_⟩
      walk_at "go"
      have d3 : Dx (Only1 c) H2 (upd H2 p (.lst [V.int 1, V.int 2, V.int 8])) := Dx.new hp
      obtain ⟨n, hn, g1, g2⟩ : ∃ n : Int, atI [V.int 1, V.int 2, V.int 8] r1 = some (.int n) ∧ 1 ≤ n ∧ n ≤ 8 := by
        rcases (show r1 = 0 ∨ r1 = 1 ∨ r1 = 2 by omega) with e | e | e
        · subst e
          exact ⟨1, by rfl, by decide, by decide⟩
        · subst e
          exact ⟨2, by rfl, by decide, by decide⟩
        · subst e
          exact ⟨8, by rfl, by decide, by decide⟩
      refine go_ixL (SqL.of upd_same) hn ?_
      walk_at "go"
      exact ⟨n, g1, g2, (d1.trans d2).trans d3, ok2.new hp, rfl⟩
    · walk_at "go"
      exact ⟨1 + r2, by omega, by omega, d1.trans d2, ok2, rfl⟩
  · rintro σ' H3 ⟨n, hn1, hn2, d3, ok3, rfl⟩
    walk_at "go"
    refine take_go ok3 (by decide) (by decide) fun r4 H4 a4 b4 d4 ok4 => ?_
    obtain ⟨ch, hch⟩ := pick_ix (z := L) a4 (by omega)
    refine go_ixS (size_ok (by omega)) hch ?_
    walk_at "go"
    refine for_r (by omega) (fun i σ' H' => ∃ (x : Str) (v : Option V), x.length = i + 1 ∧ Dx (Only1 c) H H' ∧ Ok M H' c ∧ σ' = [some (.ref c), some (.str L), some (.str S), some (.int r1), some (.int n), some (.str x), v]) ⟨_, none, len_one ch, d3.trans d4, ok4, rfl⟩ ?_ ?_
    · rintro i σ' H5 hi ⟨x, v, hx, d5, ok5, rfl⟩
      walk_at "go"
      refine take_go ok5 (by decide) (by decide) fun r6 H6 a6 b6 d6 ok6 => ?_
      obtain ⟨ch2, hch2⟩ := pick_ix (z := S) a6 (by omega)
      refine go_ixS (size_ok (by omega)) hch2 ?_
      walk_at "go"
      exact ⟨_, _, by rw [length_append, len_one, hx], d5.trans d6, ok6, rfl⟩
    · rintro σ' H5 ⟨x, v, hx, d5, ok5, rfl⟩
      walk_at "go"
      exact k _ _ ⟨x, rfl, by omega, by omega⟩ d5 ok5
end
end Q
namespace Q
section
variable {P : Program} {w : World} {K : PySem.W.Frag} {mg : Str → Option Value} {base : Heap}
abbrev N__law_bad_name : List Str := ["_law_store_here", "_law_menu", "_law_kind", "_law_name_here", "_law_at"]
theorem sc__law_bad_name : FnScope N__law_bad_name ["_law_store_here"] (defScope s__law_bad_name) := ⟨rfl, rfl, rfl, by decide +kernel, rfl, by decide +kernel, by decide +kernel⟩
set_option maxHeartbeats 4000000 in
theorem D_law_bad_name  (T : Txt K mg) : Def P w K mg base CX0 (4) "_law_bad_name" s__law_bad_name ["_law_store_here"] (Sp1 (pDraw (IsText 0 20))) := by
  obtain ⟨f, fd, m, F⟩ := T.f__law_bad_name.ex
  refine ⟨f, fd, m, F.kp, F.bindsN (ps := ["_law_store_here"]) (fun _ _ _ _ _ _ us hl => match us, hl with | [_], _ => rfl), ?_, F⟩
  obtain ⟨f_law_name, fd_law_name, m_law_name, kp_law_name, b_law_name, G_law_name, F_law_name⟩ := (D_law_name (P := P) (w := w) (base := base) T).ex
  obtain ⟨f_law_pick, fd_law_pick, m_law_pick, kp_law_pick, b_law_pick, G_law_pick, F_law_pick⟩ := (D_law_pick (P := P) (w := w) (base := base) T).ex
  obtain ⟨f_law_take, fd_law_take, m_law_take, kp_law_take, b_law_take, G_law_take, F_law_take⟩ := (D_law_take (P := P) (w := w) (base := base) T).ex
  refine F.ok (CX := CX0) sc__law_bad_name len1 (fun cdv A outer s H vs Q E hr h => ?_)
  obtain ⟨v0, rfl, h⟩ := h
  refine ⟨_, PSs.nox (pss_cons (ps_set (i := 1) sc__law_bad_name.nd rfl (Or.inl rfl) (pe_lst (pa_cons pe_str (pa_cons pe_str (pa_cons pe_str (pa_cons pe_str (pa_cons pe_str (pa_cons pe_str (pa_cons pe_str (pa_cons pe_str (pa_cons pe_str (pa_cons pe_str (pa_cons pe_str (pa_cons pe_str (pa_cons pe_str (pa_cons pe_str pa_nil))))))))))))))))
      (pss_cons (ps_set (i := 2) sc__law_bad_name.nd rfl (Or.inl rfl) (pe_call G_law_take (hr.mono (by first | decide | omega)) (by rfl) m_law_take kp_law_take b_law_take .nil pass0 (pa_cons (pv 0) (pa_cons pe_int pa_nil))))
      (pss_cons (ps_if (pt_cmpR op_eq (pv 2) pe_int (nomark _)) (pss_one (ps_ret (pe_call G_law_pick (hr.mono (by first | decide | omega)) (by rfl) m_law_pick kp_law_pick b_law_pick .nil pass0 (pa_cons (pv 0) (pa_cons (pv 1) pa_nil))))) pss_nil)
      (pss_cons (ps_set (i := 3) sc__law_bad_name.nd rfl (Or.inl rfl) (pe_call G_law_name (hr.mono (by first | decide | omega)) (by rfl) m_law_name kp_law_name b_law_name .nil pass0 (pa_cons (pv 0) pa_nil)))
      (pss_cons (ps_if (pt_cmpR op_eq (pv 2) pe_int (nomark _)) (pss_one (ps_ret (pe_op op_addU (pv 3) (pe_slice sl_str pe_str po_none (po_some (pe_op op_sub0 pe_int (pe_callB call_lenU (by rfl) T.b_len (by decide +kernel) (pa_cons (pv 3) pa_nil)))))))) pss_nil)
      (pss_cons (ps_set (i := 4) sc__law_bad_name.nd rfl (Or.inl rfl) (pe_call G_law_take (hr.mono (by first | decide | omega)) (by rfl) m_law_take kp_law_take b_law_take .nil pass0 (pa_cons (pv 0) (pa_cons (pe_op op_addU (pe_callB call_lenU (by rfl) T.b_len (by decide +kernel) (pa_cons (pv 3) pa_nil)) pe_int) pa_nil))))
      (pss_one (ps_ret (pe_op op_addU (pe_op op_addU (pe_slice sl_str (pv 3) po_none (po_some (pv 4))) (pe_call G_law_pick (hr.mono (by first | decide | omega)) (by rfl) m_law_pick kp_law_pick b_law_pick .nil pass0 (pa_cons (pv 0) (pa_cons pe_str pa_nil)))) (pe_slice sl_str (pv 3) (po_some (pv 4)) po_none)))))))))), ?_⟩
  try dsimp only [cxOf, Cx.nox, Cx.wish]
  rw [show start N__law_bad_name [v0] = [some v0, none, none, none, none] from rfl]
  obtain ⟨c, M, rfl, ok, k⟩ := h
  walk_at "go"
  refine ⟨by show 14 ≤ sizeLine; decide, fun p hp => ?_⟩
  walk_at "go"
  generalize hxs : ([V.str _, V.str _, V.str _, V.str _, V.str _, V.str _, V.str _, V.str _, V.str _, V.str _, V.str _, V.str _, V.str _, V.str _] : List V) = xs
  have hx : textsB 20 xs = true ∧ xs.length = 14 := by
    rw [← hxs]
    decide +kernel
  have hpM : ¬ M p := ok.notM hp
  have d0 : Dx (Only1 c) H (upd H p (.lst xs)) := Dx.new hp
  have ok0 := ok.new (o := .lst xs) hp
  have hp0 : (upd H p (.lst xs)) p = some (.lst xs) := upd_same
  generalize upd H p (.lst xs) = H0 at d0 ok0 hp0
  refine take_go ok0 (by decide) (by decide) fun r1 H1 a1 b1 d1 ok1 => ?_
  have hp1 : H1 p = some (.lst xs) := (ok0.sub d1).st _ _ hpM hp0
  have d01 := d0.trans d1
  walk_at "go"
  refine go_dec (fun _ => ?_) (fun _ => ?_)
  · walk_at "go"
    refine ⟨c, M, rfl, ok1, .inr ⟨p, xs, rfl, SqL.of hp1, hpM, by omega, by omega, fun r H' hr d ok' => ?_⟩⟩
    exact k _ _ (texts_ok hx.1 hr) (d01.trans d) ok'
  walk_at "go"
  refine ⟨c, M, rfl, ok1, fun r H2 hr d2 ok2 => ?_⟩
  obtain ⟨x, rfl, hx1, hx2⟩ := hr
  have d02 := d01.trans d2
  walk_at "go"
  refine go_dec (fun _ => ?_) (fun _ => ?_)
  · walk_at "go"
    have hc := cutS_length (Str.ofString "0123456789") none (some (9 - (x.length : Int)))
    have hd : (Str.ofString "0123456789").length = 10 := by decide +kernel
    rw [hd] at hc
    walk_at "go"
    exact k _ _ ⟨_, rfl, Nat.zero_le _, by rw [length_append]; omega⟩ d02 ok2
  walk_at "go"
  refine take_go ok2 (by omega) (by omega) fun r3 H3 a3 b3 d3 ok3 => ?_
  walk_at "go"
  have hc1 := cutS_length x none (some r3)
  refine ⟨c, M, rfl, ok3, .inl ⟨_, rfl, by decide +kernel, by decide +kernel, fun y H4 hy d4 ok4 => ?_⟩⟩
  obtain ⟨y, rfl, hy1, hy2⟩ := one_sign hy
  walk_at "go"
  have hc2 := cutS_length x (some r3) none
  walk_at "go"
  exact k _ _ ⟨_, rfl, Nat.zero_le _, by rw [length_append, length_append]; omega⟩ ((d02.trans d3).trans d4) ok4
abbrev N__law_sign : List Str := ["_law_store_here", "_law_signs"]
theorem sc__law_sign : FnScope N__law_sign ["_law_store_here"] (defScope s__law_sign) := ⟨rfl, rfl, rfl, by decide +kernel, rfl, by decide +kernel, by decide +kernel⟩
set_option maxHeartbeats 4000000 in
theorem D_law_sign  (T : Txt K mg) : Def P w K mg base CX0 (4) "_law_sign" s__law_sign ["_law_store_here"] (Sp1 (pDraw (IsText 1 1))) := by
  obtain ⟨f, fd, m, F⟩ := T.f__law_sign.ex
  refine ⟨f, fd, m, F.kp, F.bindsN (ps := ["_law_store_here"]) (fun _ _ _ _ _ _ us hl => match us, hl with | [_], _ => rfl), ?_, F⟩
  obtain ⟨f_law_pick, fd_law_pick, m_law_pick, kp_law_pick, b_law_pick, G_law_pick, F_law_pick⟩ := (D_law_pick (P := P) (w := w) (base := base) T).ex
  refine F.ok (CX := CX0) sc__law_sign len1 (fun cdv A outer s H vs Q E hr h => ?_)
  obtain ⟨v0, rfl, h⟩ := h
  refine ⟨_, PSs.nox (pss_cons (ps_set (i := 1) sc__law_sign.nd rfl (Or.inl rfl) pe_str)
      (pss_one (ps_ret (pe_call G_law_pick (hr.mono (by first | decide | omega)) (by rfl) m_law_pick kp_law_pick b_law_pick .nil pass0 (pa_cons (pv 0) (pa_cons (pe_op op_addU (pv 1) pe_str) pa_nil)))))), ?_⟩
  try dsimp only [cxOf, Cx.nox, Cx.wish]
  rw [show start N__law_sign [v0] = [some v0, none] from rfl]
  obtain ⟨c, M, rfl, ok, k⟩ := h
  walk_at "go"
  refine ⟨c, M, rfl, ok, .inl ⟨_, rfl, by decide +kernel, by decide +kernel, fun y H4 hy d4 ok4 => ?_⟩⟩
  exact k _ _ (one_sign hy) d4 ok4
abbrev N__law_text : List Str := ["_law_store_here", "_law_longest", "_law_text_here", "_law_k"]
theorem sc__law_text : FnScope N__law_text ["_law_store_here", "_law_longest"] (defScope s__law_text) := ⟨rfl, rfl, rfl, by decide +kernel, rfl, by decide +kernel, by decide +kernel⟩
/-- a text of at most n signs -/
def pText : P2 := fun v0 v1 H Q _ => ∃ (c : Addr) (M : Addr → Prop) (n : Int), v0 = .ref c ∧ v1 = .int n ∧ 0 ≤ n ∧ n ≤ 1000 ∧ Ok M H c ∧ Drawn M c H (IsText 0 n.toNat) Q
theorem no_signs : (Str.ofString "").length = 0 := by decide +kernel
set_option maxHeartbeats 4000000 in
theorem D_law_text  (T : Txt K mg) : Def P w K mg base CX0 (5) "_law_text" s__law_text ["_law_store_here", "_law_longest"] (Sp2 pText) := by
  obtain ⟨f, fd, m, F⟩ := T.f__law_text.ex
  refine ⟨f, fd, m, F.kp, F.bindsN (ps := ["_law_store_here", "_law_longest"]) (fun _ _ _ _ _ _ us hl => match us, hl with | [_, _], _ => rfl), ?_, F⟩
  obtain ⟨f_law_sign, fd_law_sign, m_law_sign, kp_law_sign, b_law_sign, G_law_sign, F_law_sign⟩ := (D_law_sign (P := P) (w := w) (base := base) T).ex
  obtain ⟨f_law_take, fd_law_take, m_law_take, kp_law_take, b_law_take, G_law_take, F_law_take⟩ := (D_law_take (P := P) (w := w) (base := base) T).ex
  refine F.ok (CX := CX0) sc__law_text len2 (fun cdv A outer s H vs Q E hr h => ?_)
  obtain ⟨v0, v1, rfl, h⟩ := h
  refine ⟨_, PSs.nox (pss_cons (ps_set (i := 2) sc__law_text.nd rfl (Or.inl rfl) pe_str)
      (pss_cons (ps_for PassesOwn.never rfl (pi_range1 (by rfl) T.b_range (pa_cons (pe_call G_law_take (hr.mono (by first | decide | omega)) (by rfl) m_law_take kp_law_take b_law_take .nil pass0 (pa_cons (pv 0) (pa_cons (pe_op op_addU (pv 1) pe_int) pa_nil))) pa_nil)) (pg_name (i := 3) sc__law_text.nd rfl (Or.inl rfl)) (pss_one (ps_set (i := 2) sc__law_text.nd rfl (Or.inl rfl) (pe_op op_addU (pv 2) (pe_call G_law_sign (hr.mono (by first | decide | omega)) (by rfl) m_law_sign kp_law_sign b_law_sign .nil pass0 (pa_cons (pv 0) pa_nil))))))
      (pss_one (ps_ret (pv 2))))), ?_⟩
  try dsimp only [cxOf, Cx.nox, Cx.wish]
  rw [show start N__law_text [v0, v1] = [some v0, some v1, none, none] from rfl]
  obtain ⟨c, M, n, rfl, rfl, hn0, hn1, ok, k⟩ := h
  walk_at "go"
  refine take_go ok (by omega) (by omega) fun r1 H1 a1 b1 d1 ok1 => ?_
  refine for_r (by omega) (fun i σ' H' => ∃ (x : Str) (v : Option V), x.length = i ∧ Dx (Only1 c) H H' ∧ Ok M H' c ∧ σ' = [some (.ref c), some (.int n), some (.str x), v]) ⟨_, none, no_signs, d1, ok1, rfl⟩ ?_ ?_
  · rintro i σ' H5 hi ⟨x, v, hx, d5, ok5, rfl⟩
    walk_at "go"
    refine ⟨c, M, rfl, ok5, fun y H6 hy d6 ok6 => ?_⟩
    obtain ⟨y, rfl, hy1, hy2⟩ := hy
    walk_at "go"
    exact ⟨_, _, by rw [length_append]; omega, d5.trans d6, ok6, rfl⟩
  · rintro σ' H5 ⟨x, v, hx, d5, ok5, rfl⟩
    walk_at "go"
    exact k _ _ ⟨x, rfl, Nat.zero_le _, by omega⟩ d5 ok5
abbrev N__law_near_name : List Str := ["_law_store_here", "_law_kind", "_law_name_here", "_law_at"]
theorem sc__law_near_name : FnScope N__law_near_name ["_law_store_here"] (defScope s__law_near_name) := ⟨rfl, rfl, rfl, by decide +kernel, rfl, by decide +kernel, by decide +kernel⟩
set_option maxHeartbeats 4000000 in
theorem D_law_near_name  (T : Txt K mg) : Def P w K mg base CX0 (6) "_law_near_name" s__law_near_name ["_law_store_here"] (Sp1 (pDraw (IsText 0 30))) := by
  obtain ⟨f, fd, m, F⟩ := T.f__law_near_name.ex
  refine ⟨f, fd, m, F.kp, F.bindsN (ps := ["_law_store_here"]) (fun _ _ _ _ _ _ us hl => match us, hl with | [_], _ => rfl), ?_, F⟩
  obtain ⟨f_law_bad_name, fd_law_bad_name, m_law_bad_name, kp_law_bad_name, b_law_bad_name, G_law_bad_name, F_law_bad_name⟩ := (D_law_bad_name (P := P) (w := w) (base := base) T).ex
  obtain ⟨f_law_name, fd_law_name, m_law_name, kp_law_name, b_law_name, G_law_name, F_law_name⟩ := (D_law_name (P := P) (w := w) (base := base) T).ex
  obtain ⟨f_law_pick, fd_law_pick, m_law_pick, kp_law_pick, b_law_pick, G_law_pick, F_law_pick⟩ := (D_law_pick (P := P) (w := w) (base := base) T).ex
  obtain ⟨f_law_sign, fd_law_sign, m_law_sign, kp_law_sign, b_law_sign, G_law_sign, F_law_sign⟩ := (D_law_sign (P := P) (w := w) (base := base) T).ex
  obtain ⟨f_law_take, fd_law_take, m_law_take, kp_law_take, b_law_take, G_law_take, F_law_take⟩ := (D_law_take (P := P) (w := w) (base := base) T).ex
  obtain ⟨f_law_text, fd_law_text, m_law_text, kp_law_text, b_law_text, G_law_text, F_law_text⟩ := (D_law_text (P := P) (w := w) (base := base) T).ex
  refine F.ok (CX := CX0) sc__law_near_name len1 (fun cdv A outer s H vs Q E hr h => ?_)
  obtain ⟨v0, rfl, h⟩ := h
  refine ⟨_, PSs.nox (pss_cons (ps_set (i := 1) sc__law_near_name.nd rfl (Or.inl rfl) (pe_call G_law_take (hr.mono (by first | decide | omega)) (by rfl) m_law_take kp_law_take b_law_take .nil pass0 (pa_cons (pv 0) (pa_cons pe_int pa_nil))))
      (pss_cons (ps_if (pt_cmpR op_eq (pv 1) pe_int (nomark _)) (pss_one (ps_ret (pe_call G_law_bad_name (hr.mono (by first | decide | omega)) (by rfl) m_law_bad_name kp_law_bad_name b_law_bad_name .nil pass0 (pa_cons (pv 0) pa_nil)))) pss_nil)
      (pss_cons (ps_if (pt_cmpR op_eq (pv 1) pe_int (nomark _)) (pss_one (ps_ret (pe_call G_law_text (hr.mono (by first | decide | omega)) (by rfl) m_law_text kp_law_text b_law_text .nil pass0 (pa_cons (pv 0) (pa_cons pe_int pa_nil))))) pss_nil)
      (pss_cons (ps_set (i := 2) sc__law_near_name.nd rfl (Or.inl rfl) (pe_call G_law_name (hr.mono (by first | decide | omega)) (by rfl) m_law_name kp_law_name b_law_name .nil pass0 (pa_cons (pv 0) pa_nil)))
      (pss_cons (ps_set (i := 3) sc__law_near_name.nd rfl (Or.inl rfl) (pe_call G_law_take (hr.mono (by first | decide | omega)) (by rfl) m_law_take kp_law_take b_law_take .nil pass0 (pa_cons (pv 0) (pa_cons (pe_callB call_lenU (by rfl) T.b_len (by decide +kernel) (pa_cons (pv 2) pa_nil)) pa_nil))))
      (pss_cons (ps_if (pt_cmpR op_eq (pv 1) pe_int (nomark _)) (pss_one (ps_ret (pe_op op_addU (pe_op op_addU (pe_slice sl_str (pv 2) po_none (po_some (pv 3))) (pe_call G_law_sign (hr.mono (by first | decide | omega)) (by rfl) m_law_sign kp_law_sign b_law_sign .nil pass0 (pa_cons (pv 0) pa_nil))) (pe_slice sl_str (pv 2) (po_some (pe_op op_addU (pv 3) pe_int)) po_none)))) pss_nil)
      (pss_cons (ps_if (pt_cmpR op_eq (pv 1) pe_int (nomark _)) (pss_one (ps_ret (pe_op op_addU (pe_op op_addU (pe_slice sl_str (pv 2) po_none (po_some (pv 3))) (pe_call G_law_pick (hr.mono (by first | decide | omega)) (by rfl) m_law_pick kp_law_pick b_law_pick .nil pass0 (pa_cons (pv 0) (pa_cons pe_str pa_nil)))) (pe_slice sl_str (pv 2) (po_some (pv 3)) po_none)))) pss_nil)
      (pss_one (ps_ret (pv 2)))))))))), ?_⟩
  try dsimp only [cxOf, Cx.nox, Cx.wish]
  rw [show start N__law_near_name [v0] = [some v0, none, none, none] from rfl]
  obtain ⟨c, M, rfl, ok, k⟩ := h
  walk_at "go"
  refine take_go ok (by decide) (by decide) fun r1 H1 a1 b1 d1 ok1 => ?_
  walk_at "go"
  refine go_dec (fun _ => ?_) (fun _ => ?_)
  · walk_at "go"
    refine ⟨c, M, rfl, ok1, fun y H2 hy d2 ok2 => ?_⟩
    obtain ⟨y, rfl, hy1, hy2⟩ := hy
    exact k _ _ ⟨y, rfl, Nat.zero_le _, by omega⟩ (d1.trans d2) ok2
  walk_at "go"
  refine go_dec (fun _ => ?_) (fun _ => ?_)
  · walk_at "go"
    refine ⟨c, M, 9, rfl, rfl, by decide, by decide, ok1, fun y H2 hy d2 ok2 => ?_⟩
    obtain ⟨y, rfl, hy1, hy2⟩ := hy
    exact k _ _ ⟨y, rfl, Nat.zero_le _, Nat.le_trans hy2 (by decide)⟩ (d1.trans d2) ok2
  walk_at "go"
  refine ⟨c, M, rfl, ok1, fun y H2 hy d2 ok2 => ?_⟩
  obtain ⟨x, rfl, hx1, hx2⟩ := hy
  walk_at "go"
  refine take_go ok2 (by omega) (by omega) fun r3 H3 a3 b3 d3 ok3 => ?_
  have d03 := (d1.trans d2).trans d3
  have hc1 := cutS_length x none (some r3)
  have hc2 := cutS_length x (some r3) none
  have hc3 := cutS_length x (some (r3 + 1)) none
  walk_at "go"
  refine go_dec (fun _ => ?_) (fun _ => ?_)
  · walk_at "go"
    refine ⟨c, M, rfl, ok3, fun y H4 hy d4 ok4 => ?_⟩
    obtain ⟨y, rfl, hy1, hy2⟩ := hy
    walk_at "go"
    exact k _ _ ⟨_, rfl, Nat.zero_le _, by rw [length_append, length_append]; omega⟩ (d03.trans d4) ok4
  walk_at "go"
  refine go_dec (fun _ => ?_) (fun _ => ?_)
  · walk_at "go"
    refine ⟨c, M, rfl, ok3, .inl ⟨_, rfl, by decide +kernel, by decide +kernel, fun y H4 hy d4 ok4 => ?_⟩⟩
    obtain ⟨y, rfl, hy1, hy2⟩ := one_sign hy
    walk_at "go"
    exact k _ _ ⟨_, rfl, Nat.zero_le _, by rw [length_append, length_append]; omega⟩ (d03.trans d4) ok4
  walk_at "go"
  exact k _ _ ⟨x, rfl, Nat.zero_le _, by omega⟩ d03 ok3
abbrev N__law_word : List Str := ["_law_store_here", "_law_word_here"]
theorem sc__law_word : FnScope N__law_word ["_law_store_here"] (defScope s__law_word) := ⟨rfl, rfl, rfl, by decide +kernel, rfl, by decide +kernel, by decide +kernel⟩
set_option maxHeartbeats 4000000 in
theorem D_law_word  (T : Txt K mg) : Def P w K mg base CX0 (7) "_law_word" s__law_word ["_law_store_here"] (Sp1 (pDraw (IsText 0 60))) := by
  obtain ⟨f, fd, m, F⟩ := T.f__law_word.ex
  refine ⟨f, fd, m, F.kp, F.bindsN (ps := ["_law_store_here"]) (fun _ _ _ _ _ _ us hl => match us, hl with | [_], _ => rfl), ?_, F⟩
  obtain ⟨f_law_near_name, fd_law_near_name, m_law_near_name, kp_law_near_name, b_law_near_name, G_law_near_name, F_law_near_name⟩ := (D_law_near_name (P := P) (w := w) (base := base) T).ex
  obtain ⟨f_law_take, fd_law_take, m_law_take, kp_law_take, b_law_take, G_law_take, F_law_take⟩ := (D_law_take (P := P) (w := w) (base := base) T).ex
  refine F.ok (CX := CX0) sc__law_word len1 (fun cdv A outer s H vs Q E hr h => ?_)
  obtain ⟨v0, rfl, h⟩ := h
  refine ⟨_, PSs.nox (pss_cons (ps_set (i := 1) sc__law_word.nd rfl (Or.inl rfl) (pe_call G_law_near_name (hr.mono (by first | decide | omega)) (by rfl) m_law_near_name kp_law_near_name b_law_near_name .nil pass0 (pa_cons (pv 0) pa_nil)))
      (pss_cons (ps_if (pt_cmpR op_eq (pe_call G_law_take (hr.mono (by first | decide | omega)) (by rfl) m_law_take kp_law_take b_law_take .nil pass0 (pa_cons (pv 0) (pa_cons pe_int pa_nil))) pe_int (nomark _)) (pss_one (ps_set (i := 1) sc__law_word.nd rfl (Or.inl rfl) (pe_op op_addU (pv 1) (pe_call G_law_near_name (hr.mono (by first | decide | omega)) (by rfl) m_law_near_name kp_law_near_name b_law_near_name .nil pass0 (pa_cons (pv 0) pa_nil))))) pss_nil)
      (pss_one (ps_ret (pv 1))))), ?_⟩
  try dsimp only [cxOf, Cx.nox, Cx.wish]
  rw [show start N__law_word [v0] = [some v0, none] from rfl]
  obtain ⟨c, M, rfl, ok, k⟩ := h
  walk_at "go"
  refine ⟨c, M, rfl, ok, fun y H1 hy d1 ok1 => ?_⟩
  obtain ⟨x, rfl, hx1, hx2⟩ := hy
  walk_at "go"
  refine take_go ok1 (by decide) (by decide) fun r2 H2 a2 b2 d2 ok2 => ?_
  walk_at "go"
  refine go_dec (fun _ => ?_) (fun _ => ?_)
  · walk_at "go"
    refine ⟨c, M, rfl, ok2, fun y H3 hy d3 ok3 => ?_⟩
    obtain ⟨y, rfl, hy1, hy2⟩ := hy
    walk_at "go"
    exact k _ _ ⟨_, rfl, Nat.zero_le _, by rw [length_append]; omega⟩ ((d1.trans d2).trans d3) ok3
  walk_at "go"
  exact k _ _ ⟨x, rfl, Nat.zero_le _, by omega⟩ (d1.trans d2) ok2
end
end Q
namespace Q
section
variable {P : Program} {w : World} {K : PySem.W.Frag} {mg : Str → Option Value} {base : Heap}
abbrev N__law_is_name : List Str := ["_law_text_here", "_law_sign_here"]
theorem sc__law_is_name : FnScope N__law_is_name ["_law_text_here"] (defScope s__law_is_name) := ⟨rfl, rfl, rfl, by decide +kernel, rfl, by decide +kernel, by decide +kernel⟩
set_option maxHeartbeats 4000000 in
theorem D_law_is_name  (T : Txt K mg) : Def P w K mg base CX0 (1) "_law_is_name" s__law_is_name ["_law_text_here"] (Sp1 pIsName) := by
  obtain ⟨f, fd, m, F⟩ := T.f__law_is_name.ex
  refine ⟨f, fd, m, F.kp, F.bindsN (ps := ["_law_text_here"]) (fun _ _ _ _ _ _ us hl => match us, hl with | [_], _ => rfl), ?_, F⟩
  refine F.ok (CX := CX0) sc__law_is_name len1 (fun cdv A outer s H vs Q E hr h => ?_)
  obtain ⟨v0, rfl, h⟩ := h
  refine ⟨_, PSs.nox (pss_cons (ps_if (PW.pt (pw_or (pt_cmpR op_ltU (pe_callB call_lenU (by rfl) T.b_len (by decide +kernel) (pa_cons (pv 0) pa_nil)) pe_int (nomark _)) (pw_or (pt_cmpR op_gt0 (pe_callB call_lenU (by rfl) T.b_len (by decide +kernel) (pa_cons (pv 0) pa_nil)) pe_int (nomark _)) (pw_or1 (pt_cmpR op_niU (pe_ix ix_U (pv 0) pe_int (fun _ _ => rfl)) pe_str (by rfl)))))) (pss_one (ps_ret pe_bl)) pss_nil)
      (pss_cons (ps_for PassesOwn.never rfl (pi_str (pv 0)) (pg_name (i := 1) sc__law_is_name.nd rfl (Or.inl rfl)) (pss_one (ps_if (pt_cmpR op_niU (pv 1) pe_str (by rfl)) (pss_one (ps_ret pe_bl)) pss_nil)))
      (pss_one (ps_ret pe_bl)))), ?_⟩
  try dsimp only [cxOf, Cx.nox, Cx.wish]
  rw [show start N__law_is_name [v0] = [some v0, none] from rfl]
  obtain ⟨x, rfl, hx, k⟩ := h
  walk_at "go"
  refine go_dec (fun h1 => ?_) (fun h1 => ?_)
  · walk_at "go"
    rw [← nm_short (x := x) (by omega)]
    exact k
  walk_at "go"
  refine go_dec (fun h2 => ?_) (fun h2 => ?_)
  · walk_at "go"
    rw [← nm_long h2]
    exact k
  walk_at "go"
  obtain ⟨c, hc⟩ := pick_ix (z := x) (r := 0) (by decide) (by omega)
  refine go_ixS (size_ok hx) hc ?_
  walk_at "go"
  refine go_ndec (fun h3 => ?_) (fun h3 => ?_)
  · walk_at "go"
    rw [← nm_head hc h3]
    exact k
  walk_at "go"
  refine for_s (fun i σ' H' => ∃ v, H' = H ∧ σ' = [some (.str x), v] ∧ ∀ (j d : Nat), j < i → x.cps.toList[j]? = some d → d ∈ signS.cps.toList) ⟨none, rfl, rfl, fun j d hj => absurd hj (Nat.not_lt_zero _)⟩ ?_ ?_
  · rintro i d σ' H' hd ⟨v, rfl, rfl, hall⟩
    walk_at "go"
    refine go_ndec (fun h4 => ?_) (fun h4 => ?_)
    · walk_at "go"
      rw [← nm_sign hd h4]
      exact k
    walk_at "go"
    refine ⟨_, rfl, rfl, fun j e hj he => ?_⟩
    by_cases q : j = i
    · subst q
      rw [hd] at he
      cases he
      exact h4
    · exact hall j e (by omega) he
  · rintro σ' H' ⟨v, rfl, rfl, hall⟩
    walk_at "go"
    rw [← nm_yes h1 h2 (fun c' hc' => by rw [hc] at hc'; cases hc'; exact h3) fun j d hd => hall j d (by have := (List.getElem?_eq_some_iff.mp hd).1; simpa [Str.length] using this) hd]
    exact k
abbrev N_is_name : List Str := ["text", "sign"]
theorem sc_is_name : FnScope N_is_name ["text"] (defScope s_is_name) := ⟨rfl, rfl, rfl, by decide +kernel, rfl, by decide +kernel, by decide +kernel⟩
set_option maxHeartbeats 4000000 in
theorem Dis_name  (T : Txt K mg) : Def P w K mg base CX0 (1) "is_name" s_is_name ["text"] (Sp1 pIsName) := by
  obtain ⟨f, fd, m, F⟩ := T.f_is_name.ex
  refine ⟨f, fd, m, F.kp, F.bindsN (ps := ["text"]) (fun _ _ _ _ _ _ us hl => match us, hl with | [_], _ => rfl), ?_, F⟩
  obtain ⟨tc_LETTERS, ec_LETTERS⟩ := T.c_LETTERS
  obtain ⟨tc_LONGEST_NAME, ec_LONGEST_NAME⟩ := T.c_LONGEST_NAME
  obtain ⟨tc_SIGNS, ec_SIGNS⟩ := T.c_SIGNS
  refine F.ok (CX := CX0) sc_is_name len1 (fun cdv A outer s H vs Q E hr h => ?_)
  obtain ⟨v0, rfl, h⟩ := h
  refine ⟨_, PSs.nox (pss_cons (ps_if (PW.pt (pw_or (pt_cmpR op_ltU (pe_callB call_lenU (by rfl) T.b_len (by decide +kernel) (pa_cons (pv 0) pa_nil)) pe_int (nomark _)) (pw_or (pt_cmpR op_gt0 (pe_callB call_lenU (by rfl) T.b_len (by decide +kernel) (pa_cons (pv 0) pa_nil)) (pe_glob (v := .int 8) (by rfl) ec_LONGEST_NAME ⟨_, rfl⟩) (nomark _)) (pw_or1 (pt_cmpR op_niU (pe_ix ix_U (pv 0) pe_int (fun _ _ => rfl)) (pe_glob (v := .str letS) (by rfl) ec_LETTERS ⟨_, rfl⟩) (by rfl)))))) (pss_one (ps_ret pe_bl)) pss_nil)
      (pss_cons (ps_for PassesOwn.never rfl (pi_str (pv 0)) (pg_name (i := 1) sc_is_name.nd rfl (Or.inl rfl)) (pss_one (ps_if (pt_cmpR op_niU (pv 1) (pe_glob (v := .str signS) (by rfl) ec_SIGNS ⟨_, rfl⟩) (by rfl)) (pss_one (ps_ret pe_bl)) pss_nil)))
      (pss_one (ps_ret pe_bl)))), ?_⟩
  try dsimp only [cxOf, Cx.nox, Cx.wish]
  rw [show start N_is_name [v0] = [some v0, none] from rfl]
  obtain ⟨x, rfl, hx, k⟩ := h
  walk_at "go"
  refine go_dec (fun h1 => ?_) (fun h1 => ?_)
  · walk_at "go"
    rw [← nm_short (x := x) (by omega)]
    exact k
  walk_at "go"
  refine go_dec (fun h2 => ?_) (fun h2 => ?_)
  · walk_at "go"
    rw [← nm_long h2]
    exact k
  walk_at "go"
  obtain ⟨c, hc⟩ := pick_ix (z := x) (r := 0) (by decide) (by omega)
  refine go_ixS (size_ok hx) hc ?_
  walk_at "go"
  refine go_ndec (fun h3 => ?_) (fun h3 => ?_)
  · walk_at "go"
    rw [← nm_head hc h3]
    exact k
  walk_at "go"
  refine for_s (fun i σ' H' => ∃ v, H' = H ∧ σ' = [some (.str x), v] ∧ ∀ (j d : Nat), j < i → x.cps.toList[j]? = some d → d ∈ signS.cps.toList) ⟨none, rfl, rfl, fun j d hj => absurd hj (Nat.not_lt_zero _)⟩ ?_ ?_
  · rintro i d σ' H' hd ⟨v, rfl, rfl, hall⟩
    walk_at "go"
    refine go_ndec (fun h4 => ?_) (fun h4 => ?_)
    · walk_at "go"
      rw [← nm_sign hd h4]
      exact k
    walk_at "go"
    refine ⟨_, rfl, rfl, fun j e hj he => ?_⟩
    by_cases q : j = i
    · subst q
      rw [hd] at he
      cases he
      exact h4
    · exact hall j e (by omega) he
  · rintro σ' H' ⟨v, rfl, rfl, hall⟩
    walk_at "go"
    rw [← nm_yes h1 h2 (fun c' hc' => by rw [hc] at hc'; cases hc'; exact h3) fun j d hd => hall j d (by have := (List.getElem?_eq_some_iff.mp hd).1; simpa [Str.length] using this) hd]
    exact k
abbrev N_check_name : List Str := ["text"]
theorem sc_check_name : FnScope N_check_name ["text"] (defScope s_check_name) := ⟨rfl, rfl, rfl, by decide +kernel, rfl, by decide +kernel, by decide +kernel⟩
def pCheckName (K : PySem.W.Frag) : P1 := fun v0 H Q E => ∃ x : Str, v0 = .str x ∧ x.length ≤ 100000 ∧ (isNm x = true → Q (.str x) H) ∧ (isNm x = false → ∀ d, H d = none → E (.ref (gA K "BadName")) (some d) (upd H d (.xd [("name", .str x)])))
set_option maxHeartbeats 4000000 in
theorem Dcheck_name  (T : Txt K mg) : Def P w K mg base (L2.CX P w) (3) "check_name" s_check_name ["text"] (Sp1 (pCheckName K)) := by
  obtain ⟨f, fd, m, F⟩ := T.f_check_name.ex
  refine ⟨f, fd, m, F.kp, F.bindsN (ps := ["text"]) (fun _ _ _ _ _ _ us hl => match us, hl with | [_], _ => rfl), ?_, F⟩
  obtain ⟨fis_name, fdis_name, mis_name, kpis_name, bis_name, Gis_name, Fis_name⟩ := (Dis_name (P := P) (w := w) (base := base) T).ex
  obtain ⟨fdi_BadName, bi_BadName, Gi_BadName⟩ := (Di_BadName (P := P) (w := w) (base := base) T)
  refine F.ok (CX := (L2.CX P w)) sc_check_name len1 (fun cdv A outer s H vs Q E hr h => ?_)
  obtain ⟨v0, rfl, h⟩ := h
  refine ⟨_, (pss_cons (ps_if (pt_not (pt_val (pe_call Gis_name (hr.mono (by first | decide | omega)) (by rfl) mis_name kpis_name bis_name .nil pass0 (pa_cons (pv 0) pa_nil)))) (pss_one (ps_raise rfl (takes_of rfl rfl rfl rfl) (pmk_oex T.x_BadName.oex T.i_BadName.ini T.i_BadName.ty Gi_BadName (hr.mono (by first | decide | omega)) bi_BadName .nil pass0 (by rfl) T.g_BadName (pa_cons (pv 0) pa_nil)))) pss_nil)
      (pss_one (ps_ret (pv 0)))), ?_⟩
  try dsimp only [cxOf, Cx.nox, Cx.wish]
  rw [show start N_check_name [v0] = [some v0] from rfl]
  obtain ⟨x, rfl, hx, k1, k2⟩ := h
  walk_at "go"
  refine ⟨x, rfl, hx, ?_⟩
  walk_at "go"
  refine go_nbool (fun e => ?_) (fun e => ?_)
  · refine go_mkO ?_
    walk_at "go"
    exact mk1 (k2 e)
  · walk_at "go"
    exact k1 e
end
end Q
namespace Q
section
variable {P : Program} {w : World} {K : PySem.W.Frag} {mg : Str → Option Value} {base : Heap}
abbrev N__law_match : List Str := ["_law_left", "_law_right", "_law_strict", "_law_k"]
theorem sc__law_match : FnScope N__law_match ["_law_left", "_law_right", "_law_strict"] (defScope s__law_match) := ⟨rfl, rfl, rfl, by decide +kernel, rfl, by decide +kernel, by decide +kernel⟩
set_option maxHeartbeats 4000000 in
theorem D_law_match_0  (T : Txt K mg) : Def P w K mg base CX0 (1) "_law_match" s__law_match ["_law_left", "_law_right", "_law_strict"] (Sp3 (pMatch K 0)) := by
  obtain ⟨f, fd, m, F⟩ := T.f__law_match.ex
  refine ⟨f, fd, m, F.kp, F.bindsN (ps := ["_law_left", "_law_right", "_law_strict"]) (fun _ _ _ _ _ _ us hl => match us, hl with | [_, _, _], _ => rfl), ?_, F⟩
  refine F.ok (CX := CX0) sc__law_match len3 (fun cdv A outer s H vs Q E hr h => ?_)
  obtain ⟨v0, v1, v2, rfl, h⟩ := h
  refine ⟨_, PSs.nox (pss_cons (ps_if (PW.pt (pw_or (pt_cmpR op_is0 (pv 0) pe_non (nomark _)) (pw_or1 (pt_cmpR op_is0 (pv 1) pe_non (nomark _))))) (pss_one (ps_ret (pe_and (pe_cmpR op_is0 (pv 0) pe_non (nomark _)) (pe_one (pe_cmpR op_is0 (pv 1) pe_non (nomark _)))))) pss_nil)
      (pss_cons (ps_if (PW.pt (pw_or (pt_val (pe_callB call_isi (by rfl) T.b_isinstance (by decide +kernel) (pa_cons (pv 0) (pa_cons (pe_bltn (v := .ty "bool") (by rfl) T.b_bool (by decide +kernel) rfl) pa_nil)))) (pw_or1 (pt_val (pe_callB call_isi (by rfl) T.b_isinstance (by decide +kernel) (pa_cons (pv 1) (pa_cons (pe_bltn (v := .ty "bool") (by rfl) T.b_bool (by decide +kernel) rfl) pa_nil))))))) (pss_one (ps_ret (pe_and (pe_callB call_isi (by rfl) T.b_isinstance (by decide +kernel) (pa_cons (pv 0) (pa_cons (pe_bltn (v := .ty "bool") (by rfl) T.b_bool (by decide +kernel) rfl) pa_nil))) (pe_and (pe_callB call_isi (by rfl) T.b_isinstance (by decide +kernel) (pa_cons (pv 1) (pa_cons (pe_bltn (v := .ty "bool") (by rfl) T.b_bool (by decide +kernel) rfl) pa_nil))) (pe_one (pe_cmpR op_eq (pv 0) (pv 1) (nomark _))))))) pss_nil)
      (pss_cons (ps_if (PW.pt (pw_or (pt_val (pe_callB call_isi (by rfl) T.b_isinstance (by decide +kernel) (pa_cons (pv 0) (pa_cons (pe_bltn (v := .ty "int") (by rfl) T.b_int (by decide +kernel) rfl) pa_nil)))) (pw_or1 (pt_val (pe_callB call_isi (by rfl) T.b_isinstance (by decide +kernel) (pa_cons (pv 1) (pa_cons (pe_bltn (v := .ty "int") (by rfl) T.b_int (by decide +kernel) rfl) pa_nil))))))) (pss_one (ps_ret (pe_and (pe_callB call_isi (by rfl) T.b_isinstance (by decide +kernel) (pa_cons (pv 0) (pa_cons (pe_bltn (v := .ty "int") (by rfl) T.b_int (by decide +kernel) rfl) pa_nil))) (pe_and (pe_callB call_isi (by rfl) T.b_isinstance (by decide +kernel) (pa_cons (pv 1) (pa_cons (pe_bltn (v := .ty "int") (by rfl) T.b_int (by decide +kernel) rfl) pa_nil))) (pe_one (pe_cmpR op_eq (pv 0) (pv 1) (nomark _))))))) pss_nil)
      (pss_cons (ps_if (PW.pt (pw_or (pt_val (pe_callB call_isi (by rfl) T.b_isinstance (by decide +kernel) (pa_cons (pv 0) (pa_cons (pe_bltn (v := .ty "str") (by rfl) T.b_str (by decide +kernel) rfl) pa_nil)))) (pw_or1 (pt_val (pe_callB call_isi (by rfl) T.b_isinstance (by decide +kernel) (pa_cons (pv 1) (pa_cons (pe_bltn (v := .ty "str") (by rfl) T.b_str (by decide +kernel) rfl) pa_nil))))))) (pss_one (ps_ret (pe_and (pe_callB call_isi (by rfl) T.b_isinstance (by decide +kernel) (pa_cons (pv 0) (pa_cons (pe_bltn (v := .ty "str") (by rfl) T.b_str (by decide +kernel) rfl) pa_nil))) (pe_and (pe_callB call_isi (by rfl) T.b_isinstance (by decide +kernel) (pa_cons (pv 1) (pa_cons (pe_bltn (v := .ty "str") (by rfl) T.b_str (by decide +kernel) rfl) pa_nil))) (pe_one (pe_cmpR op_eq (pv 0) (pv 1) (nomark _))))))) pss_nil)
      (pss_cons (ps_if (PW.pt (pw_or (pt_val (pe_callB call_isi (by rfl) T.b_isinstance (by decide +kernel) (pa_cons (pv 0) (pa_cons (pe_bltn (v := .ty "dict") (by rfl) T.b_dict (by decide +kernel) rfl) pa_nil)))) (pw_or1 (pt_val (pe_callB call_isi (by rfl) T.b_isinstance (by decide +kernel) (pa_cons (pv 1) (pa_cons (pe_bltn (v := .ty "dict") (by rfl) T.b_dict (by decide +kernel) rfl) pa_nil))))))) (pss_one ps_never) pss_nil)
      (pss_cons (ps_if (PW.pt (pw_or (pt_not (pt_val (pe_callB call_isiT (by rfl) T.b_isinstance (by decide +kernel) (pa_cons (pv 0) (pa_cons (pe_tup (pa_cons (pe_bltn (v := .ty "list") (by rfl) T.b_list (by decide +kernel) rfl) (pa_cons (pe_bltn (v := .ty "tuple") (by rfl) T.b_tuple (by decide +kernel) rfl) pa_nil))) pa_nil))))) (pw_or1 (pt_not (pt_val (pe_callB call_isiT (by rfl) T.b_isinstance (by decide +kernel) (pa_cons (pv 1) (pa_cons (pe_tup (pa_cons (pe_bltn (v := .ty "list") (by rfl) T.b_list (by decide +kernel) rfl) (pa_cons (pe_bltn (v := .ty "tuple") (by rfl) T.b_tuple (by decide +kernel) rfl) pa_nil))) pa_nil)))))))) (pss_one (ps_ret pe_bl)) pss_nil)
      (pss_cons (ps_if (PW.pt (pw_or (pt_cmpR op_ne (pe_callB call_lenU (by rfl) T.b_len (by decide +kernel) (pa_cons (pv 0) pa_nil)) (pe_callB call_lenU (by rfl) T.b_len (by decide +kernel) (pa_cons (pv 1) pa_nil)) (nomark _)) (pw_or1 (PW.pt (pw_and (pt_val (pv 2)) (pw_and1 (pt_cmpR op_ne (pe_callB call_isi (by rfl) T.b_isinstance (by decide +kernel) (pa_cons (pv 0) (pa_cons (pe_bltn (v := .ty "list") (by rfl) T.b_list (by decide +kernel) rfl) pa_nil))) (pe_callB call_isi (by rfl) T.b_isinstance (by decide +kernel) (pa_cons (pv 1) (pa_cons (pe_bltn (v := .ty "list") (by rfl) T.b_list (by decide +kernel) rfl) pa_nil))) (nomark _)))))))) (pss_one (ps_ret pe_bl)) pss_nil)
      (pss_cons ps_never
      (pss_one (ps_ret pe_bl)))))))))), ?_⟩
  try dsimp only [cxOf, Cx.nox, Cx.wish]
  rw [show start N__law_match [v0, v1, v2] = [some v0, some v1, some v2, none] from rfl]
  obtain ⟨st, rfl, e, k⟩ := h
  cases e with
  | non =>
    walk_at "gi"
    exact k _ Dx.refl
  | bl b =>
    walk_at "gi"
    rw [decide_eq_true rfl]
    exact k _ Dx.refl
  | int i =>
    walk_at "gi"
    rw [decide_eq_true rfl]
    exact k _ Dx.refl
  | str s =>
    walk_at "gi"
    rw [decide_eq_true rfl]
    exact k _ Dx.refl
set_option maxHeartbeats 4000000 in
theorem D_law_match_s {n : Nat} (T : Txt K mg) (ih_law_match : Def P w K mg base CX0 (n + 1) "_law_match" s__law_match ["_law_left", "_law_right", "_law_strict"] (Sp3 (pMatch K n))) : Def P w K mg base CX0 (n + 2) "_law_match" s__law_match ["_law_left", "_law_right", "_law_strict"] (Sp3 (pMatch K (n + 1))) := by
  obtain ⟨f, fd, m, F⟩ := T.f__law_match.ex
  refine ⟨f, fd, m, F.kp, F.bindsN (ps := ["_law_left", "_law_right", "_law_strict"]) (fun _ _ _ _ _ _ us hl => match us, hl with | [_, _, _], _ => rfl), ?_, F⟩
  obtain ⟨f_law_match, fd_law_match, m_law_match, kp_law_match, b_law_match, G_law_match, F_law_match⟩ := (ih_law_match).ex
  refine F.ok (CX := CX0) sc__law_match len3 (fun cdv A outer s H vs Q E hr h => ?_)
  obtain ⟨v0, v1, v2, rfl, h⟩ := h
  refine ⟨_, PSs.nox (pss_cons (ps_if (PW.pt (pw_or (pt_cmpR op_is0 (pv 0) pe_non (nomark _)) (pw_or1 (pt_cmpR op_is0 (pv 1) pe_non (nomark _))))) (pss_one (ps_ret (pe_and (pe_cmpR op_is0 (pv 0) pe_non (nomark _)) (pe_one (pe_cmpR op_is0 (pv 1) pe_non (nomark _)))))) pss_nil)
      (pss_cons (ps_if (PW.pt (pw_or (pt_val (pe_callB call_isi (by rfl) T.b_isinstance (by decide +kernel) (pa_cons (pv 0) (pa_cons (pe_bltn (v := .ty "bool") (by rfl) T.b_bool (by decide +kernel) rfl) pa_nil)))) (pw_or1 (pt_val (pe_callB call_isi (by rfl) T.b_isinstance (by decide +kernel) (pa_cons (pv 1) (pa_cons (pe_bltn (v := .ty "bool") (by rfl) T.b_bool (by decide +kernel) rfl) pa_nil))))))) (pss_one (ps_ret (pe_and (pe_callB call_isi (by rfl) T.b_isinstance (by decide +kernel) (pa_cons (pv 0) (pa_cons (pe_bltn (v := .ty "bool") (by rfl) T.b_bool (by decide +kernel) rfl) pa_nil))) (pe_and (pe_callB call_isi (by rfl) T.b_isinstance (by decide +kernel) (pa_cons (pv 1) (pa_cons (pe_bltn (v := .ty "bool") (by rfl) T.b_bool (by decide +kernel) rfl) pa_nil))) (pe_one (pe_cmpR op_eq (pv 0) (pv 1) (nomark _))))))) pss_nil)
      (pss_cons (ps_if (PW.pt (pw_or (pt_val (pe_callB call_isi (by rfl) T.b_isinstance (by decide +kernel) (pa_cons (pv 0) (pa_cons (pe_bltn (v := .ty "int") (by rfl) T.b_int (by decide +kernel) rfl) pa_nil)))) (pw_or1 (pt_val (pe_callB call_isi (by rfl) T.b_isinstance (by decide +kernel) (pa_cons (pv 1) (pa_cons (pe_bltn (v := .ty "int") (by rfl) T.b_int (by decide +kernel) rfl) pa_nil))))))) (pss_one (ps_ret (pe_and (pe_callB call_isi (by rfl) T.b_isinstance (by decide +kernel) (pa_cons (pv 0) (pa_cons (pe_bltn (v := .ty "int") (by rfl) T.b_int (by decide +kernel) rfl) pa_nil))) (pe_and (pe_callB call_isi (by rfl) T.b_isinstance (by decide +kernel) (pa_cons (pv 1) (pa_cons (pe_bltn (v := .ty "int") (by rfl) T.b_int (by decide +kernel) rfl) pa_nil))) (pe_one (pe_cmpR op_eq (pv 0) (pv 1) (nomark _))))))) pss_nil)
      (pss_cons (ps_if (PW.pt (pw_or (pt_val (pe_callB call_isi (by rfl) T.b_isinstance (by decide +kernel) (pa_cons (pv 0) (pa_cons (pe_bltn (v := .ty "str") (by rfl) T.b_str (by decide +kernel) rfl) pa_nil)))) (pw_or1 (pt_val (pe_callB call_isi (by rfl) T.b_isinstance (by decide +kernel) (pa_cons (pv 1) (pa_cons (pe_bltn (v := .ty "str") (by rfl) T.b_str (by decide +kernel) rfl) pa_nil))))))) (pss_one (ps_ret (pe_and (pe_callB call_isi (by rfl) T.b_isinstance (by decide +kernel) (pa_cons (pv 0) (pa_cons (pe_bltn (v := .ty "str") (by rfl) T.b_str (by decide +kernel) rfl) pa_nil))) (pe_and (pe_callB call_isi (by rfl) T.b_isinstance (by decide +kernel) (pa_cons (pv 1) (pa_cons (pe_bltn (v := .ty "str") (by rfl) T.b_str (by decide +kernel) rfl) pa_nil))) (pe_one (pe_cmpR op_eq (pv 0) (pv 1) (nomark _))))))) pss_nil)
      (pss_cons (ps_if (PW.pt (pw_or (pt_val (pe_callB call_isi (by rfl) T.b_isinstance (by decide +kernel) (pa_cons (pv 0) (pa_cons (pe_bltn (v := .ty "dict") (by rfl) T.b_dict (by decide +kernel) rfl) pa_nil)))) (pw_or1 (pt_val (pe_callB call_isi (by rfl) T.b_isinstance (by decide +kernel) (pa_cons (pv 1) (pa_cons (pe_bltn (v := .ty "dict") (by rfl) T.b_dict (by decide +kernel) rfl) pa_nil))))))) (pss_one ps_never) pss_nil)
      (pss_cons (ps_if (PW.pt (pw_or (pt_not (pt_val (pe_callB call_isiT (by rfl) T.b_isinstance (by decide +kernel) (pa_cons (pv 0) (pa_cons (pe_tup (pa_cons (pe_bltn (v := .ty "list") (by rfl) T.b_list (by decide +kernel) rfl) (pa_cons (pe_bltn (v := .ty "tuple") (by rfl) T.b_tuple (by decide +kernel) rfl) pa_nil))) pa_nil))))) (pw_or1 (pt_not (pt_val (pe_callB call_isiT (by rfl) T.b_isinstance (by decide +kernel) (pa_cons (pv 1) (pa_cons (pe_tup (pa_cons (pe_bltn (v := .ty "list") (by rfl) T.b_list (by decide +kernel) rfl) (pa_cons (pe_bltn (v := .ty "tuple") (by rfl) T.b_tuple (by decide +kernel) rfl) pa_nil))) pa_nil)))))))) (pss_one (ps_ret pe_bl)) pss_nil)
      (pss_cons (ps_if (PW.pt (pw_or (pt_cmpR op_ne (pe_callB call_lenU (by rfl) T.b_len (by decide +kernel) (pa_cons (pv 0) pa_nil)) (pe_callB call_lenU (by rfl) T.b_len (by decide +kernel) (pa_cons (pv 1) pa_nil)) (nomark _)) (pw_or1 (PW.pt (pw_and (pt_val (pv 2)) (pw_and1 (pt_cmpR op_ne (pe_callB call_isi (by rfl) T.b_isinstance (by decide +kernel) (pa_cons (pv 0) (pa_cons (pe_bltn (v := .ty "list") (by rfl) T.b_list (by decide +kernel) rfl) pa_nil))) (pe_callB call_isi (by rfl) T.b_isinstance (by decide +kernel) (pa_cons (pv 1) (pa_cons (pe_bltn (v := .ty "list") (by rfl) T.b_list (by decide +kernel) rfl) pa_nil))) (nomark _)))))))) (pss_one (ps_ret pe_bl)) pss_nil)
      (pss_cons (ps_for PassesOwn.never rfl (pi_range1 (by rfl) T.b_range (pa_cons (pe_callB call_lenU (by rfl) T.b_len (by decide +kernel) (pa_cons (pv 0) pa_nil)) pa_nil)) (pg_name (i := 3) sc__law_match.nd rfl (Or.inl rfl)) (pss_one (ps_if (pt_not (pt_val (pe_call G_law_match (hr.mono (by first | decide | omega)) (by rfl) m_law_match kp_law_match b_law_match .nil pass0 (pa_cons (pe_ix ix_U (pv 0) (pv 3) (fun _ _ => rfl)) (pa_cons (pe_ix ix_U (pv 1) (pv 3) (fun _ _ => rfl)) (pa_cons (pv 2) pa_nil)))))) (pss_one (ps_ret pe_bl)) pss_nil)))
      (pss_one (ps_ret pe_bl)))))))))), ?_⟩
  try dsimp only [cxOf, Cx.nox, Cx.wish]
  rw [show start N__law_match [v0, v1, v2] = [some v0, some v1, some v2, none] from rfl]
  obtain ⟨st, rfl, e, k⟩ := h
  cases e with
  | non =>
    walk_at "gi"
    exact k _ Dx.refl
  | bl b =>
    walk_at "gi"
    rw [decide_eq_true rfl]
    exact k _ Dx.refl
  | int i =>
    walk_at "gi"
    rw [decide_eq_true rfl]
    exact k _ Dx.refl
  | str s =>
    walk_at "gi"
    rw [decide_eq_true rfl]
    exact k _ Dx.refl
  | tup ha hb e l hi =>
    rename_i a b xs ys
    walk_at "gi"
    refine ⟨by show 2 ≤ sizeLine; decide, fun p hp => ?_⟩
    walk_at "gi"
    refine go_isi2 (b := false) (b' := true) (.tup (sqt_new ha hp)) upd_same ?_ ?_ (c := true) rfl ?_
    · decide +kernel
    · decide +kernel
    walk_at "gi"
    refine ⟨by show 2 ≤ sizeLine; decide, fun p2 hp2 => ?_⟩
    walk_at "gi"
    refine go_isi2 (b := false) (b' := true) (.tup (sqt_new (sqt_new hb hp) hp2)) upd_same ?_ ?_ (c := true) rfl ?_
    · decide +kernel
    · decide +kernel
    have d2 : Dx No H (upd (upd H p (.tup [.ty "list", .ty "tuple"])) p2 (.tup [.ty "list", .ty "tuple"])) := (Dx.new hp).trans (Dx.new hp2)
    have ha2 := d2.sqT id ha
    have hb2 := d2.sqT id hb
    have hi2 := fun i x y e1 e2 => (hi i x y e1 e2).keep d2
    generalize upd (upd H p (.tup [.ty "list", .ty "tuple"])) p2 (.tup [.ty "list", .ty "tuple"]) = H2 at d2 ha2 hb2 hi2 ⊢
    walk_at "gi"
    refine go_lenT ha2 ?_
    walk_at "gi"
    refine go_lenT hb2 ?_
    walk_at "gi"
    rw [e, decide_eq_true rfl]
    walk_at "gi"
    refine go_bool (fun _ => ?_) (fun _ => ?_)
    all_goals
      walk_at "gi"
      try (rw [decide_eq_true rfl]; walk_at "gi")
      refine go_lenT ha2 ?_
      walk_at "gi"
      refine for_r (by omega) (fun i σ' H' => ∃ v, σ' = [some (.ref a), some (.ref b), some (.bl st), v] ∧ Dx No H H' ∧ Dx No H2 H') ⟨none, rfl, d2, Dx.refl⟩ ?_ ?_
      · rintro i σ' H' hi ⟨v, rfl, d3, d4⟩
        have hx : i < xs.length := by omega
        have hy : i < ys.length := by omega
        walk_at "go"
        refine go_ixT (d4.sqT id ha2) (atI_nat (List.getElem?_eq_getElem hx)) ?_
        walk_at "go"
        refine go_ixT (d4.sqT id hb2) (atI_nat (List.getElem?_eq_getElem hy)) ?_
        walk_at "go"
        refine ⟨st, rfl, (hi2 i _ _ (List.getElem?_eq_getElem hx) (List.getElem?_eq_getElem hy)).keep d4, fun H3 d5 => ?_⟩
        walk_at "go"
        exact ⟨_, rfl, d3.trans d5, d4.trans d5⟩
      · rintro σ' H' ⟨v, rfl, d3, d4⟩
        walk_at "go"
        exact k _ d3
  | lst ha hb e l hi =>
    rename_i a b xs ys
    walk_at "gi"
    refine ⟨by show 2 ≤ sizeLine; decide, fun p hp => ?_⟩
    walk_at "gi"
    refine go_isi2 (b := true) (b' := false) (.lst (sql_new ha hp)) upd_same ?_ ?_ (c := true) rfl ?_
    · decide +kernel
    · decide +kernel
    walk_at "gi"
    refine ⟨by show 2 ≤ sizeLine; decide, fun p2 hp2 => ?_⟩
    walk_at "gi"
    refine go_isi2 (b := true) (b' := false) (.lst (sql_new (sql_new hb hp) hp2)) upd_same ?_ ?_ (c := true) rfl ?_
    · decide +kernel
    · decide +kernel
    have d2 : Dx No H (upd (upd H p (.tup [.ty "list", .ty "tuple"])) p2 (.tup [.ty "list", .ty "tuple"])) := (Dx.new hp).trans (Dx.new hp2)
    have ha2 := d2.sqL id ha
    have hb2 := d2.sqL id hb
    have hi2 := fun i x y e1 e2 => (hi i x y e1 e2).keep d2
    generalize upd (upd H p (.tup [.ty "list", .ty "tuple"])) p2 (.tup [.ty "list", .ty "tuple"]) = H2 at d2 ha2 hb2 hi2 ⊢
    walk_at "gi"
    refine go_lenL ha2 ?_
    walk_at "gi"
    refine go_lenL hb2 ?_
    walk_at "gi"
    rw [e, decide_eq_true rfl]
    walk_at "gi"
    refine go_bool (fun _ => ?_) (fun _ => ?_)
    all_goals
      walk_at "gi"
      try (rw [decide_eq_true rfl]; walk_at "gi")
      refine go_lenL ha2 ?_
      walk_at "gi"
      refine for_r (by omega) (fun i σ' H' => ∃ v, σ' = [some (.ref a), some (.ref b), some (.bl st), v] ∧ Dx No H H' ∧ Dx No H2 H') ⟨none, rfl, d2, Dx.refl⟩ ?_ ?_
      · rintro i σ' H' hi ⟨v, rfl, d3, d4⟩
        have hx : i < xs.length := by omega
        have hy : i < ys.length := by omega
        walk_at "go"
        refine go_ixL (d4.sqL id ha2) (atI_nat (List.getElem?_eq_getElem hx)) ?_
        walk_at "go"
        refine go_ixL (d4.sqL id hb2) (atI_nat (List.getElem?_eq_getElem hy)) ?_
        walk_at "go"
        refine ⟨st, rfl, (hi2 i _ _ (List.getElem?_eq_getElem hx) (List.getElem?_eq_getElem hy)).keep d4, fun H3 d5 => ?_⟩
        walk_at "go"
        exact ⟨_, rfl, d3.trans d5, d4.trans d5⟩
      · rintro σ' H' ⟨v, rfl, d3, d4⟩
        walk_at "go"
        exact k _ d3
theorem D_law_match (T : Txt K mg) : ∀ n : Nat, Def P w K mg base CX0 (n + 1) "_law_match" s__law_match ["_law_left", "_law_right", "_law_strict"] (Sp3 (pMatch K n))
  | 0 => D_law_match_0 T
  | n + 1 => D_law_match_s T (D_law_match T n)
abbrev N__law_same : List Str := ["_law_actual", "_law_expected"]
theorem sc__law_same : FnScope N__law_same ["_law_actual", "_law_expected"] (defScope s__law_same) := ⟨rfl, rfl, rfl, by decide +kernel, rfl, by decide +kernel, by decide +kernel⟩
set_option maxHeartbeats 4000000 in
theorem D_law_same  (T : Txt K mg) : Def P w K mg base CX0 (3) "_law_same" s__law_same ["_law_actual", "_law_expected"] (Sp2 (pSame K 1)) := by
  obtain ⟨f, fd, m, F⟩ := T.f__law_same.ex
  refine ⟨f, fd, m, F.kp, F.bindsN (ps := ["_law_actual", "_law_expected"]) (fun _ _ _ _ _ _ us hl => match us, hl with | [_, _], _ => rfl), ?_, F⟩
  obtain ⟨f_law_match, fd_law_match, m_law_match, kp_law_match, b_law_match, G_law_match, F_law_match⟩ := (D_law_match (P := P) (w := w) (base := base) T 1).ex
  refine F.ok (CX := CX0) sc__law_same len2 (fun cdv A outer s H vs Q E hr h => ?_)
  obtain ⟨v0, v1, rfl, h⟩ := h
  refine ⟨_, PSs.nox (pss_one (ps_ret (pe_call G_law_match (hr.mono (by first | decide | omega)) (by rfl) m_law_match kp_law_match b_law_match .nil pass0 (pa_cons (pv 0) (pa_cons (pv 1) (pa_cons pe_bl pa_nil)))))), ?_⟩
  try dsimp only [cxOf, Cx.nox, Cx.wish]
  rw [show start N__law_same [v0, v1] = [some v0, some v1] from rfl]
  obtain ⟨e, k⟩ := h
  walk_at "go"
  exact ⟨true, rfl, e, k⟩
end
end Q
namespace Q
section
variable {P : Program} {w : World} {K : PySem.W.Frag} {mg : Str → Option Value} {base : Heap}
abbrev N__law_checked : List Str := ["_law_word_here", "_law_told", "_law_fits", "_law_more", "e"]
theorem sc__law_checked : FnScope N__law_checked ["_law_word_here"] (defScope s__law_checked) := ⟨rfl, rfl, rfl, by decide +kernel, rfl, by decide +kernel, by decide +kernel⟩
def pChecked : P1 := fun v0 H Q _ => ∃ x : Str, v0 = .str x ∧ x.length ≤ 100000 ∧ (isNm x = true → Q (.str x) H) ∧
  (isNm x = false → ∀ p H', Dx No H H' → H' p = some (.tup [.str "BadName", .str x, .bl true, .bl false]) → Q (.ref p) H')
set_option maxHeartbeats 4000000 in
theorem D_law_checked  (T : Txt K mg) : Def P w K mg base CX0 (4) "_law_checked" s__law_checked ["_law_word_here"] (Sp1 (pChecked)) := by
  obtain ⟨f, fd, m, F⟩ := T.f__law_checked.ex
  refine ⟨f, fd, m, F.kp, F.bindsN (ps := ["_law_word_here"]) (fun _ _ _ _ _ _ us hl => match us, hl with | [_], _ => rfl), ?_, F⟩
  obtain ⟨fcheck_name, fdcheck_name, mcheck_name, kpcheck_name, bcheck_name, Gcheck_name, Fcheck_name⟩ := (Dcheck_name (P := P) (w := w) (base := base) T).ex
  refine F.ok (CX := CX0) sc__law_checked len1 (fun cdv A outer s H vs Q E hr h => ?_)
  obtain ⟨v0, rfl, h⟩ := h
  refine ⟨_, PSs.nox (pss_cons (ps_try_as (i := 4) (Wout := (fun _ _ _ _ => False)) rfl rfl sc__law_checked.nd rfl rfl ⟨rfl, by decide, Or.inl T.g_BadName⟩ takes0 (fun W pn xe tk _ => (pss_one (ps_set (i := 1) sc__law_checked.nd rfl (Or.inl rfl) (pe_callS Gcheck_name (hr.mono (by first | decide | omega)) (by rfl) mcheck_name kpcheck_name bcheck_name (fun s9 => passAt tk s9) (by exact (pa_cons (pv 0) pa_nil)))))) (fun a oe cls d pn hz hf => (pss_cons (ps_set (i := 2) sc__law_checked.nd rfl (Or.inl rfl) (pe_and (pe_callB (call_isX hz hf) (by rfl) T.b_isinstance (by decide +kernel) (pa_cons (pv 4) (pa_cons (pe_glob (v := .ref (gA K "OutshinerError")) (by rfl) T.g_OutshinerError rfl) pa_nil))) (pe_one (pe_callB (call_isX hz hf) (by rfl) T.b_isinstance (by decide +kernel) (pa_cons (pv 4) (pa_cons (pe_bltn (v := .ty "ValueError") (by rfl) T.b_ValueError (by decide +kernel) rfl) pa_nil))))))
      (pss_cons (ps_set (i := 3) sc__law_checked.nd rfl (Or.inl rfl) (pe_callB (call_isX hz hf) (by rfl) T.b_isinstance (by decide +kernel) (pa_cons (pv 4) (pa_cons (pe_tup (pa_cons (pe_glob (v := .ref (gA K "BadNumber")) (by rfl) T.g_BadNumber rfl) (pa_cons (pe_glob (v := .ref (gA K "BadSpan")) (by rfl) T.g_BadSpan rfl) (pa_cons (pe_glob (v := .ref (gA K "Doubled")) (by rfl) T.g_Doubled rfl) (pa_cons (pe_glob (v := .ref (gA K "SelfBond")) (by rfl) T.g_SelfBond rfl) (pa_cons (pe_glob (v := .ref (gA K "Unknown")) (by rfl) T.g_Unknown rfl) (pa_cons (pe_glob (v := .ref (gA K "Missing")) (by rfl) T.g_Missing rfl) (pa_cons (pe_glob (v := .ref (gA K "BadStretch")) (by rfl) T.g_BadStretch rfl) (pa_cons (pe_glob (v := .ref (gA K "WebsDiffer")) (by rfl) T.g_WebsDiffer rfl) pa_nil))))))))) pa_nil))))
      (pss_cons (ps_set (i := 3) sc__law_checked.nd rfl (Or.inl rfl) (pe_or (pv 3) (pe_one (pe_callB (call_isX hz hf) (by rfl) T.b_isinstance (by decide +kernel) (pa_cons (pv 4) (pa_cons (pe_tup (pa_cons (pe_glob (v := .ref (gA K "BordersDiffer")) (by rfl) T.g_BordersDiffer rfl) (pa_cons (pe_glob (v := .ref (gA K "OutOfRange")) (by rfl) T.g_OutOfRange rfl) (pa_cons (pe_glob (v := .ref (gA K "TooLarge")) (by rfl) T.g_TooLarge rfl) (pa_cons (pe_glob (v := .ref (gA K "BadText")) (by rfl) T.g_BadText rfl) (pa_cons (pe_glob (v := .ref (gA K "BadErrand")) (by rfl) T.g_BadErrand rfl) (pa_cons (pe_glob (v := .ref (gA K "BadRow")) (by rfl) T.g_BadRow rfl) (pa_cons (pe_glob (v := .ref (gA K "Refused")) (by rfl) T.g_Refused rfl) (pa_cons (pe_glob (v := .ref (gA K "Broken")) (by rfl) T.g_Broken rfl) pa_nil))))))))) pa_nil))))))
      (pss_cons (ps_set (i := 3) sc__law_checked.nd rfl (Or.inl rfl) (pe_or (pv 3) (pe_one (pe_callB (call_isX hz hf) (by rfl) T.b_isinstance (by decide +kernel) (pa_cons (pv 4) (pa_cons (pe_tup (pa_cons (pe_glob (v := .ref (gA K "NotComing")) (by rfl) T.g_NotComing rfl) (pa_cons (pe_glob (v := .ref (gA K "Ungranted")) (by rfl) T.g_Ungranted rfl) (pa_cons (pe_glob (v := .ref (gA K "Halted")) (by rfl) T.g_Halted rfl) (pa_cons (pe_glob (v := .ref (gA K "Empty")) (by rfl) T.g_Empty rfl) pa_nil))))) pa_nil))))))
      (pss_one (ps_ret (pe_tup (pa_cons pe_str (pa_cons (pe_xf T.x_BadName.xf (T.i_BadName.no "name" (by decide +kernel)) hz hf (pv 4)) (pa_cons (pv 2) (pa_cons (pv 3) pa_nil)))))))))))))
      (pss_one (ps_ret (pv 1)))), ?_⟩
  try dsimp only [cxOf, Cx.nox, Cx.wish]
  rw [show start N__law_checked [v0] = [some v0, none, none, none, none] from rfl]
  obtain ⟨x, rfl, hx, k1, k2⟩ := h
  walk_at "go"
  refine ⟨x, rfl, hx, fun e => ?_, fun e d hd => ?_⟩
  · walk_at "go"
    exact k1 e
  refine ⟨true, T.x_BadName.te, fun _ a ha => ?_, fun z => nomatch z⟩
  have d0 : Dx No H (upd H d (.xd [("name", .str x)])) := Dx.new hd
  have h0 : (upd H d (.xd [("name", .str x)])) d = some (.xd [("name", .str x)]) := upd_same
  generalize upd H d (.xd [("name", .str x)]) = H0 at d0 h0 ha ⊢
  walk_at "go"
  refine go_isx1 T.x_BadName.isx ⟨rfl, d, _, rfl, h0⟩ T.k_base ?_
  walk_at "go"
  refine go_isxT T.x_BadName.isx ⟨rfl, d, _, rfl, h0⟩ T.k_val ?_
  walk_at "go"
  refine ⟨by show 8 ≤ sizeLine; decide, fun p1 hp1 => ?_⟩
  walk_at "go"
  refine go_isxL T.x_BadName.isx T.k_t1 ⟨rfl, d, _, rfl, stands h0 hp1⟩ upd_same ?_
  walk_at "go"
  refine ⟨by show 8 ≤ sizeLine; decide, fun p2 hp2 => ?_⟩
  walk_at "go"
  refine go_isxL T.x_BadName.isx T.k_t2 ⟨rfl, d, _, rfl, stands (stands h0 hp1) hp2⟩ upd_same ?_
  walk_at "go"
  refine ⟨by show 4 ≤ sizeLine; decide, fun p3 hp3 => ?_⟩
  walk_at "go"
  refine go_isxL T.x_BadName.isx T.k_t3 ⟨rfl, d, _, rfl, stands (stands (stands h0 hp1) hp2) hp3⟩ upd_same ?_
  walk_at "go"
  refine go_xfq (stands (stands (stands h0 hp1) hp2) hp3) rfl ?_
  walk_at "go"
  refine ⟨by show 4 ≤ sizeLine; decide, fun p4 hp4 => ?_⟩
  walk_at "go"
  exact k2 e _ _ ((((d0.trans (Dx.new hp1)).trans (Dx.new hp2)).trans (Dx.new hp3)).trans (Dx.new hp4)) upd_same
end
end Q
namespace Q
section
variable {P : Program} {w : World} {K : PySem.W.Frag} {mg : Str → Option Value} {base : Heap}
abbrev N_law : List Str := ["_law_script", "_law_store_here", "_law_words", "_law_turn", "_law_word_here", "_law_fine", "_law_due", "_law_k"]
theorem sc_law : FnScope N_law ["_law_script"] (defScope s_law) := ⟨rfl, rfl, rfl, by decide +kernel, rfl, by decide +kernel, by decide +kernel⟩
set_option maxHeartbeats 4000000 in
theorem Dlaw  (T : Txt K mg) : Def P w K mg base CX0 (8) "law" s_law ["_law_script"] (Sp1 (pLaw K)) := by
  obtain ⟨f, fd, m, F⟩ := T.f_law.ex
  refine ⟨f, fd, m, F.kp, F.bindsN (ps := ["_law_script"]) (fun _ _ _ _ _ _ us hl => match us, hl with | [_], _ => rfl), ?_, F⟩
  obtain ⟨f_law_checked, fd_law_checked, m_law_checked, kp_law_checked, b_law_checked, G_law_checked, F_law_checked⟩ := (D_law_checked (P := P) (w := w) (base := base) T).ex
  obtain ⟨f_law_is_name, fd_law_is_name, m_law_is_name, kp_law_is_name, b_law_is_name, G_law_is_name, F_law_is_name⟩ := (D_law_is_name (P := P) (w := w) (base := base) T).ex
  obtain ⟨f_law_same, fd_law_same, m_law_same, kp_law_same, b_law_same, G_law_same, F_law_same⟩ := (D_law_same (P := P) (w := w) (base := base) T).ex
  obtain ⟨f_law_store, fd_law_store, m_law_store, kp_law_store, b_law_store, G_law_store, F_law_store⟩ := (D_law_store (P := P) (w := w) (base := base) T).ex
  obtain ⟨f_law_take, fd_law_take, m_law_take, kp_law_take, b_law_take, G_law_take, F_law_take⟩ := (D_law_take (P := P) (w := w) (base := base) T).ex
  obtain ⟨f_law_word, fd_law_word, m_law_word, kp_law_word, b_law_word, G_law_word, F_law_word⟩ := (D_law_word (P := P) (w := w) (base := base) T).ex
  obtain ⟨fis_name, fdis_name, mis_name, kpis_name, bis_name, Gis_name, Fis_name⟩ := (Dis_name (P := P) (w := w) (base := base) T).ex
  refine F.ok (CX := CX0) sc_law len1 (fun cdv A outer s H vs Q E hr h => ?_)
  obtain ⟨v0, rfl, h⟩ := h
  refine ⟨_, PSs.nox (pss_cons (ps_set (i := 1) sc_law.nd rfl (Or.inr rfl) (pe_call G_law_store (hr.mono (by first | decide | omega)) (by rfl) m_law_store kp_law_store b_law_store .nil pass0 (pa_cons (pv 0) pa_nil)))
      (pss_cons (ps_setLc (i := 2) (own := [("_law_k", 7)]) (g := gName 7) (tt := tYes) rfl sc_law.nd rfl rfl (sw_true rfl rfl rfl (by decide +kernel)) (pi_range1 (by rfl) T.b_range (pa_cons (pe_op op_addU pe_int (pe_call G_law_take (hr.mono (by first | decide | omega)) (by rfl) m_law_take kp_law_take b_law_take .nil pass0 (pa_cons (pv 1) (pa_cons pe_int pa_nil)))) pa_nil)) (blkOk_by (own := [("_law_k", 7)]) (N := N_law) (sc := defScope s_law) (by decide +kernel)) (fun _ _ _ _ _ => (pg_name (i := 7) sc_law.nd rfl (Or.inl rfl))) (fun _ _ _ _ _ => pts_nil) (fun _ _ _ _ _ => (pe_call G_law_word (hr.mono (by first | decide | omega)) (by rfl) m_law_word kp_law_word b_law_word .nil pass0 (pa_cons (pv 1) pa_nil))))
      (pss_cons (ps_expr (pe_bm PySem.F.plainAttrs_list PySem.F.slot_list_append PySem.F.type_list_append mt_append (pv 2) (pa_cons (pe_ix ix_U (pv 2) pe_int (fun _ _ => rfl)) pa_nil)))
      (pss_cons (ps_for PassesOwn.never rfl (pi_range1 (by rfl) T.b_range (pa_cons pe_int pa_nil)) (pg_name (i := 3) sc_law.nd rfl (Or.inl rfl)) (pss_cons (ps_for PassesOwn.never rfl (pi_list (pv 2)) (pg_name (i := 4) sc_law.nd rfl (Or.inl rfl)) (pss_cons (ps_set (i := 5) sc_law.nd rfl (Or.inl rfl) (pe_call G_law_is_name (hr.mono (by first | decide | omega)) (by rfl) m_law_is_name kp_law_is_name b_law_is_name .nil pass0 (pa_cons (pv 4) pa_nil)))
      (pss_cons (ps_set (i := 6) sc_law.nd rfl (Or.inl rfl) (pv 4))
      (pss_cons (ps_if (pt_not (pt_val (pv 5))) (pss_one (ps_set (i := 6) sc_law.nd rfl (Or.inl rfl) (pe_tup (pa_cons pe_str (pa_cons (pv 4) (pa_cons pe_bl (pa_cons pe_bl pa_nil))))))) pss_nil)
      (pss_cons (ps_if (PW.pt (pw_or (pt_not (pt_val (pe_call G_law_same (hr.mono (by first | decide | omega)) (by rfl) m_law_same kp_law_same b_law_same .nil pass0 (pa_cons (pe_call Gis_name (hr.mono (by first | decide | omega)) (by rfl) mis_name kpis_name bis_name .nil pass0 (pa_cons (pv 4) pa_nil)) (pa_cons (pv 5) pa_nil))))) (pw_or1 (pt_not (pt_val (pe_call G_law_same (hr.mono (by first | decide | omega)) (by rfl) m_law_same kp_law_same b_law_same .nil pass0 (pa_cons (pe_callN0 Gis_name (hr.mono (by first | decide | omega)) (by rfl) mis_name kpis_name (kbinds_all (ks := ["text"]) Fis_name fun _ _ _ _ _ _ ws hl => match ws, hl with | [_], _ => rfl) pass0 (pk_cons (pv 4) pk_nil)) (pa_cons (pv 5) pa_nil)))))))) (pss_one (ps_ret pe_bl)) pss_nil)
      (pss_one (ps_if (pt_not (pt_val (pe_call G_law_same (hr.mono (by first | decide | omega)) (by rfl) m_law_same kp_law_same b_law_same .nil pass0 (pa_cons (pe_call G_law_checked (hr.mono (by first | decide | omega)) (by rfl) m_law_checked kp_law_checked b_law_checked .nil pass0 (pa_cons (pv 4) pa_nil)) (pa_cons (pv 6) pa_nil))))) (pss_one (ps_ret pe_bl)) pss_nil)))))))
      (pss_one (ps_set (i := 2) sc_law.nd rfl (Or.inl rfl) (pe_listRev rfl (by rfl) T.b_list (by rfl) T.b_reversed (pv 2))))))
      (pss_one (ps_ret pe_bl)))))), ?_⟩
  try dsimp only [cxOf, Cx.nox, Cx.wish]
  rw [show start N_law [v0] = [some v0, none, none, none, none, none, none, none] from rfl]
  obtain ⟨a, ns, rfl, hs, hl, k⟩ := h
  walk_at "go"
  refine ⟨a, ns, rfl, hs, fun c H1 d1 hc ok1 => ?_⟩
  walk_at "go"
  refine take_go ok1 (by decide) (by decide) fun r1 H2 a2 b2 d2 ok2 => ?_
  walk_at "go"
  refine lc_r (by omega) fun D hD => ⟨fun i H' => ∃ ws, H' D = some (.lst ws) ∧ ws.length = i ∧ (∀ v ∈ ws, IsText 0 60 v) ∧ Ok (Add (Only1 c) D) H' c, ⟨[], upd_same, rfl, fun v hv => (List.not_mem_nil hv).elim, ok2.add hD⟩, ?_, ?_⟩
  · rintro i H' hi ⟨ws, h1, h2, h3, h4⟩
    have hDc : D ≠ c := ok2.ne_new hD
    dsimp only [wipe, List.map, List.set_cons_zero, List.set_cons_succ]
    walk_at "go"
    refine ⟨rfl, ?_⟩
    walk_at "go"
    refine ⟨c, _, rfl, h4, fun y H3 hy d3 ok3 => ?_⟩
    have g1 := d3.st _ _ hDc h1
    refine go_lca g1 (size_lt (by omega)) ⟨_, upd_same, by rw [List.length_append, h2]; rfl, fun v hv => ?_, ok3.mut (.inl rfl) hDc⟩
    rcases List.mem_append.mp hv with z | z
    · exact h3 v z
    · rw [List.mem_singleton.mp z]
      exact hy
  · rintro H' ⟨ws, h1, h2, h3, h4⟩
    walk_at "go"
    refine ⟨ty_lst (SqL.of h1), ?_⟩
    walk_at "go"
    have hlt : 0 < ws.length := by omega
    refine go_ixL (SqL.of h1) (atI_nat (j := 0) (List.getElem?_eq_getElem hlt)) ?_
    walk_at "go"
    refine go_app h1 (size_lt (by omega)) ?_
    walk_at "go"
    refine for_r (by omega) (fun i σ' H' => ∃ (l : Addr) (us : List V) (v3 v4 v5 v6 : Option V), σ' = [some (.ref a), some (.ref c), some (.ref l), v3, v4, v5, v6, none] ∧ H' l = some (.lst us) ∧ (∀ v ∈ us, IsText 0 60 v)) ⟨D, _, none, none, none, none, rfl, upd_same, fun v hv => ?_⟩ ?_ ?_
    · rcases List.mem_append.mp hv with z | z
      · exact h3 v z
      · rw [List.mem_singleton.mp z]
        exact h3 _ (List.getElem_mem hlt)
    · rintro i σ' H3 hi ⟨l, us, v3, v4, v5, v6, rfl, g1, g2⟩
      walk_at "go"
      refine for_l (SqL.of g1) (fun j σ' H' => ∃ (v4 v5 v6 : Option V), σ' = [some (.ref a), some (.ref c), some (.ref l), some (.int i), v4, v5, v6, none] ∧ Dx No H3 H') ⟨_, _, _, rfl, Dx.refl⟩ (fun j σ' H' _ ⟨_, _, _, _, d⟩ => d.sqL id (SqL.of g1)) ?_ ?_
      · rintro j v σ' H4 hv ⟨v4, v5, v6, rfl, d4⟩
        obtain ⟨x, rfl, _, hx⟩ := g2 v (List.mem_of_getElem? hv)
        walk_at "go"
        refine ⟨x, rfl, by omega, ?_⟩
        walk_at "go"
        refine go_nbool (fun e => ?_) (fun e => ?_)
        · walk_at "go"
          refine ⟨by show 4 ≤ sizeLine; decide, fun p hp => ?_⟩
          walk_at "go"
          refine ⟨x, rfl, by omega, ?_⟩
          walk_at "go"
          refine ⟨.bl _, fun H5 d5 => ?_⟩
          walk_at "go"
          refine ⟨x, rfl, by omega, ?_⟩
          walk_at "go"
          refine ⟨.bl _, fun H6 d6 => ?_⟩
          walk_at "go"
          refine ⟨x, rfl, by omega, fun z => ?_, fun _ q H7 d7 hq => ?_⟩
          · rw [e] at z
            exact nomatch z
          walk_at "go"
          have hp7 := d7.st _ _ id (d6.st _ _ id (d5.st p _ id upd_same))
          refine ⟨eqv_tup (SqT.of hq) (SqT.of hp7) rfl (by show 4 ≤ 100000; decide), fun H8 d8 => ?_⟩
          walk_at "go"
          exact ⟨_, _, _, rfl, ((((d4.trans (Dx.new hp)).trans d5).trans d6).trans d7).trans d8⟩
        · walk_at "go"
          refine ⟨x, rfl, by omega, ?_⟩
          walk_at "go"
          refine ⟨.bl _, fun H5 d5 => ?_⟩
          walk_at "go"
          refine ⟨x, rfl, by omega, ?_⟩
          walk_at "go"
          refine ⟨.bl _, fun H6 d6 => ?_⟩
          walk_at "go"
          refine ⟨x, rfl, by omega, fun _ => ?_, fun z => ?_⟩
          · walk_at "go"
            refine ⟨.str _, fun H8 d8 => ?_⟩
            walk_at "go"
            exact ⟨_, _, _, rfl, ((d4.trans d5).trans d6).trans d8⟩
          · rw [e] at z
            exact nomatch z
      · rintro σ' H4 ⟨v4, v5, v6, rfl, d4⟩
        walk_at "go"
        refine go_lrq (SqL.of (d4.st _ _ id g1)) fun p hp => ?_
        walk_at "go"
        exact ⟨p, _, _, _, _, _, rfl, upd_same, fun v hv => g2 v (List.mem_reverse.mp hv)⟩
    · rintro σ' H4 ⟨l, us, v3, v4, v5, v6, rfl, _⟩
      walk_at "go"
      exact k _
end
end Q
namespace Q
open PySem PySem.Spec PyProof.Rows L2
def names0 : List Str := ["__name__", "OutshinerError", "BadName", "BadNumber", "BadSpan", "Doubled", "SelfBond", "Unknown", "Missing", "BadStretch", "WebsDiffer", "BordersDiffer", "OutOfRange", "TooLarge", "BadText", "BadErrand", "BadRow", "Refused", "Broken", "NotComing", "Ungranted", "Halted", "Empty", "LETTERS", "SIGNS", "LONGEST_NAME", "is_name", "check_name", "_law_store", "_law_stir"]
def names1 : List Str := ["_law_take", "_law_pick", "_law_name", "_law_bad_name", "_law_sign", "_law_text", "_law_near_name", "_law_is_name", "_law_match", "_law_match_dicts", "_law_same", "_law_word", "_law_checked"]
def names : List Str := names0 ++ names1
abbrev lawRow : PySem.W.OpenLaw := PySem.Challenge.rw_outshiners_k00_names_told
abbrev hk : PySem.W.Hook := hookQ 5 fa fn exB
def ob (s : PySem.W.SharedT) : He.AlD × Bool := obsQ 5 fa fn exB (HandSHeadRun.getT s)
theorem ob_eq (s : PySem.W.SharedT) : ob s = hk.obs s.abs := obsQ_eq (HandSHeadRun.getT_eq s)
theorem run (w : World) : HandSHeadRun.RunEq (PySem.W.OpenLaw.row lawRow) (PySem.W.view lawRow.prog [45]) hk ob 9000 names w := by
  intro os
  kernel_rfl
end Q
open PySem PySem.W PyProof.Rows
set_option maxHeartbeats 0 in
theorem PySem.Challenge.cw_outshiners_k00_names_told_holds : PySem.Challenge.rw_outshiners_k00_names_told.Holds := by
  w_on; o_law
  refine HandSHeadRun.head_any (r := OpenLaw.row Q.lawRow) (q := view (OpenLaw.row Q.lawRow).prog [45]) (H := Q.hk) (ob := Q.ob) (M := 9000) (loose := Q.names) (d := HandSHeadRun.topDef (OpenLaw.row Q.lawRow).prog 45) (kwd := []) Q.ob_eq
    (by kernel_rfl) (fun s => by kernel_rfl) Q.run (by kernel_rfl) (by kernel_rfl) (by kernel_rfl) (by rfl) (by first | assumption | decide +kernel) (by decide +kernel) ⟨rfl, rfl, rfl, rfl, rfl, by decide +kernel⟩ ?hw ?hc
  case hw => w_witness2
  case hc =>
    refine L2.walk_ofE (l := Q.lawRow) (n := 63) (k := 8) (x := "_law_script") (CX := L2.CX0) rfl (by decide) (by kernel_rfl) ⟨rfl, by decide, by decide⟩ ?F (fun _ _ _ _ z => z)
    intro w mg fa h Y G hmg0
    obtain ⟨K, KX, c⟩ := Y
    have T := Q.txt_of KX G c
    have e0 : (HandSHeadRun.topDef (OpenLaw.row Q.lawRow).prog 45).name = ("law" : PySem.Str) := by kernel_rfl
    have hmg : mg ("law" : PySem.Str) = some (.ref fa) := by
      rw [← e0]
      exact hmg0
    obtain ⟨f, fd, m, F⟩ := T.f_law.ex
    have ef : f = fa := by
      rw [m] at hmg
      exact Value.ref.inj (Option.some.inj hmg)
    subst ef
    have b := FunD.bindsA (ps := ["_law_script"]) F fun _ _ _ _ _ _ us hl => match us, hl with | [_], _ => rfl
    refine ⟨K, fd, Q.Sp1 (Q.pLaw K), KX, fun s v => b s [v] rfl, fun H a ns hl _ hS => ⟨_, rfl, a, ns, rfl, hS, hl, fun _ => rfl⟩, fun base _ _ => ?_⟩
    obtain ⟨f2, fd2, m2, kp2, b2, G2, F2⟩ := (Q.Dlaw (P := Q.lawRow.prog) (w := w) (base := base) T).ex
    have ef : f2 = f := by
      rw [m] at m2
      exact (Value.ref.inj (Option.some.inj m2)).symm
    subst ef
    have ed := Q.fund_same F F2
    subst ed
    exact G2
