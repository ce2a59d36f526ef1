import PyProof.Rows.All
import Wide.All
import OpenK.AllK
import Wide.FinOn
import HandS.ForMost
import HandS.Exc
import HandS.TryOnly
import HandS.TryMany
import HandS.ExcInit
import HandS.ExcField
import HandS.ExcIs
import HandS.IsInst
import HandS.Wide
import HandS.Defaults
import HandS.WordsExc
import HandS.FStr
import HandS.Codes
import HandS.Flow
import KE.KExcIs
import HandS.Rev
import KE.KStateDown
import HandS.Head0
import HandS.Head1
import HandS.Head2
import HandS.HeadEnd
import HandS.HeadHook1
import HandS.HeadHook2
import HandS.SortInts
import HandS.Evl
import PySem.Challenge.RW_outshiners_k05_ceilings_and_numbers
set_option Elab.async false
set_option linter.all false
set_option maxRecDepth 100000
set_option maxHeartbeats 4000000
/-! Q: words over the hand layer: universal operators, steps of readings, promises. -/
namespace Q
open PySem L2
/-! ### promises by the number of arguments -/
abbrev P1 := V → Hp → VK → XK → Prop
abbrev P2 := V → V → Hp → VK → XK → Prop
abbrev P3 := V → V → V → Hp → VK → XK → Prop
abbrev P4 := V → V → V → V → Hp → VK → XK → Prop
abbrev P5 := V → V → V → V → V → Hp → VK → XK → Prop
def Sp1 (f : P1) : Sp := fun vs H Q E => ∃ a, vs = [a] ∧ f a H Q E
def Sp2 (f : P2) : Sp := fun vs H Q E => ∃ a b, vs = [a, b] ∧ f a b H Q E
def Sp3 (f : P3) : Sp := fun vs H Q E => ∃ a b c, vs = [a, b, c] ∧ f a b c H Q E
def Sp4 (f : P4) : Sp := fun vs H Q E => ∃ a b c d, vs = [a, b, c, d] ∧ f a b c d H Q E
def Sp5 (f : P5) : Sp := fun vs H Q E => ∃ a b c d e, vs = [a, b, c, d, e] ∧ f a b c d e H Q E
theorem len1 {f : P1} : ∀ vs H Q E, Sp1 f vs H Q E → vs.length = 1 := by
  rintro vs H Q E ⟨a, rfl, _⟩
  rfl
theorem len2 {f : P2} : ∀ vs H Q E, Sp2 f vs H Q E → vs.length = 2 := by
  rintro vs H Q E ⟨a, b, rfl, _⟩
  rfl
theorem len3 {f : P3} : ∀ vs H Q E, Sp3 f vs H Q E → vs.length = 3 := by
  rintro vs H Q E ⟨a, b, c, rfl, _⟩
  rfl
theorem len4 {f : P4} : ∀ vs H Q E, Sp4 f vs H Q E → vs.length = 4 := by
  rintro vs H Q E ⟨a, b, c, d, rfl, _⟩
  rfl
theorem len5 {f : P5} : ∀ vs H Q E, Sp5 f vs H Q E → vs.length = 5 := by
  rintro vs H Q E ⟨a, b, c, d, e, rfl, _⟩
  rfl
/-! ### a def as it stands, a def with its promise -/
structure Raw (K : PySem.W.Frag) (mg : Str → Option Value) (x : Str) (st : Stmt) (dvs : List V) (kws : List (Str × V)) : Prop where
  ex : ∃ (f : Addr) (fd : FuncData), mg x = some (.ref f) ∧ FunD K x x (defArgs st) (defBody st) (defScope st) dvs kws f fd
structure Def (P : Program) (w : World) (K : PySem.W.Frag) (mg : Str → Option Value) (base : Heap) (CX : CXT) (k : Nat) (x : Str) (st : Stmt) (ps : List Str) (sp : Sp) : Prop where
  ex : ∃ (f : Addr) (fd : FuncData), mg x = some (.ref f) ∧ PySem.W.keepIn K (.ref f) = true ∧ Binds K fd ps [] ∧ FnOk P w K mg base CX k f fd ps sp ∧ FunD K x x (defArgs st) (defBody st) (defScope st) [] [] f fd
/-- the def at f is one -/
theorem fund_same {K : PySem.W.Frag} {x q x' q' : Str} {A A' : Arguments} {B B' : List Stmt} {S S' : Scope} {dvs dvs' : List V} {kws kws' : List (Str × V)} {f : Addr} {fd fd' : FuncData} (F : FunD K x q A B S dvs kws f fd) (F' : FunD K x' q' A' B' S' dvs' kws' f fd') : fd = fd' := by
  obtain ⟨oc, od, dV, kV, doc, pm, an, cdv, ct, osl, _, lk, _⟩ := F.ex
  obtain ⟨oc', od', dV', kV', doc', pm', an', cdv', ct', osl', _, lk', _⟩ := F'.ex
  rw [lk] at lk'
  have e := Option.some.inj lk'
  injection e with _ _ e3 _
  exact Data.func.inj e3
/-- every parameter by its keyword -/
theorem kbinds_all {K : PySem.W.Frag} {x q : Str} {A : Arguments} {B : List Stmt} {S : Scope} {kws : List (Str × V)} {f : Addr} {fd : FuncData} {ps ks : List Str} (F : FunD K x q A B S [] kws f fd)
    (h : ∀ (kV doc pm : Value) (an : Option Addr) (cdv ct : Value) (ws : List Value), ws.length = ks.length → bindArgs (PySem.W.fnOf x q A B S .none kV doc pm an cdv ct) ⟨[], ks.zip ws⟩ = pure (ps.zip ws)) : KBn K fd ps 0 ks (fun _ ws => ws) (fun _ zs => zs) := by
  obtain ⟨oc, od, dV, kV, doc, pm, an, cdv, ct, osl, rfl, lk, hcd, hD, hK⟩ := F.ex
  rcases hD with ⟨_, rfl⟩ | ⟨e, _⟩
  · refine ⟨fun s us ws X l1 l2 => ?_, fun _ r => r⟩
    have e : us = [] := List.eq_nil_of_length_eq_zero l1
    rw [e]
    exact .of_eq (h kV doc pm an cdv ct ws l2)
  · exact absurd rfl e
/-! ### universal operators -/
section
variable {X : Cx}
def rAddU (K : PySem.W.Frag) : R2 := fun x y H Q => (∃ i j, x = .int i ∧ y = .int j ∧ Q (.int (i + j)) H) ∨
  ((∃ i j, x = .str i ∧ y = .str j ∧ i.length + j.length ≤ sizeLine ∧ Q (.str (i ++ j)) H) ∨ (rCat x y H Q ∨ rCatT K x y H Q))
theorem op_addU : OpR X (binaryOp .Add) (rAddU X.K) := op_add.or (op_add_str.or (op_cat.or op_catT))
theorem iop_addU : OpR X (inplaceOp .Add) (fun x y H Q => (∃ i j, x = .int i ∧ y = .int j ∧ Q (.int (i + j)) H) ∨ (∃ i j, x = .str i ∧ y = .str j ∧ i.length + j.length ≤ sizeLine ∧ Q (.str (i ++ j)) H)) := iop_add.or iop_add_str
def rLtU : R2 := fun x y H Q => (∃ i j, x = .int i ∧ y = .int j ∧ Q (.bl (decide (i < j))) H) ∨ (∃ i j, x = .str i ∧ y = .str j ∧ Q (.bl (decide (i.cps.toList < j.cps.toList))) H)
theorem op_ltU : OpR X (compareOp .Lt) rLtU := op_lt.or op_lt_str
def rGt0 : R2 := rI0 fun i j => .bl (decide (j < i))
theorem op_gt0 : OpR X (compareOp .Gt) rGt0 := op_gt
def rLe0 : R2 := rI0 fun i j => .bl (decide (i ≤ j))
theorem op_le0 : OpR X (compareOp .LtE) rLe0 := op_le
def rGe0 : R2 := rI0 fun i j => .bl (decide (j ≤ i))
theorem op_ge0 : OpR X (compareOp .GtE) rGe0 := op_ge
def rSub0 : R2 := rI0 fun i j => .int (i - j)
theorem op_sub0 : OpR X (binaryOp .Sub) rSub0 := op_sub
def rMul0 : R2 := rI CMul fun i j => .int (i * j)
theorem op_mul0 : OpR X (binaryOp .Mult) rMul0 := op_mul
def rMod0 : R2 := rI (fun _ j => 0 < j) fun i j => .int (i % j)
theorem op_mod0 : OpR X (binaryOp .Mod) rMod0 := op_mod
def rDiv0 : R2 := rI CDivW fun i j => .int (i / j)
theorem op_div0 : OpR X (binaryOp .FloorDiv) rDiv0 := op_fdivW
def rPow0 : R2 := rI CPow fun i j => .int (i ^ j.toNat)
theorem op_pow0 : OpR X (binaryOp .Pow) rPow0 := op_pow
def uNeg0 : V → Hp → VK → Prop := rU fun i => .int (-i)
theorem un_neg0 : UnR X (unaryOp .USub) uNeg0 := un_neg
/-- in, not in: one sign in a text; a list or tuple of flat things -/
def rInU (K : PySem.W.Frag) : R2 := fun x y H Q => (∃ (c : Nat) (z : Str), x = .str ⟨#[c]⟩ ∧ y = .str z ∧ Q (.bl (decide (c ∈ z.cps.toList))) H) ∨ rIn K false x y H Q
theorem op_inU : OpR X (compareOp .In) (rInU X.K) := op_in_sign.or op_in_seq
def rNiU (K : PySem.W.Frag) : R2 := fun x y H Q => (∃ (c : Nat) (z : Str), x = .str ⟨#[c]⟩ ∧ y = .str z ∧ Q (.bl (!decide (c ∈ z.cps.toList))) H) ∨ rIn K true x y H Q
theorem op_niU : OpR X (compareOp .NotIn) (rNiU X.K) := op_notIn_sign.or op_notIn_seq
/-- len -/
def rLenU (K : PySem.W.Frag) : List V → Hp → VK → Prop := fun xs H Q => (∃ p ys, xs = [.ref p] ∧ (SqL K H p ys ∨ SqT K H p ys) ∧ Q (.int ys.length) H) ∨ (∃ z, xs = [.str z] ∧ z.length ≤ sizeLine ∧ Q (.int z.length) H)
theorem call_lenU : CallR X (.builtin "len") (rLenU X.K) := call_len_seq.or call_len_str
def rInt0 : List V → Hp → VK → Prop := fun xs H Q => (∃ i, xs = [.int i] ∧ Q (.int i) H) ∨ ∃ k, xs = [.bl k] ∧ Q (.int (if k then 1 else 0)) H
theorem call_int0 : CallR X (.type "int") rInt0 := call_int1
def rList0 (K : PySem.W.Frag) : List V → Hp → VK → Prop := fun xs H Q => ∃ p ys, xs = [.ref p] ∧ (SqL K H p ys ∨ SqT K H p ys) ∧ ∀ l, H l = none → Q (.ref l) (upd H l (.lst ys))
theorem call_list0 : CallR X (.type "list") (rList0 X.K) := call_list_of
def rMax0 : List V → Hp → VK → Prop := fun xs H Q => ∃ i j, xs = [.int i, .int j] ∧ Q (.int (if j > i then j else i)) H
theorem call_max0 (hc : X.calm = true) : CallR X (.builtin "max") rMax0 := call_max2 hc
def rMin0 : List V → Hp → VK → Prop := fun xs H Q => ∃ i j, xs = [.int i, .int j] ∧ Q (.int (if j < i then j else i)) H
theorem call_min0 (hc : X.calm = true) : CallR X (.builtin "min") rMin0 := call_min2 hc
/-- a[b] of a list, a tuple, a text -/
theorem ix_U : IxR X (rIx X.K) := ix_seq
end
/-! ### steps of readings -/
section
variable {K : PySem.W.Frag} {σ : L2.St} {H H1 : Hp} {Q : VK} {D : Ends} {t u : TS} {te ta tb tc : TE} {g : TG} {v x y : V} {i j : Int} {n : Nat} {tt tu : TT} {rt : VK} {nx bk ct : L2.St → Hp → Prop}
theorem go_seq (h : t ⟨u D, D.rt, D.bk, D.ct⟩ σ H) : tSeq t u D σ H := h
theorem go_next (h : D.nx σ H) : tNext D σ H := h
theorem go_nx (h : nx σ H) : Ends.nx ⟨nx, rt, bk, ct⟩ σ H := h
theorem go_rt (h : rt v H) : Ends.rt ⟨nx, rt, bk, ct⟩ v H := h
theorem go_bk (h : bk σ H) : Ends.bk ⟨nx, rt, bk, ct⟩ σ H := h
theorem go_ct (h : ct σ H) : Ends.ct ⟨nx, rt, bk, ct⟩ σ H := h
theorem go_asg (h : te σ H fun x H1 => g x σ H1 D.nx) : tAsg te g D σ H := h
theorem go_name {R : L2.St → Hp → Prop} (h : R (σ.set n (some v)) H) : gName n v σ H R := h
theorem go_sub {to ti : TE} {ts : TSet} {R : L2.St → Hp → Prop} (h : to σ H fun o H1 => ti σ H1 fun i H2 => ts o i v H2 fun H3 => R σ H3) : gSub to ti ts v σ H R := h
theorem go_var (h : σ[n]? = some (some v)) (q : Q v H) : tVar n σ H Q := ⟨v, h, q⟩
theorem go_c (q : Q v H) : tC v σ H Q := q
theorem go_op {r : R2} (h : ta σ H fun x H1 => tb σ H1 fun y H2 => r x y H2 Q) : tOp r ta tb σ H Q := h
theorem go_un {r : V → Hp → VK → Prop} (h : ta σ H fun x H1 => r x H1 Q) : tUn r ta σ H Q := h
theorem go_cb {r : List V → Hp → VK → Prop} {t : TA} (h : t σ H fun vs H1 => r vs H1 Q) : tCB r t σ H Q := h
theorem go_nil {R : List V → Hp → Prop} (h : R [] H) : tNil σ H R := h
theorem go_cons {tr : TA} {R : List V → Hp → Prop} (h : ta σ H fun x H1 => tr σ H1 fun xs H2 => R (x :: xs) H2) : tCons ta tr σ H R := h
theorem go_addI (q : Q (.int (i + j)) H) : rAddU K (.int i) (.int j) H Q := .inl ⟨i, j, rfl, rfl, q⟩
theorem go_addS {a b : Str} (l : a.length + b.length ≤ sizeLine) (q : Q (.str (a ++ b)) H) : rAddU K (.str a) (.str b) H Q := .inr (.inl ⟨a, b, rfl, rfl, l, q⟩)
theorem go_sub0 (q : Q (.int (i - j)) H) : rSub0 (.int i) (.int j) H Q := ⟨i, j, rfl, rfl, q⟩
theorem go_mul0 (c : CMul i j) (q : Q (.int (i * j)) H) : rMul0 (.int i) (.int j) H Q := ⟨i, j, rfl, rfl, c, q⟩
theorem go_mod0 (c : 0 < j) (q : Q (.int (i % j)) H) : rMod0 (.int i) (.int j) H Q := ⟨i, j, rfl, rfl, c, q⟩
theorem go_div0 (c : CDivW i j) (q : Q (.int (i / j)) H) : rDiv0 (.int i) (.int j) H Q := ⟨i, j, rfl, rfl, c, q⟩
theorem go_pow0 (c : CPow i j) (q : Q (.int (i ^ j.toNat)) H) : rPow0 (.int i) (.int j) H Q := ⟨i, j, rfl, rfl, c, q⟩
theorem go_neg0 (q : Q (.int (-i)) H) : uNeg0 (.int i) H Q := ⟨i, rfl, q⟩
theorem go_ltI (q : Q (.bl (decide (i < j))) H) : rLtU (.int i) (.int j) H Q := .inl ⟨i, j, rfl, rfl, q⟩
theorem go_ltS {a b : Str} (q : Q (.bl (decide (a.cps.toList < b.cps.toList))) H) : rLtU (.str a) (.str b) H Q := .inr ⟨a, b, rfl, rfl, q⟩
theorem go_gt0 (q : Q (.bl (decide (j < i))) H) : rGt0 (.int i) (.int j) H Q := ⟨i, j, rfl, rfl, q⟩
theorem go_le0 (q : Q (.bl (decide (i ≤ j))) H) : rLe0 (.int i) (.int j) H Q := ⟨i, j, rfl, rfl, q⟩
theorem go_ge0 (q : Q (.bl (decide (j ≤ i))) H) : rGe0 (.int i) (.int j) H Q := ⟨i, j, rfl, rfl, q⟩
theorem go_eqI (q : Q (.bl (decide (i = j))) H) : rEq (.int i) (.int j) H Q := ⟨rfl, by
  have e : decide (V.int i = V.int j) = decide (i = j) := by rw [dec_int, Bool.beq_eq_decide_eq]
  rw [e]; exact q⟩
theorem go_eqS {a b : Str} (q : Q (.bl (decide (a = b))) H) : rEq (.str a) (.str b) H Q := ⟨rfl, by
  have e : decide (V.str a = V.str b) = decide (a = b) := by rw [dec_str, Bool.beq_eq_decide_eq]
  rw [e]; exact q⟩
theorem go_eqB {a b : Bool} (q : Q (.bl (decide (a = b))) H) : rEq (.bl a) (.bl b) H Q := ⟨rfl, by
  have e : decide (V.bl a = V.bl b) = decide (a = b) := by rw [dec_bl, Bool.beq_eq_decide_eq]
  rw [e]; exact q⟩
theorem go_neI (q : Q (.bl (!decide (i = j))) H) : rNe (.int i) (.int j) H Q := ⟨rfl, by
  have e : decide (V.int i = V.int j) = decide (i = j) := by rw [dec_int, Bool.beq_eq_decide_eq]
  rw [e]; exact q⟩
theorem go_neS {a b : Str} (q : Q (.bl (!decide (a = b))) H) : rNe (.str a) (.str b) H Q := ⟨rfl, by
  have e : decide (V.str a = V.str b) = decide (a = b) := by rw [dec_str, Bool.beq_eq_decide_eq]
  rw [e]; exact q⟩
theorem go_neB {a b : Bool} (q : Q (.bl (!decide (a = b))) H) : rNe (.bl a) (.bl b) H Q := ⟨rfl, by
  have e : decide (V.bl a = V.bl b) = decide (a = b) := by rw [dec_bl, Bool.beq_eq_decide_eq]
  rw [e]; exact q⟩
theorem go_inS {c : Nat} {z : Str} (q : Q (.bl (decide (c ∈ z.cps.toList))) H) : rInU K (.str ⟨#[c]⟩) (.str z) H Q := .inl ⟨c, z, rfl, rfl, q⟩
theorem go_niS {c : Nat} {z : Str} (q : Q (.bl (!decide (c ∈ z.cps.toList))) H) : rNiU K (.str ⟨#[c]⟩) (.str z) H Q := .inl ⟨c, z, rfl, rfl, q⟩
theorem go_inL {p : Addr} {xs : List V} (h : SqL K H p xs) (fx : flatV x = true) (fs : xs.all flatV = true) (q : Q (.bl (inV x xs)) H) : rInU K x (.ref p) H Q := .inr ⟨p, xs, rfl, .inl h, fx, fs, q⟩
theorem go_inT {p : Addr} {xs : List V} (h : SqT K H p xs) (fx : flatV x = true) (fs : xs.all flatV = true) (q : Q (.bl (inV x xs)) H) : rInU K x (.ref p) H Q := .inr ⟨p, xs, rfl, .inr h, fx, fs, q⟩
theorem go_niL {p : Addr} {xs : List V} (h : SqL K H p xs) (fx : flatV x = true) (fs : xs.all flatV = true) (q : Q (.bl (!inV x xs)) H) : rNiU K x (.ref p) H Q := .inr ⟨p, xs, rfl, .inl h, fx, fs, q⟩
theorem go_lenS {z : Str} (l : z.length ≤ sizeLine) (q : Q (.int z.length) H) : rLenU K [.str z] H Q := .inr ⟨z, rfl, l, q⟩
theorem go_lenL {p : Addr} {xs : List V} (h : SqL K H p xs) (q : Q (.int xs.length) H) : rLenU K [.ref p] H Q := .inl ⟨p, xs, rfl, .inl h, q⟩
theorem go_lenT {p : Addr} {xs : List V} (h : SqT K H p xs) (q : Q (.int xs.length) H) : rLenU K [.ref p] H Q := .inl ⟨p, xs, rfl, .inr h, q⟩
theorem go_int0 (q : Q (.int i) H) : rInt0 [.int i] H Q := .inl ⟨i, rfl, q⟩
theorem go_intB {k : Bool} (q : Q (.int (if k then 1 else 0)) H) : rInt0 [.bl k] H Q := .inr ⟨k, rfl, q⟩
theorem go_max0 (q : Q (.int (if j > i then j else i)) H) : rMax0 [.int i, .int j] H Q := ⟨i, j, rfl, q⟩
theorem go_min0 (q : Q (.int (if j < i then j else i)) H) : rMin0 [.int i, .int j] H Q := ⟨i, j, rfl, q⟩
theorem go_ixL {p : Addr} {xs : List V} (h : SqL K H p xs) (e : atI xs i = some v) (q : Q v H) : rIx K (.ref p) (.int i) H Q := .inl ⟨p, xs, i, v, rfl, rfl, h, e, q⟩
theorem go_ixT {p : Addr} {xs : List V} (h : SqT K H p xs) (e : atI xs i = some v) (q : Q v H) : rIx K (.ref p) (.int i) H Q := .inr (.inl ⟨p, xs, i, v, rfl, rfl, h, e, q⟩)
theorem go_ixS {z : Str} {c : Nat} (l : z.length ≤ sizeLine) (e : atI z.cps.toList i = some c) (q : Q (.str ⟨#[c]⟩) H) : rIx K (.str z) (.int i) H Q := .inr (.inr ⟨z, i, c, rfl, rfl, l, e, q⟩)
theorem go_setL {p : Addr} {xs : List V} {k : Nat} {R : Hp → Prop} (h : H p = some (.lst xs)) (e : ixN xs.length i = some k) (q : R (upd H p (.lst (xs.set k v)))) : rSetL (.ref p) (.int i) v H R := ⟨p, xs, i, k, rfl, rfl, h, e, q⟩
/-! tests -/
theorem go_test {R : Bool → Hp → Prop} (h : te σ H fun x H1 => ∃ k, x = .bl k ∧ R k H1) : tTest te σ H R := h
theorem go_tB {R : Bool → Hp → Prop} (h : te σ H fun x H1 => ∃ k, x = .bl k ∧ R k H1) : tB te σ H R := h
theorem go_ex {k : Bool} {R : Bool → Prop} (q : R k) : ∃ k', V.bl k = .bl k' ∧ R k' := ⟨k, rfl, q⟩
theorem go_and {R : Bool → Hp → Prop} (h : tt σ H fun c H1 => if c = true then tu σ H1 R else R false H1) : tAnd tt tu σ H R := h
theorem go_or {R : Bool → Hp → Prop} (h : tt σ H fun c H1 => if c = true then R true H1 else tu σ H1 R) : tOr tt tu σ H R := h
theorem go_not {R : Bool → Hp → Prop} (h : tt σ H fun c H1 => R (!c) H1) : tNot tt σ H R := h
theorem go_andV (h : ta σ H fun x H1 => ∃ c, x = .bl c ∧ if c = true then tb σ H1 Q else Q (.bl false) H1) : tAndV ta tb σ H Q := h
theorem go_orV (h : ta σ H fun x H1 => ∃ c, x = .bl c ∧ if c = true then Q (.bl true) H1 else tb σ H1 Q) : tOrV ta tb σ H Q := h
theorem go_notV (h : ta σ H fun x H1 => ∃ c, x = .bl c ∧ Q (.bl (!c)) H1) : tNotV ta σ H Q := h
theorem go_ifE (h : tt σ H fun c H1 => if c = true then ta σ H1 Q else tb σ H1 Q) : tIf tt ta tb σ H Q := h
theorem go_if (h : tt σ H fun b H1 => if b = true then t D σ H1 else u D σ H1) : tIfS tt t u D σ H := h
theorem go_ret (h : te σ H D.rt) : tRet te D σ H := h
theorem go_retN (h : D.rt .non H) : tRetN D σ H := h
theorem go_drop (h : te σ H fun _ H1 => D.nx σ H1) : tDrop te D σ H := h
theorem go_brk (h : D.bk σ H) : tBreak D σ H := h
theorem go_cont (h : D.ct σ H) : tCont D σ H := h
theorem go_t {A B : Prop} (h : A) : if true = true then A else B := by rw [if_pos rfl]; exact h
theorem go_f {A B : Prop} (h : B) : if false = true then A else B := by rw [if_neg Bool.false_ne_true]; exact h
theorem go_nt {A B : Prop} (h : B) : if (!true) = true then A else B := go_f h
theorem go_nf {A B : Prop} (h : A) : if (!false) = true then A else B := go_t h
theorem go_dec {p A B : Prop} [Decidable p] (h1 : p → A) (h2 : ¬ p → B) : if decide p = true then A else B := by
  by_cases h : p
  · rw [if_pos (decide_eq_true h)]; exact h1 h
  · rw [decide_eq_false h, if_neg Bool.false_ne_true]; exact h2 h
theorem go_ndec {p A B : Prop} [Decidable p] (h1 : ¬ p → A) (h2 : p → B) : if (!decide p) = true then A else B := by
  by_cases h : p
  · rw [decide_eq_true h]; exact go_f (h2 h)
  · rw [decide_eq_false h]; exact go_t (h1 h)
theorem go_bool {b : Bool} {A B : Prop} (h1 : b = true → A) (h2 : b = false → B) : if b = true then A else B := by
  cases b with
  | true => exact go_t (h1 rfl)
  | false => exact go_f (h2 rfl)
theorem go_nbool {b : Bool} {A B : Prop} (h1 : b = false → A) (h2 : b = true → B) : if (!b) = true then A else B := by
  cases b with
  | true => exact go_f (h2 rfl)
  | false => exact go_t (h1 rfl)
/-! new objects -/
theorem go_lst {t : TA} (h : t σ H fun xs H1 => xs.length ≤ sizeLine ∧ ∀ p, H1 p = none → Q (.ref p) (upd H1 p (.lst xs))) : tLst t σ H Q := h
theorem go_tup {t : TA} (h : t σ H fun xs H1 => xs.length ≤ sizeLine ∧ ∀ p, H1 p = none → Q (.ref p) (upd H1 p (.tup xs))) : tTup t σ H Q := h
theorem go_call {sp : Sp} {E : XK} {t : TA} (h : t σ H fun vs H1 => sp vs H1 Q E) : tCall sp [] E t σ H Q := by
  have e : (fun (vs : List V) (H1 : Hp) => sp (vs ++ []) H1 Q E) = fun vs H1 => sp vs H1 Q E := by
    funext vs H1
    rw [List.append_nil]
  show t σ H fun vs H1 => sp (vs ++ []) H1 Q E
  rw [e]
  exact h
variable {a b c d e : V} {E : XK}
theorem go_sp1 {f : P1} (h : f a H Q E) : Sp1 f [a] H Q E := ⟨a, rfl, h⟩
theorem go_sp2 {f : P2} (h : f a b H Q E) : Sp2 f [a, b] H Q E := ⟨a, b, rfl, h⟩
theorem go_sp3 {f : P3} (h : f a b c H Q E) : Sp3 f [a, b, c] H Q E := ⟨a, b, c, rfl, h⟩
theorem go_sp4 {f : P4} (h : f a b c d H Q E) : Sp4 f [a, b, c, d] H Q E := ⟨a, b, c, d, rfl, h⟩
theorem go_sp5 {f : P5} (h : f a b c d e H Q E) : Sp5 f [a, b, c, d, e] H Q E := ⟨a, b, c, d, e, rfl, h⟩
end
theorem atI_of {α : Type} {xs : List α} {i : Int} {v : α} (h0 : 0 ≤ i) (h : xs[i.toNat]? = some v) : atI xs i = some v := by
  have e : ((i.toNat : Nat) : Int) = i := by omega
  have q := atI_nat (xs := xs) (j := i.toNat) h
  rw [e] at q
  exact q
/-! ### loops -/
/-- what a for asks of its iterator -/
def ForIt (J : It) (g : TG) (tb : TS) (D : Ends) (σ : L2.St) (H : Hp) : Prop := ∃ W : Nat → Nat → L2.St → Hp → Prop, (∃ m, W 0 m σ H) ∧ ∀ i m σ H, W i m σ H →
  (J.stop i H ∧ D.nx σ H) ∨ (J.go i H ∧ ∃ N : L2.St → Hp → Prop, (∀ σ' H', N σ' H' → ∃ m', m' < m ∧ W (i + 1) m' σ' H') ∧ ∀ x H', J.yld i H x H' → g x σ H' fun σ2 H2 => tb { D with nx := N, ct := N, bk := D.nx } σ2 H2)
section
variable {K : PySem.W.Frag} {σ : L2.St} {H : Hp} {D : Ends} {g : TG} {tb : TS} {tl : TE} {ta : TA} {a : Addr} {xs : List V} {R : It → Hp → Prop} {tc : TT}
theorem go_for {wi : TI} (h : wi σ H fun J H1 => ForIt J g tb D σ H1) : tFor wi g tb D σ H := h
def iL (K : PySem.W.Frag) (R : It → Hp → Prop) : VK := fun x H1 => ∃ a, x = .ref a ∧ (∃ xs, SqL K H1 a xs) ∧ R (Itl K a) H1
def iT (K : PySem.W.Frag) (R : It → Hp → Prop) : VK := fun x H1 => ∃ a, x = .ref a ∧ (∃ xs, SqT K H1 a xs) ∧ R (Itt K a) H1
def iS (R : It → Hp → Prop) : VK := fun v H1 => ∃ x, v = .str x ∧ R (Its x) H1
def iR1 (R : It → Hp → Prop) : List V → Hp → Prop := fun vs H1 => ∃ j : Int, vs = [.int j] ∧ -(2 ^ 62) ≤ j ∧ j < 2 ^ 62 ∧ R (Itr 0 j.toNat) H1
def iR2 (R : It → Hp → Prop) : List V → Hp → Prop := fun vs H1 => ∃ i j : Int, vs = [.int i, .int j] ∧ (-(2 ^ 62) ≤ i ∧ i < 2 ^ 62 ∧ -(2 ^ 62) ≤ j ∧ j < 2 ^ 62) ∧ R (Itr i (j - i).toNat) H1
theorem go_iL (h : tl σ H (iL K R)) : iList K tl σ H R := h
theorem go_iT (h : tl σ H (iT K R)) : iTup K tl σ H R := h
theorem go_iS (h : tl σ H (iS R)) : iStr tl σ H R := h
theorem go_iR1 (h : ta σ H (iR1 R)) : iRng1 ta σ H R := h
theorem go_iR2 (h : ta σ H (iR2 R)) : iRng2 ta σ H R := h
theorem for_l (h : SqL K H a xs) (Pv : Nat → L2.St → Hp → Prop) (h0 : Pv 0 σ H) (hl : ∀ i σ H, i ≤ xs.length → Pv i σ H → SqL K H a xs)
    (hs : ∀ (i : Nat) x σ H, xs[i]? = some x → Pv i σ H → g x σ H fun σ2 H2 => tb ⟨Pv (i + 1), D.rt, D.nx, Pv (i + 1)⟩ σ2 H2) (hd : ∀ σ H, Pv xs.length σ H → D.nx σ H) : iL K (fun J H1 => ForIt J g tb D σ H1) (.ref a) H :=
  ⟨a, rfl, ⟨xs, h⟩, for_list (K := K) (a := a) (xs := xs) Pv h0 hl hs hd⟩
theorem for_t (h : SqT K H a xs) (Pv : Nat → L2.St → Hp → Prop) (h0 : Pv 0 σ H) (hl : ∀ i σ H, i ≤ xs.length → Pv i σ H → SqT K H a xs)
    (hs : ∀ (i : Nat) x σ H, xs[i]? = some x → Pv i σ H → g x σ H fun σ2 H2 => tb ⟨Pv (i + 1), D.rt, D.nx, Pv (i + 1)⟩ σ2 H2) (hd : ∀ σ H, Pv xs.length σ H → D.nx σ H) : iT K (fun J H1 => ForIt J g tb D σ H1) (.ref a) H :=
  ⟨a, rfl, ⟨xs, h⟩, for_tup (K := K) (a := a) (xs := xs) Pv h0 hl hs hd⟩
theorem for_r {j : Int} (hj : -(2 ^ 62) ≤ j ∧ j < 2 ^ 62) (Pv : Nat → L2.St → Hp → Prop) (h0 : Pv 0 σ H)
    (hs : ∀ (i : Nat) σ H, (i : Int) < j → Pv i σ H → g (.int (i : Int)) σ H fun σ2 H2 => tb ⟨Pv (i + 1), D.rt, D.nx, Pv (i + 1)⟩ σ2 H2) (hd : ∀ σ H, Pv j.toNat σ H → D.nx σ H) : iR1 (fun J H1 => ForIt J g tb D σ H1) [.int j] H := by
  refine ⟨j, rfl, hj.1, hj.2, for_range (lo := 0) (n := j.toNat) Pv h0 (fun i σ H hi p => ?_) hd⟩
  have e : (0 : Int) + (i : Int) = (i : Int) := Int.zero_add _
  rw [e]
  exact hs i σ H (by omega) p
theorem for_r2 {l j : Int} (hj : -(2 ^ 62) ≤ l ∧ l < 2 ^ 62 ∧ -(2 ^ 62) ≤ j ∧ j < 2 ^ 62) (Pv : Nat → L2.St → Hp → Prop) (h0 : Pv 0 σ H)
    (hs : ∀ (i : Nat) σ H, l + (i : Int) < j → Pv i σ H → g (.int (l + (i : Int))) σ H fun σ2 H2 => tb ⟨Pv (i + 1), D.rt, D.nx, Pv (i + 1)⟩ σ2 H2) (hd : ∀ σ H, Pv (j - l).toNat σ H → D.nx σ H) : iR2 (fun J H1 => ForIt J g tb D σ H1) [.int l, .int j] H :=
  ⟨l, j, rfl, hj, for_range (lo := l) (n := (j - l).toNat) Pv h0 (fun i σ H hi p => hs i σ H (by omega) p) hd⟩
theorem for_s {z : Str} (Pv : Nat → L2.St → Hp → Prop) (h0 : Pv 0 σ H)
    (hs : ∀ (i : Nat) (c : Nat) σ H, z.cps.toList[i]? = some c → Pv i σ H → g (.str ⟨#[c]⟩) σ H fun σ2 H2 => tb ⟨Pv (i + 1), D.rt, D.nx, Pv (i + 1)⟩ σ2 H2) (hd : ∀ σ H, Pv z.length σ H → D.nx σ H) : iS (fun J H1 => ForIt J g tb D σ H1) (.str z) H := by
  refine ⟨z, rfl, fun i m σ H => m = z.length - i ∧ i ≤ z.length ∧ Pv i σ H, ⟨z.length, by simp, Nat.zero_le _, h0⟩, ?_⟩
  rintro i m σ H ⟨rfl, hi, p⟩
  by_cases hlt : i < z.length
  · refine .inr ⟨hlt, Pv (i + 1), fun σ' H' p' => ⟨z.length - (i + 1), by omega, rfl, hlt, p'⟩, fun x H' y => ?_⟩
    obtain ⟨e, c, hc, ex⟩ := y
    subst e ex
    exact hs i c σ _ (by simpa using hc) p
  · have e : i = z.length := by omega
    subst e
    exact .inl ⟨Nat.le_refl _, hd σ H p⟩
/-- a while by its word W with the measure -/
theorem go_while (W : Nat → L2.St → Hp → Prop) (m0 : Nat) (w0 : W m0 σ H) (turn : ∀ m σ H, W m σ H → tc σ H fun b H1 => if b = true then ∃ N : L2.St → Hp → Prop, (∀ σ' H', N σ' H' → ∃ m', m' < m ∧ W m' σ' H') ∧ tb ⟨N, D.rt, D.nx, N⟩ σ H1 else D.nx σ H1) : tWhile tc tb D σ H :=
  ⟨W, ⟨m0, w0⟩, turn⟩
/-- slices of a text -/
theorem go_sl {r : V → Option Int → Option Int → Hp → VK → Prop} {te : TE} {tl th : TO} {Q : VK} (h : te σ H fun x H1 => tl σ H1 fun l H2 => th σ H2 fun u H3 => r x l u H3 Q) : tSl r te tl th σ H Q := h
theorem go_part {t : TE} {Q : Option Int → Hp → Prop} (h : t σ H fun x H1 => ∃ i, x = .int i ∧ Q (some i) H1) : tPart t σ H Q := h
theorem go_nopart {Q : Option Int → Hp → Prop} (h : Q none H) : tNoPart σ H Q := h
theorem go_exi {i : Int} {R : Int → Prop} (q : R i) : ∃ k, V.int i = .int k ∧ R k := ⟨i, rfl, q⟩
theorem go_slS {z : Str} {lo hi : Option Int} {Q : VK} (l : z.length ≤ sizeLine) (q : Q (.str (cutS z lo hi)) H) : rSlS (.str z) lo hi H Q := ⟨z, rfl, l, q⟩
/-- list append -/
theorem go_bm {T : String} {r : V → List V → Hp → VK → Prop} {to : TE} {t : TA} {Q : VK} (h : to σ H fun x H1 => tyV K T x H1 ∧ t σ H1 fun xs H2 => r x xs H2 Q) : tBM K T r to t σ H Q := h
theorem go_app {l : Addr} {ys : List V} {y : V} {Q : VK} (h : H l = some (.lst ys)) (z : ys.length < sizeLine) (q : Q .non (upd H l (.lst (ys ++ [y])))) : rAppend (.ref l) [y] H Q := ⟨l, ys, y, rfl, rfl, h, z, q⟩
theorem ty_lst {l : Addr} {ys : List V} (h : SqL K H l ys) : tyV K "list" (.ref l) H := .inl ⟨rfl, ys, h⟩
end
theorem len_one (c : Nat) : (⟨#[c]⟩ : Str).length = 1 := rfl
theorem length_append (a b : Str) : (a ++ b).length = a.length + b.length := by
  show (a.cps ++ b.cps).size = a.cps.size + b.cps.size
  rw [Array.size_append]
theorem size_ok {n : Nat} (h : n ≤ 100000) : n ≤ sizeLine := Nat.le_trans h (by decide)
theorem size_lt {n : Nat} (h : n < 100000) : n < sizeLine := Nat.lt_of_lt_of_le h (by decide)
/-! ### heaps: what stands but at M -/
structure Dx (M : Addr → Prop) (H H' : Hp) : Prop where
  st : ∀ a o, ¬ M a → H a = some o → H' a = some o
  dm : ∀ a, H' a = none → H a = none
section
variable {M N : Addr → Prop} {H H' H1 H2 : Hp} {a p l : Addr} {o u : HO} {K : PySem.W.Frag} {xs : List V}
theorem Dx.refl : Dx M H H := ⟨fun _ _ _ h => h, fun _ h => h⟩
theorem Dx.trans (a : Dx M H H1) (b : Dx M H1 H2) : Dx M H H2 := ⟨fun c o n h => b.st c o n (a.st c o n h), fun c h => a.dm c (b.dm c h)⟩
theorem Dx.mono (a : Dx M H H1) (h : ∀ c, M c → N c) : Dx N H H1 := ⟨fun c o n q => a.st c o (fun z => n (h c z)) q, a.dm⟩
theorem Dx.new (h : H p = none) : Dx M H (upd H p o) := ⟨fun c u _ q => by rw [upd_ne (ne_of_none q h)]; exact q, fun c q => by
  by_cases e : c = p
  · rw [e]; exact h
  · rw [upd_ne e] at q; exact q⟩
theorem stands (h : H a = some u) (hp : H p = none) : upd H p o a = some u := by
  rw [upd_ne (ne_of_none h hp)]
  exact h
theorem Dx.mut (hm : M l) : Dx M H (upd H l u) := ⟨fun c o n q => by rw [upd_ne (fun e => n (by rw [e]; exact hm))]; exact q, fun c q => by
  by_cases e : c = l
  · rw [e, upd_same] at q; cases q
  · rw [upd_ne e] at q; exact q⟩
/-- what M holds besides is not yet there at H -/
theorem Dx.loc (d : Dx N H H1) (h : ∀ c, N c → M c ∨ H c = none) : Dx M H H1 := ⟨fun c o n q => d.st c o (fun z => by
  rcases h c z with e | e
  · exact n e
  · rw [q] at e
    exact nomatch e) q, d.dm⟩
theorem Dx.al (d : Dx M H H1) (h : H a ≠ none) : H1 a ≠ none := fun e => h (d.dm a e)
theorem Dx.rd (d : Dx M H H1) (n : ¬ M a) (h : Rd H a o) : Rd H1 a o := by
  rcases h with h | ⟨u, h⟩
  · exact .inl (d.st _ _ n h)
  · exact .inr ⟨u, d.st _ _ n h⟩
theorem Dx.sqL (d : Dx M H H1) (n : ¬ M a) (h : SqL K H a xs) : SqL K H1 a xs := by
  rcases h with h | h
  · exact .inl (d.rd n h)
  · exact .inr h
theorem Dx.sqT (d : Dx M H H1) (n : ¬ M a) (h : SqT K H a xs) : SqT K H1 a xs := by
  rcases h with h | h
  · exact .inl (d.rd n h)
  · exact .inr h
end
/-- the draws' store at c: six numbers behind the cells' list at p -/
def stL (p : Addr) (i rest left n a b : Int) : List V := [.ref p, .int i, .int rest, .int left, .int n, .int a, .int b]
structure StoreAt (M : Addr → Prop) (H : Hp) (c : Addr) : Prop where
  ex : ∃ (p : Addr) (i rest left n a b : Int) (cells : List Int), H c = some (.lst (stL p i rest left n a b)) ∧ H p = some (.lst (cells.map V.int)) ∧ ¬ M p ∧ 0 ≤ i ∧ (0 ≤ a ∧ a < 2147483647) ∧ (0 ≤ b ∧ b < 2147483399)
/-- the store is at c, which M holds; M's are all there -/
structure Ok (M : Addr → Prop) (H : Hp) (c : Addr) : Prop where
  inM : M c
  al : ∀ a, M a → H a ≠ none
  st : StoreAt M H c
abbrev Only1 (c : Addr) : Addr → Prop := fun a => a = c
/-- l besides -/
def Add (M : Addr → Prop) (l : Addr) : Addr → Prop := fun a => a = l ∨ M a
section
variable {M : Addr → Prop} {H H1 : Hp} {c l : Addr} {o u : HO}
theorem Only1.sub (h : M c) : ∀ a, Only1 c a → M a := fun a e => by
  have e' : a = c := e
  rw [e']
  exact h
theorem Ok.sub (k : Ok M H c) (d : Dx (Only1 c) H H1) : Dx M H H1 := d.mono (Only1.sub k.inM)
theorem Ok.alive (k : Ok M H c) (d : Dx M H H1) : ∀ a, M a → H1 a ≠ none := fun a h => d.al (k.al a h)
/-- anything but the store has changed -/
theorem Ok.keep (k : Ok M H c) (d : Dx M H H1) (e : H1 c = H c) : Ok M H1 c := by
  obtain ⟨p, i, rest, left, n, a, b, cells, h1, h2, h3, h4⟩ := k.st.ex
  exact ⟨k.inM, k.alive d, ⟨p, i, rest, left, n, a, b, cells, by rw [e]; exact h1, d.st _ _ h3 h2, h3, h4⟩⟩
theorem Ok.ne_new (k : Ok M H c) (h : H l = none) : l ≠ c := fun e => k.al c k.inM (by rw [← e]; exact h)
theorem Ok.notM (k : Ok M H c) (h : H l = none) : ¬ M l := fun e => k.al l e h
theorem Ok.new (k : Ok M H c) (h : H l = none) : Ok M (upd H l o) c := k.keep (Dx.new h) (upd_ne (Ne.symm (k.ne_new h)))
/-- a new object joins M -/
theorem Ok.add (k : Ok M H c) (h : H l = none) : Ok (Add M l) (upd H l o) c := by
  obtain ⟨p, i, rest, left, n, a, b, cells, h1, h2, h3, h4⟩ := k.st.ex
  have hp : p ≠ l := ne_of_none h2 h
  have hc : c ≠ l := Ne.symm (k.ne_new h)
  refine ⟨.inr k.inM, fun a z => ?_, ⟨p, i, rest, left, n, a, b, cells, by rw [upd_ne hc]; exact h1, by rw [upd_ne hp]; exact h2, fun z => ?_, h4⟩⟩
  · rcases z with e | z
    · rw [e, upd_same]
      exact fun q => by cases q
    · exact (k.new (o := o) h).al a z
  · rcases z with e | z
    · exact hp e
    · exact h3 z
theorem Ok.ne {a : Addr} (k : Ok M H c) (h : ¬ M a) : a ≠ c := fun e => h (by rw [e]; exact k.inM)
/-- a smaller M -/
theorem Ok.less {N : Addr → Prop} (k : Ok M H c) (hc : N c) (h : ∀ a, N a → M a) : Ok N H c := by
  obtain ⟨p, i, rest, left, n, a, b, cells, h1, h2, h3, h4⟩ := k.st.ex
  exact ⟨hc, fun a z => k.al a (h a z), ⟨p, i, rest, left, n, a, b, cells, h1, h2, fun z => h3 (h p z), h4⟩⟩
/-- what M holds, other than the store, is written -/
theorem Ok.mut (k : Ok M H c) (hm : M l) (hc : l ≠ c) : Ok M (upd H l o) c := k.keep (Dx.mut hm) (upd_ne (Ne.symm hc))
end
/-! ### drawn things -/
/-- a draw: the store turns, the rest stands -/
def Drawn (M : Addr → Prop) (c : Addr) (H : Hp) (R : V → Prop) (Q : VK) : Prop := ∀ r H', R r → Dx (Only1 c) H H' → Ok M H' c → Q r H'
/-- f(store): a value of R -/
def pDraw (R : V → Prop) : P1 := fun v0 H Q _ => ∃ (c : Addr) (M : Addr → Prop), v0 = .ref c ∧ Ok M H c ∧ Drawn M c H R Q
def IsText (lo hi : Nat) : V → Prop := fun v => ∃ x : Str, v = .str x ∧ lo ≤ x.length ∧ x.length ≤ hi
end Q
/-! list(reversed(xs)) -/
namespace QR
open PySem PySem.Spec PySem.Calls PyProof.Rows L2
open RT
section
variable {prog : Program} {w : World} {A : Around} {E : Value → Shared → Prop} {s : Shared}
/-- the list at S, empty, is filled from the iterator -/
theorem rev_ext {S it l : Addr} {items : Array Value} {R : Result → Shared → Prop} {c0 : Nat} (hh : A.handled = none) (hit : s.heap.IsRevIter it l ((items.size : Int) - 1)) (hl : s.heap.IsList l items) (hne : l ≠ it) (hn : items.size ≤ sizeLine)
    (hSi : S ≠ it) (hSl : S ≠ l) (hS : s.heap.get? S = some { cls := .type "list", data := .seq #[] c0 })
    (hR : ∀ (h' : Heap) (tk : Nat) (acc : Array Value) (c' : Nat), (∀ b o, b ≠ it → b ≠ S → s.heap.get? b = some o → h'.get? b = some o) → h'.get? S = some { cls := .type "list", dict := none, data := .seq acc c', slots := #[] } →
      ItemsOf (fun i v => items[items.size - 1 - i]? = some v) acc items.size → R (.ok (.ret .none)) { s with heap := h', toks := tk }) :
    wpAny (model prog w) A.in1 (Builtin.List.listExtendWith (.ref S) (.ref it) .none)
      (fun fin s' => match fin with | .done f => R (.ok f) s' | .again c' => c'.quiet = true ∧ codeAny (model prog w) A c' R s') (fun e s' => R (.error e) s') s := by
  have W := (Walks.listRev (prog := prog) (w := w) (A := A.in1) hh it l hne items).toS
  have hSf : S ∉ [it, l] := by
    intro z
    rcases List.mem_cons.mp z with z | z
    · exact hSi z
    · exact hSl (List.mem_singleton.mp z)
  have hT : s.TypeIs (.ref it) "list_reverseiterator" := hit.typeIs
  have hsame : Builtin.List.listSameRef (.ref S) (.ref it) = false := by simp [Builtin.List.listSameRef, hSi]
  unfold Builtin.List.listExtendWith; refine wpAny_bind (wpAny_typeOf hT ?_)
  rw [if_neg (by rw [hsame]; decide)]; refine wpAny_bind (wpAny_pyIter_revIter hit ?_)
  refine wpAny_bind (wpAny_holding ?_); unfold Builtin.List.listLengthHint
  refine wpAny_bind (wpAny_specialOf hT nolen_lri ?_)
  show wpAny _ A.in1 (specialOf (Value.ref it) (Str.ofString "__length_hint__") >>= fun r => _) _ _ _
  refine wpAny_bind (wpAny_specialOf hT hint_lri ?_); generalize hid : ("list_reverseiterator.__length_hint__" : String) = id1
  wp_delta; rw [show splitId id1 = some ("list_reverseiterator", "__length_hint__") from by subst hid; decide +kernel]
  subst hid; refine wpAny_bind (wpAny_isInstance (b := true) hT (by rw [isSubtype_type]; kernel_rfl) ?_)
  refine wpAny_pure ?_; rw [if_neg (by decide)]
  have e0 : ((items.size : Nat) : Int) - 1 - ((0 : Nat) : Int) = (items.size : Int) - 1 := by omega
  refine wpAny_pure ⟨plainId_quiet F.plain_extend_loop _, ?_⟩
  refine codeAny_extend_loopS W hn S hSf .none items.size 0 _ #[] c0 rfl (Nat.zero_le _) ⟨Nat.zero_le _, by rw [e0]; exact hit, hl⟩ hS (ItemsOf.nil _) fun s' acc' c' hm hS' hacc => ?_
  rw [Moved.eq_with hm]
  refine hR s'.heap s'.toks acc' c' (fun b o hb hb2 e => hm.heap b o (fun hmem => ?_) e) hS' hacc
  rcases List.mem_cons.mp hmem with e' | hmem
  · exact hb2 e'
  · exact hb (List.mem_singleton.mp hmem)
theorem rev_init {S it l : Addr} {items : Array Value} {R : Result → Shared → Prop} (hh : A.handled = none) (hit : s.heap.IsRevIter it l ((items.size : Int) - 1)) (hl : s.heap.IsList l items) (hne : l ≠ it) (hn : items.size ≤ sizeLine)
    (hSi : S ≠ it) (hSl : S ≠ l) (hS : s.heap.get? S = some { cls := .type "list", data := .seq #[] })
    (hR : ∀ (h' : Heap) (tk : Nat) (acc : Array Value) (c' : Nat), (∀ b o, b ≠ it → b ≠ S → s.heap.get? b = some o → h'.get? b = some o) → h'.get? S = some { cls := .type "list", dict := none, data := .seq acc c', slots := #[] } →
      ItemsOf (fun i v => items[items.size - 1 - i]? = some v) acc items.size → R (.ok (.ret .none)) { s with heap := h', toks := tk }) :
    wpAny (model prog w) A.in1 (Builtin.«list.__init__» ⟨[.ref S, .ref it], []⟩)
      (fun fin s' => match fin with | .done f => R (.ok f) s' | .again c' => c'.quiet = true ∧ codeAny (model prog w) A c' R s') (fun e s' => R (.error e) s') s := by
  show wpAny _ _ (do let was ← Builtin.List.listItems (.ref S); Builtin.List.listUpdate (.ref S) (fun _ => #[]); letGo was.toList.reverse; Builtin.List.listExtendWith (.ref S) (.ref it) .none) _ _ s
  refine wpAny_bind ?_; unfold Builtin.List.listItems
  refine wpAny_bind (wpAny_seqItems hS rfl (wpAny_pure ?_)); show wpAny _ _ (updateSeq S (fun _ => #[]) >>= fun _ => letGo (#[] : Array Value).toList.reverse >>= fun _ => Builtin.List.listExtendWith (.ref S) (.ref it) .none) _ _ s
  refine wpAny_bind (wpAny_updateSeq hS rfl ?_)
  have hS2 := Heap.get?_update_self (Obj.mapSeq (fun _ => (#[] : Array Value))) hS rfl
  have oth : ∀ b o, b ≠ S → s.heap.get? b = some o → (s.heap.update S (Obj.mapSeq (fun _ => (#[] : Array Value)))).get? b = some o := fun b o hb e => (Heap.get?_update_other _ _ (Ne.symm hb)).trans e
  refine wpAny_bind (wpAny_letGo ?_)
  obtain ⟨ol, hol, r1⟩ := hl
  refine rev_ext hh (hit.at fun o e => oth it o (Ne.symm hSi) e) ⟨ol, oth l ol (Ne.symm hSl) hol, r1⟩ hne hn hSi hSl hS2 fun h' tk acc c' hk hS' hacc => ?_
  exact hR h' tk acc c' (fun b o hb hb2 e => hk b o hb hb2 (oth b o hb2 e)) hS' hacc
theorem list_rev {it l : Addr} {items : Array Value} {Q : Value → Shared → Prop} (hh : A.handled = none) (hit : s.heap.IsRevIter it l ((items.size : Int) - 1)) (hl : s.heap.IsList l items) (hne : l ≠ it) (hn : items.size ≤ sizeLine)
    (hQ : ∀ (h' : Heap) (tk : Nat) (acc : Array Value) (c' : Nat), (∀ b o, b ≠ it → s.heap.get? b = some o → h'.get? b = some o) → h'.get? s.heap.objs.size = some { cls := .type "list", dict := none, data := .seq acc c', slots := #[] } →
      ItemsOf (fun i v => items[items.size - 1 - i]? = some v) acc items.size → Q (.ref s.heap.objs.size) { s with heap := h', toks := tk }) : wpAny (model prog w) A (call (.type "list") [.ref it]) Q E s := by
  refine callType_codes (Q₁ := fun obj s1 => obj = .ref s.heap.objs.size ∧ s1 = { s with heap := s.heap.push { cls := .type "list", data := .seq #[] } }) PySem.F.called_list (PySem.F.typeCall_list_1 _) PySem.F.entry_list_init (code_list_new _ ⟨rfl, rfl⟩) fun obj s1 h1 => ?_
  obtain ⟨rfl, rfl⟩ := h1
  have hS : (s.heap.push { cls := .type "list", data := .seq #[] }).get? s.heap.objs.size = some { cls := .type "list", data := .seq #[] } := Heap.get?_push_size _ rfl
  obtain ⟨oi, hoi, _⟩ := id hit
  obtain ⟨ol, hol, _⟩ := id hl
  refine ⟨⟨_, hS, rfl⟩, PySem.F.args_list_init_2 _ _, rev_init (A := A.in1) hh (hit.at fun o e => Heap.get?_push_of_some _ e) (hl.push _) hne hn (Nat.ne_of_gt (Heap.lt_size hoi)) (Nat.ne_of_gt (Heap.lt_size hol)) hS fun h' tk acc c' hk hS' hacc => ?_⟩
  exact ⟨rfl, hQ h' tk acc c' (fun b o hb e => hk b o hb (Nat.ne_of_lt (Heap.lt_size e)) (Heap.get?_push_of_some _ e)) hS' hacc⟩
end
end QR
namespace Q
open PySem PySem.Spec PySem.Calls PyProof.Rows L2
/-- list(reversed(x)), x a list: a new list -/
def tListRev (K : PySem.W.Frag) (te : TE) : TE := fun σ H Q => te σ H fun v H1 => ∃ (a : Addr) (xs : List V), v = .ref a ∧ SqL K H1 a xs ∧ ∀ q, H1 q = none → Q (.ref q) (upd H1 q (.lst xs.reverse))
theorem pe_listRev {X : Cx} {e : Expr} {te : TE} {p p2 pos pos2 : Pos} (hc : X.calm = true) (hg : Gl X "list") (hm : X.mg "list" = none) (hg2 : Gl X "reversed") (hm2 : X.mg "reversed" = none) (he : PE X e te)
    (hs : starEach [e] X.env = (false, eval e X.env) :: starEach [] X.env := by rfl)
    (hs2 : starEach [.Call (.Name "reversed" p2) [e] [] pos2] X.env = (false, eval (.Call (.Name "reversed" p2) [e] [] pos2) X.env) :: starEach [] X.env := by rfl) :
    PE X (.Call (.Name "list" p) [.Call (.Name "reversed" p2) [e] [] pos2] [] pos) (tListRev X.K te) := by
  refine ⟨fun pins s σ H Q I h => ?_⟩
  refine Call_ (ld_blt I hg hm boot_list (PyProof.Rows.callWith_type1 (args_cons (Call_ (ld_blt I hg2 hm2 PyProof.Rows.boot_reversed (PyProof.Rows.callWith_type1 (args_cons (thn (he.run pins s σ H _ I h) fun u s1 ⟨v, H1, I1, r1, q1⟩ => args_nil ?_) hs) hs rfl))) hs2) hs2 rfl))
  obtain ⟨a, xs, ev, hq, q⟩ := q1
  subst ev; obtain rfl : u = Value.ref a := r1
  obtain ⟨its, rv, p', hz⟩ := I1.list hq
  refine call_reversed_list p'.isList (args_nil ?_)
  have k0 : ∀ b o, s1.heap.get? b = some o → (s1.heap.push (revObj a ((its.toArray.size : Int) - 1))).get? b = some o := fun b o e => Heap.get?_push_of_some _ e
  have I2 : Inv X pins σ H1 { s1 with heap := s1.heap.push (revObj a ((its.toArray.size : Int) - 1)) } := I1.kept (t' := s1.toks) k0
  have hf := I1.fpOk (H' := H1) (b := s1.heap.objs.size) (Nat.le_refl _) (I1.hok.fresh (Nat.le_refl _))
  obtain ⟨f0, f1, f2, f3, f4, f5⟩ := hf
  have hl := p'.isList
  obtain ⟨ol, hol, _⟩ := id hl
  have hne : a ≠ s1.heap.objs.size := Nat.ne_of_lt (Heap.lt_size hol)
  have hn : its.toArray.size ≤ sizeLine := by
    rw [List.size_toArray, ← rv.length]
    exact hz
  refine QR.list_rev (s := { s1 with heap := s1.heap.push (revObj a ((its.toArray.size : Int) - 1)) }) (I1.ok.hd hc) ⟨_, Heap.get?_push_size _ rfl, rfl, rfl⟩ (hl.push _) hne hn fun h' tk acc c' hk hS hi => ?_
  have hD : H1 (s1.heap.push (revObj a ((its.toArray.size : Int) - 1))).objs.size = none := I2.hok.fresh (Nat.le_refl _)
  generalize hDe : (s1.heap.push (revObj a ((its.toArray.size : Int) - 1))).objs.size = D at hD hS
  have old : ∀ b o, (s1.heap.push (revObj a ((its.toArray.size : Int) - 1))).get? b = some o → b ≠ D := fun b o e => by
    rw [← hDe]
    exact Nat.ne_of_lt (Heap.lt_size e)
  have hz2 : xs.reverse.length ≤ sizeLine := by
    rw [List.length_reverse]
    exact hz
  have same : ∀ b u, H1 b = some u → upd H1 D (.lst xs.reverse) b = some u := fun b u e => by
    rw [upd_ne (ne_of_none e hD)]
    exact e
  have nit : ∀ b u, H1 b = some u → b ≠ s1.heap.objs.size := fun b u e z => by
    rw [z, f0] at e
    cases e
  have J : Inv X pins σ (upd H1 D (.lst xs.reverse)) { ({ s1 with heap := s1.heap.push (revObj a ((its.toArray.size : Int) - 1)) } : Shared) with heap := h', gens := s1.gens, drawn := s1.drawn, toks := tk } := by
    refine I2.step (g' := s1.gens) (d' := s1.drawn) (t' := tk) (h' := h') (ch := [s1.heap.objs.size]) (fun b hb => ?_) (fun b o _ _ hc e _ => hk b o (fun z => hc (by simp [z])) e) (fun b o _ _ hc e _ => ⟨o.slots, hk b o (fun z => hc (by simp [z])) e⟩)
      (fun b o _ e n => by rw [upd_ne (old b o e)]; exact n) (fun b o hc e => ⟨o, hk b o (fun z => hc (by simp [z])) e⟩) (fun b ys e => same b _ e) (fun b o v e => same b _ e) (fun b ps e => ⟨#[], by rw [same b _ e]; simp⟩) (fun m hm => ?_) (fun b u e => ?_) I1.bare
    · have e : b = s1.heap.objs.size := by simpa using hb
      subst e
      exact ⟨f3, f1, f4, f5⟩
    · obtain ⟨o, es, ep, ho, r⟩ := hm
      exact ⟨o, es, ep, hk _ o (Ne.symm f1) ho, r⟩
    · by_cases hb : b = D
      · subst hb
        rw [upd_same] at e
        cases e
        exact ⟨hz2, acc.toList, c', RT.vals_rev rv hi, by rw [Array.toArray_toList]; exact hS⟩
      · rw [upd_ne hb] at e
        refine (I2.hok b u e).stay (fun c v hc y => hk c v ?_ y) (fun c y => same c _ y) fun c ys y => same c _ y
        rcases hc with z | z
        · rw [z]
          exact nit b u e
        · exact nit c _ z
  exact ⟨.ref D, _, J, rfl, q D hD⟩
end Q
/-! isinstance of a caught exception that has its own dict -/
namespace Q
open PySem PySem.Spec PyProof.Rows L2
/-- the exception that the suite holds at a: its class is D, its dict stands -/
def XAt (cls : Value) (d : Option Addr) (D : Addr) (H : Hp) : Prop := cls = .ref D ∧ ∃ (dd : Addr) (fs : List (Str × V)), d = some dd ∧ H dd = some (.xd fs)
def rIsX (K : PySem.W.Frag) (a : Addr) (cls : Value) (d : Option Addr) : List V → Hp → VK → Prop := fun xs H Q => ∃ D : Addr, ExcC K D ∧ XAt cls d D H ∧
  ((∃ (c : V) (cv : Value) (b : Bool), xs = [.ref a, c] ∧ ClsV c cv ∧ PySem.W.kitOne K (.ref D) cv = some b ∧ Q (.bl b) H) ∨
   (∃ (tp : Addr) (cs : List V) (us : List Value) (b : Bool), xs = [.ref a, .ref tp] ∧ H tp = some (.tup cs) ∧ Paired ClsV cs us ∧ PySem.W.kitAny K (.ref D) us = some b ∧ Q (.bl b) H))
theorem call_isX {X : Cx} {a : Addr} {oe : Obj} {cls : Value} {d : Option Addr} {pn : List (Addr × Obj)} (hz : Zc cls d oe) (hf : ∃ vs, oe.data = .fields vs) : CallR (X.suite a ((a, oe) :: pn)) (.builtin "isinstance") (rIsX X.K a cls d) := by
  intro pins s σ H xs us Q I r h
  obtain ⟨D, C, ⟨ec, dd, fs, ed, ea⟩, h⟩ := h
  subst ec ed
  obtain ⟨ha, _⟩ := I.pin (a, oe) (List.mem_append.mpr (.inl List.mem_cons_self))
  obtain ⟨vs, hv⟩ := hf
  have hx : ObjOk X.prog X.w H s.heap dd (.xd fs) := I.hok dd _ ea
  obtain ⟨mA, hns, hr⟩ := hx
  obtain ⟨od, ho, hl⟩ := lookIn_ns hns
  have J : PySem.W.InstAt s.heap a oe D (some od) := ⟨ha, hz.1, by unfold PySem.W.notCls; rw [hv] <;> rfl, by rw [hz.2]; exact ho⟩
  have hcl : (PySem.W.clsIn X.K D).isSome = true := by
    obtain ⟨cd, e, _⟩ := PySem.W.any_some C.hd
    rw [e] <;> rfl
  have Z := PySem.W.kitx_exc (K := X.K) (x := a) (ox := oe) (od := some od) hcl C.hg C.hk C.hs C.ha C.hn C.ht C.hm
  rcases h with ⟨c, cv, b, rfl, k, e, q⟩ | ⟨tp, cs, ws, b, rfl, hT, k, e, q⟩
  · obtain ⟨u1, u2, rfl, r1, r2⟩ := vals2 r
    have e2 := k.eq r2
    subst e2
    cases (show u1 = Value.ref a from r1)
    exact PySem.W.kia_one Z I.kIn J e (fun z => nomatch z) fun tk => ⟨.bl b, H, I.tok tk, rfl, q⟩
  · obtain ⟨u1, u2, rfl, r1, r2⟩ := vals2 r
    cases (show u1 = Value.ref a from r1)
    cases (show u2 = Value.ref tp from r2)
    obtain ⟨_, its, rv, o, h1, h2, n, h3⟩ := (show ObjOk X.prog X.w H s.heap tp (.tup cs) from I.hok tp _ hT)
    have e3 := ClsV.all k rv
    subst e3
    obtain ⟨oc, od2, dt, sl⟩ := o
    simp only at h2 h3
    subst h2 h3
    exact PySem.W.kia_tup Z I.kIn J h1 e (fun z => nomatch z) fun tk => ⟨.bl b, H, I.tok tk, rfl, q⟩
/-! ### is None, isinstance of built-in types -/
def rIs0 : R2 := fun x y H Q => y = .non ∧ Q (.bl (decide (x = .non))) H
def rIsNot0 : R2 := fun x y H Q => y = .non ∧ Q (.bl (!decide (x = .non))) H
section
variable {X : Cx}
theorem op_is0 : OpR X (compareOp .Is) rIs0 := op_isN
theorem op_isnot0 : OpR X (compareOp .IsNot) rIsNot0 := op_notN
end
section
variable {K : PySem.W.Frag} {H : Hp} {Q : VK} {x c : V}
theorem go_isY (q : Q (.bl true) H) : rIs0 .non .non H Q := ⟨rfl, q⟩
theorem go_isN (h : x ≠ .non) (q : Q (.bl false) H) : rIs0 x .non H Q := ⟨rfl, by rw [decide_eq_false h]; exact q⟩
theorem go_isnotN (q : Q (.bl false) H) : rIsNot0 .non .non H Q := ⟨rfl, q⟩
theorem go_isnotY (h : x ≠ .non) (q : Q (.bl true) H) : rIsNot0 x .non H Q := ⟨rfl, by rw [decide_eq_false h]; exact q⟩
/-- the built-in type of a value -/
inductive Bt (K : PySem.W.Frag) (H : Hp) : V → String → Prop where
  | non : Bt K H .non "NoneType"
  | bl (b : Bool) : Bt K H (.bl b) "bool"
  | int (i : Int) : Bt K H (.int i) "int"
  | str (s : Str) : Bt K H (.str s) "str"
  | lst {a : Addr} {xs : List V} (h : SqL K H a xs) : Bt K H (.ref a) "list"
  | tup {a : Addr} {xs : List V} (h : SqT K H a xs) : Bt K H (.ref a) "tuple"
  | dic {a : Addr} {kvs : List (Key × V)} (h : H a = some (.dK kvs)) : Bt K H (.ref a) "dict"
theorem Bt.tyX {T : String} (h : Bt K H x T) : TyX K H x (.type T) := by
  cases h with
  | non => exact .base .non
  | bl b => exact .base (.bl b)
  | int i => exact .base (.int i)
  | str s => exact .base (.str s)
  | lst h =>
    rcases h with (h | ⟨o, h⟩) | ⟨o, its, n, h, c, _⟩
    · exact .base (.lst h)
    · exact .base (.frz h)
    · exact .kList h c
  | tup h =>
    rcases h with (h | ⟨o, h⟩) | ⟨o, its, n, h, c, _⟩
    · exact .base (.tup h)
    · exact .fTuple h
    · exact .kTuple h c
  | dic h => exact .base (.dK h)
theorem go_isi {T U : String} {b : Bool} (ty : Bt K H x T) (e : kitB T U = some b) (q : Q (.bl b) H) : rIsi K [x, .ty U] H Q :=
  ⟨x, .ty U, .type T, .type U, b, rfl, .ty U, ty.tyX, kit_ty e, q⟩
theorem go_isi2 {T U U' : String} {b b' c : Bool} {p : Addr} (ty : Bt K H x T) (hp : H p = some (.tup [.ty U, .ty U'])) (e : kitB T U = some b) (e' : kitB T U' = some b') (ec : (b || b') = c) (q : Q (.bl c) H) : rIsiT K [x, .ref p] H Q := by
  subst ec
  refine ⟨x, p, _, .type T, [.type U, .type U'], (b || b'), rfl, hp, .cons (.ty U) (.cons (.ty U') .nil), ty.tyX, kitAny_cons (kit_ty e) (fun hb => ?_) (fun hb => by rw [hb]; rfl), q⟩
  refine kitAny_cons (kit_ty e') (fun hb' => ?_) (fun hb' => by rw [hb']; cases b <;> rfl)
  rw [hb, hb']
  exact kitAny_nil
end
/-- texts of a menu -/
def textsB (n : Nat) (xs : List V) : Bool := xs.all fun v => match v with
  | .str x => decide (x.length ≤ n)
  | _ => false
theorem texts_ok {n : Nat} {xs : List V} {v : V} (h : textsB n xs = true) (hv : v ∈ xs) : IsText 0 n v := by
  have q := List.all_eq_true.mp h v hv
  cases v with
  | str x => exact ⟨x, rfl, Nat.zero_le _, of_decide_eq_true q⟩
  | _ => exact nomatch q
theorem one_sign {z : Str} {v : V} (h : ∃ ch, ch ∈ z.cps.toList ∧ v = .str ⟨#[ch]⟩) : IsText 1 1 v := by
  obtain ⟨ch, _, e⟩ := h
  exact ⟨_, e, Nat.le_refl _, Nat.le_refl _⟩
section
variable {K : PySem.W.Frag} {H : Hp} {Q : VK} {a D C : Addr} {cls : Value} {d : Option Addr} {b : Bool}
theorem go_isx1 {C : Addr} (x : ExcC K D) (z : XAt cls d D H) (e : PySem.W.kitOne K (.ref D) (.ref C) = some b) (q : Q (.bl b) H) : rIsX K a cls d [.ref a, .ref C] H Q := ⟨D, x, z, .inl ⟨.ref C, _, b, rfl, .own C, e, q⟩⟩
theorem go_isxT {T : String} (x : ExcC K D) (z : XAt cls d D H) (e : PySem.W.kitOne K (.ref D) (.type T) = some b) (q : Q (.bl b) H) : rIsX K a cls d [.ref a, .ty T] H Q := ⟨D, x, z, .inl ⟨.ty T, _, b, rfl, .ty T, e, q⟩⟩
theorem clsV_refs : ∀ Cs : List Addr, Paired ClsV (Cs.map V.ref) (Cs.map Value.ref)
  | [] => .nil
  | C :: r => .cons (.own C) (clsV_refs r)
theorem go_isxL {tp : Addr} {Cs : List Addr} (x : ExcC K D) (e : PySem.W.kitAny K (.ref D) (Cs.map Value.ref) = some b) (z : XAt cls d D H) (ht : H tp = some (.tup (Cs.map V.ref))) (q : Q (.bl b) H) : rIsX K a cls d [.ref a, .ref tp] H Q :=
  ⟨D, x, z, .inr ⟨tp, _, _, b, rfl, ht, clsV_refs Cs, e, q⟩⟩
end
section
variable {X : Cx} {CX : CXT} {k : Nat} {f : Addr} {fd : FuncData} {ps ks : List Str} {sp : Sp} {E : XK} {x : Str} {p pos : Pos} {kws : List Keyword} {tk : TA} {g : List Value → List Value → List Value} {gV : List V → List V → List V}
/-- f(k = v, ..): keywords alone -/
theorem pe_callN0 (F : FnOk X.prog X.w X.K X.mg X.base CX k f fd ps sp) (hr : Room k X.A) (hg : Gl X x) (hm : X.mg x = some (.ref f)) (hk : PySem.W.keepIn X.K (.ref f) = true) (hb : KBn X.K fd ps 0 ks g gV) (hx : Passes CX X E) (hkw : PK X kws tk)
    (hall : (backToKw pos (keywordEach kws X.env)).all (·.1.isSome) = true := by rfl) (hks : (backToKw pos (keywordEach kws X.env)).filterMap (·.1) = ks := by rfl) (hdb : (x == ("__debug__" : Str)) = false := by decide)
    (hpl : ((backTo pos (starEach [] X.env)).any (·.1) || (backToKw pos (keywordEach kws X.env)).any (·.1.isNone)) = false := by rfl) : PE X (.Call (.Name x p) [] kws pos) (tCallN 0 ks.length sp gV E tNil tk) := by
  refine ⟨fun pins s σ H Q I h => ?_⟩
  refine wpAny_Call_Name_kw (ld_glob I hg hm ?_ hdb)
  refine PySem.W.callWith_KW0 (h₀ := X.base) I.ok.mod.kin hk hall (thn (hkw.run pos pins s σ H _ I h) fun ws s2 ⟨zs, H2, I2, rz, l1, l2, q2⟩ => ⟨I2.kIn, ?_⟩) hpl
  rw [hks]
  exact run_fnN (us := []) (vs := []) F hr hb hx I2 .nil rz rfl l2 q2
end
end Q
/-! what the top has written, asked of the part K as Bools -/
namespace Q
open PySem PySem.Spec PyProof.Rows L2
/-! ### the Hook: the facts and defs of He, one Bool more -/
def obsQ (n : Nat) (fa : List He.Fa) (fn : List He.DefD) (ex : PySem.W.Frag → Bool) (g : Addr → Option Obj) : He.AlD × Bool := (He.obsD fa fn (He.frG g (He.asD g n)), ex (He.frG g (He.asD g n)))
structure SaysQ (fa : List He.Fa) (fn : List He.DefD) (ex : PySem.W.Frag → Bool) (K : PySem.W.Frag) : Prop where
  d : He.SaysD fa fn K
  x : ex K = true
def hookQ (n : Nat) (fa : List He.Fa) (fn : List He.DefD) (ex : PySem.W.Frag → Bool) : PySem.W.Hook where
  α := He.AlD × Bool
  obs := fun s => obsQ n fa fn ex s.heap.get?
  val := fun _ => (He.valD fn, true)
  says := fun _ h => ∃ K : PySem.W.Frag, K.In h ∧ SaysQ fa fn ex K
  of := fun _ _ e => ⟨_, He.frG_in, ⟨congrArg Prod.fst e, congrArg Prod.snd e⟩⟩
  keeps := fun _ _ _ ⟨K, hK, c⟩ k => ⟨K, PySem.W.Frag.In.keeps hK k, c⟩
theorem obsQ_eq {n : Nat} {fa : List He.Fa} {fn : List He.DefD} {ex : PySem.W.Frag → Bool} {g : Addr → Option Obj} {s : Shared} (h : ∀ a, g a = s.heap.get? a) : obsQ n fa fn ex g = (hookQ n fa fn ex).obs s := by
  have e : g = s.heap.get? := funext h
  rw [e]
  rfl
/-! ### exception classes -/
abbrev gA (K : PySem.W.Frag) (x : Str) : Addr := He.ga K x
/-- the class object: own classes, then ValueError's -/
def oexB (K : PySem.W.Frag) (C : Addr) : Bool := match K.lookup C with
  | some ⟨.type t, _, .cls cd, sl⟩ => (match cd.mro, sl.toList with
    | .ref C' :: bm, [_, _, _, _, some (.builtin n), _] => t == "type" && (C' == C && (n == "ValueError.__new__" && (!cd.hasDel && (cd.hasDict && PySem.HandSPX.refsVE bm))))
    | _, _ => false)
  | _ => false
def fnd (K : PySem.W.Frag) (C : Addr) (x : Str) (v : Option Value) : Bool := decide (PySem.W.findIn K (.ref C) x = some v)
/-- all that is asked of an exception class (with its own __init__ or without) -/
def xcB (K : PySem.W.Frag) (C : Addr) : Bool := oexB K C && (fnd K C "__setattr__" (some (.builtin "object.__setattr__")) && (decide (PySem.W.subIn K (.ref C) (.type "BaseException") = some true) && (decide (PySem.W.typeIn K (.ref C) = some (.type "type")) && (PySem.W.keepIn K (.ref C) &&
  (fnd K C "__getattribute__" (some (.builtin "BaseException.__getattribute__")) && (fnd K C "__getattr__" none && (PySem.W.hasDictIn K C && (fnd K C "__class__" (some (.builtin "object.__class__")) &&
  (decide (PySem.W.specialIn K (.builtin "object.__class__") "__get__" = some (some (.builtin "getset_descriptor.__get__"))) && (decide (PySem.W.takesIn K (.builtin "object.__class__") = some true) && (decide (PySem.W.mroIn K C (.type "object") = some true) &&
  decide (PySem.W.exmOne K (.ref C) (.ref C) = some true))))))))))))
structure XC (K : PySem.W.Frag) (C : Addr) : Prop where
  oex : OexC K C
  xf : XfC K C
  isx : ExcC K C
  te : PySem.W.exmOne K (.ref C) (.ref C) = some true
theorem oexB_ok {K : PySem.W.Frag} {C : Addr} (h : oexB K C = true) : ∃ nm q N bs bm sn sub ab col dd k0 k1 k2 k3 k5, K.lookup C = some (excClassObj nm q C N bs bm true sn sub ab col dd k0 k1 k2 k3 k5 "ValueError.__new__") ∧ PySem.HandSPX.refsVE bm = true := by
  unfold oexB at h
  split at h
  · rename_i t dd cd sl ho
    split at h
    · rename_i C' bm k0 k1 k2 k3 n k5 hm hs
      obtain ⟨h0, h⟩ := He.ba h
      obtain ⟨h1, h⟩ := He.ba h
      obtain ⟨h2, h⟩ := He.ba h
      obtain ⟨h3, h⟩ := He.ba h
      obtain ⟨h4, h5⟩ := He.ba h
      obtain ⟨nm, bs, mro, ns, qn, hd, sn, sub, ab, col, del⟩ := cd
      have e0 : t = "type" := beq_iff_eq.mp h0
      have e1 : C' = C := beq_iff_eq.mp h1
      have e2 : n = "ValueError.__new__" := beq_iff_eq.mp h2
      have e3 : del = false := by
        cases del with
        | false => rfl
        | true => exact nomatch h3
      have e4 : hd = true := h4
      dsimp only at hm
      have hsl : sl = #[k0, k1, k2, k3, some (.builtin n), k5] := by
        obtain ⟨l⟩ := sl
        have q : l = [k0, k1, k2, k3, some (.builtin n), k5] := hs
        rw [q]
      rw [hm, hsl, e0, e1, e2, e3, e4] at ho
      exact ⟨nm, qn, ns, bs, bm, sn, sub, ab, col, dd, k0, k1, k2, k3, k5, ho, h5⟩
    · exact nomatch h
  · exact nomatch h
theorem xcB_ok {K : PySem.W.Frag} {C : Addr} (h : xcB K C = true) : XC K C := by
  obtain ⟨h0, h⟩ := He.ba h
  obtain ⟨h1, h⟩ := He.ba h
  obtain ⟨h2, h⟩ := He.ba h
  obtain ⟨h3, h⟩ := He.ba h
  obtain ⟨h4, h⟩ := He.ba h
  obtain ⟨h5, h⟩ := He.ba h
  obtain ⟨h6, h⟩ := He.ba h
  obtain ⟨h7, h⟩ := He.ba h
  obtain ⟨h8, h⟩ := He.ba h
  obtain ⟨h9, h⟩ := He.ba h
  obtain ⟨h10, h⟩ := He.ba h
  obtain ⟨h11, h12⟩ := He.ba h
  have g1 := of_decide_eq_true h1
  have g2 := of_decide_eq_true h2
  have g5 := of_decide_eq_true h5
  have g6 := of_decide_eq_true h6
  exact ⟨⟨oexB_ok h0, g1, g2, of_decide_eq_true h3, h4⟩, ⟨g5, g6, g2, h7⟩, ⟨g5, g6, g2, h7, of_decide_eq_true h8, of_decide_eq_true h9, of_decide_eq_true h10, of_decide_eq_true h11⟩, of_decide_eq_true h12⟩
/-- its __init__ is a def of the text; the names are no attributes of the class -/
def xinB (K : PySem.W.Frag) (C : Addr) (fs : List Str) : Bool := fnd K C "__init__" (some (.ref (He.ma K C "__init__"))) && (decide (PySem.W.typeIn K (.ref (He.ma K C "__init__")) = some (.type "function")) && fs.all fun f => fnd K C f none)
structure XIn (K : PySem.W.Frag) (C : Addr) (fs : List Str) : Prop where
  ini : PySem.W.findIn K (.ref C) "__init__" = some (some (.ref (He.ma K C "__init__")))
  ty : PySem.W.typeIn K (.ref (He.ma K C "__init__")) = some (.type "function")
  no : ∀ f ∈ fs, PySem.W.findIn K (.ref C) f = some none
theorem xinB_ok {K : PySem.W.Frag} {C : Addr} {fs : List Str} (h : xinB K C fs = true) : XIn K C fs := by
  obtain ⟨h1, h⟩ := He.ba h
  obtain ⟨h2, h3⟩ := He.ba h
  exact ⟨of_decide_eq_true h1, of_decide_eq_true h2, fun f hf => of_decide_eq_true (List.all_eq_true.mp h3 f hf)⟩
/-- isinstance of an exception of x against several classes, one class; a clause -/
def kinB (K : PySem.W.Frag) (x : Str) (ys : List Str) (b : Bool) : Bool := decide (PySem.W.kitAny K (.ref (gA K x)) (ys.map fun y => .ref (gA K y)) = some b)
def kin1B (K : PySem.W.Frag) (x y : Str) (b : Bool) : Bool := decide (PySem.W.kitOne K (.ref (gA K x)) (.ref (gA K y)) = some b)
def kinTB (K : PySem.W.Frag) (x : Str) (T : String) (b : Bool) : Bool := decide (PySem.W.kitOne K (.ref (gA K x)) (.type T) = some b)
def exmB (K : PySem.W.Frag) (x y : Str) (b : Bool) : Bool := decide (PySem.W.exmOne K (.ref (gA K x)) (.ref (gA K y)) = some b)
/-! ### an exception's __init__ -/
/-- self.f = y, of a new exception -/
def pInit1 (K : PySem.W.Frag) (C : Addr) (f : Str) : P2 := fun v0 v1 H Q _ => ∃ a : Addr, v0 = .ref a ∧ H a = some (exo a C none) ∧ ∀ dx, H dx = none → dx ≠ a → Q .non (upd (upd H dx (exd dx [(f, v1)])) a (exo a C (some dx)))
def pInit2 (K : PySem.W.Frag) (C : Addr) (f g : Str) : P3 := fun v0 v1 v2 H Q _ => ∃ a : Addr, v0 = .ref a ∧ H a = some (exo a C none) ∧ ∀ dx, H dx = none → dx ≠ a → Q .non (upd (upd (upd H dx (exd dx [(f, v1)])) a (exo a C (some dx))) dx (exd dx [(g, v2), (f, v1)]))
def pInit3 (K : PySem.W.Frag) (C : Addr) (f g k : Str) : P4 := fun v0 v1 v2 v3 H Q _ => ∃ a : Addr, v0 = .ref a ∧ H a = some (exo a C none) ∧ ∀ dx, H dx = none → dx ≠ a →
  Q .non (upd (upd (upd (upd H dx (exd dx [(f, v1)])) a (exo a C (some dx))) dx (exd dx [(g, v2), (f, v1)])) dx (exd dx [(k, v3), (g, v2), (f, v1)]))
section
variable {K : PySem.W.Frag} {C : Addr} {f g k : Str} {σ : L2.St} {H : Hp} {R : XK} {te : TE} {ta : TA}
theorem go_ost {to te : TE} {D : Ends} (h : te σ H fun y H1 => to σ H1 fun x H2 => ∃ a C : Addr, x = .ref a ∧ OexC K C ∧ PySem.W.findIn K (.ref C) f = some none ∧
  ((H2 a = some (exo a C none) ∧ ∀ dx, H2 dx = none → dx ≠ a → D.nx σ (upd (upd H2 dx (exd dx [(f, y)])) a (exo a C (some dx)))) ∨
    ∃ (dx : Addr) (fs : List (Str × V)), H2 a = some (exo a C (some dx)) ∧ H2 dx = some (exd dx fs) ∧ fs.length ≤ 900 ∧ D.nx σ (upd H2 dx (exd dx ((f, y) :: fs))))) : tOst K f to te D σ H := h
theorem xo_eq {H1 : Hp} {a dx : Addr} {u o z : HO} (ha : H1 a = none) (hd : dx ≠ a) : upd (del (upd (upd (upd H1 a u) dx o) a z) a) dx o = upd H1 dx o := by
  funext b
  by_cases h1 : b = dx
  · rw [h1, upd_same, upd_same]
  · rw [upd_ne h1, upd_ne h1]
    by_cases h2 : b = a
    · rw [h2, del_same, ha]
    · rw [del_ne h2, upd_ne h2, upd_ne h1, upd_ne h2]
/-- C(e, ..), its __init__ keeping sp: behind the arguments -/
def mkO (C : Addr) (sp : Sp) (R : XK) : List V → Hp → Prop := fun vs H1 => vs.length ≤ 1000 ∧ ∀ a, H1 a = none → sp (.ref a :: (vs ++ [])) (upd H1 a (exo a C none))
  (fun v H2 => v = .non ∧ ∃ (d : Addr) (fs : List (Str × V)), H2 a = some (exo a C (some d)) ∧ H2 d = some (exd d fs) ∧ H1 d = none ∧ R (.ref C) (some d) (upd (del H2 a) d (.xd fs))) (fun _ _ _ => False)
theorem go_mkO {sp : Sp} (h : ta σ H (mkO C sp R)) : tMkO C sp [] ta σ H R := h
/-- raise C(v): what is wished at the error's new dict -/
theorem mk1 {v : V} (h : ∀ d, H d = none → R (.ref C) (some d) (upd H d (.xd [(f, v)]))) : mkO C (Sp2 (pInit1 K C f)) R [v] H := by
  refine ⟨by show 1 ≤ 1000; decide, fun a ha => ⟨.ref a, v, rfl, a, rfl, upd_same, fun dx hdx hne => ?_⟩⟩
  have hd1 : H dx = none := by
    rw [upd_ne hne] at hdx
    exact hdx
  refine ⟨rfl, dx, [(f, v)], upd_same, by rw [upd_ne hne, upd_same], hd1, ?_⟩
  have e : upd (del (upd (upd (upd H a (exo a C none)) dx (exd dx [(f, v)])) a (exo a C (some dx))) a) dx (.xd [(f, v)]) = upd H dx (.xd [(f, v)]) := by
    funext b
    by_cases h1 : b = dx
    · rw [h1, upd_same, upd_same]
    · rw [upd_ne h1, upd_ne h1]
      by_cases h2 : b = a
      · rw [h2, del_same, ha]
      · rw [del_ne h2, upd_ne h2, upd_ne h1, upd_ne h2]
  rw [e]
  exact h dx hd1
theorem mk2 {v w : V} (h : ∀ d, H d = none → R (.ref C) (some d) (upd H d (.xd [(g, w), (f, v)]))) : mkO C (Sp3 (pInit2 K C f g)) R [v, w] H := by
  refine ⟨by show 2 ≤ 1000; decide, fun a ha => ⟨.ref a, v, w, rfl, a, rfl, upd_same, fun dx hdx hne => ?_⟩⟩
  have hd1 : H dx = none := by
    rw [upd_ne hne] at hdx
    exact hdx
  refine ⟨rfl, dx, [(g, w), (f, v)], by rw [upd_ne (Ne.symm hne), upd_same], upd_same, hd1, ?_⟩
  have e : upd (del (upd (upd (upd (upd H a (exo a C none)) dx (exd dx [(f, v)])) a (exo a C (some dx))) dx (exd dx [(g, w), (f, v)])) a) dx (.xd [(g, w), (f, v)]) = upd H dx (.xd [(g, w), (f, v)]) := by
    funext b
    by_cases h1 : b = dx
    · rw [h1, upd_same, upd_same]
    · rw [upd_ne h1, upd_ne h1]
      by_cases h2 : b = a
      · rw [h2, del_same, ha]
      · rw [del_ne h2, upd_ne h1, upd_ne h2, upd_ne h1, upd_ne h2]
  rw [e]
  exact h dx hd1
theorem mk3 {v w x : V} (h : ∀ d, H d = none → R (.ref C) (some d) (upd H d (.xd [(k, x), (g, w), (f, v)]))) : mkO C (Sp4 (pInit3 K C f g k)) R [v, w, x] H := by
  refine ⟨by show 3 ≤ 1000; decide, fun a ha => ⟨.ref a, v, w, x, rfl, a, rfl, upd_same, fun dx hdx hne => ?_⟩⟩
  have hd1 : H dx = none := by
    rw [upd_ne hne] at hdx
    exact hdx
  refine ⟨rfl, dx, [(k, x), (g, w), (f, v)], by rw [upd_ne (Ne.symm hne), upd_ne (Ne.symm hne), upd_same], upd_same, hd1, ?_⟩
  have e : upd (del (upd (upd (upd (upd (upd H a (exo a C none)) dx (exd dx [(f, v)])) a (exo a C (some dx))) dx (exd dx [(g, w), (f, v)])) dx (exd dx [(k, x), (g, w), (f, v)])) a) dx (.xd [(k, x), (g, w), (f, v)]) = upd H dx (.xd [(k, x), (g, w), (f, v)]) := by
    funext b
    by_cases h1 : b = dx
    · rw [h1, upd_same, upd_same]
    · rw [upd_ne h1, upd_ne h1]
      by_cases h2 : b = a
      · rw [h2, del_same, ha]
      · rw [del_ne h2, upd_ne h1, upd_ne h1, upd_ne h2, upd_ne h1, upd_ne h2]
  rw [e]
  exact h dx hd1
end
end Q
/-! words that many of the laws share -/
namespace Q
open PySem PySem.Spec PyProof.Rows L2
/-- the names of point 2 -/
def letS : Str := Str.ofString "abcdefghijklmnopqrstuvwxyz"
def signS : Str := Str.ofString "abcdefghijklmnopqrstuvwxyz0123456789"
def isNm (x : Str) : Bool := match x.cps.toList with
  | [] => false
  | c :: r => decide (r.length + 1 ≤ 8) && (decide (c ∈ letS.cps.toList) && (c :: r).all fun c => decide (c ∈ signS.cps.toList))
theorem nm_short {x : Str} (h : x.length < 1) : isNm x = false := by
  have e : x.cps.toList = [] := List.eq_nil_of_length_eq_zero (by simp only [Array.length_toList]; unfold Str.length at h; omega)
  unfold isNm
  rw [e]
theorem nm_long {x : Str} (h : (8 : Int) < x.length) : isNm x = false := by
  have e : x.cps.toList.length = x.length := by simp [Str.length]
  unfold isNm
  cases q : x.cps.toList with
  | nil => rfl
  | cons c r =>
    rw [q] at e
    show (decide (r.length + 1 ≤ 8) && _) = false
    rw [decide_eq_false (by simp only [List.length_cons] at e; omega)]
    rfl
theorem nm_head {x : Str} {c : Nat} (h : atI x.cps.toList 0 = some c) (hc : ¬ c ∈ letS.cps.toList) : isNm x = false := by
  unfold isNm
  cases q : x.cps.toList with
  | nil => rfl
  | cons c' r =>
    rw [q] at h
    have e : c' = c := by
      have h2 : atI (c' :: r) 0 = some c' := atI_of (by decide) rfl
      rw [h2] at h
      exact Option.some.inj h
    show (decide (r.length + 1 ≤ 8) && (decide (c' ∈ letS.cps.toList) && _)) = false
    rw [e, decide_eq_false hc, Bool.false_and, Bool.and_false]
theorem nm_sign {x : Str} {i c : Nat} (h : x.cps.toList[i]? = some c) (hc : ¬ c ∈ signS.cps.toList) : isNm x = false := by
  unfold isNm
  cases q : x.cps.toList with
  | nil => rfl
  | cons c' r =>
    rw [q] at h
    have e : ((c' :: r).all fun c => decide (c ∈ signS.cps.toList)) = false := by
      rw [List.all_eq_false]
      exact ⟨c, List.mem_of_getElem? h, by rw [decide_eq_false hc]; decide⟩
    show (decide (r.length + 1 ≤ 8) && (decide (c' ∈ letS.cps.toList) && _)) = false
    rw [e, Bool.and_false, Bool.and_false]
theorem nm_yes {x : Str} (h1 : ¬ (x.length : Int) < 1) (h2 : ¬ (8 : Int) < x.length) (h3 : ∀ c, atI x.cps.toList 0 = some c → c ∈ letS.cps.toList) (h4 : ∀ (i c : Nat), x.cps.toList[i]? = some c → c ∈ signS.cps.toList) : isNm x = true := by
  have e : x.cps.toList.length = x.length := by simp [Str.length]
  unfold isNm
  cases q : x.cps.toList with
  | nil =>
    rw [q] at e
    exact absurd e.symm (by simp only [List.length_nil]; omega)
  | cons c r =>
    rw [q] at e h3 h4
    have a1 : decide (r.length + 1 ≤ 8) = true := decide_eq_true (by simp only [List.length_cons] at e; omega)
    have a2 : decide (c ∈ letS.cps.toList) = true := decide_eq_true (h3 c (atI_of (by decide) rfl))
    have a3 : ((c :: r).all fun c => decide (c ∈ signS.cps.toList)) = true := List.all_eq_true.mpr fun d hd => by
      obtain ⟨i, hi⟩ := List.mem_iff_getElem?.mp hd
      exact decide_eq_true (h4 i d hi)
    show (decide (r.length + 1 ≤ 8) && (decide (c ∈ letS.cps.toList) && _)) = true
    rw [a1, a2, a3]
    rfl
def pIsName : P1 := fun v0 H Q _ => ∃ x : Str, v0 = .str x ∧ x.length ≤ 100000 ∧ Q (.bl (isNm x)) H
/-! ### comprehensions -/
def LcIt (J : It) (g : TG) (tt : TT) (te : TE) (vs : List Nat) (σ : L2.St) (Q : VK) (H1 : Hp) : Prop := ∀ D, H1 D = none → ∃ W : Nat → Nat → Hp → Prop, (∃ m, W 0 m (upd H1 D (.lst []))) ∧ ∀ i m H, W i m H →
  (J.stop i H ∧ Q (.ref D) H) ∨ (J.go i H ∧ ∃ Nx : Hp → Prop, (∀ H', Nx H' → ∃ m', m' < m ∧ W (i + 1) m' H') ∧ ∀ x H', J.yld i H x H' → g x (wipe σ vs) H' fun σ2 H2 => wipe σ2 vs = wipe σ vs ∧ tt σ2 H2 fun b H3 =>
    if b = true then te σ2 H3 fun y H4 => ∃ acc, H4 D = some (.lst acc) ∧ acc.length < sizeLine ∧ Nx (upd H4 D (.lst (acc ++ [y]))) else Nx H3)
/-- the item goes behind what the new list at D holds -/
def lcApp (D : Addr) (N : Hp → Prop) : VK := fun y H => ∃ acc, H D = some (.lst acc) ∧ acc.length < sizeLine ∧ N (upd H D (.lst (acc ++ [y])))
def lcTest (te : TE) (D : Addr) (N : Hp → Prop) (σ : L2.St) : Bool → Hp → Prop := fun b H => if b = true then te σ H (lcApp D N) else N H
section
variable {K : PySem.W.Frag} {σ : L2.St} {H : Hp} {g : TG} {tt : TT} {te : TE} {wi : TI} {vs : List Nat} {Q : VK} {a D : Addr} {xs : List V}
theorem go_lc (h : wi σ H fun J H1 => LcIt J g tt te vs σ Q H1) : tLc wi g tt te vs σ H Q := h
theorem go_yes {R : Bool → Hp → Prop} (h : R true H) : tYes σ H R := h
theorem go_lct {N : Hp → Prop} (h : te σ H (lcApp D N)) : lcTest te D N σ true H := h
theorem go_lcf {N : Hp → Prop} (h : N H) : lcTest te D N σ false H := by
  unfold lcTest
  rw [if_neg Bool.false_ne_true]
  exact h
theorem go_lca {y : V} {N : Hp → Prop} {acc : List V} (h : H D = some (.lst acc)) (l : acc.length < sizeLine) (n : N (upd H D (.lst (acc ++ [y])))) : lcApp D N y H := ⟨acc, h, l, n⟩
theorem lc_r {j : Int} (hj : -(2 ^ 62) ≤ j ∧ j < 2 ^ 62) (k : ∀ D, H D = none → ∃ Pv : Nat → Hp → Prop, Pv 0 (upd H D (.lst [])) ∧
    (∀ (i : Nat) (H' : Hp), (i : Int) < j → Pv i H' → g (.int (i : Int)) (wipe σ vs) H' fun σ2 H2 => wipe σ2 vs = wipe σ vs ∧ tt σ2 H2 (lcTest te D (Pv (i + 1)) σ2)) ∧ (∀ H', Pv j.toNat H' → Q (.ref D) H')) : iR1 (fun J H1 => LcIt J g tt te vs σ Q H1) [.int j] H := by
  refine ⟨j, rfl, hj.1, hj.2, fun D hD => ?_⟩
  obtain ⟨Pv, h0, hs, hd⟩ := k D hD
  refine lc_range (lo := 0) (n := j.toNat) Pv h0 (fun i H' hi p => ?_) hd
  have e : (0 : Int) + (i : Int) = (i : Int) := Int.zero_add _
  rw [e]
  exact hs i H' (by omega) p
theorem lc_r2 {l j : Int} (hj : -(2 ^ 62) ≤ l ∧ l < 2 ^ 62 ∧ -(2 ^ 62) ≤ j ∧ j < 2 ^ 62) (k : ∀ D, H D = none → ∃ Pv : Nat → Hp → Prop, Pv 0 (upd H D (.lst [])) ∧
    (∀ (i : Nat) (H' : Hp), l + (i : Int) < j → Pv i H' → g (.int (l + (i : Int))) (wipe σ vs) H' fun σ2 H2 => wipe σ2 vs = wipe σ vs ∧ tt σ2 H2 (lcTest te D (Pv (i + 1)) σ2)) ∧ (∀ H', Pv (j - l).toNat H' → Q (.ref D) H')) : iR2 (fun J H1 => LcIt J g tt te vs σ Q H1) [.int l, .int j] H := by
  refine ⟨l, j, rfl, hj, fun D hD => ?_⟩
  obtain ⟨Pv, h0, hs, hd⟩ := k D hD
  exact lc_range (lo := l) (n := (j - l).toNat) Pv h0 (fun i H' hi p => hs i H' (by omega) p) hd
theorem lc_l (h : SqL K H a xs) (k : ∀ D, H D = none → ∃ Pv : Nat → Hp → Prop, Pv 0 (upd H D (.lst [])) ∧ (∀ i H', i ≤ xs.length → Pv i H' → SqL K H' a xs) ∧
    (∀ (i : Nat) x (H' : Hp), xs[i]? = some x → Pv i H' → g x (wipe σ vs) H' fun σ2 H2 => wipe σ2 vs = wipe σ vs ∧ tt σ2 H2 (lcTest te D (Pv (i + 1)) σ2)) ∧ (∀ H', Pv xs.length H' → Q (.ref D) H')) : iL K (fun J H1 => LcIt J g tt te vs σ Q H1) (.ref a) H := by
  refine ⟨a, rfl, ⟨xs, h⟩, fun D hD => ?_⟩
  obtain ⟨Pv, h0, hl, hs, hd⟩ := k D hD
  exact lc_list (K := K) (a := a) (xs := xs) Pv h0 hl hs hd
end
/-! ### two things alike, n deep -/
inductive Eqv (K : PySem.W.Frag) (H : Hp) : Nat → V → V → Prop where
  | non {n : Nat} : Eqv K H n .non .non
  | bl {n : Nat} (b : Bool) : Eqv K H n (.bl b) (.bl b)
  | int {n : Nat} (i : Int) : Eqv K H n (.int i) (.int i)
  | str {n : Nat} (s : Str) : Eqv K H n (.str s) (.str s)
  | lst {n : Nat} {a b : Addr} {xs ys : List V} (ha : SqL K H a xs) (hb : SqL K H b ys) (e : xs.length = ys.length) (l : xs.length ≤ 100000) (h : ∀ (i : Nat) (x y : V), xs[i]? = some x → ys[i]? = some y → Eqv K H n x y) : Eqv K H (n + 1) (.ref a) (.ref b)
  | tup {n : Nat} {a b : Addr} {xs ys : List V} (ha : SqT K H a xs) (hb : SqT K H b ys) (e : xs.length = ys.length) (l : xs.length ≤ 100000) (h : ∀ (i : Nat) (x y : V), xs[i]? = some x → ys[i]? = some y → Eqv K H n x y) : Eqv K H (n + 1) (.ref a) (.ref b)
abbrev No : Addr → Prop := fun _ => False
theorem Eqv.keep {K : PySem.W.Frag} {H H' : Hp} (d : Dx No H H') {n : Nat} {x y : V} (h : Eqv K H n x y) : Eqv K H' n x y := by
  induction h with
  | non => exact .non
  | bl b => exact .bl b
  | int i => exact .int i
  | str s => exact .str s
  | lst ha hb e l _ ih => exact .lst (d.sqL id ha) (d.sqL id hb) e l ih
  | tup ha hb e l _ ih => exact .tup (d.sqT id ha) (d.sqT id hb) e l ih
def flatE : V → Bool
  | .non => true
  | .bl _ => true
  | .int _ => true
  | .str _ => true
  | _ => false
theorem flatE_eqv {K : PySem.W.Frag} {H : Hp} {n : Nat} {v : V} (h : flatE v = true) : Eqv K H n v v := by
  cases v with
  | non => exact .non
  | bl b => exact .bl b
  | int i => exact .int i
  | str s => exact .str s
  | _ => exact nomatch h
/-- two tuples of the same flat things -/
theorem eqv_tup {K : PySem.W.Frag} {H : Hp} {n : Nat} {a b : Addr} {xs : List V} (ha : SqT K H a xs) (hb : SqT K H b xs) (hx : xs.all flatE = true) (l : xs.length ≤ 100000) : Eqv K H (n + 1) (.ref a) (.ref b) :=
  .tup ha hb rfl l fun i x y e1 e2 => by
    rw [e1] at e2
    have e3 : x = y := Option.some.inj e2
    rw [← e3]
    exact flatE_eqv (List.all_eq_true.mp hx x (List.mem_of_getElem? e1))
theorem eqv_lst {K : PySem.W.Frag} {H : Hp} {n : Nat} {a b : Addr} {xs : List V} (ha : SqL K H a xs) (hb : SqL K H b xs) (hx : xs.all flatE = true) (l : xs.length ≤ 100000) : Eqv K H (n + 1) (.ref a) (.ref b) :=
  .lst ha hb rfl l fun i x y e1 e2 => by
    rw [e1] at e2
    have e3 : x = y := Option.some.inj e2
    rw [← e3]
    exact flatE_eqv (List.all_eq_true.mp hx x (List.mem_of_getElem? e1))
/-- list(reversed(x)) -/
def lrQ (K : PySem.W.Frag) (Q : VK) : VK := fun v H1 => ∃ (a : Addr) (xs : List V), v = .ref a ∧ SqL K H1 a xs ∧ ∀ q, H1 q = none → Q (.ref q) (upd H1 q (.lst xs.reverse))
theorem go_lrev {K : PySem.W.Frag} {te : TE} {σ : L2.St} {H : Hp} {Q : VK} (h : te σ H (lrQ K Q)) : tListRev K te σ H Q := h
theorem go_lrq {K : PySem.W.Frag} {H : Hp} {Q : VK} {a : Addr} {xs : List V} (h : SqL K H a xs) (q : ∀ p, H p = none → Q (.ref p) (upd H p (.lst xs.reverse))) : lrQ K Q (.ref a) H := ⟨a, xs, rfl, h, q⟩
theorem sqt_new {K : PySem.W.Frag} {H : Hp} {a p : Addr} {xs : List V} {o : HO} (h : SqT K H a xs) (hp : H p = none) : SqT K (upd H p o) a xs := (Dx.new (M := No) hp).sqT id h
theorem sql_new {K : PySem.W.Frag} {H : Hp} {a p : Addr} {xs : List V} {o : HO} (h : SqL K H a xs) (hp : H p = none) : SqL K (upd H p o) a xs := (Dx.new (M := No) hp).sqL id h
def pMatchF : P3 := fun v0 v1 v2 H Q _ => ∃ st : Bool, v2 = .bl st ∧ flatE v0 = true ∧ flatE v1 = true ∧ Q (.bl (decide (v0 = v1))) H
def pMatchE (K : PySem.W.Frag) (n : Nat) : P3 := fun v0 v1 v2 H Q _ => ∃ (st : Bool) (a : Addr), v2 = .bl st ∧ v0 = .ref a ∧ Eqv K H n v0 v1 ∧ ∀ H', Dx No H H' → Q (.bl true) H'
def pMatch (K : PySem.W.Frag) (n : Nat) : P3 := fun v0 v1 v2 H Q E => pMatchF v0 v1 v2 H Q E ∨ pMatchE K n v0 v1 v2 H Q E
/-- two flat things, or two alike -/
def pSame (K : PySem.W.Frag) (n : Nat) : P2 := fun v0 v1 H Q _ => (Eqv K H n v0 v1 ∧ ∀ H', Dx No H H' → Q (.bl true) H') ∨ (flatE v0 = true ∧ flatE v1 = true ∧ Q (.bl (decide (v0 = v1))) H)
theorem Eqv.cases {K : PySem.W.Frag} {H : Hp} {n : Nat} {v0 v1 : V} (h : Eqv K H n v0 v1) : (flatE v0 = true ∧ v0 = v1) ∨ ∃ a m, v0 = .ref a ∧ n = m + 1 := by
  cases h with
  | non => exact .inl ⟨rfl, rfl⟩
  | bl b => exact .inl ⟨rfl, rfl⟩
  | int i => exact .inl ⟨rfl, rfl⟩
  | str s => exact .inl ⟨rfl, rfl⟩
  | lst ha hb e l h => exact .inr ⟨_, _, rfl, rfl⟩
  | tup ha hb e l h => exact .inr ⟨_, _, rfl, rfl⟩
theorem Eqv.match {K : PySem.W.Frag} {H : Hp} {n : Nat} {v0 v1 : V} {st : Bool} {Q : VK} {E : XK} (h : Eqv K H n v0 v1) (k : ∀ H', Dx No H H' → Q (.bl true) H') : pMatch K n v0 v1 (.bl st) H Q E := by
  rcases h.cases with ⟨f, e⟩ | ⟨a, m, e, _⟩
  · refine .inl ⟨st, rfl, f, by rw [← e]; exact f, ?_⟩
    rw [decide_eq_true e]
    exact k _ Dx.refl
  · exact .inr ⟨st, a, rfl, e, h, k⟩
theorem def_or {P : Program} {w : World} {K : PySem.W.Frag} {mg : Str → Option Value} {base : Heap} {CX : CXT} {k1 k2 k : Nat} {x : Str} {st : Stmt} {ps : List Str} {sp1 sp2 sp : Sp} (A : Def P w K mg base CX k1 x st ps sp1) (B : Def P w K mg base CX k2 x st ps sp2) (h1 : k1 ≤ k) (h2 : k2 ≤ k)
    (h : ∀ vs H Q E, sp vs H Q E → sp1 vs H Q E ∨ sp2 vs H Q E) : Def P w K mg base CX k x st ps sp := by
  obtain ⟨f, fd, m, kp, b, G, F⟩ := A.ex
  obtain ⟨f', fd', m', kp', b', G', F'⟩ := B.ex
  have e : f = f' := by
    rw [m] at m'
    exact Value.ref.inj (Option.some.inj m')
  subst e
  have e := fund_same F F'
  subst e
  refine ⟨f, fd, m, kp, b, ⟨fun vs H Q E q => ?_, fun A outer s H args us vs Q E hr he hb hv hs => ?_⟩, F⟩
  · rcases h _ _ _ _ q with q | q
    · exact G.len _ _ _ _ q
    · exact G'.len _ _ _ _ q
  · rcases h _ _ _ _ hs with q | q
    · exact (G.mono h1).run A outer s H args us vs Q E hr he hb hv q
    · exact (G'.mono h2).run A outer s H args us vs Q E hr he hb hv q
/-- the law's own promise -/
def pLaw (K : PySem.W.Frag) : P1 := fun v0 H Q _ => ∃ (a : Addr) (ns : List Int), v0 = .ref a ∧ SqL K H a (ns.map V.int) ∧ ns.length ≤ 63 ∧ ∀ H', Q (.bl true) H'
/-! ### the caught exception -/
section
variable {K : PySem.W.Frag} {H : Hp} {Q : VK} {a C dd : Addr} {f : Str} {te : TE} {σ : L2.St} {cls : Value} {d : Option Addr} {v : V} {fs : List (Str × V)}
def xfQ (a : Addr) (cls : Value) (d : Option Addr) (C : Addr) (f : Str) (Q : VK) : VK := fun x H1 => x = .ref a ∧ cls = .ref C ∧ ∃ (dd : Addr) (fs : List (Str × V)) (v : V), d = some dd ∧ H1 dd = some (.xd fs) ∧ fs.lookup f = some v ∧ Q v H1
theorem go_xf (h : te σ H (xfQ a cls d C f Q)) : tXf a cls d C f te σ H Q := h
theorem go_xfq (h : H dd = some (.xd fs)) (l : fs.lookup f = some v) (q : Q v H) : xfQ a (.ref C) (some dd) C f Q (.ref a) H := ⟨rfl, rfl, dd, fs, v, rfl, h, l, q⟩
theorem go_callS {sp : Sp} {E : L2.St → XK} {t : TA} (h : t σ H fun vs H1 => sp vs H1 Q (E σ)) : tCallS sp E t σ H Q := h
def kwQ (n m : Nat) (sp : Sp) (gV : List V → List V → List V) (E : XK) (Q : VK) (vs : List V) : List V → Hp → Prop := fun zs H2 => vs.length = n ∧ zs.length = m ∧ sp (gV vs zs) H2 Q E
theorem go_callN {n m : Nat} {sp : Sp} {gV : List V → List V → List V} {E : XK} {t tk : TA} (h : t σ H fun vs H1 => tk σ H1 (kwQ n m sp gV E Q vs)) : tCallN n m sp gV E t tk σ H Q := h
theorem go_kwq {m : Nat} {sp : Sp} {E : XK} {zs : List V} (l : zs.length = m) (h : sp zs H Q E) : kwQ 0 m sp (fun _ zs => zs) E Q [] zs H := ⟨rfl, l, h⟩
end
/-! ### keywords in any order, behind positional values -/
def nth {α : Type} : List α → Nat → List α
  | [], _ => []
  | a :: _, 0 => [a]
  | _ :: r, n + 1 => nth r n
def perm {α : Type} : List Nat → List α → List α
  | [], _ => []
  | i :: is, xs => nth xs i ++ perm is xs
theorem vals_nth : ∀ {zs : List V} {ws : List Value} (n : Nat), Vals zs ws → Vals (nth zs n) (nth ws n)
  | [], [], _, _ => .nil
  | _ :: _, _ :: _, 0, .cons r _ => .cons r .nil
  | _ :: _, _ :: _, n + 1, .cons _ rs => vals_nth n rs
theorem vals_perm {zs : List V} {ws : List Value} (r : Vals zs ws) : ∀ is : List Nat, Vals (perm is zs) (perm is ws)
  | [] => .nil
  | i :: is => (vals_nth i r).append (vals_perm r is)
theorem kbinds_p {K : PySem.W.Frag} {x q : Str} {A : Arguments} {B : List Stmt} {S : Scope} {kws : List (Str × V)} {f : Addr} {fd : FuncData} {ps ks : List Str} (F : FunD K x q A B S [] kws f fd) (n : Nat) (is : List Nat)
    (h : ∀ (kV doc pm : Value) (an : Option Addr) (cdv ct : Value) (us ws : List Value), us.length = n → ws.length = ks.length → bindArgs (PySem.W.fnOf x q A B S .none kV doc pm an cdv ct) ⟨us, ks.zip ws⟩ = pure (ps.zip (perm is (us ++ ws)))) :
    KBn K fd ps n ks (fun us ws => perm is (us ++ ws)) (fun vs zs => perm is (vs ++ zs)) := by
  obtain ⟨oc, od, dV, kV, doc, pm, an, cdv, ct, osl, rfl, lk, hcd, hD, hK⟩ := F.ex
  rcases hD with ⟨_, rfl⟩ | ⟨e, _⟩
  · exact ⟨fun s us ws X l1 l2 => .of_eq (h kV doc pm an cdv ct us ws l1 l2), fun r1 r2 => vals_perm (r1.append r2) is⟩
  · exact absurd rfl e
section
variable {X : Cx} {CX : CXT} {k n : Nat} {f : Addr} {fd : FuncData} {ps ks : List Str} {sp : Sp} {E : L2.St → XK} {x : Str} {p pos : Pos} {kws : List Keyword} {tk : TA} {g : List Value → List Value → List Value} {gV : List V → List V → List V}
def tCallNS (n m : Nat) (sp : Sp) (gV : List V → List V → List V) (E : L2.St → XK) (t tk : TA) : TE := fun σ H Q => t σ H fun vs H1 => tk σ H1 fun zs H2 => vs.length = n ∧ zs.length = m ∧ sp (gV vs zs) H2 Q (E σ)
theorem run_fnNS {pins : List (Addr × Obj)} {σ : L2.St} {H : Hp} {s : Shared} {Q : VK} {us ws : List Value} {vs zs : List V} (F : FnOk X.prog X.w X.K X.mg X.base CX k f fd ps sp) (hr : Room k X.A) (hb : KBn X.K fd ps n ks g gV) (hx : PassesAt CX X σ (E σ))
    (I : Inv X pins σ H s) (r : Vals vs us) (rz : Vals zs ws) (l1 : vs.length = n) (l2 : zs.length = ks.length) (h : sp (gV vs zs) H Q (E σ)) : wpAny (model X.prog X.w) X.A (call (.ref f) us (ks.zip ws)) (EP X pins σ Q) X.xe s := by
  refine wpAny_call (codeAny_mono (F.run X.A X.stack s H ⟨us, ks.zip ws⟩ (g us ws) (gV vs zs) Q (E σ) hr I.env0 (hb.to s us ws I.kIn (r.length.symm.trans l1) (rz.length.symm.trans l2)) (hb.rel r rz) h) fun r s' hq => ?_)
  cases r with
  | error e => exact hx pins H s e s' I hq
  | ok fl =>
    cases fl with
    | ret u => exact I.after hq
    | next => exact False.elim hq
    | brk => exact False.elim hq
    | cont => exact False.elim hq
/-- f(k = v, ..): keywords alone, within a try -/
theorem pe_callNS0 (F : FnOk X.prog X.w X.K X.mg X.base CX k f fd ps sp) (hr : Room k X.A) (hg : Gl X x) (hm : X.mg x = some (.ref f)) (hk : PySem.W.keepIn X.K (.ref f) = true) (hb : KBn X.K fd ps 0 ks g gV) (hx : ∀ σ, PassesAt CX X σ (E σ)) (hkw : PK X kws tk)
    (hall : (backToKw pos (keywordEach kws X.env)).all (·.1.isSome) = true := by rfl) (hks : (backToKw pos (keywordEach kws X.env)).filterMap (·.1) = ks := by rfl) (hdb : (x == ("__debug__" : Str)) = false := by decide)
    (hpl : ((backTo pos (starEach [] X.env)).any (·.1) || (backToKw pos (keywordEach kws X.env)).any (·.1.isNone)) = false := by rfl) : PE X (.Call (.Name x p) [] kws pos) (tCallNS 0 ks.length sp gV E tNil tk) := by
  refine ⟨fun pins s σ H Q I h => ?_⟩
  refine wpAny_Call_Name_kw (ld_glob I hg hm ?_ hdb)
  refine PySem.W.callWith_KW0 (h₀ := X.base) I.ok.mod.kin hk hall (thn (hkw.run pos pins s σ H _ I h) fun ws s2 ⟨zs, H2, I2, rz, l1, l2, q2⟩ => ⟨I2.kIn, ?_⟩) hpl
  rw [hks]
  exact run_fnNS (us := []) (vs := []) F hr hb (hx σ) I2 .nil rz rfl l2 q2
end
section
variable {K : PySem.W.Frag} {σ : L2.St} {H : Hp} {Q : VK} {D : Ends} {te ta tb tc : TE} {i j : Int}
theorem go_callNS {n m : Nat} {sp : Sp} {gV : List V → List V → List V} {E : L2.St → XK} {t tk : TA} (h : t σ H fun vs H1 => tk σ H1 (kwQ n m sp gV (E σ) Q vs)) : tCallNS n m sp gV E t tk σ H Q := h
theorem go_kwp {n m : Nat} {sp : Sp} {is : List Nat} {E : XK} {vs zs : List V} (l1 : vs.length = n) (l2 : zs.length = m) (h : sp (perm is (vs ++ zs)) H Q E) : kwQ n m sp (fun vs zs => perm is (vs ++ zs)) E Q vs zs H := ⟨l1, l2, h⟩
theorem go_pow12 (q : Q (.int 1000000000000) H) : rPow0 (.int 10) (.int 12) H Q := ⟨10, 12, rfl, rfl, ⟨by decide, by decide, by decide⟩, q⟩
theorem go_pow13 (q : Q (.int 10000000000000) H) : rPow0 (.int 10) (.int 13) H Q := ⟨10, 13, rfl, rfl, ⟨by decide, by decide, by decide⟩, q⟩
theorem go_pow11 (q : Q (.int 100000000000) H) : rPow0 (.int 10) (.int 11) H Q := ⟨10, 11, rfl, rfl, ⟨by decide, by decide, by decide⟩, q⟩
theorem go_pow9 (q : Q (.int 1000000000) H) : rPow0 (.int 10) (.int 9) H Q := ⟨10, 9, rfl, rfl, ⟨by decide, by decide, by decide⟩, q⟩
theorem go_pow18 (q : Q (.int 1000000000000000000) H) : rPow0 (.int 10) (.int 18) H Q := ⟨10, 18, rfl, rfl, ⟨by decide, by decide, by decide⟩, q⟩
theorem go_pow30 (q : Q (.int 1000000000000000000000000000000) H) : rPow0 (.int 10) (.int 30) H Q := ⟨10, 30, rfl, rfl, ⟨by decide, by decide, by decide⟩, q⟩
theorem go_slL {a : Addr} {xs : List V} {lo hi : Option Int} (h : SqL K H a xs) (q : ∀ p, H p = none → Q (.ref p) (upd H p (.lst (cutV xs lo hi)))) : rSlL K (.ref a) lo hi H Q := ⟨a, xs, rfl, h, q⟩
theorem go_cat {l b : Addr} {xs zs : List V} (h : H l = some (.lst xs)) (h2 : H b = some (.lst zs)) (z : xs.length + zs.length ≤ sizeLine) (q : ∀ p, H p = none → Q (.ref p) (upd H p (.lst (xs ++ zs)))) : rAddU K (.ref l) (.ref b) H Q :=
  .inr (.inr (.inl ⟨l, b, xs, zs, rfl, rfl, h, h2, z, q⟩))
theorem go_sorted {a : Addr} {ns : List Int} (h : SqL K H a (ns.map V.int)) (q : ∀ (ns' : List Int) (p : Addr), ns'.Perm ns → ns'.Pairwise (· ≤ ·) → H p = none → Q (.ref p) (upd H p (.lst (ns'.map V.int)))) : rSortedI K [.ref a] H Q := ⟨a, ns, rfl, h, q⟩
def chQ (r' : R2) (tc : TE) (σ : L2.St) (Q : VK) : VK := fun z H3 => ∃ k, z = .bl k ∧ (if k = true then tc σ H3 fun w' H4 => r' (.int i) w' H4 Q else Q (.bl false) H3)
theorem go_chain {r r' : R2} (h : ta σ H fun x H1 => tb σ H1 fun y H2 => r x y H2 fun z H3 => ∃ k, z = .bl k ∧ (if k = true then tc σ H3 fun w' H4 => r' y w' H4 Q else Q (.bl false) H3)) : tChain r r' ta tb tc σ H Q := h
theorem go_not2 {b : Bool} {R : Bool → Hp → Prop} (h : R (!b) H) : R (!b) H := h
end
section
variable {M : Addr → Prop} {H H1 : Hp} {c l : Addr} {o u : HO}
theorem Ok.no (k : Ok M H c) (d : Dx No H H1) : Ok M H1 c := by
  obtain ⟨p, i, rest, left, n, a, b, cells, h1, _⟩ := k.st.ex
  exact k.keep (d.mono fun _ z => z.elim) (by rw [h1]; exact d.st _ _ id h1)
/-- a new object at l is written again -/
theorem Dx.own (d : Dx M H H1) (h : H l = none) : Dx M H (upd H1 l u) := ⟨fun a o n q => by
  rw [upd_ne (ne_of_none q h)]
  exact d.st a o n q, fun a q => by
  by_cases e : a = l
  · rw [e]
    exact h
  · rw [upd_ne e] at q
    exact d.dm a q⟩
theorem No.to (d : Dx No H H1) : Dx M H H1 := d.mono fun _ z => z.elim
end
/-- a draw that makes a new list -/
def DrawnL (M : Addr → Prop) (c : Addr) (H : Hp) (R : List V → Prop) (Q : VK) : Prop := ∀ l xs H', H l = none → H' l = some (.lst xs) → R xs → Dx (Only1 c) H H' → Ok (Add M l) H' c → Q (.ref l) H'
/-- a new list, nothing else -/
def NewL (H : Hp) (R : List V → Prop) (Q : VK) : Prop := ∀ l xs H', H l = none → H' l = some (.lst xs) → R xs → Dx No H H' → Q (.ref l) H'
theorem cut_mem {xs : List V} {lo hi : Option Int} {v : V} (h : v ∈ cutV xs lo hi) : v ∈ xs := List.mem_of_mem_drop (List.mem_of_mem_take h)
theorem cut_to {xs : List V} {n : Int} (h0 : 0 ≤ n) (h1 : n ≤ xs.length) : cutV xs none (some n) = xs.take n.toNat := by
  obtain ⟨k, rfl⟩ : ∃ k : Nat, n = (k : Int) := ⟨n.toNat, by omega⟩
  unfold cutV
  rw [HT.sIx_none, HT.sIx_nat, List.drop_zero, Nat.sub_zero, Nat.min_eq_left (by omega), Int.toNat_natCast]
theorem ints_of : ∀ {xs : List V}, (∀ v ∈ xs, ∃ i : Int, v = .int i) → ∃ ns : List Int, xs = ns.map V.int
  | [], _ => ⟨[], rfl⟩
  | x :: xs, h => by
    obtain ⟨i, rfl⟩ := h x List.mem_cons_self
    obtain ⟨ns, e⟩ := ints_of (xs := xs) fun v hv => h v (List.mem_cons_of_mem _ hv)
    exact ⟨i :: ns, by rw [e]; rfl⟩
theorem int_mem {ns : List Int} {v : V} (h : v ∈ ns.map V.int) : ∃ i, v = .int i ∧ i ∈ ns := by
  obtain ⟨i, hi, e⟩ := List.mem_map.mp h
  exact ⟨i, e.symm, hi⟩
theorem mem_int {ns : List Int} {i : Int} (h : V.int i ∈ ns.map V.int) : i ∈ ns := by
  obtain ⟨j, hj, e⟩ := List.mem_map.mp h
  cases e
  exact hj
/-! ### lights and numbers -/
abbrev InR (i : Int) : Prop := -1000000000000 ≤ i ∧ i ≤ 1000000000000
def isNumV : V → Bool
  | .int i => decide (-1000000000000 ≤ i) && decide (i ≤ 1000000000000)
  | _ => false
def IsNum (v : V) : Prop := ∃ i : Int, v = .int i ∧ InR i
def IsEnd (v : V) : Prop := v = .non ∨ IsNum v
def endOk (v : V) : Bool := decide (v = .non) || isNumV v
/-- a number that is none -/
def IsBad (v : V) : Prop := (∃ i : Int, v = .int i ∧ (i < -1000000000000 ∨ 1000000000000 < i) ∧ -1000000000000000000000000000000 ≤ i ∧ i ≤ 1000000000000000000000000000000) ∨ ∃ b, v = .bl b
theorem isNum_int {i : Int} (h : InR i) : isNumV (.int i) = true := by
  show (decide (-1000000000000 ≤ i) && decide (i ≤ 1000000000000)) = true
  rw [decide_eq_true h.1, decide_eq_true h.2]
  rfl
theorem isNum_not {i : Int} (h : ¬ InR i) : isNumV (.int i) = false := by
  show (decide (-1000000000000 ≤ i) && decide (i ≤ 1000000000000)) = false
  by_cases a : -1000000000000 ≤ i
  · rw [decide_eq_false (p := i ≤ 1000000000000) fun b => h ⟨a, b⟩, Bool.and_false]
  · rw [decide_eq_false a, Bool.false_and]
theorem isNum_to {v : V} (h : isNumV v = true) : IsNum v := by
  cases v with
  | int i =>
    refine ⟨i, rfl, ?_⟩
    by_cases a : InR i
    · exact a
    · rw [isNum_not a] at h
      exact nomatch h
  | _ => exact nomatch h
theorem isNum_of {v : V} (h : IsNum v) : isNumV v = true := by
  obtain ⟨i, rfl, h⟩ := h
  exact isNum_int h
theorem isBad_of {v : V} (h : IsBad v) : isNumV v = false := by
  rcases h with ⟨i, rfl, h, _⟩ | ⟨b, rfl⟩
  · exact isNum_not (by omega)
  · rfl
theorem endOk_to {v : V} (h : endOk v = true) : IsEnd v := by
  rcases Bool.or_eq_true_iff.mp h with h | h
  · exact .inl (of_decide_eq_true h)
  · exact .inr (isNum_to h)
theorem endOk_of {v : V} (h : IsEnd v) : endOk v = true := by
  rcases h with rfl | h
  · rfl
  · exact Bool.or_eq_true_iff.mpr (.inr (isNum_of h))
theorem flat_num {v : V} (h : IsNum v) : flatE v = true := by
  obtain ⟨i, rfl, _⟩ := h
  rfl
theorem flat_end {v : V} (h : IsEnd v) : flatE v = true := by
  rcases h with rfl | h
  · rfl
  · exact flat_num h
theorem flat_bad {v : V} (h : IsBad v) : flatE v = true := by
  rcases h with ⟨i, rfl, h, _⟩ | ⟨b, rfl⟩ <;> rfl
/-- numbers, all within the limits -/
def numsB (xs : List V) : Bool := xs.all isNumV
theorem nums_at {xs : List V} {v : V} (h : numsB xs = true) (hv : v ∈ xs) : IsNum v := isNum_to (List.all_eq_true.mp h v hv)
end Q
/-! the promises of the drawing functions -/
namespace Q
open PySem PySem.Spec PyProof.Rows L2
/-- a new store over the script -/
def pStore (K : PySem.W.Frag) : P1 := fun v0 H Q _ => ∃ (a : Addr) (ns : List Int), v0 = .ref a ∧ SqL K H a (ns.map V.int) ∧
  ∀ (c : Addr) (H' : Hp), Dx (fun _ => False) H H' → H c = none → Ok (Only1 c) H' c → Q (.ref c) H'
/-- the two sums turn, the count grows -/
def pStir : P2 := fun v0 v1 H Q _ => ∃ (c p : Addr) (i rest left n a b cell : Int), v0 = .ref c ∧ v1 = .int cell ∧ H c = some (.lst (stL p i rest left n a b)) ∧ (0 ≤ a ∧ a < 2147483647) ∧ (0 ≤ b ∧ b < 2147483399) ∧
  ∀ (n' a' b' : Int) (H' : Hp), (0 ≤ a' ∧ a' < 2147483647) → (0 ≤ b' ∧ b' < 2147483399) → H' = upd H c (.lst (stL p i rest left n' a' b')) → Q .non H'
theorem mul_ok {i j : Int} (h : 0 ≤ i ∧ i < 4294967296) : CMul i j := .inl ⟨by omega, by omega⟩
/-- a number below many (below 1 if many is less) -/
def pTake : P2 := fun v0 v1 H Q _ => ∃ (c : Addr) (M : Addr → Prop) (n : Int), v0 = .ref c ∧ v1 = .int n ∧ -1000000000000000000 ≤ n ∧ n ≤ 1000000000000000000 ∧ Ok M H c ∧
  ∀ (r : Int) (H' : Hp), 0 ≤ r → r < (if n > 1 then n else 1) → Dx (Only1 c) H H' → Ok M H' c → Q (.int r) H'
/-- the store behind a write -/
theorem Ok.set {M : Addr → Prop} {H H' : Hp} {c p : Addr} {i rest left n a b : Int} {cells : List Int} (k : Ok M H c) (hc : H' c = some (.lst (stL p i rest left n a b))) (hp : H p = some (.lst (cells.map V.int))) (hm : ¬ M p) (d : Dx (Only1 c) H H')
    (h1 : 0 ≤ i) (h2 : 0 ≤ a ∧ a < 2147483647) (h3 : 0 ≤ b ∧ b < 2147483399) : Ok M H' c :=
  ⟨k.inM, k.alive (k.sub d), ⟨p, i, rest, left, n, a, b, cells, hc, (k.sub d).st _ _ hm hp, hm, h1, h2, h3⟩⟩
theorem div_ok {i j : Int} (h0 : 0 < j) (h : j ≤ 1000000000000000000) : CDivW i j := wide_div h0 (b := 64) (by omega) (by decide) (by decide)
/-- take's promise in short -/
theorem take_go {c : Addr} {M : Addr → Prop} {H : Hp} {n : Int} {Q : VK} {E : XK} (ok : Ok M H c) (h0 : 0 < n) (h1 : n ≤ 1000000000000000000) (k : ∀ (r : Int) (H' : Hp), 0 ≤ r → r < n → Dx (Only1 c) H H' → Ok M H' c → Q (.int r) H') : pTake (.ref c) (.int n) H Q E :=
  ⟨c, M, n, rfl, rfl, by omega, h1, ok, fun r H' g0 g1 d ok' => k r H' g0 (by split at g1 <;> omega) d ok'⟩
theorem lit_len {s : String} {n : Nat} (h : (Str.ofString s).cps.size = n := by decide +kernel) : (Str.ofString s).length = n := h
theorem pick_ix {z : Str} {r : Int} (h0 : 0 ≤ r) (h1 : r < z.length) : ∃ ch, atI z.cps.toList r = some ch := by
  have e : z.cps.toList.length = z.length := by simp [Str.length]
  have hr : r.toNat < z.cps.toList.length := by omega
  exact ⟨_, atI_of h0 (List.getElem?_eq_getElem hr)⟩
/-- an item of a text, or of a list -/
def pPick (K : PySem.W.Frag) : P2 := fun v0 v1 H Q _ => ∃ (c : Addr) (M : Addr → Prop), v0 = .ref c ∧ Ok M H c ∧
  ((∃ z : Str, v1 = .str z ∧ 0 < z.length ∧ z.length ≤ 100000 ∧ Drawn M c H (fun v => ∃ ch, ch ∈ z.cps.toList ∧ v = .str ⟨#[ch]⟩) Q) ∨
   (∃ (p : Addr) (xs : List V), v1 = .ref p ∧ SqL K H p xs ∧ ¬ M p ∧ 0 < xs.length ∧ xs.length ≤ 100000 ∧ Drawn M c H (fun v => v ∈ xs) Q))
/-- a text of at most n signs -/
def pText : P2 := fun v0 v1 H Q _ => ∃ (c : Addr) (M : Addr → Prop) (n : Int), v0 = .ref c ∧ v1 = .int n ∧ 0 ≤ n ∧ n ≤ 1000 ∧ Ok M H c ∧ Drawn M c H (IsText 0 n.toNat) Q
theorem no_signs : (Str.ofString "").length = 0 := by decide +kernel
def pCheckName (K : PySem.W.Frag) : P1 := fun v0 H Q E => ∃ x : Str, v0 = .str x ∧ x.length ≤ 100000 ∧ (isNm x = true → Q (.str x) H) ∧ (isNm x = false → ∀ d, H d = none → E (.ref (gA K "BadName")) (some d) (upd H d (.xd [("name", .str x)])))
/-- a new list of the same items in some order -/
def pShuf (K : PySem.W.Frag) : P2 := fun v0 v1 H Q _ => ∃ (c : Addr) (M : Addr → Prop) (p : Addr) (xs : List V), v0 = .ref c ∧ v1 = .ref p ∧ Ok M H c ∧ SqL K H p xs ∧ xs.length ≤ 100000 ∧ DrawnL M c H (fun ys => ys.Perm xs) Q
/-- a new list of the ints' kinds -/
def pUnlike (K : PySem.W.Frag) : P1 := fun v0 H Q _ => ∃ (p : Addr) (ns : List Int), v0 = .ref p ∧ SqL K H p (ns.map V.int) ∧ ns.length ≤ 100000 ∧ NewL H (fun ys => ∃ ms : List Int, ys = ms.map V.int ∧ (∀ m ∈ ms, m ∈ ns) ∧ ms.length ≤ ns.length) Q
theorem ints_flat (ms : List Int) : (ms.map V.int).all flatV = true := by
  rw [List.all_eq_true]
  intro v hv
  obtain ⟨i, rfl, _⟩ := int_mem hv
  rfl
/-! numbers -/
/-- pulled into the limits -/
def pClamp : P1 := fun v0 H Q _ => ∃ i : Int, v0 = .int i ∧ ∀ r, InR r → (InR i → r = i) → Q (.int r) H
def pNear (K : PySem.W.Frag) : P2 := fun v0 v1 H Q _ => ∃ (c : Addr) (M : Addr → Prop) (p : Addr) (ns : List Int), v0 = .ref c ∧ v1 = .ref p ∧ Ok M H c ∧ SqL K H p (ns.map V.int) ∧ ¬ M p ∧ 0 < ns.length ∧ ns.length ≤ 100000 ∧ (∀ n ∈ ns, InR n) ∧ Drawn M c H IsNum Q
def pPool : P1 := fun v0 H Q _ => ∃ (c : Addr) (M : Addr → Prop), v0 = .ref c ∧ Ok M H c ∧ DrawnL M c H (fun ys => ∃ ns : List Int, ys = ns.map V.int ∧ (∀ n ∈ ns, InR n) ∧ 2 ≤ ns.length ∧ ns.length ≤ 6) Q
def IsBad0 (k : Bool) (v : V) : Prop := IsBad v ∧ (k = true → ∃ i, v = .int i)
def pBadNumber : P2 := fun v0 v1 H Q _ => ∃ (c : Addr) (M : Addr → Prop) (k : Bool), v0 = .ref c ∧ v1 = .bl k ∧ Ok M H c ∧ Drawn M c H (IsBad0 k) Q
def pTried (K : PySem.W.Frag) : P1 := fun v0 H Q _ => ∃ (p : Addr) (ns : List Int), v0 = .ref p ∧ SqL K H p (ns.map V.int) ∧ ns.length ≤ 10000 ∧ (∀ n ∈ ns, InR n) ∧ NewL H (fun ys => ∃ ms : List Int, ys = ms.map V.int ∧ (∀ m ∈ ms, InR m) ∧ ms.length ≤ 2 + 3 * ns.length) Q
def pIsNum : P1 := fun v0 H Q _ => flatE v0 = true ∧ Q (.bl (isNumV v0)) H
/-- an error of the class x with one attribute is let out -/
def Bad1 (K : PySem.W.Frag) (x f : Str) (v : V) (H : Hp) (E : XK) : Prop := ∀ d, H d = none → E (.ref (gA K x)) (some d) (upd H d (.xd [(f, v)]))
def pCheckNum (K : PySem.W.Frag) : P1 := fun v0 H Q E => flatE v0 = true ∧ (isNumV v0 = true → Q v0 H) ∧ (isNumV v0 = false → Bad1 K "BadNumber" "number" v0 H E)
def pCheckEnd (K : PySem.W.Frag) : P1 := fun v0 H Q E => flatE v0 = true ∧ (endOk v0 = true → Q .non H) ∧ (endOk v0 = false → Bad1 K "BadNumber" "number" v0 H E)
def lesserV (a b : V) : V := match a, b with
  | .non, b => b
  | a, .non => a
  | .int i, .int j => if i < j then .int i else .int j
  | a, _ => a
def greaterV (a b : V) : V := match a, b with
  | .non, b => b
  | a, .non => a
  | .int i, .int j => if j < i then .int i else .int j
  | a, _ => a
def IsEndI (v : V) : Prop := v = .non ∨ ∃ i : Int, v = .int i
def pLesser : P2 := fun v0 v1 H Q _ => IsEndI v0 ∧ IsEndI v1 ∧ Q (lesserV v0 v1) H
def pGreater : P2 := fun v0 v1 H Q _ => IsEndI v0 ∧ IsEndI v1 ∧ Q (greaterV v0 v1) H
theorem isEndI {v : V} (h : IsEnd v) : IsEndI v := by
  rcases h with rfl | ⟨i, rfl, _⟩
  · exact .inl rfl
  · exact .inr ⟨i, rfl⟩
end Q
open PySem L2 Q
local macro_rules | `(tactic| walk_at "sz") => `(tactic| first
  | exact size_ok (by omega)
  | exact size_ok (by simp only [length_append, len_one]; omega)
  | decide +kernel)
local macro_rules | `(tactic| walk_at "go1") => `(tactic| first
  | with_reducible refine go_seq ?_
  | with_reducible refine go_asg ?_
  | ((with_reducible refine go_name ?_); try dsimp only [List.set_cons_zero, List.set_cons_succ])
  | ((with_reducible apply go_var); exact rfl)
  | with_reducible refine go_c ?_
  | with_reducible refine go_op ?_
  | with_reducible refine go_cb ?_
  | with_reducible refine go_cons ?_
  | with_reducible refine go_nil ?_
  | with_reducible refine go_nx ?_
  | with_reducible refine go_rt ?_
  | with_reducible refine go_next ?_
  | with_reducible refine go_if ?_
  | with_reducible refine go_ret ?_
  | with_reducible refine go_test ?_
  | with_reducible refine go_tB ?_
  | with_reducible refine go_and ?_
  | with_reducible refine go_or ?_
  | with_reducible refine go_not ?_
  | with_reducible refine go_ex ?_
  | with_reducible refine go_t ?_
  | with_reducible refine go_f ?_
  | with_reducible refine go_nt ?_
  | with_reducible refine go_nf ?_
  | with_reducible refine go_call ?_
  | with_reducible refine go_sp1 ?_
  | with_reducible refine go_sp2 ?_
  | with_reducible refine go_sp3 ?_
  | with_reducible refine go_sp4 ?_
  | with_reducible refine go_sp5 ?_
  | with_reducible refine go_un ?_
  | with_reducible refine go_sub ?_
  | with_reducible refine go_drop ?_
  | with_reducible refine go_addI ?_
  | with_reducible refine go_sub0 ?_
  | ((with_reducible refine go_mod0 ?_ ?_); (first | omega | decide))
  | with_reducible refine go_neg0 ?_
  | with_reducible refine go_ltI ?_
  | with_reducible refine go_ltS ?_
  | with_reducible refine go_gt0 ?_
  | with_reducible refine go_le0 ?_
  | with_reducible refine go_ge0 ?_
  | with_reducible refine go_eqI ?_
  | with_reducible refine go_eqS ?_
  | with_reducible refine go_eqB ?_
  | with_reducible refine go_neI ?_
  | with_reducible refine go_neS ?_
  | with_reducible refine go_neB ?_
  | with_reducible refine go_inS ?_
  | with_reducible refine go_niS ?_
  | with_reducible refine go_int0 ?_
  | with_reducible refine go_max0 ?_
  | with_reducible refine go_min0 ?_
  | with_reducible refine go_andV ?_
  | with_reducible refine go_orV ?_
  | with_reducible refine go_notV ?_
  | with_reducible refine go_ifE ?_
  | with_reducible refine go_retN ?_
  | with_reducible refine go_lst ?_
  | with_reducible refine go_tup ?_
  | with_reducible refine go_brk ?_
  | with_reducible refine go_cont ?_
  | with_reducible refine go_for ?_
  | with_reducible refine go_iL ?_
  | with_reducible refine go_iT ?_
  | with_reducible refine go_iS ?_
  | with_reducible refine go_iR1 ?_
  | with_reducible refine go_iR2 ?_
  | with_reducible refine go_sl ?_
  | with_reducible refine go_part ?_
  | with_reducible refine go_nopart ?_
  | with_reducible refine go_exi ?_
  | with_reducible refine go_bm ?_
  | with_reducible refine go_lc ?_
  | with_reducible refine go_lrev ?_
  | with_reducible refine go_yes ?_
  | with_reducible refine go_lct ?_
  | with_reducible refine go_lcf ?_
  | with_reducible refine go_callS ?_
  | with_reducible refine go_callN ?_
  | ((with_reducible refine go_kwp rfl rfl ?_); dsimp only [perm, nth, List.nil_append, List.cons_append, List.append_nil])
  | with_reducible refine go_callNS ?_
  | with_reducible refine go_chain ?_
  | with_reducible refine go_pow12 ?_
  | with_reducible refine go_pow11 ?_
  | with_reducible refine go_pow9 ?_
  | with_reducible refine go_pow13 ?_
  | with_reducible refine go_pow18 ?_
  | with_reducible refine go_pow30 ?_
  | ((with_reducible refine go_mul0 ?_ ?_); (first | exact .inl ⟨by omega, by omega⟩ | exact .inr ⟨by omega, by omega⟩))
  | with_reducible refine go_xf ?_
  | with_reducible refine go_isY ?_
  | ((with_reducible refine go_isN ?_ ?_); (first | assumption | (intro z; contradiction)))
  | with_reducible refine go_isnotN ?_
  | ((with_reducible refine go_isnotY ?_ ?_); (first | assumption | (intro z; contradiction)))
  | ((with_reducible refine go_slS ?_ ?_); walk_at "sz")
  | ((with_reducible refine go_lenS ?_ ?_); walk_at "sz")
  | ((with_reducible refine go_addS ?_ ?_); walk_at "sz")
  | (with_reducible refine go_bk ?_)
  | (with_reducible refine go_ct ?_))
local macro_rules | `(tactic| walk_at "go") => `(tactic| repeat walk_at "go1")
local macro_rules | `(tactic| walk_at "bt") => `(tactic| first | exact Bt.bl _ | exact Bt.int _ | exact Bt.str _ | exact Bt.non | exact Bt.lst (by assumption) | exact Bt.tup (by assumption) | exact Bt.lst (SqL.of (by assumption)) | exact Bt.tup (SqT.of (by assumption)) | exact Bt.dic (by assumption))
local macro_rules | `(tactic| walk_at "isi") => `(tactic| first
  | ((with_reducible apply go_isi (b := true)); walk_at "bt"; decide +kernel)
  | ((with_reducible apply go_isi (b := false)); walk_at "bt"; decide +kernel))
local macro_rules | `(tactic| walk_at "gi") => `(tactic| repeat (first | walk_at "go1" | walk_at "isi"))
/-! the text by places -/
namespace Q
open PySem L2
def top (i : Nat) : Stmt := PySem.Challenge.pw_outshiners_k05_ceilings_and_numbers.main.body.getD i (.Pass ⟨0, 0, 0, 0⟩)
abbrev s__law_store : Stmt := top 15
abbrev s__law_stir : Stmt := top 16
abbrev s__law_take : Stmt := top 17
abbrev s__law_pick : Stmt := top 18
abbrev s__law_shuffled : Stmt := top 19
abbrev s__law_unlike : Stmt := top 20
abbrev s__law_number : Stmt := top 21
abbrev s__law_clamped : Stmt := top 22
abbrev s__law_pool : Stmt := top 23
abbrev s__law_near : Stmt := top 24
abbrev s__law_bad_number : Stmt := top 25
abbrev s__law_bar : Stmt := top 26
abbrev s__law_is_number : Stmt := top 27
abbrev s__law_tried : Stmt := top 31
abbrev s_is_number : Stmt := top 8
abbrev s_check_number : Stmt := top 9
abbrev s_check_end : Stmt := top 10
abbrev s_lesser_end : Stmt := top 11
abbrev s_may_take : Stmt := top 12
abbrev s_lower_ceiling : Stmt := top 13
abbrev s__law_match : Stmt := top 28
abbrev s__law_same : Stmt := top 30
abbrev s__law_asked : Stmt := top 32
abbrev s__law_due : Stmt := top 33
abbrev s__law_is_under : Stmt := top 34
abbrev s__law_is_lower : Stmt := top 35
abbrev s__law_value : Stmt := top 36
abbrev s__law_refuses : Stmt := top 37
abbrev s__law_is_told : Stmt := top 38
abbrev s_law : Stmt := top 39
abbrev s_BadNumber_init : Stmt := inClass (top 3) 0
/-- what the top has written -/
structure Txt (K : PySem.W.Frag) (mg : Str → Option Value) : Prop where
  f__law_store : Raw K mg "_law_store" s__law_store [] []
  f__law_stir : Raw K mg "_law_stir" s__law_stir [] []
  f__law_take : Raw K mg "_law_take" s__law_take [] []
  f__law_pick : Raw K mg "_law_pick" s__law_pick [] []
  f__law_shuffled : Raw K mg "_law_shuffled" s__law_shuffled [] []
  f__law_unlike : Raw K mg "_law_unlike" s__law_unlike [] []
  f__law_number : Raw K mg "_law_number" s__law_number [] []
  f__law_clamped : Raw K mg "_law_clamped" s__law_clamped [] []
  f__law_pool : Raw K mg "_law_pool" s__law_pool [] []
  f__law_near : Raw K mg "_law_near" s__law_near [] []
  f__law_bad_number : Raw K mg "_law_bad_number" s__law_bad_number [] []
  f__law_bar : Raw K mg "_law_bar" s__law_bar [] []
  f__law_is_number : Raw K mg "_law_is_number" s__law_is_number [] []
  f__law_tried : Raw K mg "_law_tried" s__law_tried [] []
  f_is_number : Raw K mg "is_number" s_is_number [] []
  f_check_number : Raw K mg "check_number" s_check_number [] []
  f_check_end : Raw K mg "check_end" s_check_end [] []
  f_lesser_end : Raw K mg "lesser_end" s_lesser_end [] []
  f_may_take : Raw K mg "may_take" s_may_take [] []
  f_lower_ceiling : Raw K mg "lower_ceiling" s_lower_ceiling [] []
  f__law_match : Raw K mg "_law_match" s__law_match [] []
  f__law_same : Raw K mg "_law_same" s__law_same [] []
  f__law_asked : Raw K mg "_law_asked" s__law_asked [] []
  f__law_due : Raw K mg "_law_due" s__law_due [] []
  f__law_is_under : Raw K mg "_law_is_under" s__law_is_under [] []
  f__law_is_lower : Raw K mg "_law_is_lower" s__law_is_lower [] []
  f__law_value : Raw K mg "_law_value" s__law_value [] []
  f__law_refuses : Raw K mg "_law_refuses" s__law_refuses [] []
  f__law_is_told : Raw K mg "_law_is_told" s__law_is_told [] []
  f_law : Raw K mg "law" s_law [] []
  fi_BadNumber : ∃ fd, FunD K "__init__" "BadNumber.__init__" (defArgs s_BadNumber_init) (defBody s_BadNumber_init) (defScope s_BadNumber_init) [] [] (He.ma K (gA K "BadNumber") "__init__") fd
  i_BadNumber : XIn K (gA K "BadNumber") ["number"]
  g_BadNumber : mg "BadNumber" = some (.ref (gA K "BadNumber"))
  x_BadNumber : XC K (gA K "BadNumber")
  g_OutshinerError : mg "OutshinerError" = some (.ref (gA K "OutshinerError"))
  g_BadName : mg "BadName" = some (.ref (gA K "BadName"))
  g_BadSpan : mg "BadSpan" = some (.ref (gA K "BadSpan"))
  g_OutOfRange : mg "OutOfRange" = some (.ref (gA K "OutOfRange"))
  c_LIMIT : ∃ t, mg "LIMIT" = some (.int 1000000000000 t)
  b_list : mg "list" = none
  b_int : mg "int" = none
  b_max : mg "max" = none
  b_len : mg "len" = none
  b_range : mg "range" = none
  b_isinstance : mg "isinstance" = none
  b_bool : mg "bool" = none
  b_str : mg "str" = none
  b_tuple : mg "tuple" = none
  b_dict : mg "dict" = none
  b_ValueError : mg "ValueError" = none
  b_sorted : mg "sorted" = none
  b_min : mg "min" = none
  k_base : PySem.W.kitOne K (.ref (gA K "BadNumber")) (.ref (gA K "OutshinerError")) = some true
  k_val : PySem.W.kitOne K (.ref (gA K "BadNumber")) (.type "ValueError") = some true
  k_t : PySem.W.kitAny K (.ref (gA K "BadNumber")) ([gA K "BadName", gA K "BadSpan", gA K "OutOfRange"].map Value.ref) = some false
def fa : List He.Fa := [.glo "_law_store", .glo "_law_stir", .glo "_law_take", .glo "_law_pick", .glo "_law_shuffled", .glo "_law_unlike", .glo "_law_number", .glo "_law_clamped", .glo "_law_pool", .glo "_law_near", .glo "_law_bad_number", .glo "_law_bar", .glo "_law_is_number", .glo "_law_tried", .glo "is_number", .glo "check_number", .glo "check_end", .glo "lesser_end", .glo "may_take", .glo "lower_ceiling", .glo "_law_match", .glo "_law_same", .glo "_law_asked", .glo "_law_due", .glo "_law_is_under", .glo "_law_is_lower", .glo "_law_value", .glo "_law_refuses", .glo "_law_is_told", .glo "law", .glo "BadNumber", .glo "OutshinerError", .glo "BadName", .glo "BadSpan", .glo "OutOfRange", .int "LIMIT" 1000000000000, .free "list", .free "int", .free "max", .free "len", .free "range", .free "isinstance", .free "bool", .free "str", .free "tuple", .free "dict", .free "ValueError", .free "sorted", .free "min"]
def dd0 : He.DefD := ⟨("_law_store", none), "_law_store", "_law_store", defArgs s__law_store, defBody s__law_store, defScope s__law_store, [], []⟩
def dd1 : He.DefD := ⟨("_law_stir", none), "_law_stir", "_law_stir", defArgs s__law_stir, defBody s__law_stir, defScope s__law_stir, [], []⟩
def dd2 : He.DefD := ⟨("_law_take", none), "_law_take", "_law_take", defArgs s__law_take, defBody s__law_take, defScope s__law_take, [], []⟩
def dd3 : He.DefD := ⟨("_law_pick", none), "_law_pick", "_law_pick", defArgs s__law_pick, defBody s__law_pick, defScope s__law_pick, [], []⟩
def dd4 : He.DefD := ⟨("_law_shuffled", none), "_law_shuffled", "_law_shuffled", defArgs s__law_shuffled, defBody s__law_shuffled, defScope s__law_shuffled, [], []⟩
def dd5 : He.DefD := ⟨("_law_unlike", none), "_law_unlike", "_law_unlike", defArgs s__law_unlike, defBody s__law_unlike, defScope s__law_unlike, [], []⟩
def dd6 : He.DefD := ⟨("_law_number", none), "_law_number", "_law_number", defArgs s__law_number, defBody s__law_number, defScope s__law_number, [], []⟩
def dd7 : He.DefD := ⟨("_law_clamped", none), "_law_clamped", "_law_clamped", defArgs s__law_clamped, defBody s__law_clamped, defScope s__law_clamped, [], []⟩
def dd8 : He.DefD := ⟨("_law_pool", none), "_law_pool", "_law_pool", defArgs s__law_pool, defBody s__law_pool, defScope s__law_pool, [], []⟩
def dd9 : He.DefD := ⟨("_law_near", none), "_law_near", "_law_near", defArgs s__law_near, defBody s__law_near, defScope s__law_near, [], []⟩
def dd10 : He.DefD := ⟨("_law_bad_number", none), "_law_bad_number", "_law_bad_number", defArgs s__law_bad_number, defBody s__law_bad_number, defScope s__law_bad_number, [], []⟩
def dd11 : He.DefD := ⟨("_law_bar", none), "_law_bar", "_law_bar", defArgs s__law_bar, defBody s__law_bar, defScope s__law_bar, [], []⟩
def dd12 : He.DefD := ⟨("_law_is_number", none), "_law_is_number", "_law_is_number", defArgs s__law_is_number, defBody s__law_is_number, defScope s__law_is_number, [], []⟩
def dd13 : He.DefD := ⟨("_law_tried", none), "_law_tried", "_law_tried", defArgs s__law_tried, defBody s__law_tried, defScope s__law_tried, [], []⟩
def dd14 : He.DefD := ⟨("is_number", none), "is_number", "is_number", defArgs s_is_number, defBody s_is_number, defScope s_is_number, [], []⟩
def dd15 : He.DefD := ⟨("check_number", none), "check_number", "check_number", defArgs s_check_number, defBody s_check_number, defScope s_check_number, [], []⟩
def dd16 : He.DefD := ⟨("check_end", none), "check_end", "check_end", defArgs s_check_end, defBody s_check_end, defScope s_check_end, [], []⟩
def dd17 : He.DefD := ⟨("lesser_end", none), "lesser_end", "lesser_end", defArgs s_lesser_end, defBody s_lesser_end, defScope s_lesser_end, [], []⟩
def dd18 : He.DefD := ⟨("may_take", none), "may_take", "may_take", defArgs s_may_take, defBody s_may_take, defScope s_may_take, [], []⟩
def dd19 : He.DefD := ⟨("lower_ceiling", none), "lower_ceiling", "lower_ceiling", defArgs s_lower_ceiling, defBody s_lower_ceiling, defScope s_lower_ceiling, [], []⟩
def dd20 : He.DefD := ⟨("_law_match", none), "_law_match", "_law_match", defArgs s__law_match, defBody s__law_match, defScope s__law_match, [], []⟩
def dd21 : He.DefD := ⟨("_law_same", none), "_law_same", "_law_same", defArgs s__law_same, defBody s__law_same, defScope s__law_same, [], []⟩
def dd22 : He.DefD := ⟨("_law_asked", none), "_law_asked", "_law_asked", defArgs s__law_asked, defBody s__law_asked, defScope s__law_asked, [], []⟩
def dd23 : He.DefD := ⟨("_law_due", none), "_law_due", "_law_due", defArgs s__law_due, defBody s__law_due, defScope s__law_due, [], []⟩
def dd24 : He.DefD := ⟨("_law_is_under", none), "_law_is_under", "_law_is_under", defArgs s__law_is_under, defBody s__law_is_under, defScope s__law_is_under, [], []⟩
def dd25 : He.DefD := ⟨("_law_is_lower", none), "_law_is_lower", "_law_is_lower", defArgs s__law_is_lower, defBody s__law_is_lower, defScope s__law_is_lower, [], []⟩
def dd26 : He.DefD := ⟨("_law_value", none), "_law_value", "_law_value", defArgs s__law_value, defBody s__law_value, defScope s__law_value, [], []⟩
def dd27 : He.DefD := ⟨("_law_refuses", none), "_law_refuses", "_law_refuses", defArgs s__law_refuses, defBody s__law_refuses, defScope s__law_refuses, [], []⟩
def dd28 : He.DefD := ⟨("_law_is_told", none), "_law_is_told", "_law_is_told", defArgs s__law_is_told, defBody s__law_is_told, defScope s__law_is_told, [], []⟩
def dd29 : He.DefD := ⟨("law", none), "law", "law", defArgs s_law, defBody s_law, defScope s_law, [], []⟩
def dd30 : He.DefD := ⟨("BadNumber", some "__init__"), "__init__", "BadNumber.__init__", defArgs s_BadNumber_init, defBody s_BadNumber_init, defScope s_BadNumber_init, [], []⟩
def fn : List He.DefD := [dd0, dd1, dd2, dd3, dd4, dd5, dd6, dd7, dd8, dd9, dd10, dd11, dd12, dd13, dd14, dd15, dd16, dd17, dd18, dd19, dd20, dd21, dd22, dd23, dd24, dd25, dd26, dd27, dd28, dd29, dd30]
def exL (K : PySem.W.Frag) : List Bool := [xinB K (gA K "BadNumber") ["number"], xcB K (gA K "BadNumber"), decide (PySem.W.kitOne K (.ref (gA K "BadNumber")) (.ref (gA K "OutshinerError")) = some true), decide (PySem.W.kitOne K (.ref (gA K "BadNumber")) (.type "ValueError") = some true), decide (PySem.W.kitAny K (.ref (gA K "BadNumber")) ([gA K "BadName", gA K "BadSpan", gA K "OutOfRange"].map Value.ref) = some false)]
def exB (K : PySem.W.Frag) : Bool := (exL K).all id
theorem exB_at {K : PySem.W.Frag} (h : exB K = true) (i : Nat) {b : Bool} (e : (exL K)[i]? = some b) : b = true := List.all_eq_true.mp h b (List.mem_of_getElem? e)
theorem txt_of {K : PySem.W.Frag} {h : Heap} {mg : Str → Option Value} (X : K.In h) (G : h.Ns mainGlobals mg) (c : SaysQ fa fn exB K) : Txt K mg where
  f__law_store := by
    obtain ⟨fd, F⟩ := c.d.def_ 0 rfl
    exact ⟨⟨_, fd, He.glo_ok X G (c.d.fact 0 (f := .glo "_law_store") rfl), F⟩⟩
  f__law_stir := by
    obtain ⟨fd, F⟩ := c.d.def_ 1 rfl
    exact ⟨⟨_, fd, He.glo_ok X G (c.d.fact 1 (f := .glo "_law_stir") rfl), F⟩⟩
  f__law_take := by
    obtain ⟨fd, F⟩ := c.d.def_ 2 rfl
    exact ⟨⟨_, fd, He.glo_ok X G (c.d.fact 2 (f := .glo "_law_take") rfl), F⟩⟩
  f__law_pick := by
    obtain ⟨fd, F⟩ := c.d.def_ 3 rfl
    exact ⟨⟨_, fd, He.glo_ok X G (c.d.fact 3 (f := .glo "_law_pick") rfl), F⟩⟩
  f__law_shuffled := by
    obtain ⟨fd, F⟩ := c.d.def_ 4 rfl
    exact ⟨⟨_, fd, He.glo_ok X G (c.d.fact 4 (f := .glo "_law_shuffled") rfl), F⟩⟩
  f__law_unlike := by
    obtain ⟨fd, F⟩ := c.d.def_ 5 rfl
    exact ⟨⟨_, fd, He.glo_ok X G (c.d.fact 5 (f := .glo "_law_unlike") rfl), F⟩⟩
  f__law_number := by
    obtain ⟨fd, F⟩ := c.d.def_ 6 rfl
    exact ⟨⟨_, fd, He.glo_ok X G (c.d.fact 6 (f := .glo "_law_number") rfl), F⟩⟩
  f__law_clamped := by
    obtain ⟨fd, F⟩ := c.d.def_ 7 rfl
    exact ⟨⟨_, fd, He.glo_ok X G (c.d.fact 7 (f := .glo "_law_clamped") rfl), F⟩⟩
  f__law_pool := by
    obtain ⟨fd, F⟩ := c.d.def_ 8 rfl
    exact ⟨⟨_, fd, He.glo_ok X G (c.d.fact 8 (f := .glo "_law_pool") rfl), F⟩⟩
  f__law_near := by
    obtain ⟨fd, F⟩ := c.d.def_ 9 rfl
    exact ⟨⟨_, fd, He.glo_ok X G (c.d.fact 9 (f := .glo "_law_near") rfl), F⟩⟩
  f__law_bad_number := by
    obtain ⟨fd, F⟩ := c.d.def_ 10 rfl
    exact ⟨⟨_, fd, He.glo_ok X G (c.d.fact 10 (f := .glo "_law_bad_number") rfl), F⟩⟩
  f__law_bar := by
    obtain ⟨fd, F⟩ := c.d.def_ 11 rfl
    exact ⟨⟨_, fd, He.glo_ok X G (c.d.fact 11 (f := .glo "_law_bar") rfl), F⟩⟩
  f__law_is_number := by
    obtain ⟨fd, F⟩ := c.d.def_ 12 rfl
    exact ⟨⟨_, fd, He.glo_ok X G (c.d.fact 12 (f := .glo "_law_is_number") rfl), F⟩⟩
  f__law_tried := by
    obtain ⟨fd, F⟩ := c.d.def_ 13 rfl
    exact ⟨⟨_, fd, He.glo_ok X G (c.d.fact 13 (f := .glo "_law_tried") rfl), F⟩⟩
  f_is_number := by
    obtain ⟨fd, F⟩ := c.d.def_ 14 rfl
    exact ⟨⟨_, fd, He.glo_ok X G (c.d.fact 14 (f := .glo "is_number") rfl), F⟩⟩
  f_check_number := by
    obtain ⟨fd, F⟩ := c.d.def_ 15 rfl
    exact ⟨⟨_, fd, He.glo_ok X G (c.d.fact 15 (f := .glo "check_number") rfl), F⟩⟩
  f_check_end := by
    obtain ⟨fd, F⟩ := c.d.def_ 16 rfl
    exact ⟨⟨_, fd, He.glo_ok X G (c.d.fact 16 (f := .glo "check_end") rfl), F⟩⟩
  f_lesser_end := by
    obtain ⟨fd, F⟩ := c.d.def_ 17 rfl
    exact ⟨⟨_, fd, He.glo_ok X G (c.d.fact 17 (f := .glo "lesser_end") rfl), F⟩⟩
  f_may_take := by
    obtain ⟨fd, F⟩ := c.d.def_ 18 rfl
    exact ⟨⟨_, fd, He.glo_ok X G (c.d.fact 18 (f := .glo "may_take") rfl), F⟩⟩
  f_lower_ceiling := by
    obtain ⟨fd, F⟩ := c.d.def_ 19 rfl
    exact ⟨⟨_, fd, He.glo_ok X G (c.d.fact 19 (f := .glo "lower_ceiling") rfl), F⟩⟩
  f__law_match := by
    obtain ⟨fd, F⟩ := c.d.def_ 20 rfl
    exact ⟨⟨_, fd, He.glo_ok X G (c.d.fact 20 (f := .glo "_law_match") rfl), F⟩⟩
  f__law_same := by
    obtain ⟨fd, F⟩ := c.d.def_ 21 rfl
    exact ⟨⟨_, fd, He.glo_ok X G (c.d.fact 21 (f := .glo "_law_same") rfl), F⟩⟩
  f__law_asked := by
    obtain ⟨fd, F⟩ := c.d.def_ 22 rfl
    exact ⟨⟨_, fd, He.glo_ok X G (c.d.fact 22 (f := .glo "_law_asked") rfl), F⟩⟩
  f__law_due := by
    obtain ⟨fd, F⟩ := c.d.def_ 23 rfl
    exact ⟨⟨_, fd, He.glo_ok X G (c.d.fact 23 (f := .glo "_law_due") rfl), F⟩⟩
  f__law_is_under := by
    obtain ⟨fd, F⟩ := c.d.def_ 24 rfl
    exact ⟨⟨_, fd, He.glo_ok X G (c.d.fact 24 (f := .glo "_law_is_under") rfl), F⟩⟩
  f__law_is_lower := by
    obtain ⟨fd, F⟩ := c.d.def_ 25 rfl
    exact ⟨⟨_, fd, He.glo_ok X G (c.d.fact 25 (f := .glo "_law_is_lower") rfl), F⟩⟩
  f__law_value := by
    obtain ⟨fd, F⟩ := c.d.def_ 26 rfl
    exact ⟨⟨_, fd, He.glo_ok X G (c.d.fact 26 (f := .glo "_law_value") rfl), F⟩⟩
  f__law_refuses := by
    obtain ⟨fd, F⟩ := c.d.def_ 27 rfl
    exact ⟨⟨_, fd, He.glo_ok X G (c.d.fact 27 (f := .glo "_law_refuses") rfl), F⟩⟩
  f__law_is_told := by
    obtain ⟨fd, F⟩ := c.d.def_ 28 rfl
    exact ⟨⟨_, fd, He.glo_ok X G (c.d.fact 28 (f := .glo "_law_is_told") rfl), F⟩⟩
  f_law := by
    obtain ⟨fd, F⟩ := c.d.def_ 29 rfl
    exact ⟨⟨_, fd, He.glo_ok X G (c.d.fact 29 (f := .glo "law") rfl), F⟩⟩
  fi_BadNumber := c.d.def_ 30 rfl
  i_BadNumber := xinB_ok (exB_at c.x 0 rfl)
  g_BadNumber := He.glo_ok X G (c.d.fact 30 (f := .glo "BadNumber") rfl)
  x_BadNumber := xcB_ok (exB_at c.x 1 rfl)
  g_OutshinerError := He.glo_ok X G (c.d.fact 31 (f := .glo "OutshinerError") rfl)
  g_BadName := He.glo_ok X G (c.d.fact 32 (f := .glo "BadName") rfl)
  g_BadSpan := He.glo_ok X G (c.d.fact 33 (f := .glo "BadSpan") rfl)
  g_OutOfRange := He.glo_ok X G (c.d.fact 34 (f := .glo "OutOfRange") rfl)
  c_LIMIT := He.int_ok X G (c.d.fact 35 (f := .int "LIMIT" 1000000000000) rfl)
  b_list := He.free_ok X G (c.d.fact 36 (f := .free "list") rfl)
  b_int := He.free_ok X G (c.d.fact 37 (f := .free "int") rfl)
  b_max := He.free_ok X G (c.d.fact 38 (f := .free "max") rfl)
  b_len := He.free_ok X G (c.d.fact 39 (f := .free "len") rfl)
  b_range := He.free_ok X G (c.d.fact 40 (f := .free "range") rfl)
  b_isinstance := He.free_ok X G (c.d.fact 41 (f := .free "isinstance") rfl)
  b_bool := He.free_ok X G (c.d.fact 42 (f := .free "bool") rfl)
  b_str := He.free_ok X G (c.d.fact 43 (f := .free "str") rfl)
  b_tuple := He.free_ok X G (c.d.fact 44 (f := .free "tuple") rfl)
  b_dict := He.free_ok X G (c.d.fact 45 (f := .free "dict") rfl)
  b_ValueError := He.free_ok X G (c.d.fact 46 (f := .free "ValueError") rfl)
  b_sorted := He.free_ok X G (c.d.fact 47 (f := .free "sorted") rfl)
  b_min := He.free_ok X G (c.d.fact 48 (f := .free "min") rfl)
  k_base := of_decide_eq_true (exB_at c.x 2 rfl)
  k_val := of_decide_eq_true (exB_at c.x 3 rfl)
  k_t := of_decide_eq_true (exB_at c.x 4 rfl)
section
variable {P : Program} {w : World} {K : PySem.W.Frag} {mg : Str → Option Value} {base : Heap}
theorem sci_BadNumber : FnScope ["self", "number"] ["self", "number"] (defScope s_BadNumber_init) := ⟨rfl, rfl, rfl, by decide +kernel, rfl, by decide +kernel, by decide +kernel⟩
theorem Di_BadNumber (T : Txt K mg) : ∃ fd, Binds K fd ["self", "number"] [] ∧ FnOk P w K mg base CX0 1 (He.ma K (gA K "BadNumber") "__init__") fd ["self", "number"] (Sp2 (pInit1 K (gA K "BadNumber") "number")) := by
  obtain ⟨fd, F⟩ := T.fi_BadNumber
  refine ⟨fd, F.bindsN (ps := ["self", "number"]) (fun _ _ _ _ _ _ us hl => match us, hl with | [_, _], _ => rfl), ?_⟩
  refine F.ok (CX := CX0) sci_BadNumber len2 (fun cdv A outer s H vs Q E hr h => ?_)
  obtain ⟨v0, v1, rfl, a, rfl, ha, k⟩ := h
  refine ⟨_, PSs.nox (pss_one (ps_ost (pv 0) (pv 1))), ?_⟩
  refine ⟨_, rfl, _, rfl, a, _, rfl, T.x_BadNumber.oex, T.i_BadNumber.no "number" (by decide +kernel), .inl ⟨ha, fun dx hd hn => ?_⟩⟩
  exact k dx hd hn
end
end Q
namespace Q
section
variable {P : Program} {w : World} {K : PySem.W.Frag} {mg : Str → Option Value} {base : Heap}
abbrev N__law_store : List Str := ["_law_script"]
theorem sc__law_store : FnScope N__law_store ["_law_script"] (defScope s__law_store) := ⟨rfl, rfl, rfl, by decide +kernel, rfl, by decide +kernel, by decide +kernel⟩
set_option maxHeartbeats 4000000 in
theorem D_law_store  (T : Txt K mg) : Def P w K mg base CX0 (1) "_law_store" s__law_store ["_law_script"] (Sp1 (pStore K)) := by
  obtain ⟨f, fd, m, F⟩ := T.f__law_store.ex
  refine ⟨f, fd, m, F.kp, F.bindsN (ps := ["_law_script"]) (fun _ _ _ _ _ _ us hl => match us, hl with | [_], _ => rfl), ?_, F⟩
  refine F.ok (CX := CX0) sc__law_store len1 (fun cdv A outer s H vs Q E hr h => ?_)
  obtain ⟨v0, rfl, h⟩ := h
  refine ⟨_, PSs.nox (pss_one (ps_ret (pe_lst (pa_cons (pe_callTy call_list0 (by rfl) T.b_list (by decide +kernel) (pa_cons (pv 0) pa_nil)) (pa_cons pe_int (pa_cons pe_int (pa_cons pe_int (pa_cons pe_int (pa_cons pe_int (pa_cons pe_int pa_nil)))))))))), ?_⟩
  try dsimp only [cxOf, Cx.nox, Cx.wish]
  rw [show start N__law_store [v0] = [some v0] from rfl]
  obtain ⟨a, ns, rfl, hs, k⟩ := h
  walk_at "go"
  refine ⟨a, _, rfl, .inl hs, fun l hl => ?_⟩
  walk_at "go"
  refine ⟨by show 7 ≤ sizeLine; decide, fun p hp => ?_⟩
  walk_at "go"
  have hpl : p ≠ l := fun e => by
    rw [e, upd_same] at hp
    cases hp
  have hp0 : H p = none := by
    rw [upd_ne hpl] at hp
    exact hp
  refine k p _ ((Dx.new hl).trans (Dx.new hp)) hp0 ⟨rfl, fun x e => ?_, ⟨l, 0, 0, 0, 0, 1, 1, ns, upd_same, ?_, Ne.symm hpl, by decide, by decide, by decide⟩⟩
  · have e' : x = p := e
    rw [e', upd_same]
    exact fun z => by cases z
  · rw [upd_ne (Ne.symm hpl), upd_same]
abbrev N__law_stir : List Str := ["_law_store_here", "_law_cell", "_law_one", "_law_two"]
theorem sc__law_stir : FnScope N__law_stir ["_law_store_here", "_law_cell"] (defScope s__law_stir) := ⟨rfl, rfl, rfl, by decide +kernel, rfl, by decide +kernel, by decide +kernel⟩
set_option maxHeartbeats 4000000 in
theorem D_law_stir  (T : Txt K mg) : Def P w K mg base CX0 (1) "_law_stir" s__law_stir ["_law_store_here", "_law_cell"] (Sp2 pStir) := by
  obtain ⟨f, fd, m, F⟩ := T.f__law_stir.ex
  refine ⟨f, fd, m, F.kp, F.bindsN (ps := ["_law_store_here", "_law_cell"]) (fun _ _ _ _ _ _ us hl => match us, hl with | [_, _], _ => rfl), ?_, F⟩
  refine F.ok (CX := CX0) sc__law_stir len2 (fun cdv A outer s H vs Q E hr h => ?_)
  obtain ⟨v0, v1, rfl, h⟩ := h
  refine ⟨_, PSs.nox (pss_cons (ps_asg (pe_op op_addU (pe_callTy call_int0 (by rfl) T.b_int (by decide +kernel) (pa_cons (pe_ix ix_U (pv 0) pe_int (fun _ _ => rfl)) pa_nil)) pe_int) (pg_sub (pv 0) pe_int set_list))
      (pss_cons (ps_set (i := 2) sc__law_stir.nd rfl (Or.inl rfl) (pe_op op_addU (pe_op op_addU (pe_op op_mul0 (pe_callTy call_int0 (by rfl) T.b_int (by decide +kernel) (pa_cons (pe_ix ix_U (pv 0) pe_int (fun _ _ => rfl)) pa_nil)) pe_int) (pe_op op_mod0 (pe_callTy call_int0 (by rfl) T.b_int (by decide +kernel) (pa_cons (pv 1) pa_nil)) pe_int)) (pe_callTy call_int0 (by rfl) T.b_int (by decide +kernel) (pa_cons (pe_ix ix_U (pv 0) pe_int (fun _ _ => rfl)) pa_nil))))
      (pss_cons (ps_asg (pe_op op_mod0 (pe_callTy call_int0 (by rfl) T.b_int (by decide +kernel) (pa_cons (pv 2) pa_nil)) pe_int) (pg_sub (pv 0) pe_int set_list))
      (pss_cons (ps_set (i := 3) sc__law_stir.nd rfl (Or.inl rfl) (pe_op op_addU (pe_op op_addU (pe_op op_addU (pe_op op_mul0 (pe_callTy call_int0 (by rfl) T.b_int (by decide +kernel) (pa_cons (pe_ix ix_U (pv 0) pe_int (fun _ _ => rfl)) pa_nil)) pe_int) (pe_op op_mul0 (pe_callTy call_int0 (by rfl) T.b_int (by decide +kernel) (pa_cons (pe_ix ix_U (pv 0) pe_int (fun _ _ => rfl)) pa_nil)) pe_int)) (pe_op op_mod0 (pe_callTy call_int0 (by rfl) T.b_int (by decide +kernel) (pa_cons (pv 1) pa_nil)) pe_int)) (pe_callTy call_int0 (by rfl) T.b_int (by decide +kernel) (pa_cons (pe_ix ix_U (pv 0) pe_int (fun _ _ => rfl)) pa_nil))))
      (pss_one (ps_asg (pe_op op_mod0 (pe_callTy call_int0 (by rfl) T.b_int (by decide +kernel) (pa_cons (pv 3) pa_nil)) pe_int) (pg_sub (pv 0) pe_int set_list))))))), ?_⟩
  try dsimp only [cxOf, Cx.nox, Cx.wish]
  rw [show start N__law_stir [v0, v1] = [some v0, some v1, none, none] from rfl]
  obtain ⟨c, p, i, rest, left, n, a, b, cell, rfl, rfl, hc, ha, hb, k⟩ := h
  unfold stL at hc
  walk_at "go"
  refine go_ixL (SqL.of hc) (atI_nat (j := 4) rfl) ?_
  walk_at "go"
  refine go_setL hc (k := 4) (by rfl) ?_
  walk_at "go"
  refine go_ixL (SqL.of upd_same) (atI_nat (j := 5) rfl) ?_
  walk_at "go"
  walk_at "go"
  refine go_ixL (SqL.of upd_same) (atI_nat (j := 4) rfl) ?_
  walk_at "go"
  refine go_setL upd_same (k := 5) (by rfl) ?_
  walk_at "go"
  refine go_ixL (SqL.of upd_same) (atI_nat (j := 6) rfl) ?_
  walk_at "go"
  walk_at "go"
  refine go_ixL (SqL.of upd_same) (atI_nat (j := 5) rfl) ?_
  walk_at "go"
  walk_at "go"
  refine go_ixL (SqL.of upd_same) (atI_nat (j := 4) rfl) ?_
  walk_at "go"
  refine go_setL upd_same (k := 6) (by rfl) ?_
  walk_at "go"
  rw [upd_upd, upd_upd]
  exact k _ _ _ _ ⟨Int.emod_nonneg _ (by decide), Int.emod_lt_of_pos _ (by decide)⟩ ⟨Int.emod_nonneg _ (by decide), Int.emod_lt_of_pos _ (by decide)⟩ rfl
abbrev N__law_take : List Str := ["_law_store_here", "_law_many", "_law_cells", "_law_cell", "_law_rest"]
theorem sc__law_take : FnScope N__law_take ["_law_store_here", "_law_many"] (defScope s__law_take) := ⟨rfl, rfl, rfl, by decide +kernel, rfl, by decide +kernel, by decide +kernel⟩
set_option maxHeartbeats 4000000 in
theorem D_law_take  (T : Txt K mg) : Def P w K mg base CX0 (2) "_law_take" s__law_take ["_law_store_here", "_law_many"] (Sp2 pTake) := by
  obtain ⟨f, fd, m, F⟩ := T.f__law_take.ex
  refine ⟨f, fd, m, F.kp, F.bindsN (ps := ["_law_store_here", "_law_many"]) (fun _ _ _ _ _ _ us hl => match us, hl with | [_, _], _ => rfl), ?_, F⟩
  obtain ⟨f_law_stir, fd_law_stir, m_law_stir, kp_law_stir, b_law_stir, G_law_stir, F_law_stir⟩ := (D_law_stir (P := P) (w := w) (base := base) T).ex
  refine F.ok (CX := CX0) sc__law_take len2 (fun cdv A outer s H vs Q E hr h => ?_)
  obtain ⟨v0, v1, rfl, h⟩ := h
  refine ⟨_, PSs.nox (pss_cons (ps_set (i := 1) sc__law_take.nd rfl (Or.inl rfl) (pe_callB (call_max0 rfl) (by rfl) T.b_max (by decide +kernel) (pa_cons pe_int (pa_cons (pe_callTy call_int0 (by rfl) T.b_int (by decide +kernel) (pa_cons (pv 1) pa_nil)) pa_nil))))
      (pss_cons (ps_set (i := 2) sc__law_take.nd rfl (Or.inl rfl) (pe_ix ix_U (pv 0) pe_int (fun _ _ => rfl)))
      (C8.pss_cut (ps_if (PW.pt (pw_and (pt_cmpR op_eq (pe_callTy call_int0 (by rfl) T.b_int (by decide +kernel) (pa_cons (pe_ix ix_U (pv 0) pe_int (fun _ _ => rfl)) pa_nil)) pe_int (nomark _)) (pw_and (pt_cmpR op_eq (pe_callTy call_int0 (by rfl) T.b_int (by decide +kernel) (pa_cons (pe_ix ix_U (pv 0) pe_int (fun _ _ => rfl)) pa_nil)) pe_int (nomark _)) (pw_and1 (pt_cmpR op_ltU (pe_callTy call_int0 (by rfl) T.b_int (by decide +kernel) (pa_cons (pe_ix ix_U (pv 0) pe_int (fun _ _ => rfl)) pa_nil)) (pe_callB call_lenU (by rfl) T.b_len (by decide +kernel) (pa_cons (pv 2) pa_nil)) (nomark _)))))) (pss_cons (ps_set (i := 3) sc__law_take.nd rfl (Or.inl rfl) (pe_callTy call_int0 (by rfl) T.b_int (by decide +kernel) (pa_cons (pe_ix ix_U (pv 2) (pe_callTy call_int0 (by rfl) T.b_int (by decide +kernel) (pa_cons (pe_ix ix_U (pv 0) pe_int (fun _ _ => rfl)) pa_nil)) (fun _ _ => rfl)) pa_nil)))
      (pss_cons (ps_asg (pe_op op_addU (pe_callTy call_int0 (by rfl) T.b_int (by decide +kernel) (pa_cons (pe_ix ix_U (pv 0) pe_int (fun _ _ => rfl)) pa_nil)) pe_int) (pg_sub (pv 0) pe_int set_list))
      (pss_cons (ps_asg pe_int (pg_sub (pv 0) pe_int set_list))
      (pss_cons (ps_expr (pe_call G_law_stir (hr.mono (by first | decide | omega)) (by rfl) m_law_stir kp_law_stir b_law_stir .nil pass0 (pa_cons (pv 0) (pa_cons (pv 3) pa_nil))))
      (pss_one (ps_if (pt_cmpR op_ge0 (pv 3) (pe_op op_pow0 pe_int pe_int) (nomark _)) (pss_cons (ps_asg (pv 3) (pg_sub (pv 0) pe_int set_list))
      (pss_one (ps_asg pe_int (pg_sub (pv 0) pe_int set_list)))) pss_nil)))))) pss_nil)
      (pss_cons (ps_set (i := 4) sc__law_take.nd rfl (Or.inl rfl) (pe_callTy call_int0 (by rfl) T.b_int (by decide +kernel) (pa_cons (pe_ix ix_U (pv 0) pe_int (fun _ _ => rfl)) pa_nil)))
      (pss_cons (ps_if (pt_cmpR op_gt0 (pv 4) pe_int (nomark _)) (pss_cons (ps_asg (pe_op op_div0 (pv 4) (pv 1)) (pg_sub (pv 0) pe_int set_list))
      (pss_one (ps_ret (pe_op op_mod0 (pe_callTy call_int0 (by rfl) T.b_int (by decide +kernel) (pa_cons (pv 4) pa_nil)) (pv 1))))) pss_nil)
      (pss_cons (ps_expr (pe_call G_law_stir (hr.mono (by first | decide | omega)) (by rfl) m_law_stir kp_law_stir b_law_stir .nil pass0 (pa_cons (pv 0) (pa_cons pe_int pa_nil))))
      (pss_cons (ps_asg (pe_callB (call_max0 rfl) (by rfl) T.b_max (by decide +kernel) (pa_cons pe_int (pa_cons (pe_op op_sub0 (pe_callTy call_int0 (by rfl) T.b_int (by decide +kernel) (pa_cons (pe_ix ix_U (pv 0) pe_int (fun _ _ => rfl)) pa_nil)) pe_int) pa_nil))) (pg_sub (pv 0) pe_int set_list))
      (pss_one (ps_ret (pe_op op_mod0 (pe_callTy call_int0 (by rfl) T.b_int (by decide +kernel) (pa_cons (pe_op op_addU (pe_op op_mul0 (pe_callTy call_int0 (by rfl) T.b_int (by decide +kernel) (pa_cons (pe_ix ix_U (pv 0) pe_int (fun _ _ => rfl)) pa_nil)) pe_int) (pe_callTy call_int0 (by rfl) T.b_int (by decide +kernel) (pa_cons (pe_ix ix_U (pv 0) pe_int (fun _ _ => rfl)) pa_nil))) pa_nil)) (pv 1))))))))))), ?_⟩
  try dsimp only [cxOf, Cx.nox, Cx.wish]
  rw [show start N__law_take [v0, v1] = [some v0, some v1, none, none, none] from rfl]
  obtain ⟨c, M, n, rfl, rfl, hn0, hn1, ok, k⟩ := h
  obtain ⟨p, i, rest, left, cnt, a, b, cells, hc, hp, hpm, hi, ha, hb⟩ := ok.st.ex
  have hpc : p ≠ c := fun e => hpm (by rw [e]; exact ok.inM)
  unfold stL at hc
  walk_at "go"
  generalize hm : (if n > 1 then n else 1) = m at k ⊢
  have hm0 : 0 < m := by
    rw [← hm]
    split <;> omega
  have hm1 : m ≤ 1000000000000000000 := by
    rw [← hm]
    split <;> omega
  refine go_ixL (SqL.of hc) (atI_nat (j := 0) rfl) ?_
  walk_at "go"
  refine ⟨fun σ' H' => ∃ (x : Option V) (i' rest' left' cnt' a' b' : Int), σ' = [some (.ref c), some (.int m), some (.ref p), x, none] ∧ H' = upd H c (.lst (stL p i' rest' left' cnt' a' b')) ∧ 0 ≤ i' ∧ (0 ≤ a' ∧ a' < 2147483647) ∧ (0 ≤ b' ∧ b' < 2147483399), ?_, ?_⟩
  · -- the test
    have same : H = upd H c (.lst (stL p i rest left cnt a b)) := by
      funext x
      by_cases e : x = c
      · rw [e, upd_same]
        exact hc
      · rw [upd_ne e]
    have stay : ∃ (x : Option V) (i' rest' left' cnt' a' b' : Int), [some (V.ref c), some (V.int m), some (V.ref p), none, none] = [some (V.ref c), some (.int m), some (.ref p), x, none] ∧ H = upd H c (.lst (stL p i' rest' left' cnt' a' b')) ∧ 0 ≤ i' ∧ (0 ≤ a' ∧ a' < 2147483647) ∧ (0 ≤ b' ∧ b' < 2147483399) :=
      ⟨none, i, rest, left, cnt, a, b, rfl, same, hi, ha, hb⟩
    walk_at "go"
    refine go_ixL (SqL.of hc) (atI_nat (j := 2) rfl) ?_
    walk_at "go"
    refine go_dec (fun _ => ?_) (fun _ => ?_)
    rotate_left
    · walk_at "go"
      exact stay
    walk_at "go"
    refine go_ixL (SqL.of hc) (atI_nat (j := 3) rfl) ?_
    walk_at "go"
    refine go_dec (fun _ => ?_) (fun _ => ?_)
    rotate_left
    · walk_at "go"
      exact stay
    walk_at "go"
    refine go_ixL (SqL.of hc) (atI_nat (j := 1) rfl) ?_
    walk_at "go"
    refine go_lenL (SqL.of hp) ?_
    walk_at "go"
    refine go_dec (fun hlt => ?_) (fun _ => ?_)
    rotate_left
    · walk_at "go"
      exact stay
    walk_at "go"
    refine go_ixL (SqL.of hc) (atI_nat (j := 1) rfl) ?_
    walk_at "go"
    have hlt2 : i.toNat < (cells.map V.int).length := by omega
    have hlt3 : i.toNat < cells.length := by
      rw [List.length_map] at hlt2
      exact hlt2
    obtain ⟨cell, hcell⟩ : ∃ z, cells[i.toNat]? = some z := ⟨_, List.getElem?_eq_getElem hlt3⟩
    refine go_ixL (v := .int cell) (SqL.of hp) (atI_of hi (by rw [List.getElem?_map, hcell]; rfl)) ?_
    walk_at "go"
    refine go_ixL (SqL.of hc) (atI_nat (j := 1) rfl) ?_
    walk_at "go"
    refine go_setL hc (k := 1) (by rfl) ?_
    walk_at "go"
    refine go_setL upd_same (k := 3) (by rfl) ?_
    walk_at "go"
    refine ⟨c, p, i + 1, rest, 3, cnt, a, b, cell, rfl, rfl, upd_same, ha, hb, fun n' a' b' H' ha' hb' hH => ?_⟩
    rw [upd_upd, upd_upd] at hH
    subst hH
    walk_at "go"
    walk_at "go"
    refine go_dec (fun _ => ?_) (fun _ => ?_)
    · walk_at "go"
      refine go_setL upd_same (k := 2) (by rfl) ?_
      walk_at "go"
      refine go_setL upd_same (k := 3) (by rfl) ?_
      walk_at "go"
      exact ⟨_, i + 1, cell, 0, n', a', b', rfl, by rw [upd_upd, upd_upd]; rfl, by omega, ha', hb'⟩
    · walk_at "go"
      exact ⟨_, i + 1, rest, 3, n', a', b', rfl, rfl, by omega, ha', hb'⟩
  · rintro σ' H' ⟨x, i', rest', left', cnt', a', b', rfl, rfl, hi', ha', hb'⟩
    unfold stL
    have d0 : ∀ o, Dx (Only1 c) H (upd H c o) := fun o => Dx.mut rfl
    walk_at "go"
    refine go_ixL (SqL.of upd_same) (atI_nat (j := 2) rfl) ?_
    walk_at "go"
    refine go_dec (fun _ => ?_) (fun _ => ?_)
    · walk_at "go"
      refine go_div0 (div_ok hm0 hm1) ?_
      walk_at "go"
      refine go_setL upd_same (k := 2) (by rfl) ?_
      walk_at "go"
      rw [upd_upd]
      exact k _ _ (Int.emod_nonneg _ (by omega)) (Int.emod_lt_of_pos _ hm0) (d0 _) (ok.set upd_same hp hpm (d0 _) hi' ha' hb')
    · walk_at "go"
      refine ⟨c, p, i', rest', left', cnt', a', b', 0, rfl, rfl, upd_same, ha', hb', fun n2 a2 b2 H2 ha2 hb2 hH => ?_⟩
      rw [upd_upd] at hH
      subst hH
      unfold stL
      walk_at "go"
      refine go_ixL (SqL.of upd_same) (atI_nat (j := 3) rfl) ?_
      walk_at "go"
      refine go_setL upd_same (k := 3) (by rfl) ?_
      walk_at "go"
      refine go_ixL (SqL.of upd_same) (atI_nat (j := 5) rfl) ?_
      walk_at "go"
      walk_at "go"
      refine go_ixL (SqL.of upd_same) (atI_nat (j := 6) rfl) ?_
      walk_at "go"
      rw [upd_upd]
      exact k _ _ (Int.emod_nonneg _ (by omega)) (Int.emod_lt_of_pos _ hm0) (d0 _) (ok.set upd_same hp hpm (d0 _) hi' ha2 hb2)
abbrev N__law_pick : List Str := ["_law_store_here", "_law_items"]
theorem sc__law_pick : FnScope N__law_pick ["_law_store_here", "_law_items"] (defScope s__law_pick) := ⟨rfl, rfl, rfl, by decide +kernel, rfl, by decide +kernel, by decide +kernel⟩
set_option maxHeartbeats 4000000 in
theorem D_law_pick  (T : Txt K mg) : Def P w K mg base CX0 (3) "_law_pick" s__law_pick ["_law_store_here", "_law_items"] (Sp2 (pPick K)) := by
  obtain ⟨f, fd, m, F⟩ := T.f__law_pick.ex
  refine ⟨f, fd, m, F.kp, F.bindsN (ps := ["_law_store_here", "_law_items"]) (fun _ _ _ _ _ _ us hl => match us, hl with | [_, _], _ => rfl), ?_, F⟩
  obtain ⟨f_law_take, fd_law_take, m_law_take, kp_law_take, b_law_take, G_law_take, F_law_take⟩ := (D_law_take (P := P) (w := w) (base := base) T).ex
  refine F.ok (CX := CX0) sc__law_pick len2 (fun cdv A outer s H vs Q E hr h => ?_)
  obtain ⟨v0, v1, rfl, h⟩ := h
  refine ⟨_, PSs.nox (pss_one (ps_ret (pe_ix ix_U (pv 1) (pe_call G_law_take (hr.mono (by first | decide | omega)) (by rfl) m_law_take kp_law_take b_law_take .nil pass0 (pa_cons (pv 0) (pa_cons (pe_callB call_lenU (by rfl) T.b_len (by decide +kernel) (pa_cons (pv 1) pa_nil)) pa_nil))) (fun _ _ => rfl)))), ?_⟩
  try dsimp only [cxOf, Cx.nox, Cx.wish]
  rw [show start N__law_pick [v0, v1] = [some v0, some v1] from rfl]
  obtain ⟨c, M, rfl, ok, ⟨z, rfl, hz, hz2, k⟩ | ⟨p, xs, rfl, hs, hp, hl, hl2, k⟩⟩ := h
  · walk_at "go"
    refine ⟨c, M, _, rfl, rfl, by omega, by omega, ok, fun r H' h0 h1 d ok' => ?_⟩
    have hr : r.toNat < z.cps.toList.length := by
      have e : z.cps.toList.length = z.length := by simp [Str.length]
      split at h1 <;> omega
    obtain ⟨ch, hc⟩ : ∃ ch, z.cps.toList[r.toNat]? = some ch := ⟨_, List.getElem?_eq_getElem hr⟩
    refine go_ixS (size_ok hz2) (atI_of h0 hc) ?_
    walk_at "go"
    exact k _ _ ⟨ch, List.mem_of_getElem? hc, rfl⟩ d ok'
  · walk_at "go"
    refine go_lenL hs ?_
    walk_at "go"
    refine ⟨c, M, _, rfl, rfl, by omega, by omega, ok, fun r H' h0 h1 d ok' => ?_⟩
    have hr : r.toNat < xs.length := by
      split at h1 <;> omega
    obtain ⟨x, hx⟩ : ∃ x, xs[r.toNat]? = some x := ⟨_, List.getElem?_eq_getElem hr⟩
    refine go_ixL ((ok.sub d).sqL hp hs) (atI_of h0 hx) ?_
    walk_at "go"
    exact k _ _ (List.mem_of_getElem? hx) d ok'
abbrev N__law_shuffled : List Str := ["_law_store_here", "_law_items", "_law_mixed", "_law_k", "_law_j", "_law_held"]
theorem sc__law_shuffled : FnScope N__law_shuffled ["_law_store_here", "_law_items"] (defScope s__law_shuffled) := ⟨rfl, rfl, rfl, by decide +kernel, rfl, by decide +kernel, by decide +kernel⟩
set_option maxHeartbeats 4000000 in
theorem D_law_shuffled  (T : Txt K mg) : Def P w K mg base CX0 (3) "_law_shuffled" s__law_shuffled ["_law_store_here", "_law_items"] (Sp2 (pShuf K)) := by
  obtain ⟨f, fd, m, F⟩ := T.f__law_shuffled.ex
  refine ⟨f, fd, m, F.kp, F.bindsN (ps := ["_law_store_here", "_law_items"]) (fun _ _ _ _ _ _ us hl => match us, hl with | [_, _], _ => rfl), ?_, F⟩
  obtain ⟨f_law_take, fd_law_take, m_law_take, kp_law_take, b_law_take, G_law_take, F_law_take⟩ := (D_law_take (P := P) (w := w) (base := base) T).ex
  refine F.ok (CX := CX0) sc__law_shuffled len2 (fun cdv A outer s H vs Q E hr h => ?_)
  obtain ⟨v0, v1, rfl, h⟩ := h
  refine ⟨_, PSs.nox (pss_cons (ps_set (i := 2) sc__law_shuffled.nd rfl (Or.inl rfl) (pe_callTy call_list0 (by rfl) T.b_list (by decide +kernel) (pa_cons (pv 1) pa_nil)))
      (pss_cons (ps_for PassesOwn.never rfl (pi_range1 (by rfl) T.b_range (pa_cons (pe_callB call_lenU (by rfl) T.b_len (by decide +kernel) (pa_cons (pv 2) pa_nil)) pa_nil)) (pg_name (i := 3) sc__law_shuffled.nd rfl (Or.inl rfl)) (pss_cons (ps_set (i := 4) sc__law_shuffled.nd rfl (Or.inl rfl) (pe_op op_addU (pv 3) (pe_call G_law_take (hr.mono (by first | decide | omega)) (by rfl) m_law_take kp_law_take b_law_take .nil pass0 (pa_cons (pv 0) (pa_cons (pe_op op_sub0 (pe_callB call_lenU (by rfl) T.b_len (by decide +kernel) (pa_cons (pv 2) pa_nil)) (pv 3)) pa_nil)))))
      (pss_cons (ps_set (i := 5) sc__law_shuffled.nd rfl (Or.inl rfl) (pe_ix ix_U (pv 2) (pv 3) (fun _ _ => rfl)))
      (pss_cons (ps_asg (pe_ix ix_U (pv 2) (pv 4) (fun _ _ => rfl)) (pg_sub (pv 2) (pv 3) set_list))
      (pss_one (ps_asg (pv 5) (pg_sub (pv 2) (pv 4) set_list)))))))
      (pss_one (ps_ret (pv 2))))), ?_⟩
  try dsimp only [cxOf, Cx.nox, Cx.wish]
  rw [show start N__law_shuffled [v0, v1] = [some v0, some v1, none, none, none, none] from rfl]
  obtain ⟨c, M, p, xs, rfl, rfl, ok, hp, hl, k⟩ := h
  walk_at "go"
  refine ⟨p, xs, rfl, .inl hp, fun l hn => ?_⟩
  have hlc : l ≠ c := ok.ne_new hn
  walk_at "go"
  refine go_lenL (SqL.of upd_same) ?_
  walk_at "go"
  refine for_r (by omega) (fun i σ' H' => ∃ (ys : List V) (v3 v4 v5 : Option V), σ' = [some (.ref c), some (.ref p), some (.ref l), v3, v4, v5] ∧ H' l = some (.lst ys) ∧ ys.Perm xs ∧ Dx (Only1 c) H H' ∧ Ok (Add M l) H' c) ⟨xs, none, none, none, rfl, upd_same, .refl _, Dx.new hn, ok.add hn⟩ ?_ ?_
  · rintro i σ' H' hi ⟨ys, v3, v4, v5, rfl, h1, h2, h3, h4⟩
    have hy := h2.length_eq
    walk_at "go"
    refine go_lenL (SqL.of h1) ?_
    walk_at "go"
    refine take_go h4 (by omega) (by omega) fun r H2 a2 b2 d2 ok2 => ?_
    have g1 := d2.st _ _ hlc h1
    walk_at "go"
    have hi1 : i < ys.length := by omega
    have hj1 : (i + r.toNat) < ys.length := by omega
    have er : ((i : Int) + r) = ((i + r.toNat : Nat) : Int) := by omega
    refine go_ixL (SqL.of g1) (atI_nat (List.getElem?_eq_getElem hi1)) ?_
    walk_at "go"
    rw [er]
    refine go_ixL (SqL.of g1) (atI_nat (List.getElem?_eq_getElem hj1)) ?_
    walk_at "go"
    refine go_setL g1 (k := i) (Evl.ixN_nat hi1) ?_
    walk_at "go"
    refine go_setL upd_same (k := i + r.toNat) (Evl.ixN_nat (by rw [List.length_set]; exact hj1)) ?_
    walk_at "go"
    rw [upd_upd]
    exact ⟨_, _, _, _, rfl, upd_same, (List.set_set_perm hi1 hj1).trans h2, (h3.trans d2).own hn, ok2.mut (.inl rfl) hlc⟩
  · rintro σ' H' ⟨ys, v3, v4, v5, rfl, h1, h2, h3, h4⟩
    walk_at "go"
    exact k _ _ _ hn h1 h2 h3 h4
abbrev N__law_unlike : List Str := ["_law_items", "_law_kept", "_law_item"]
theorem sc__law_unlike : FnScope N__law_unlike ["_law_items"] (defScope s__law_unlike) := ⟨rfl, rfl, rfl, by decide +kernel, rfl, by decide +kernel, by decide +kernel⟩
set_option maxHeartbeats 4000000 in
theorem D_law_unlike  (T : Txt K mg) : Def P w K mg base CX0 (1) "_law_unlike" s__law_unlike ["_law_items"] (Sp1 (pUnlike K)) := by
  obtain ⟨f, fd, m, F⟩ := T.f__law_unlike.ex
  refine ⟨f, fd, m, F.kp, F.bindsN (ps := ["_law_items"]) (fun _ _ _ _ _ _ us hl => match us, hl with | [_], _ => rfl), ?_, F⟩
  refine F.ok (CX := CX0) sc__law_unlike len1 (fun cdv A outer s H vs Q E hr h => ?_)
  obtain ⟨v0, rfl, h⟩ := h
  refine ⟨_, PSs.nox (pss_cons (ps_set (i := 1) sc__law_unlike.nd rfl (Or.inl rfl) (pe_lst pa_nil))
      (pss_cons (ps_for PassesOwn.never rfl (pi_list (pv 0)) (pg_name (i := 2) sc__law_unlike.nd rfl (Or.inl rfl)) (pss_one (ps_if (pt_cmpR op_niU (pv 2) (pv 1) (by rfl)) (pss_one (ps_expr (pe_bm PySem.F.plainAttrs_list PySem.F.slot_list_append PySem.F.type_list_append mt_append (pv 1) (pa_cons (pv 2) pa_nil)))) pss_nil)))
      (pss_one (ps_ret (pv 1))))), ?_⟩
  try dsimp only [cxOf, Cx.nox, Cx.wish]
  rw [show start N__law_unlike [v0] = [some v0, none, none] from rfl]
  obtain ⟨p, ns, rfl, hp, hl, k⟩ := h
  walk_at "go"
  refine ⟨by show 0 ≤ sizeLine; decide, fun l hn => ?_⟩
  walk_at "go"
  refine for_l (sql_new hp hn) (fun i σ' H' => ∃ (ms : List Int) (v2 : Option V), σ' = [some (.ref p), some (.ref l), v2] ∧ H' l = some (.lst (ms.map V.int)) ∧ (∀ m ∈ ms, m ∈ ns) ∧ ms.length ≤ i ∧ Dx No H H') ⟨[], none, rfl, upd_same, fun m hm => (List.not_mem_nil hm).elim, Nat.le_refl _, Dx.new hn⟩ (fun i σ' H' _ ⟨_, _, _, _, _, _, d⟩ => d.sqL id hp) ?_ ?_
  · rintro i v σ' H' hv ⟨ms, v2, rfl, h1, h2, h3, h4⟩
    obtain ⟨n, rfl, hn1⟩ := int_mem (List.mem_of_getElem? hv)
    have hi : i < (ns.map V.int).length := (List.getElem?_eq_some_iff.mp hv).1
    rw [List.length_map] at hi
    walk_at "go"
    refine go_niL (SqL.of h1) rfl (ints_flat ms) ?_
    walk_at "go"
    refine go_nbool (fun _ => ?_) (fun _ => ?_)
    · walk_at "go"
      refine ⟨ty_lst (SqL.of h1), ?_⟩
      walk_at "go"
      refine go_app h1 (by rw [List.length_map]; exact size_lt (by omega)) ?_
      walk_at "go"
      refine ⟨ms ++ [n], _, rfl, by rw [upd_same, List.map_append]; rfl, fun m hm => ?_, by rw [List.length_append]; show ms.length + 1 ≤ i + 1; omega, h4.own hn⟩
      rcases List.mem_append.mp hm with z | z
      · exact h2 m z
      · rw [List.mem_singleton.mp z]
        exact hn1
    · walk_at "go"
      exact ⟨ms, _, rfl, h1, h2, by omega, h4⟩
  · rintro σ' H' ⟨ms, v2, rfl, h1, h2, h3, h4⟩
    walk_at "go"
    rw [List.length_map] at h3
    exact k _ _ _ hn h1 ⟨ms, rfl, h2, h3⟩ h4
end
end Q
namespace Q
section
variable {P : Program} {w : World} {K : PySem.W.Frag} {mg : Str → Option Value} {base : Heap}
abbrev N__law_number : List Str := ["_law_store_here", "_law_kind"]
theorem sc__law_number : FnScope N__law_number ["_law_store_here"] (defScope s__law_number) := ⟨rfl, rfl, rfl, by decide +kernel, rfl, by decide +kernel, by decide +kernel⟩
set_option maxHeartbeats 4000000 in
theorem D_law_number  (T : Txt K mg) : Def P w K mg base CX0 (4) "_law_number" s__law_number ["_law_store_here"] (Sp1 (pDraw IsNum)) := by
  obtain ⟨f, fd, m, F⟩ := T.f__law_number.ex
  refine ⟨f, fd, m, F.kp, F.bindsN (ps := ["_law_store_here"]) (fun _ _ _ _ _ _ us hl => match us, hl with | [_], _ => rfl), ?_, F⟩
  obtain ⟨f_law_pick, fd_law_pick, m_law_pick, kp_law_pick, b_law_pick, G_law_pick, F_law_pick⟩ := (D_law_pick (P := P) (w := w) (base := base) T).ex
  obtain ⟨f_law_take, fd_law_take, m_law_take, kp_law_take, b_law_take, G_law_take, F_law_take⟩ := (D_law_take (P := P) (w := w) (base := base) T).ex
  refine F.ok (CX := CX0) sc__law_number len1 (fun cdv A outer s H vs Q E hr h => ?_)
  obtain ⟨v0, rfl, h⟩ := h
  refine ⟨_, PSs.nox (pss_cons (ps_set (i := 1) sc__law_number.nd rfl (Or.inl rfl) (pe_call G_law_take (hr.mono (by first | decide | omega)) (by rfl) m_law_take kp_law_take b_law_take .nil pass0 (pa_cons (pv 0) (pa_cons pe_int pa_nil))))
      (pss_cons (ps_if (pt_cmpR op_eq (pv 1) pe_int (nomark _)) (pss_one (ps_ret (pe_op op_sub0 (pe_call G_law_take (hr.mono (by first | decide | omega)) (by rfl) m_law_take kp_law_take b_law_take .nil pass0 (pa_cons (pv 0) (pa_cons pe_int pa_nil))) pe_int))) pss_nil)
      (pss_cons (ps_if (pt_cmpR op_eq (pv 1) pe_int (nomark _)) (pss_one (ps_ret (pe_call G_law_pick (hr.mono (by first | decide | omega)) (by rfl) m_law_pick kp_law_pick b_law_pick .nil pass0 (pa_cons (pv 0) (pa_cons (pe_lst (pa_cons pe_int (pa_cons pe_int (pa_cons (pe_un un_neg0 pe_int) (pa_cons (pe_op op_pow0 pe_int pe_int) (pa_cons (pe_un un_neg0 (pe_op op_pow0 pe_int pe_int)) (pa_cons (pe_op op_sub0 (pe_op op_pow0 pe_int pe_int) pe_int) (pa_cons (pe_op op_sub0 pe_int (pe_op op_pow0 pe_int pe_int)) (pa_cons pe_int pa_nil))))))))) pa_nil))))) pss_nil)
      (pss_one (ps_ret (pe_op op_sub0 (pe_call G_law_take (hr.mono (by first | decide | omega)) (by rfl) m_law_take kp_law_take b_law_take .nil pass0 (pa_cons (pv 0) (pa_cons (pe_op op_addU (pe_op op_mul0 pe_int (pe_op op_pow0 pe_int pe_int)) pe_int) pa_nil))) (pe_op op_pow0 pe_int pe_int))))))), ?_⟩
  try dsimp only [cxOf, Cx.nox, Cx.wish]
  rw [show start N__law_number [v0] = [some v0, none] from rfl]
  obtain ⟨c, M, rfl, ok, k⟩ := h
  walk_at "go"
  refine take_go ok (by decide) (by decide) fun r1 H1 a1 b1 d1 ok1 => ?_
  walk_at "go"
  refine go_dec (fun _ => ?_) (fun _ => ?_)
  · walk_at "go"
    refine take_go ok1 (by decide) (by decide) fun r2 H2 a2 b2 d2 ok2 => ?_
    walk_at "go"
    exact k _ _ ⟨_, rfl, by omega⟩ (d1.trans d2) ok2
  walk_at "go"
  refine go_dec (fun _ => ?_) (fun _ => ?_)
  · walk_at "go"
    refine ⟨by show 8 ≤ sizeLine; decide, fun p hp => ?_⟩
    walk_at "go"
    refine ⟨c, M, rfl, ok1.new hp, .inr ⟨p, _, rfl, SqL.of upd_same, ok1.notM hp, by show 0 < 8; decide, by show 8 ≤ 100000; decide, fun r H' hr d ok' => ?_⟩⟩
    exact k _ _ (nums_at (by decide +kernel) hr) ((d1.trans (Dx.new hp)).trans d) ok'
  walk_at "go"
  refine take_go ok1 (by decide) (by decide) fun r2 H2 a2 b2 d2 ok2 => ?_
  walk_at "go"
  exact k _ _ ⟨_, rfl, by omega⟩ (d1.trans d2) ok2
abbrev N__law_clamped : List Str := ["_law_number_here"]
theorem sc__law_clamped : FnScope N__law_clamped ["_law_number_here"] (defScope s__law_clamped) := ⟨rfl, rfl, rfl, by decide +kernel, rfl, by decide +kernel, by decide +kernel⟩
set_option maxHeartbeats 4000000 in
theorem D_law_clamped  (T : Txt K mg) : Def P w K mg base CX0 (1) "_law_clamped" s__law_clamped ["_law_number_here"] (Sp1 pClamp) := by
  obtain ⟨f, fd, m, F⟩ := T.f__law_clamped.ex
  refine ⟨f, fd, m, F.kp, F.bindsN (ps := ["_law_number_here"]) (fun _ _ _ _ _ _ us hl => match us, hl with | [_], _ => rfl), ?_, F⟩
  refine F.ok (CX := CX0) sc__law_clamped len1 (fun cdv A outer s H vs Q E hr h => ?_)
  obtain ⟨v0, rfl, h⟩ := h
  refine ⟨_, PSs.nox (pss_one (ps_ret (pe_callB (call_max0 rfl) (by rfl) T.b_max (by decide +kernel) (pa_cons (pe_un un_neg0 (pe_op op_pow0 pe_int pe_int)) (pa_cons (pe_callB (call_min0 rfl) (by rfl) T.b_min (by decide +kernel) (pa_cons (pe_op op_pow0 pe_int pe_int) (pa_cons (pv 0) pa_nil))) pa_nil))))), ?_⟩
  try dsimp only [cxOf, Cx.nox, Cx.wish]
  rw [show start N__law_clamped [v0] = [some v0] from rfl]
  obtain ⟨i, rfl, k⟩ := h
  walk_at "go"
  exact k _ (by constructor <;> split <;> split <;> omega) (fun z => by split <;> split <;> omega)
abbrev N__law_pool : List Str := ["_law_store_here", "_law_many", "_law_kind", "_law_ends", "_law_start", "_law_step", "_law_numbers", "_law_k"]
theorem sc__law_pool : FnScope N__law_pool ["_law_store_here"] (defScope s__law_pool) := ⟨rfl, rfl, rfl, by decide +kernel, rfl, by decide +kernel, by decide +kernel⟩
theorem perm_ints {ys : List V} {ns : List Int} (h : ys.Perm (ns.map V.int)) : ∃ ms : List Int, ys = ms.map V.int ∧ ms.length = ns.length ∧ ∀ m ∈ ms, m ∈ ns := by
  obtain ⟨ms, rfl⟩ := ints_of (xs := ys) fun v hv => by
    obtain ⟨i, e, _⟩ := int_mem (h.mem_iff.mp hv)
    exact ⟨i, e⟩
  refine ⟨ms, rfl, ?_, fun m hm => mem_int (h.mem_iff.mp (List.mem_map_of_mem hm))⟩
  have e := h.length_eq
  rw [List.length_map, List.length_map] at e
  exact e
set_option maxHeartbeats 4000000 in
theorem D_law_pool  (T : Txt K mg) : Def P w K mg base CX0 (4) "_law_pool" s__law_pool ["_law_store_here"] (Sp1 (pPool)) := by
  obtain ⟨f, fd, m, F⟩ := T.f__law_pool.ex
  refine ⟨f, fd, m, F.kp, F.bindsN (ps := ["_law_store_here"]) (fun _ _ _ _ _ _ us hl => match us, hl with | [_], _ => rfl), ?_, F⟩
  obtain ⟨f_law_shuffled, fd_law_shuffled, m_law_shuffled, kp_law_shuffled, b_law_shuffled, G_law_shuffled, F_law_shuffled⟩ := (D_law_shuffled (P := P) (w := w) (base := base) T).ex
  obtain ⟨f_law_take, fd_law_take, m_law_take, kp_law_take, b_law_take, G_law_take, F_law_take⟩ := (D_law_take (P := P) (w := w) (base := base) T).ex
  refine F.ok (CX := CX0) sc__law_pool len1 (fun cdv A outer s H vs Q E hr h => ?_)
  obtain ⟨v0, rfl, h⟩ := h
  refine ⟨_, PSs.nox (pss_cons (ps_set (i := 1) sc__law_pool.nd rfl (Or.inl rfl) (pe_op op_addU pe_int (pe_call G_law_take (hr.mono (by first | decide | omega)) (by rfl) m_law_take kp_law_take b_law_take .nil pass0 (pa_cons (pv 0) (pa_cons pe_int pa_nil)))))
      (pss_cons (ps_set (i := 2) sc__law_pool.nd rfl (Or.inl rfl) (pe_call G_law_take (hr.mono (by first | decide | omega)) (by rfl) m_law_take kp_law_take b_law_take .nil pass0 (pa_cons (pv 0) (pa_cons pe_int pa_nil))))
      (pss_cons (ps_if (pt_cmpR op_eq (pv 2) pe_int (nomark _)) (pss_cons (ps_set (i := 3) sc__law_pool.nd rfl (Or.inl rfl) (pe_lst (pa_cons (pe_un un_neg0 (pe_op op_pow0 pe_int pe_int)) (pa_cons (pe_op op_sub0 pe_int (pe_op op_pow0 pe_int pe_int)) (pa_cons (pe_un un_neg0 pe_int) (pa_cons pe_int (pa_cons (pe_op op_sub0 (pe_op op_pow0 pe_int pe_int) pe_int) (pa_cons (pe_op op_pow0 pe_int pe_int) pa_nil))))))))
      (pss_one (ps_ret (pe_callB cr_sortedI (by rfl) T.b_sorted (by decide +kernel) (pa_cons (pe_slice sl_list (pe_call G_law_shuffled (hr.mono (by first | decide | omega)) (by rfl) m_law_shuffled kp_law_shuffled b_law_shuffled .nil pass0 (pa_cons (pv 0) (pa_cons (pv 3) pa_nil))) po_none (po_some (pv 1))) pa_nil))))) pss_nil)
      (pss_cons (ps_set (i := 4) sc__law_pool.nd rfl (Or.inl rfl) (pe_op op_sub0 (pe_call G_law_take (hr.mono (by first | decide | omega)) (by rfl) m_law_take kp_law_take b_law_take .nil pass0 (pa_cons (pv 0) (pa_cons pe_int pa_nil))) pe_int))
      (pss_cons (ps_set (i := 5) sc__law_pool.nd rfl (Or.inl rfl) pe_int)
      (C8.pss_cut (ps_if (pt_cmpR op_eq (pv 2) pe_int (nomark _)) (pss_cons (ps_set (i := 4) sc__law_pool.nd rfl (Or.inl rfl) (pe_op op_sub0 (pe_call G_law_take (hr.mono (by first | decide | omega)) (by rfl) m_law_take kp_law_take b_law_take .nil pass0 (pa_cons (pv 0) (pa_cons pe_int pa_nil))) pe_int))
      (pss_one (ps_set (i := 5) sc__law_pool.nd rfl (Or.inl rfl) pe_int))) pss_nil)
      (C8.pss_cut (ps_if (pt_cmpR op_eq (pv 2) pe_int (nomark _)) (pss_cons (ps_set (i := 4) sc__law_pool.nd rfl (Or.inl rfl) (pe_op op_sub0 (pe_call G_law_take (hr.mono (by first | decide | omega)) (by rfl) m_law_take kp_law_take b_law_take .nil pass0 (pa_cons (pv 0) (pa_cons (pe_op op_pow0 pe_int pe_int) pa_nil))) (pe_op op_pow0 pe_int pe_int)))
      (pss_one (ps_set (i := 5) sc__law_pool.nd rfl (Or.inl rfl) (pe_op op_mul0 pe_int (pe_op op_pow0 pe_int pe_int))))) pss_nil)
      (pss_cons (ps_set (i := 6) sc__law_pool.nd rfl (Or.inl rfl) (pe_lst (pa_cons (pv 4) pa_nil)))
      (pss_cons (ps_for PassesOwn.never rfl (pi_range1 (by rfl) T.b_range (pa_cons (pe_op op_sub0 (pv 1) pe_int) pa_nil)) (pg_name (i := 7) sc__law_pool.nd rfl (Or.inl rfl)) (pss_one (ps_expr (pe_bm PySem.F.plainAttrs_list PySem.F.slot_list_append PySem.F.type_list_append mt_append (pv 6) (pa_cons (pe_op op_addU (pe_op op_addU (pe_ix ix_U (pv 6) (pv 7) (fun _ _ => rfl)) pe_int) (pe_call G_law_take (hr.mono (by first | decide | omega)) (by rfl) m_law_take kp_law_take b_law_take .nil pass0 (pa_cons (pv 0) (pa_cons (pv 5) pa_nil)))) pa_nil)))))
      (pss_one (ps_ret (pv 6)))))))))))), ?_⟩
  try dsimp only [cxOf, Cx.nox, Cx.wish]
  rw [show start N__law_pool [v0] = [some v0, none, none, none, none, none, none, none] from rfl]
  obtain ⟨c, M, rfl, ok, k⟩ := h
  walk_at "go"
  refine take_go ok (by decide) (by decide) fun r1 H1 a1 b1 d1 ok1 => ?_
  walk_at "go"
  refine take_go ok1 (by decide) (by decide) fun r2 H2 a2 b2 d2 ok2 => ?_
  have d02 := d1.trans d2
  walk_at "go"
  refine go_dec (fun _ => ?_) (fun _ => ?_)
  · walk_at "go"
    refine ⟨by show 6 ≤ sizeLine; decide, fun p hp => ?_⟩
    walk_at "go"
    refine ⟨c, M, p, _, rfl, rfl, ok2.new hp, SqL.of upd_same, by show 6 ≤ 100000; decide, fun l ys H3 hl h1 h2 d3 ok3 => ?_⟩
    obtain ⟨ms, rfl, h3, h4⟩ := perm_ints (ns := [-1000000000000, 1 - 1000000000000, -1, 0, 1000000000000 - 1, 1000000000000]) h2
    have h5 : ms.length = 6 := h3
    walk_at "go"
    refine go_slL (SqL.of h1) fun q hq => ?_
    walk_at "go"
    have e : cutV (ms.map V.int) none (some (2 + r1)) = (ms.take (2 + r1).toNat).map V.int := by
      rw [cut_to (by omega) (by rw [List.length_map]; omega), List.map_take]
    rw [e]
    refine go_sorted (SqL.of upd_same) fun ns' u hperm _ hu => ?_
    have hu3 : H3 u = none := by
      rw [upd_ne (fun z => by rw [z, upd_same] at hu; exact nomatch hu)] at hu
      exact hu
    have ok3' : Ok M H3 c := ok3.less ok.inM fun a z => .inr z
    have hq2 : H u = none := d02.dm u ((Dx.new (M := Only1 c) hp).dm u (d3.dm u hu3))
    refine k u _ _ hq2 upd_same ⟨ns', rfl, fun n hn => ?_, ?_, ?_⟩ (((d02.trans (Dx.new hp)).trans d3).trans ((Dx.new hq).trans (Dx.new hu))) ((ok3'.new hq).add hu)
    · have z := h4 n (List.mem_of_mem_take (hperm.mem_iff.mp hn))
      simp only [List.mem_cons, List.not_mem_nil, or_false] at z
      omega
    · rw [hperm.length_eq, List.length_take]
      omega
    · rw [hperm.length_eq, List.length_take]
      omega
  walk_at "go"
  refine take_go ok2 (by decide) (by decide) fun r3 H3 a3 b3 d3 ok3 => ?_
  have d03 := d02.trans d3
  walk_at "go"
  refine ⟨fun σ' H' => ∃ st sp : Int, σ' = [some (.ref c), some (.int (2 + r1)), some (.int r2), none, some (.int st), some (.int sp), none, none] ∧ 0 < sp ∧ InR st ∧ st + 5 * sp ≤ 1000000000000 ∧ sp ≤ 1000000000000 ∧ Dx (Only1 c) H H' ∧ Ok M H' c, ?_, ?_⟩
  · walk_at "go"
    refine go_dec (fun _ => ?_) (fun _ => ?_)
    · walk_at "go"
      refine take_go ok3 (by decide) (by decide) fun r4 H4 a4 b4 d4 ok4 => ?_
      walk_at "go"
      exact ⟨_, _, rfl, by decide, by omega, by omega, by decide, d03.trans d4, ok4⟩
    · walk_at "go"
      exact ⟨_, _, rfl, by decide, by omega, by omega, by decide, d03, ok3⟩
  rintro σ' H4 ⟨st, sp, rfl, s1, s2, s3, s4, d4, ok4⟩
  walk_at "go"
  refine ⟨fun σ' H' => ∃ st sp : Int, σ' = [some (.ref c), some (.int (2 + r1)), some (.int r2), none, some (.int st), some (.int sp), none, none] ∧ 0 < sp ∧ InR st ∧ st + 5 * sp ≤ 1000000000000 ∧ sp ≤ 1000000000000 ∧ Dx (Only1 c) H H' ∧ Ok M H' c, ?_, ?_⟩
  · walk_at "go"
    refine go_dec (fun _ => ?_) (fun _ => ?_)
    · walk_at "go"
      refine take_go ok4 (by decide) (by decide) fun r5 H5 a5 b5 d5 ok5 => ?_
      walk_at "go"
      exact ⟨_, _, rfl, by decide, by omega, by omega, by decide, d4.trans d5, ok5⟩
    · walk_at "go"
      exact ⟨_, _, rfl, s1, s2, s3, s4, d4, ok4⟩
  clear s1 s2 s3 s4 st sp
  rintro σ' H5 ⟨st, sp, rfl, s1, s2, s3, s4, d5, ok5⟩
  walk_at "go"
  refine ⟨by show 1 ≤ sizeLine; decide, fun l hl => ?_⟩
  have hlc : l ≠ c := ok5.ne_new hl
  have hl0 : H l = none := d5.dm l hl
  walk_at "go"
  refine for_r (by omega) (fun i σ' H' => ∃ (ns : List Int) (v7 : Option V), σ' = [some (.ref c), some (.int (2 + r1)), some (.int r2), none, some (.int st), some (.int sp), some (.ref l), v7] ∧ H' l = some (.lst (ns.map V.int)) ∧ ns.length = i + 1 ∧ (∀ n ∈ ns, st ≤ n ∧ n ≤ st + (i : Int) * sp) ∧ Dx (Only1 c) H H' ∧ Ok (Add M l) H' c) ⟨[st], none, rfl, upd_same, rfl, fun n hn => ?_, d5.trans (Dx.new hl), ok5.add hl⟩ ?_ ?_
  · rw [List.mem_singleton.mp hn]
    omega
  · rintro i σ' H6 hi ⟨ns, v7, rfl, h1, h2, h3, d6, ok6⟩
    walk_at "go"
    refine ⟨ty_lst (SqL.of h1), ?_⟩
    walk_at "go"
    have hin : i < ns.length := by omega
    obtain ⟨n, hn⟩ : ∃ n, ns[i]? = some n := ⟨_, List.getElem?_eq_getElem hin⟩
    have hb := h3 n (List.mem_of_getElem? hn)
    refine go_ixL (v := .int n) (SqL.of h1) (atI_nat (by rw [List.getElem?_map, hn]; rfl)) ?_
    walk_at "go"
    refine take_go ok6 s1 (by omega) fun r7 H7 a7 b7 d7 ok7 => ?_
    walk_at "go"
    refine go_app (d7.st _ _ hlc h1) (by rw [List.length_map]; exact size_lt (by omega)) ?_
    walk_at "go"
    have em : ((i + 1 : Nat) : Int) * sp = (i : Int) * sp + sp := by
      rw [Int.natCast_add, Int.add_mul]
      omega
    refine ⟨ns ++ [n + 1 + r7], _, rfl, by rw [upd_same, List.map_append]; rfl, by rw [List.length_append, h2]; rfl, fun m hm => ?_, (d6.trans d7).own hl0, ok7.mut (.inl rfl) hlc⟩
    rw [em]
    rcases List.mem_append.mp hm with z | z
    · have := h3 m z
      omega
    · rw [List.mem_singleton.mp z]
      omega
  · rintro σ' H6 ⟨ns, v7, rfl, h1, h2, h3, d6, ok6⟩
    walk_at "go"
    refine k l _ _ hl0 h1 ⟨ns, rfl, fun n hn => ?_, by omega, by omega⟩ d6 ok6
    have hb := h3 n hn
    have hm : ((2 + r1 - 1).toNat : Int) * sp ≤ 5 * sp := Int.mul_le_mul_of_nonneg_right (by omega) (by omega)
    omega
abbrev N__law_near : List Str := ["_law_store_here", "_law_pool_here"]
theorem sc__law_near : FnScope N__law_near ["_law_store_here", "_law_pool_here"] (defScope s__law_near) := ⟨rfl, rfl, rfl, by decide +kernel, rfl, by decide +kernel, by decide +kernel⟩
set_option maxHeartbeats 4000000 in
theorem D_law_near  (T : Txt K mg) : Def P w K mg base CX0 (4) "_law_near" s__law_near ["_law_store_here", "_law_pool_here"] (Sp2 (pNear K)) := by
  obtain ⟨f, fd, m, F⟩ := T.f__law_near.ex
  refine ⟨f, fd, m, F.kp, F.bindsN (ps := ["_law_store_here", "_law_pool_here"]) (fun _ _ _ _ _ _ us hl => match us, hl with | [_, _], _ => rfl), ?_, F⟩
  obtain ⟨f_law_clamped, fd_law_clamped, m_law_clamped, kp_law_clamped, b_law_clamped, G_law_clamped, F_law_clamped⟩ := (D_law_clamped (P := P) (w := w) (base := base) T).ex
  obtain ⟨f_law_pick, fd_law_pick, m_law_pick, kp_law_pick, b_law_pick, G_law_pick, F_law_pick⟩ := (D_law_pick (P := P) (w := w) (base := base) T).ex
  obtain ⟨f_law_take, fd_law_take, m_law_take, kp_law_take, b_law_take, G_law_take, F_law_take⟩ := (D_law_take (P := P) (w := w) (base := base) T).ex
  refine F.ok (CX := CX0) sc__law_near len2 (fun cdv A outer s H vs Q E hr h => ?_)
  obtain ⟨v0, v1, rfl, h⟩ := h
  refine ⟨_, PSs.nox (pss_one (ps_ret (pe_call G_law_clamped (hr.mono (by first | decide | omega)) (by rfl) m_law_clamped kp_law_clamped b_law_clamped .nil pass0 (pa_cons (pe_op op_addU (pe_call G_law_pick (hr.mono (by first | decide | omega)) (by rfl) m_law_pick kp_law_pick b_law_pick .nil pass0 (pa_cons (pv 0) (pa_cons (pv 1) pa_nil))) (pe_ix ix_U (pe_lst (pa_cons pe_int (pa_cons pe_int (pa_cons pe_int (pa_cons (pe_un un_neg0 pe_int) pa_nil))))) (pe_call G_law_take (hr.mono (by first | decide | omega)) (by rfl) m_law_take kp_law_take b_law_take .nil pass0 (pa_cons (pv 0) (pa_cons pe_int pa_nil))) (fun _ _ => rfl))) pa_nil)))), ?_⟩
  try dsimp only [cxOf, Cx.nox, Cx.wish]
  rw [show start N__law_near [v0, v1] = [some v0, some v1] from rfl]
  obtain ⟨c, M, p, ns, rfl, rfl, ok, hp, hM, hl0, hl1, hn, k⟩ := h
  walk_at "go"
  refine ⟨c, M, rfl, ok, .inr ⟨p, _, rfl, hp, hM, by rw [List.length_map]; omega, by rw [List.length_map]; omega, fun r H1 hr d1 ok1 => ?_⟩⟩
  obtain ⟨n, rfl, hn1⟩ := int_mem hr
  walk_at "go"
  refine ⟨by show 4 ≤ sizeLine; decide, fun q hq => ?_⟩
  walk_at "go"
  refine take_go (ok1.new hq) (by decide) (by decide) fun r2 H2 a2 b2 d2 ok2 => ?_
  have g := d2.st _ _ (Ok.ne ok1 (ok1.notM hq)) upd_same
  obtain ⟨z, hz⟩ : ∃ z : Int, atI [V.int 0, V.int 0, V.int 1, V.int (-1)] r2 = some (.int z) := by
    rcases (show r2 = 0 ∨ r2 = 1 ∨ r2 = 2 ∨ r2 = 3 by omega) with e | e | e | e <;> subst e
    · exact ⟨0, by rfl⟩
    · exact ⟨0, by rfl⟩
    · exact ⟨1, by rfl⟩
    · exact ⟨-1, by rfl⟩
  refine go_ixL (SqL.of g) hz ?_
  walk_at "go"
  refine ⟨_, rfl, fun r hr _ => ?_⟩
  exact k _ _ ⟨r, rfl, hr⟩ ((d1.trans (Dx.new hq)).trans d2) ok2
abbrev N__law_bad_number : List Str := ["_law_store_here", "_law_keyed", "_law_far", "_law_kind"]
theorem sc__law_bad_number : FnScope N__law_bad_number ["_law_store_here", "_law_keyed"] (defScope s__law_bad_number) := ⟨rfl, rfl, rfl, by decide +kernel, rfl, by decide +kernel, by decide +kernel⟩
/-- items of the menu -/
def badsB (xs : List V) : Bool := xs.all fun v => match v with
  | .int i => (decide (i < -1000000000000) || decide (1000000000000 < i)) && (decide (-1000000000000000000000000000000 ≤ i) && decide (i ≤ 1000000000000000000000000000000))
  | _ => false
theorem bads_of {xs : List V} {v : V} (h : badsB xs = true) (hv : v ∈ xs) : ∃ i : Int, v = .int i ∧ (i < -1000000000000 ∨ 1000000000000 < i) ∧ -1000000000000000000000000000000 ≤ i ∧ i ≤ 1000000000000000000000000000000 := by
  have q := List.all_eq_true.mp h v hv
  cases v with
  | int i =>
    obtain ⟨q1, q2⟩ := Bool.and_eq_true_iff.mp q
    obtain ⟨q2, q3⟩ := Bool.and_eq_true_iff.mp q2
    refine ⟨i, rfl, ?_, of_decide_eq_true q2, of_decide_eq_true q3⟩
    rcases Bool.or_eq_true_iff.mp q1 with z | z
    · exact .inl (of_decide_eq_true z)
    · exact .inr (of_decide_eq_true z)
  | _ => exact nomatch q
set_option maxHeartbeats 4000000 in
theorem D_law_bad_number  (T : Txt K mg) : Def P w K mg base CX0 (4) "_law_bad_number" s__law_bad_number ["_law_store_here", "_law_keyed"] (Sp2 pBadNumber) := by
  obtain ⟨f, fd, m, F⟩ := T.f__law_bad_number.ex
  refine ⟨f, fd, m, F.kp, F.bindsN (ps := ["_law_store_here", "_law_keyed"]) (fun _ _ _ _ _ _ us hl => match us, hl with | [_, _], _ => rfl), ?_, F⟩
  obtain ⟨f_law_pick, fd_law_pick, m_law_pick, kp_law_pick, b_law_pick, G_law_pick, F_law_pick⟩ := (D_law_pick (P := P) (w := w) (base := base) T).ex
  obtain ⟨f_law_take, fd_law_take, m_law_take, kp_law_take, b_law_take, G_law_take, F_law_take⟩ := (D_law_take (P := P) (w := w) (base := base) T).ex
  refine F.ok (CX := CX0) sc__law_bad_number len2 (fun cdv A outer s H vs Q E hr h => ?_)
  obtain ⟨v0, v1, rfl, h⟩ := h
  refine ⟨_, PSs.nox (pss_cons (ps_set (i := 2) sc__law_bad_number.nd rfl (Or.inl rfl) (pe_lst (pa_cons (pe_op op_addU (pe_op op_pow0 pe_int pe_int) pe_int) (pa_cons (pe_op op_sub0 (pe_un un_neg0 (pe_op op_pow0 pe_int pe_int)) pe_int) (pa_cons (pe_op op_pow0 pe_int pe_int) (pa_cons (pe_un un_neg0 (pe_op op_pow0 pe_int pe_int)) (pa_cons (pe_op op_addU (pe_op op_addU (pe_op op_pow0 pe_int pe_int) pe_int) (pe_call G_law_take (hr.mono (by first | decide | omega)) (by rfl) m_law_take kp_law_take b_law_take .nil pass0 (pa_cons (pv 0) (pa_cons (pe_op op_pow0 pe_int pe_int) pa_nil)))) pa_nil)))))))
      (pss_cons (ps_set (i := 3) sc__law_bad_number.nd rfl (Or.inl rfl) (pe_call G_law_take (hr.mono (by first | decide | omega)) (by rfl) m_law_take kp_law_take b_law_take .nil pass0 (pa_cons (pv 0) (pa_cons pe_int pa_nil))))
      (pss_cons (ps_if (PW.pt (pw_or (pt_val (pv 1)) (pw_or1 (pt_cmpR op_eq (pv 3) pe_int (nomark _))))) (pss_one (ps_ret (pe_call G_law_pick (hr.mono (by first | decide | omega)) (by rfl) m_law_pick kp_law_pick b_law_pick .nil pass0 (pa_cons (pv 0) (pa_cons (pv 2) pa_nil))))) pss_nil)
      (pss_one (ps_ret (pe_cmpR op_eq (pv 3) pe_int (nomark _))))))), ?_⟩
  try dsimp only [cxOf, Cx.nox, Cx.wish]
  rw [show start N__law_bad_number [v0, v1] = [some v0, some v1, none, none] from rfl]
  obtain ⟨c, M, kb, rfl, rfl, ok, k⟩ := h
  walk_at "go"
  refine take_go ok (by decide) (by decide) fun r1 H1 a1 b1 d1 ok1 => ?_
  walk_at "go"
  refine ⟨by show 5 ≤ sizeLine; decide, fun p hp => ?_⟩
  walk_at "go"
  refine take_go (ok1.new hp) (by decide) (by decide) fun r2 H2 a2 b2 d2 ok2 => ?_
  have g := d2.st _ _ (Ok.ne ok1 (ok1.notM hp)) upd_same
  have d02 := (d1.trans (Dx.new hp)).trans d2
  have pick : ∀ {E : XK}, pPick K (.ref c) (.ref p) H2 Q E := fun {E} => ⟨c, M, rfl, ok2, .inr ⟨p, _, rfl, SqL.of g, ok1.notM hp, by show 0 < 5; decide, by show 5 ≤ 100000; decide, fun r H' hr d ok' => by
    have hb : ∃ i : Int, r = .int i ∧ (i < -1000000000000 ∨ 1000000000000 < i) ∧ -1000000000000000000000000000000 ≤ i ∧ i ≤ 1000000000000000000000000000000 := by
      simp only [List.mem_cons, List.not_mem_nil, or_false] at hr
      rcases hr with e | e | e | e | e
      all_goals exact ⟨_, e, by omega⟩
    obtain ⟨i, e, hi⟩ := hb
    exact k _ _ ⟨.inl ⟨i, e, hi⟩, fun _ => ⟨i, e⟩⟩ (d02.trans d) ok'⟩⟩
  walk_at "go"
  refine go_bool (fun _ => ?_) (fun e => ?_)
  · walk_at "go"
    exact pick
  walk_at "go"
  refine go_dec (fun _ => ?_) (fun _ => ?_)
  · walk_at "go"
    exact pick
  walk_at "go"
  exact k _ _ ⟨.inr ⟨_, rfl⟩, fun z => by rw [e] at z; exact nomatch z⟩ d02 ok2
end
end Q
namespace Q
section
variable {P : Program} {w : World} {K : PySem.W.Frag} {mg : Str → Option Value} {base : Heap}
abbrev N__law_bar : List Str := ["_law_store_here", "_law_pool_here", "_law_kind"]
theorem sc__law_bar : FnScope N__law_bar ["_law_store_here", "_law_pool_here"] (defScope s__law_bar) := ⟨rfl, rfl, rfl, by decide +kernel, rfl, by decide +kernel, by decide +kernel⟩
def pBar (K : PySem.W.Frag) : P2 := fun v0 v1 H Q _ => ∃ (c : Addr) (M : Addr → Prop) (p : Addr) (ns : List Int), v0 = .ref c ∧ v1 = .ref p ∧ Ok M H c ∧ SqL K H p (ns.map V.int) ∧ ¬ M p ∧ 0 < ns.length ∧ ns.length ≤ 100000 ∧ (∀ n ∈ ns, InR n) ∧ Drawn M c H IsEnd Q
set_option maxHeartbeats 4000000 in
theorem D_law_bar  (T : Txt K mg) : Def P w K mg base CX0 (5) "_law_bar" s__law_bar ["_law_store_here", "_law_pool_here"] (Sp2 (pBar K)) := by
  obtain ⟨f, fd, m, F⟩ := T.f__law_bar.ex
  refine ⟨f, fd, m, F.kp, F.bindsN (ps := ["_law_store_here", "_law_pool_here"]) (fun _ _ _ _ _ _ us hl => match us, hl with | [_, _], _ => rfl), ?_, F⟩
  obtain ⟨f_law_near, fd_law_near, m_law_near, kp_law_near, b_law_near, G_law_near, F_law_near⟩ := (D_law_near (P := P) (w := w) (base := base) T).ex
  obtain ⟨f_law_pick, fd_law_pick, m_law_pick, kp_law_pick, b_law_pick, G_law_pick, F_law_pick⟩ := (D_law_pick (P := P) (w := w) (base := base) T).ex
  obtain ⟨f_law_take, fd_law_take, m_law_take, kp_law_take, b_law_take, G_law_take, F_law_take⟩ := (D_law_take (P := P) (w := w) (base := base) T).ex
  refine F.ok (CX := CX0) sc__law_bar len2 (fun cdv A outer s H vs Q E hr h => ?_)
  obtain ⟨v0, v1, rfl, h⟩ := h
  refine ⟨_, PSs.nox (pss_cons (ps_set (i := 2) sc__law_bar.nd rfl (Or.inl rfl) (pe_call G_law_take (hr.mono (by first | decide | omega)) (by rfl) m_law_take kp_law_take b_law_take .nil pass0 (pa_cons (pv 0) (pa_cons pe_int pa_nil))))
      (pss_cons (ps_if (pt_cmpR op_ltU (pv 2) pe_int (nomark _)) (pss_one (ps_ret pe_non)) pss_nil)
      (pss_cons (ps_if (pt_cmpR op_eq (pv 2) pe_int (nomark _)) (pss_one (ps_ret (pe_call G_law_near (hr.mono (by first | decide | omega)) (by rfl) m_law_near kp_law_near b_law_near .nil pass0 (pa_cons (pv 0) (pa_cons (pv 1) pa_nil))))) pss_nil)
      (pss_one (ps_ret (pe_call G_law_pick (hr.mono (by first | decide | omega)) (by rfl) m_law_pick kp_law_pick b_law_pick .nil pass0 (pa_cons (pv 0) (pa_cons (pv 1) pa_nil)))))))), ?_⟩
  try dsimp only [cxOf, Cx.nox, Cx.wish]
  rw [show start N__law_bar [v0, v1] = [some v0, some v1, none] from rfl]
  obtain ⟨c, M, p, ns, rfl, rfl, ok, hp, hM, hl0, hl1, hn, k⟩ := h
  walk_at "go"
  refine take_go ok (by decide) (by decide) fun r1 H1 a1 b1 d1 ok1 => ?_
  have hp1 := (ok.sub d1).sqL hM hp
  walk_at "go"
  refine go_dec (fun _ => ?_) (fun _ => ?_)
  · walk_at "go"
    exact k _ _ (.inl rfl) d1 ok1
  walk_at "go"
  refine go_dec (fun _ => ?_) (fun _ => ?_)
  · walk_at "go"
    exact ⟨c, M, p, ns, rfl, rfl, ok1, hp1, hM, hl0, hl1, hn, fun r H2 hr d ok2 => k _ _ (.inr hr) (d1.trans d) ok2⟩
  walk_at "go"
  refine ⟨c, M, rfl, ok1, .inr ⟨p, _, rfl, hp1, hM, by rw [List.length_map]; omega, by rw [List.length_map]; omega, fun r H2 hr d2 ok2 => ?_⟩⟩
  obtain ⟨n, rfl, hn1⟩ := int_mem hr
  exact k _ _ (.inr ⟨n, rfl, hn n hn1⟩) (d1.trans d2) ok2
abbrev N__law_is_number : List Str := ["_law_value_here"]
theorem sc__law_is_number : FnScope N__law_is_number ["_law_value_here"] (defScope s__law_is_number) := ⟨rfl, rfl, rfl, by decide +kernel, rfl, by decide +kernel, by decide +kernel⟩
set_option maxHeartbeats 4000000 in
theorem D_law_is_number  (T : Txt K mg) : Def P w K mg base CX0 (1) "_law_is_number" s__law_is_number ["_law_value_here"] (Sp1 pIsNum) := by
  obtain ⟨f, fd, m, F⟩ := T.f__law_is_number.ex
  refine ⟨f, fd, m, F.kp, F.bindsN (ps := ["_law_value_here"]) (fun _ _ _ _ _ _ us hl => match us, hl with | [_], _ => rfl), ?_, F⟩
  refine F.ok (CX := CX0) sc__law_is_number len1 (fun cdv A outer s H vs Q E hr h => ?_)
  obtain ⟨v0, rfl, h⟩ := h
  refine ⟨_, PSs.nox (pss_one (ps_ret (pe_and (pe_callB call_isi (by rfl) T.b_isinstance (by decide +kernel) (pa_cons (pv 0) (pa_cons (pe_bltn (v := .ty "int") (by rfl) T.b_int (by decide +kernel) rfl) pa_nil))) (pe_and (pe_not (pe_callB call_isi (by rfl) T.b_isinstance (by decide +kernel) (pa_cons (pv 0) (pa_cons (pe_bltn (v := .ty "bool") (by rfl) T.b_bool (by decide +kernel) rfl) pa_nil)))) (pe_one (pe_chain op_le0 op_le0 (pe_un un_neg0 (pe_op op_pow0 pe_int pe_int)) (pv 0) (pe_op op_pow0 pe_int pe_int))))))), ?_⟩
  try dsimp only [cxOf, Cx.nox, Cx.wish]
  rw [show start N__law_is_number [v0] = [some v0] from rfl]
  obtain ⟨hf, k⟩ := h
  cases v0 with
  | non =>
    walk_at "gi"
    exact k
  | bl b =>
    walk_at "gi"
    exact k
  | str s =>
    walk_at "gi"
    exact k
  | int i =>
    walk_at "gi"
    refine go_bool (fun e => ?_) (fun e => ?_)
    · walk_at "gi"
      have z : (decide (-1000000000000 ≤ i) && decide (i ≤ 1000000000000)) = decide (i ≤ 1000000000000) := by rw [e, Bool.true_and]
      rw [← z]
      exact k
    · have z : (decide (-1000000000000 ≤ i) && decide (i ≤ 1000000000000)) = false := by rw [e, Bool.false_and]
      rw [← z]
      exact k
  | _ => exact nomatch hf
abbrev N__law_tried : List Str := ["_law_numbers", "_law_told", "_law_number_here"]
theorem sc__law_tried : FnScope N__law_tried ["_law_numbers"] (defScope s__law_tried) := ⟨rfl, rfl, rfl, by decide +kernel, rfl, by decide +kernel, by decide +kernel⟩
theorem map_app3 (ns : List Int) (a b c : Int) : ns.map V.int ++ [V.int a, V.int b, V.int c] = (ns ++ [a, b, c]).map V.int := by
  rw [List.map_append]
  rfl
set_option maxHeartbeats 4000000 in
theorem D_law_tried  (T : Txt K mg) : Def P w K mg base CX0 (2) "_law_tried" s__law_tried ["_law_numbers"] (Sp1 (pTried K)) := by
  obtain ⟨f, fd, m, F⟩ := T.f__law_tried.ex
  refine ⟨f, fd, m, F.kp, F.bindsN (ps := ["_law_numbers"]) (fun _ _ _ _ _ _ us hl => match us, hl with | [_], _ => rfl), ?_, F⟩
  obtain ⟨f_law_clamped, fd_law_clamped, m_law_clamped, kp_law_clamped, b_law_clamped, G_law_clamped, F_law_clamped⟩ := (D_law_clamped (P := P) (w := w) (base := base) T).ex
  obtain ⟨f_law_unlike, fd_law_unlike, m_law_unlike, kp_law_unlike, b_law_unlike, G_law_unlike, F_law_unlike⟩ := (D_law_unlike (P := P) (w := w) (base := base) T).ex
  refine F.ok (CX := CX0) sc__law_tried len1 (fun cdv A outer s H vs Q E hr h => ?_)
  obtain ⟨v0, rfl, h⟩ := h
  refine ⟨_, PSs.nox (pss_cons (ps_set (i := 1) sc__law_tried.nd rfl (Or.inl rfl) (pe_lst (pa_cons (pe_un un_neg0 (pe_op op_pow0 pe_int pe_int)) (pa_cons (pe_op op_pow0 pe_int pe_int) pa_nil))))
      (pss_cons (ps_for PassesOwn.never rfl (pi_list (pv 0)) (pg_name (i := 2) sc__law_tried.nd rfl (Or.inl rfl)) (pss_one (ps_set (i := 1) sc__law_tried.nd rfl (Or.inl rfl) (pe_op op_addU (pv 1) (pe_lst (pa_cons (pe_call G_law_clamped (hr.mono (by first | decide | omega)) (by rfl) m_law_clamped kp_law_clamped b_law_clamped .nil pass0 (pa_cons (pe_op op_sub0 (pv 2) pe_int) pa_nil)) (pa_cons (pv 2) (pa_cons (pe_call G_law_clamped (hr.mono (by first | decide | omega)) (by rfl) m_law_clamped kp_law_clamped b_law_clamped .nil pass0 (pa_cons (pe_op op_addU (pv 2) pe_int) pa_nil)) pa_nil))))))))
      (pss_one (ps_ret (pe_callB cr_sortedI (by rfl) T.b_sorted (by decide +kernel) (pa_cons (pe_call G_law_unlike (hr.mono (by first | decide | omega)) (by rfl) m_law_unlike kp_law_unlike b_law_unlike .nil pass0 (pa_cons (pv 1) pa_nil)) pa_nil)))))), ?_⟩
  try dsimp only [cxOf, Cx.nox, Cx.wish]
  rw [show start N__law_tried [v0] = [some v0, none, none] from rfl]
  obtain ⟨p, ns, rfl, hp, hl, hn, k⟩ := h
  walk_at "go"
  refine ⟨by show 2 ≤ sizeLine; decide, fun l hl0 => ?_⟩
  walk_at "go"
  refine for_l (sql_new hp hl0) (fun i σ' H' => ∃ (t : Addr) (ms : List Int) (v2 : Option V), σ' = [some (.ref p), some (.ref t), v2] ∧ H' t = some (.lst (ms.map V.int)) ∧ (∀ m ∈ ms, InR m) ∧ ms.length = 2 + 3 * i ∧ Dx No H H') ⟨l, [-1000000000000, 1000000000000], none, rfl, upd_same, fun m hm => ?_, rfl, Dx.new hl0⟩ (fun i σ' H' _ ⟨_, _, _, _, _, _, _, d⟩ => d.sqL id hp) ?_ ?_
  · simp only [List.mem_cons, List.not_mem_nil, or_false] at hm
    omega
  · rintro i v σ' H' hv ⟨t, ms, v2, rfl, h1, h2, h3, h4⟩
    obtain ⟨n, rfl, hn1⟩ := int_mem (List.mem_of_getElem? hv)
    have hi : i < (ns.map V.int).length := (List.getElem?_eq_some_iff.mp hv).1
    rw [List.length_map] at hi
    have hr := hn n hn1
    walk_at "go"
    refine ⟨_, rfl, fun a ha _ => ?_⟩
    walk_at "go"
    refine ⟨_, rfl, fun b hb _ => ?_⟩
    walk_at "go"
    refine ⟨by show 3 ≤ sizeLine; decide, fun q hq => ?_⟩
    walk_at "go"
    refine go_cat (stands h1 hq) upd_same (by rw [List.length_map]; exact size_ok (by simp only [List.length_cons, List.length_nil]; omega)) fun u hu => ?_
    walk_at "go"
    refine ⟨u, ms ++ [a, n, b], _, rfl, by rw [upd_same, map_app3], fun m hm => ?_, by rw [List.length_append, h3]; simp only [List.length_cons, List.length_nil]; omega, h4.trans ((Dx.new hq).trans (Dx.new hu))⟩
    rcases List.mem_append.mp hm with z | z
    · exact h2 m z
    · simp only [List.mem_cons, List.not_mem_nil, or_false] at z
      rcases z with z | z | z <;> subst z <;> assumption
  · rintro σ' H' ⟨t, ms, v2, rfl, h1, h2, h3, h4⟩
    rw [List.length_map] at h3
    walk_at "go"
    refine ⟨t, ms, rfl, SqL.of h1, by omega, fun u ys H2 hu g1 g2 d2 => ?_⟩
    obtain ⟨ks, rfl, g3, g4⟩ := g2
    walk_at "go"
    refine go_sorted (SqL.of g1) fun ns' w hperm _ hw => ?_
    refine k w _ _ (h4.dm w (d2.dm w hw)) upd_same ⟨ns', rfl, fun m hm => h2 m (g3 m (hperm.mem_iff.mp hm)), ?_⟩ ((h4.trans d2).trans (Dx.new hw))
    rw [hperm.length_eq]
    omega
abbrev N_is_number : List Str := ["value"]
theorem sc_is_number : FnScope N_is_number ["value"] (defScope s_is_number) := ⟨rfl, rfl, rfl, by decide +kernel, rfl, by decide +kernel, by decide +kernel⟩
set_option maxHeartbeats 4000000 in
theorem Dis_number  (T : Txt K mg) : Def P w K mg base CX0 (1) "is_number" s_is_number ["value"] (Sp1 pIsNum) := by
  obtain ⟨f, fd, m, F⟩ := T.f_is_number.ex
  refine ⟨f, fd, m, F.kp, F.bindsN (ps := ["value"]) (fun _ _ _ _ _ _ us hl => match us, hl with | [_], _ => rfl), ?_, F⟩
  obtain ⟨tc_LIMIT, ec_LIMIT⟩ := T.c_LIMIT
  refine F.ok (CX := CX0) sc_is_number len1 (fun cdv A outer s H vs Q E hr h => ?_)
  obtain ⟨v0, rfl, h⟩ := h
  refine ⟨_, PSs.nox (pss_cons (ps_if (PW.pt (pw_or (pt_not (pt_val (pe_callB call_isi (by rfl) T.b_isinstance (by decide +kernel) (pa_cons (pv 0) (pa_cons (pe_bltn (v := .ty "int") (by rfl) T.b_int (by decide +kernel) rfl) pa_nil))))) (pw_or1 (pt_val (pe_callB call_isi (by rfl) T.b_isinstance (by decide +kernel) (pa_cons (pv 0) (pa_cons (pe_bltn (v := .ty "bool") (by rfl) T.b_bool (by decide +kernel) rfl) pa_nil))))))) (pss_one (ps_ret pe_bl)) pss_nil)
      (pss_one (ps_ret (pe_chain op_le0 op_le0 (pe_un un_neg0 (pe_glob (v := .int 1000000000000) (by rfl) ec_LIMIT ⟨_, rfl⟩)) (pv 0) (pe_glob (v := .int 1000000000000) (by rfl) ec_LIMIT ⟨_, rfl⟩))))), ?_⟩
  try dsimp only [cxOf, Cx.nox, Cx.wish]
  rw [show start N_is_number [v0] = [some v0] from rfl]
  obtain ⟨hf, k⟩ := h
  cases v0 with
  | non =>
    walk_at "gi"
    exact k
  | bl b =>
    walk_at "gi"
    exact k
  | str s =>
    walk_at "gi"
    exact k
  | int i =>
    walk_at "gi"
    refine go_bool (fun e => ?_) (fun e => ?_)
    · walk_at "gi"
      have z : (decide (-1000000000000 ≤ i) && decide (i ≤ 1000000000000)) = decide (i ≤ 1000000000000) := by rw [e, Bool.true_and]
      rw [← z]
      exact k
    · have z : (decide (-1000000000000 ≤ i) && decide (i ≤ 1000000000000)) = false := by rw [e, Bool.false_and]
      rw [← z]
      exact k
  | _ => exact nomatch hf
abbrev N_check_number : List Str := ["value"]
theorem sc_check_number : FnScope N_check_number ["value"] (defScope s_check_number) := ⟨rfl, rfl, rfl, by decide +kernel, rfl, by decide +kernel, by decide +kernel⟩
set_option maxHeartbeats 4000000 in
theorem Dcheck_number  (T : Txt K mg) : Def P w K mg base (L2.CX P w) (3) "check_number" s_check_number ["value"] (Sp1 (pCheckNum K)) := by
  obtain ⟨f, fd, m, F⟩ := T.f_check_number.ex
  refine ⟨f, fd, m, F.kp, F.bindsN (ps := ["value"]) (fun _ _ _ _ _ _ us hl => match us, hl with | [_], _ => rfl), ?_, F⟩
  obtain ⟨fis_number, fdis_number, mis_number, kpis_number, bis_number, Gis_number, Fis_number⟩ := (Dis_number (P := P) (w := w) (base := base) T).ex
  obtain ⟨fdi_BadNumber, bi_BadNumber, Gi_BadNumber⟩ := (Di_BadNumber (P := P) (w := w) (base := base) T)
  refine F.ok (CX := (L2.CX P w)) sc_check_number len1 (fun cdv A outer s H vs Q E hr h => ?_)
  obtain ⟨v0, rfl, h⟩ := h
  refine ⟨_, (pss_cons (ps_if (pt_not (pt_val (pe_call Gis_number (hr.mono (by first | decide | omega)) (by rfl) mis_number kpis_number bis_number .nil pass0 (pa_cons (pv 0) pa_nil)))) (pss_one (ps_raise rfl (takes_of rfl rfl rfl rfl) (pmk_oex T.x_BadNumber.oex T.i_BadNumber.ini T.i_BadNumber.ty Gi_BadNumber (hr.mono (by first | decide | omega)) bi_BadNumber .nil pass0 (by rfl) T.g_BadNumber (pa_cons (pv 0) pa_nil)))) pss_nil)
      (pss_one (ps_ret (pv 0)))), ?_⟩
  try dsimp only [cxOf, Cx.nox, Cx.wish]
  rw [show start N_check_number [v0] = [some v0] from rfl]
  obtain ⟨hf, k1, k2⟩ := h
  walk_at "go"
  refine ⟨hf, ?_⟩
  walk_at "go"
  refine go_nbool (fun e => ?_) (fun e => ?_)
  · refine go_mkO ?_
    walk_at "go"
    exact mk1 (k2 e)
  · walk_at "go"
    exact k1 e
abbrev N_check_end : List Str := ["value"]
theorem sc_check_end : FnScope N_check_end ["value"] (defScope s_check_end) := ⟨rfl, rfl, rfl, by decide +kernel, rfl, by decide +kernel, by decide +kernel⟩
theorem endOk_ne {v : V} (h : v ≠ .non) : endOk v = isNumV v := by
  unfold endOk
  rw [decide_eq_false h, Bool.false_or]
set_option maxHeartbeats 4000000 in
theorem Dcheck_end  (T : Txt K mg) : Def P w K mg base (L2.CX P w) (4) "check_end" s_check_end ["value"] (Sp1 (pCheckEnd K)) := by
  obtain ⟨f, fd, m, F⟩ := T.f_check_end.ex
  refine ⟨f, fd, m, F.kp, F.bindsN (ps := ["value"]) (fun _ _ _ _ _ _ us hl => match us, hl with | [_], _ => rfl), ?_, F⟩
  obtain ⟨fcheck_number, fdcheck_number, mcheck_number, kpcheck_number, bcheck_number, Gcheck_number, Fcheck_number⟩ := (Dcheck_number (P := P) (w := w) (base := base) T).ex
  refine F.ok (CX := (L2.CX P w)) sc_check_end len1 (fun cdv A outer s H vs Q E hr h => ?_)
  obtain ⟨v0, rfl, h⟩ := h
  refine ⟨_, (pss_one (ps_if (pt_cmpR op_isnot0 (pv 0) pe_non (nomark _)) (pss_one (ps_expr (pe_call Gcheck_number (hr.mono (by first | decide | omega)) (by rfl) mcheck_number kpcheck_number bcheck_number .nil (passes_call (takes_of rfl rfl rfl rfl) (fun _ _ _ _ z => z)) (pa_cons (pv 0) pa_nil)))) pss_nil)), ?_⟩
  try dsimp only [cxOf, Cx.nox, Cx.wish]
  rw [show start N_check_end [v0] = [some v0] from rfl]
  obtain ⟨hf, k1, k2⟩ := h
  by_cases e : v0 = .non
  · subst e
    walk_at "go"
    exact k1 rfl
  · rw [endOk_ne e] at k1 k2
    walk_at "go"
    refine ⟨hf, fun z => ?_, fun z => k2 z⟩
    walk_at "go"
    exact k1 z
abbrev N_lesser_end : List Str := ["first", "second"]
theorem sc_lesser_end : FnScope N_lesser_end ["first", "second"] (defScope s_lesser_end) := ⟨rfl, rfl, rfl, by decide +kernel, rfl, by decide +kernel, by decide +kernel⟩
set_option maxHeartbeats 4000000 in
theorem Dlesser_end  (T : Txt K mg) : Def P w K mg base CX0 (1) "lesser_end" s_lesser_end ["first", "second"] (Sp2 pLesser) := by
  obtain ⟨f, fd, m, F⟩ := T.f_lesser_end.ex
  refine ⟨f, fd, m, F.kp, F.bindsN (ps := ["first", "second"]) (fun _ _ _ _ _ _ us hl => match us, hl with | [_, _], _ => rfl), ?_, F⟩
  refine F.ok (CX := CX0) sc_lesser_end len2 (fun cdv A outer s H vs Q E hr h => ?_)
  obtain ⟨v0, v1, rfl, h⟩ := h
  refine ⟨_, PSs.nox (pss_cons (ps_if (pt_cmpR op_is0 (pv 0) pe_non (nomark _)) (pss_one (ps_ret (pv 1))) pss_nil)
      (pss_cons (ps_if (PW.pt (pw_or (pt_cmpR op_is0 (pv 1) pe_non (nomark _)) (pw_or1 (pt_cmpR op_ltU (pv 0) (pv 1) (nomark _))))) (pss_one (ps_ret (pv 0))) pss_nil)
      (pss_one (ps_ret (pv 1))))), ?_⟩
  try dsimp only [cxOf, Cx.nox, Cx.wish]
  rw [show start N_lesser_end [v0, v1] = [some v0, some v1] from rfl]
  obtain ⟨h0, h1, k⟩ := h
  rcases h0 with rfl | ⟨i, rfl⟩
  · walk_at "go"
    exact k
  rcases h1 with rfl | ⟨j, rfl⟩
  · walk_at "go"
    exact k
  walk_at "go"
  refine go_dec (fun e => ?_) (fun e => ?_)
  · walk_at "go"
    have z : lesserV (.int i) (.int j) = .int i := by
      show (if i < j then V.int i else V.int j) = _
      rw [if_pos e]
    rw [← z]
    exact k
  · walk_at "go"
    have z : lesserV (.int i) (.int j) = .int j := by
      show (if i < j then V.int i else V.int j) = _
      rw [if_neg e]
    rw [← z]
    exact k
abbrev N_may_take : List Str := ["light", "ceiling"]
theorem sc_may_take : FnScope N_may_take ["light", "ceiling"] (defScope s_may_take) := ⟨rfl, rfl, rfl, by decide +kernel, rfl, by decide +kernel, by decide +kernel⟩
/-- light under the ceiling -/
def leV (a b : V) : Bool := match a, b with
  | .int i, .int j => decide (i ≤ j)
  | _, _ => true
def told (r : V ⊕ V) (A B : V → Prop) : Prop := match r with
  | .inl v => A v
  | .inr x => B x
def askTake (a b : V) : V ⊕ V := if isNumV a = true then if endOk b = true then .inl (.bl (leV a b)) else .inr b else .inr a
def askLower (a b : V) : V ⊕ V := if endOk a = true then if endOk b = true then .inl (lesserV a b) else .inr b else .inr a
def askNum (a : V) : V ⊕ V := if isNumV a = true then .inl a else .inr a
theorem take_bad {a b : V} (h : isNumV a = false) : askTake a b = .inr a := by
  unfold askTake
  rw [h, if_neg Bool.false_ne_true]
theorem take_bad2 {a b : V} (h : isNumV a = true) (h2 : endOk b = false) : askTake a b = .inr b := by
  unfold askTake
  rw [if_pos h, h2, if_neg Bool.false_ne_true]
theorem take_ok {a b : V} (h : isNumV a = true) (h2 : endOk b = true) : askTake a b = .inl (.bl (leV a b)) := by
  unfold askTake
  rw [if_pos h, if_pos h2]
theorem lower_bad {a b : V} (h : endOk a = false) : askLower a b = .inr a := by
  unfold askLower
  rw [h, if_neg Bool.false_ne_true]
theorem lower_bad2 {a b : V} (h : endOk a = true) (h2 : endOk b = false) : askLower a b = .inr b := by
  unfold askLower
  rw [if_pos h, h2, if_neg Bool.false_ne_true]
theorem lower_ok {a b : V} (h : endOk a = true) (h2 : endOk b = true) : askLower a b = .inl (lesserV a b) := by
  unfold askLower
  rw [if_pos h, if_pos h2]
theorem num_bad {a : V} (h : isNumV a = false) : askNum a = .inr a := by
  unfold askNum
  rw [h, if_neg Bool.false_ne_true]
theorem num_ok {a : V} (h : isNumV a = true) : askNum a = .inl a := by
  unfold askNum
  rw [if_pos h]
def pMayTake (K : PySem.W.Frag) : P2 := fun v0 v1 H Q E => flatE v0 = true ∧ flatE v1 = true ∧ told (askTake v0 v1) (fun v => Q v H) (fun x => Bad1 K "BadNumber" "number" x H E)
def pLower (K : PySem.W.Frag) : P2 := fun v0 v1 H Q E => flatE v0 = true ∧ flatE v1 = true ∧ told (askLower v0 v1) (fun v => Q v H) (fun x => Bad1 K "BadNumber" "number" x H E)
set_option maxHeartbeats 4000000 in
theorem Dmay_take  (T : Txt K mg) : Def P w K mg base (L2.CX P w) (5) "may_take" s_may_take ["light", "ceiling"] (Sp2 (pMayTake K)) := by
  obtain ⟨f, fd, m, F⟩ := T.f_may_take.ex
  refine ⟨f, fd, m, F.kp, F.bindsN (ps := ["light", "ceiling"]) (fun _ _ _ _ _ _ us hl => match us, hl with | [_, _], _ => rfl), ?_, F⟩
  obtain ⟨fcheck_end, fdcheck_end, mcheck_end, kpcheck_end, bcheck_end, Gcheck_end, Fcheck_end⟩ := (Dcheck_end (P := P) (w := w) (base := base) T).ex
  obtain ⟨fcheck_number, fdcheck_number, mcheck_number, kpcheck_number, bcheck_number, Gcheck_number, Fcheck_number⟩ := (Dcheck_number (P := P) (w := w) (base := base) T).ex
  refine F.ok (CX := (L2.CX P w)) sc_may_take len2 (fun cdv A outer s H vs Q E hr h => ?_)
  obtain ⟨v0, v1, rfl, h⟩ := h
  refine ⟨_, (pss_cons (ps_expr (pe_call Gcheck_number (hr.mono (by first | decide | omega)) (by rfl) mcheck_number kpcheck_number bcheck_number .nil (passes_call (takes_of rfl rfl rfl rfl) (fun _ _ _ _ z => z)) (pa_cons (pv 0) pa_nil)))
      (pss_cons (ps_expr (pe_call Gcheck_end (hr.mono (by first | decide | omega)) (by rfl) mcheck_end kpcheck_end bcheck_end .nil (passes_call (takes_of rfl rfl rfl rfl) (fun _ _ _ _ z => z)) (pa_cons (pv 1) pa_nil)))
      (pss_one (ps_ret (pe_or (pe_cmpR op_is0 (pv 1) pe_non (nomark _)) (pe_one (pe_cmpR op_le0 (pv 0) (pv 1) (nomark _)))))))), ?_⟩
  try dsimp only [cxOf, Cx.nox, Cx.wish]
  rw [show start N_may_take [v0, v1] = [some v0, some v1] from rfl]
  obtain ⟨f0, f1, k⟩ := h
  walk_at "go"
  refine ⟨f0, fun e0 => ?_, fun e0 => ?_⟩
  rotate_left
  · rw [take_bad e0] at k
    exact k
  walk_at "go"
  refine ⟨f1, fun e1 => ?_, fun e1 => ?_⟩
  rotate_left
  · rw [take_bad2 e0 e1] at k
    exact k
  rw [take_ok e0 e1] at k
  obtain ⟨i, rfl, _⟩ := isNum_to e0
  rcases endOk_to e1 with rfl | ⟨j, rfl, _⟩
  · walk_at "go"
    exact k
  · walk_at "go"
    exact k
abbrev N_lower_ceiling : List Str := ["first", "second"]
theorem sc_lower_ceiling : FnScope N_lower_ceiling ["first", "second"] (defScope s_lower_ceiling) := ⟨rfl, rfl, rfl, by decide +kernel, rfl, by decide +kernel, by decide +kernel⟩
set_option maxHeartbeats 4000000 in
theorem Dlower_ceiling  (T : Txt K mg) : Def P w K mg base (L2.CX P w) (5) "lower_ceiling" s_lower_ceiling ["first", "second"] (Sp2 (pLower K)) := by
  obtain ⟨f, fd, m, F⟩ := T.f_lower_ceiling.ex
  refine ⟨f, fd, m, F.kp, F.bindsN (ps := ["first", "second"]) (fun _ _ _ _ _ _ us hl => match us, hl with | [_, _], _ => rfl), ?_, F⟩
  obtain ⟨fcheck_end, fdcheck_end, mcheck_end, kpcheck_end, bcheck_end, Gcheck_end, Fcheck_end⟩ := (Dcheck_end (P := P) (w := w) (base := base) T).ex
  obtain ⟨flesser_end, fdlesser_end, mlesser_end, kplesser_end, blesser_end, Glesser_end, Flesser_end⟩ := (Dlesser_end (P := P) (w := w) (base := base) T).ex
  refine F.ok (CX := (L2.CX P w)) sc_lower_ceiling len2 (fun cdv A outer s H vs Q E hr h => ?_)
  obtain ⟨v0, v1, rfl, h⟩ := h
  refine ⟨_, (pss_cons (ps_expr (pe_call Gcheck_end (hr.mono (by first | decide | omega)) (by rfl) mcheck_end kpcheck_end bcheck_end .nil (passes_call (takes_of rfl rfl rfl rfl) (fun _ _ _ _ z => z)) (pa_cons (pv 0) pa_nil)))
      (pss_cons (ps_expr (pe_call Gcheck_end (hr.mono (by first | decide | omega)) (by rfl) mcheck_end kpcheck_end bcheck_end .nil (passes_call (takes_of rfl rfl rfl rfl) (fun _ _ _ _ z => z)) (pa_cons (pv 1) pa_nil)))
      (pss_one (ps_ret (pe_call Glesser_end (hr.mono (by first | decide | omega)) (by rfl) mlesser_end kplesser_end blesser_end .nil pass0 (pa_cons (pv 0) (pa_cons (pv 1) pa_nil))))))), ?_⟩
  try dsimp only [cxOf, Cx.nox, Cx.wish]
  rw [show start N_lower_ceiling [v0, v1] = [some v0, some v1] from rfl]
  obtain ⟨f0, f1, k⟩ := h
  walk_at "go"
  refine ⟨f0, fun e0 => ?_, fun e0 => ?_⟩
  rotate_left
  · rw [lower_bad e0] at k
    exact k
  walk_at "go"
  refine ⟨f1, fun e1 => ?_, fun e1 => ?_⟩
  rotate_left
  · rw [lower_bad2 e0 e1] at k
    exact k
  rw [lower_ok e0 e1] at k
  walk_at "go"
  exact ⟨isEndI (endOk_to e0), isEndI (endOk_to e1), k⟩
end
end Q
namespace Q
section
variable {P : Program} {w : World} {K : PySem.W.Frag} {mg : Str → Option Value} {base : Heap}
abbrev N__law_match : List Str := ["_law_left", "_law_right", "_law_strict", "_law_k"]
theorem sc__law_match : FnScope N__law_match ["_law_left", "_law_right", "_law_strict"] (defScope s__law_match) := ⟨rfl, rfl, rfl, by decide +kernel, rfl, by decide +kernel, by decide +kernel⟩
theorem match_zero {K : PySem.W.Frag} : ∀ vs H Q E, Sp3 (pMatch K 0) vs H Q E → Sp3 pMatchF vs H Q E ∨ Sp3 pMatchF vs H Q E := by
  rintro vs H Q E ⟨a, b, c, rfl, h | ⟨st, x, rfl, rfl, h, _⟩⟩
  · exact .inl ⟨a, b, c, rfl, h⟩
  · rcases h.cases with ⟨f, _⟩ | ⟨_, m, _, e⟩
    · exact nomatch f
    · exact absurd e (by omega)
theorem match_succ {K : PySem.W.Frag} {n : Nat} : ∀ vs H Q E, Sp3 (pMatch K (n + 1)) vs H Q E → Sp3 pMatchF vs H Q E ∨ Sp3 (pMatchE K (n + 1)) vs H Q E := by
  rintro vs H Q E ⟨a, b, c, rfl, h | h⟩
  · exact .inl ⟨a, b, c, rfl, h⟩
  · exact .inr ⟨a, b, c, rfl, h⟩
set_option maxHeartbeats 4000000 in
theorem D_law_match_0  (T : Txt K mg) : Def P w K mg base CX0 (1) "_law_match" s__law_match ["_law_left", "_law_right", "_law_strict"] (Sp3 pMatchF) := by
  obtain ⟨f, fd, m, F⟩ := T.f__law_match.ex
  refine ⟨f, fd, m, F.kp, F.bindsN (ps := ["_law_left", "_law_right", "_law_strict"]) (fun _ _ _ _ _ _ us hl => match us, hl with | [_, _, _], _ => rfl), ?_, F⟩
  refine F.ok (CX := CX0) sc__law_match len3 (fun cdv A outer s H vs Q E hr h => ?_)
  obtain ⟨v0, v1, v2, rfl, h⟩ := h
  refine ⟨_, PSs.nox (pss_cons (ps_if (PW.pt (pw_or (pt_cmpR op_is0 (pv 0) pe_non (nomark _)) (pw_or1 (pt_cmpR op_is0 (pv 1) pe_non (nomark _))))) (pss_one (ps_ret (pe_and (pe_cmpR op_is0 (pv 0) pe_non (nomark _)) (pe_one (pe_cmpR op_is0 (pv 1) pe_non (nomark _)))))) pss_nil)
      (pss_cons (ps_if (PW.pt (pw_or (pt_val (pe_callB call_isi (by rfl) T.b_isinstance (by decide +kernel) (pa_cons (pv 0) (pa_cons (pe_bltn (v := .ty "bool") (by rfl) T.b_bool (by decide +kernel) rfl) pa_nil)))) (pw_or1 (pt_val (pe_callB call_isi (by rfl) T.b_isinstance (by decide +kernel) (pa_cons (pv 1) (pa_cons (pe_bltn (v := .ty "bool") (by rfl) T.b_bool (by decide +kernel) rfl) pa_nil))))))) (pss_one (ps_ret (pe_and (pe_callB call_isi (by rfl) T.b_isinstance (by decide +kernel) (pa_cons (pv 0) (pa_cons (pe_bltn (v := .ty "bool") (by rfl) T.b_bool (by decide +kernel) rfl) pa_nil))) (pe_and (pe_callB call_isi (by rfl) T.b_isinstance (by decide +kernel) (pa_cons (pv 1) (pa_cons (pe_bltn (v := .ty "bool") (by rfl) T.b_bool (by decide +kernel) rfl) pa_nil))) (pe_one (pe_cmpR op_eq (pv 0) (pv 1) (nomark _))))))) pss_nil)
      (pss_cons (ps_if (PW.pt (pw_or (pt_val (pe_callB call_isi (by rfl) T.b_isinstance (by decide +kernel) (pa_cons (pv 0) (pa_cons (pe_bltn (v := .ty "int") (by rfl) T.b_int (by decide +kernel) rfl) pa_nil)))) (pw_or1 (pt_val (pe_callB call_isi (by rfl) T.b_isinstance (by decide +kernel) (pa_cons (pv 1) (pa_cons (pe_bltn (v := .ty "int") (by rfl) T.b_int (by decide +kernel) rfl) pa_nil))))))) (pss_one (ps_ret (pe_and (pe_callB call_isi (by rfl) T.b_isinstance (by decide +kernel) (pa_cons (pv 0) (pa_cons (pe_bltn (v := .ty "int") (by rfl) T.b_int (by decide +kernel) rfl) pa_nil))) (pe_and (pe_callB call_isi (by rfl) T.b_isinstance (by decide +kernel) (pa_cons (pv 1) (pa_cons (pe_bltn (v := .ty "int") (by rfl) T.b_int (by decide +kernel) rfl) pa_nil))) (pe_one (pe_cmpR op_eq (pv 0) (pv 1) (nomark _))))))) pss_nil)
      (pss_cons (ps_if (PW.pt (pw_or (pt_val (pe_callB call_isi (by rfl) T.b_isinstance (by decide +kernel) (pa_cons (pv 0) (pa_cons (pe_bltn (v := .ty "str") (by rfl) T.b_str (by decide +kernel) rfl) pa_nil)))) (pw_or1 (pt_val (pe_callB call_isi (by rfl) T.b_isinstance (by decide +kernel) (pa_cons (pv 1) (pa_cons (pe_bltn (v := .ty "str") (by rfl) T.b_str (by decide +kernel) rfl) pa_nil))))))) (pss_one (ps_ret (pe_and (pe_callB call_isi (by rfl) T.b_isinstance (by decide +kernel) (pa_cons (pv 0) (pa_cons (pe_bltn (v := .ty "str") (by rfl) T.b_str (by decide +kernel) rfl) pa_nil))) (pe_and (pe_callB call_isi (by rfl) T.b_isinstance (by decide +kernel) (pa_cons (pv 1) (pa_cons (pe_bltn (v := .ty "str") (by rfl) T.b_str (by decide +kernel) rfl) pa_nil))) (pe_one (pe_cmpR op_eq (pv 0) (pv 1) (nomark _))))))) pss_nil)
      (pss_cons (ps_if (PW.pt (pw_or (pt_val (pe_callB call_isi (by rfl) T.b_isinstance (by decide +kernel) (pa_cons (pv 0) (pa_cons (pe_bltn (v := .ty "dict") (by rfl) T.b_dict (by decide +kernel) rfl) pa_nil)))) (pw_or1 (pt_val (pe_callB call_isi (by rfl) T.b_isinstance (by decide +kernel) (pa_cons (pv 1) (pa_cons (pe_bltn (v := .ty "dict") (by rfl) T.b_dict (by decide +kernel) rfl) pa_nil))))))) (pss_one ps_never) pss_nil)
      (pss_cons (ps_if (PW.pt (pw_or (pt_not (pt_val (pe_callB call_isiT (by rfl) T.b_isinstance (by decide +kernel) (pa_cons (pv 0) (pa_cons (pe_tup (pa_cons (pe_bltn (v := .ty "list") (by rfl) T.b_list (by decide +kernel) rfl) (pa_cons (pe_bltn (v := .ty "tuple") (by rfl) T.b_tuple (by decide +kernel) rfl) pa_nil))) pa_nil))))) (pw_or1 (pt_not (pt_val (pe_callB call_isiT (by rfl) T.b_isinstance (by decide +kernel) (pa_cons (pv 1) (pa_cons (pe_tup (pa_cons (pe_bltn (v := .ty "list") (by rfl) T.b_list (by decide +kernel) rfl) (pa_cons (pe_bltn (v := .ty "tuple") (by rfl) T.b_tuple (by decide +kernel) rfl) pa_nil))) pa_nil)))))))) (pss_one (ps_ret pe_bl)) pss_nil)
      (pss_cons (ps_if (PW.pt (pw_or (pt_cmpR op_ne (pe_callB call_lenU (by rfl) T.b_len (by decide +kernel) (pa_cons (pv 0) pa_nil)) (pe_callB call_lenU (by rfl) T.b_len (by decide +kernel) (pa_cons (pv 1) pa_nil)) (nomark _)) (pw_or1 (PW.pt (pw_and (pt_val (pv 2)) (pw_and1 (pt_cmpR op_ne (pe_callB call_isi (by rfl) T.b_isinstance (by decide +kernel) (pa_cons (pv 0) (pa_cons (pe_bltn (v := .ty "list") (by rfl) T.b_list (by decide +kernel) rfl) pa_nil))) (pe_callB call_isi (by rfl) T.b_isinstance (by decide +kernel) (pa_cons (pv 1) (pa_cons (pe_bltn (v := .ty "list") (by rfl) T.b_list (by decide +kernel) rfl) pa_nil))) (nomark _)))))))) (pss_one (ps_ret pe_bl)) pss_nil)
      (pss_cons ps_never
      (pss_one (ps_ret pe_bl)))))))))), ?_⟩
  try dsimp only [cxOf, Cx.nox, Cx.wish]
  rw [show start N__law_match [v0, v1, v2] = [some v0, some v1, some v2, none] from rfl]
  obtain ⟨st, rfl, f0, f1, k⟩ := h
  cases v0 with
  | ref a => exact nomatch f0
  | non =>
    cases v1 with
    | non =>
      walk_at "gi"
      exact k
    | bl b =>
      walk_at "gi"
      exact k
    | int b =>
      walk_at "gi"
      exact k
    | str b =>
      walk_at "gi"
      exact k
    | _ => exact nomatch f1
  | bl a =>
    cases v1 with
    | non =>
      walk_at "gi"
      exact k
    | bl b =>
      walk_at "gi"
      rw [show decide (V.bl a = V.bl b) = decide (a = b) by rw [dec_bl, Bool.beq_eq_decide_eq]] at k
      exact k
    | int b =>
      walk_at "gi"
      exact k
    | str b =>
      walk_at "gi"
      exact k
    | _ => exact nomatch f1
  | int a =>
    cases v1 with
    | non =>
      walk_at "gi"
      exact k
    | bl b =>
      walk_at "gi"
      exact k
    | int b =>
      walk_at "gi"
      rw [show decide (V.int a = V.int b) = decide (a = b) by rw [dec_int, Bool.beq_eq_decide_eq]] at k
      exact k
    | str b =>
      walk_at "gi"
      exact k
    | _ => exact nomatch f1
  | str a =>
    cases v1 with
    | non =>
      walk_at "gi"
      exact k
    | bl b =>
      walk_at "gi"
      exact k
    | int b =>
      walk_at "gi"
      exact k
    | str b =>
      walk_at "gi"
      rw [show decide (V.str a = V.str b) = decide (a = b) by rw [dec_str, Bool.beq_eq_decide_eq]] at k
      exact k
    | _ => exact nomatch f1
  | _ => exact nomatch f0
set_option maxHeartbeats 4000000 in
theorem D_law_match_s {n : Nat} (T : Txt K mg) (ih_law_match : Def P w K mg base CX0 (n + 1) "_law_match" s__law_match ["_law_left", "_law_right", "_law_strict"] (Sp3 (pMatch K n))) : Def P w K mg base CX0 (n + 2) "_law_match" s__law_match ["_law_left", "_law_right", "_law_strict"] (Sp3 (pMatchE K (n + 1))) := by
  obtain ⟨f, fd, m, F⟩ := T.f__law_match.ex
  refine ⟨f, fd, m, F.kp, F.bindsN (ps := ["_law_left", "_law_right", "_law_strict"]) (fun _ _ _ _ _ _ us hl => match us, hl with | [_, _, _], _ => rfl), ?_, F⟩
  obtain ⟨f_law_match, fd_law_match, m_law_match, kp_law_match, b_law_match, G_law_match, F_law_match⟩ := (ih_law_match).ex
  refine F.ok (CX := CX0) sc__law_match len3 (fun cdv A outer s H vs Q E hr h => ?_)
  obtain ⟨v0, v1, v2, rfl, h⟩ := h
  refine ⟨_, PSs.nox (pss_cons (ps_if (PW.pt (pw_or (pt_cmpR op_is0 (pv 0) pe_non (nomark _)) (pw_or1 (pt_cmpR op_is0 (pv 1) pe_non (nomark _))))) (pss_one (ps_ret (pe_and (pe_cmpR op_is0 (pv 0) pe_non (nomark _)) (pe_one (pe_cmpR op_is0 (pv 1) pe_non (nomark _)))))) pss_nil)
      (pss_cons (ps_if (PW.pt (pw_or (pt_val (pe_callB call_isi (by rfl) T.b_isinstance (by decide +kernel) (pa_cons (pv 0) (pa_cons (pe_bltn (v := .ty "bool") (by rfl) T.b_bool (by decide +kernel) rfl) pa_nil)))) (pw_or1 (pt_val (pe_callB call_isi (by rfl) T.b_isinstance (by decide +kernel) (pa_cons (pv 1) (pa_cons (pe_bltn (v := .ty "bool") (by rfl) T.b_bool (by decide +kernel) rfl) pa_nil))))))) (pss_one (ps_ret (pe_and (pe_callB call_isi (by rfl) T.b_isinstance (by decide +kernel) (pa_cons (pv 0) (pa_cons (pe_bltn (v := .ty "bool") (by rfl) T.b_bool (by decide +kernel) rfl) pa_nil))) (pe_and (pe_callB call_isi (by rfl) T.b_isinstance (by decide +kernel) (pa_cons (pv 1) (pa_cons (pe_bltn (v := .ty "bool") (by rfl) T.b_bool (by decide +kernel) rfl) pa_nil))) (pe_one (pe_cmpR op_eq (pv 0) (pv 1) (nomark _))))))) pss_nil)
      (pss_cons (ps_if (PW.pt (pw_or (pt_val (pe_callB call_isi (by rfl) T.b_isinstance (by decide +kernel) (pa_cons (pv 0) (pa_cons (pe_bltn (v := .ty "int") (by rfl) T.b_int (by decide +kernel) rfl) pa_nil)))) (pw_or1 (pt_val (pe_callB call_isi (by rfl) T.b_isinstance (by decide +kernel) (pa_cons (pv 1) (pa_cons (pe_bltn (v := .ty "int") (by rfl) T.b_int (by decide +kernel) rfl) pa_nil))))))) (pss_one (ps_ret (pe_and (pe_callB call_isi (by rfl) T.b_isinstance (by decide +kernel) (pa_cons (pv 0) (pa_cons (pe_bltn (v := .ty "int") (by rfl) T.b_int (by decide +kernel) rfl) pa_nil))) (pe_and (pe_callB call_isi (by rfl) T.b_isinstance (by decide +kernel) (pa_cons (pv 1) (pa_cons (pe_bltn (v := .ty "int") (by rfl) T.b_int (by decide +kernel) rfl) pa_nil))) (pe_one (pe_cmpR op_eq (pv 0) (pv 1) (nomark _))))))) pss_nil)
      (pss_cons (ps_if (PW.pt (pw_or (pt_val (pe_callB call_isi (by rfl) T.b_isinstance (by decide +kernel) (pa_cons (pv 0) (pa_cons (pe_bltn (v := .ty "str") (by rfl) T.b_str (by decide +kernel) rfl) pa_nil)))) (pw_or1 (pt_val (pe_callB call_isi (by rfl) T.b_isinstance (by decide +kernel) (pa_cons (pv 1) (pa_cons (pe_bltn (v := .ty "str") (by rfl) T.b_str (by decide +kernel) rfl) pa_nil))))))) (pss_one (ps_ret (pe_and (pe_callB call_isi (by rfl) T.b_isinstance (by decide +kernel) (pa_cons (pv 0) (pa_cons (pe_bltn (v := .ty "str") (by rfl) T.b_str (by decide +kernel) rfl) pa_nil))) (pe_and (pe_callB call_isi (by rfl) T.b_isinstance (by decide +kernel) (pa_cons (pv 1) (pa_cons (pe_bltn (v := .ty "str") (by rfl) T.b_str (by decide +kernel) rfl) pa_nil))) (pe_one (pe_cmpR op_eq (pv 0) (pv 1) (nomark _))))))) pss_nil)
      (pss_cons (ps_if (PW.pt (pw_or (pt_val (pe_callB call_isi (by rfl) T.b_isinstance (by decide +kernel) (pa_cons (pv 0) (pa_cons (pe_bltn (v := .ty "dict") (by rfl) T.b_dict (by decide +kernel) rfl) pa_nil)))) (pw_or1 (pt_val (pe_callB call_isi (by rfl) T.b_isinstance (by decide +kernel) (pa_cons (pv 1) (pa_cons (pe_bltn (v := .ty "dict") (by rfl) T.b_dict (by decide +kernel) rfl) pa_nil))))))) (pss_one ps_never) pss_nil)
      (pss_cons (ps_if (PW.pt (pw_or (pt_not (pt_val (pe_callB call_isiT (by rfl) T.b_isinstance (by decide +kernel) (pa_cons (pv 0) (pa_cons (pe_tup (pa_cons (pe_bltn (v := .ty "list") (by rfl) T.b_list (by decide +kernel) rfl) (pa_cons (pe_bltn (v := .ty "tuple") (by rfl) T.b_tuple (by decide +kernel) rfl) pa_nil))) pa_nil))))) (pw_or1 (pt_not (pt_val (pe_callB call_isiT (by rfl) T.b_isinstance (by decide +kernel) (pa_cons (pv 1) (pa_cons (pe_tup (pa_cons (pe_bltn (v := .ty "list") (by rfl) T.b_list (by decide +kernel) rfl) (pa_cons (pe_bltn (v := .ty "tuple") (by rfl) T.b_tuple (by decide +kernel) rfl) pa_nil))) pa_nil)))))))) (pss_one (ps_ret pe_bl)) pss_nil)
      (pss_cons (ps_if (PW.pt (pw_or (pt_cmpR op_ne (pe_callB call_lenU (by rfl) T.b_len (by decide +kernel) (pa_cons (pv 0) pa_nil)) (pe_callB call_lenU (by rfl) T.b_len (by decide +kernel) (pa_cons (pv 1) pa_nil)) (nomark _)) (pw_or1 (PW.pt (pw_and (pt_val (pv 2)) (pw_and1 (pt_cmpR op_ne (pe_callB call_isi (by rfl) T.b_isinstance (by decide +kernel) (pa_cons (pv 0) (pa_cons (pe_bltn (v := .ty "list") (by rfl) T.b_list (by decide +kernel) rfl) pa_nil))) (pe_callB call_isi (by rfl) T.b_isinstance (by decide +kernel) (pa_cons (pv 1) (pa_cons (pe_bltn (v := .ty "list") (by rfl) T.b_list (by decide +kernel) rfl) pa_nil))) (nomark _)))))))) (pss_one (ps_ret pe_bl)) pss_nil)
      (pss_cons (ps_for PassesOwn.never rfl (pi_range1 (by rfl) T.b_range (pa_cons (pe_callB call_lenU (by rfl) T.b_len (by decide +kernel) (pa_cons (pv 0) pa_nil)) pa_nil)) (pg_name (i := 3) sc__law_match.nd rfl (Or.inl rfl)) (pss_one (ps_if (pt_not (pt_val (pe_call G_law_match (hr.mono (by first | decide | omega)) (by rfl) m_law_match kp_law_match b_law_match .nil pass0 (pa_cons (pe_ix ix_U (pv 0) (pv 3) (fun _ _ => rfl)) (pa_cons (pe_ix ix_U (pv 1) (pv 3) (fun _ _ => rfl)) (pa_cons (pv 2) pa_nil)))))) (pss_one (ps_ret pe_bl)) pss_nil)))
      (pss_one (ps_ret pe_bl)))))))))), ?_⟩
  try dsimp only [cxOf, Cx.nox, Cx.wish]
  rw [show start N__law_match [v0, v1, v2] = [some v0, some v1, some v2, none] from rfl]
  obtain ⟨st, x, rfl, rfl, e, k⟩ := h
  cases e with
  | tup ha hb e l hi =>
    rename_i b xs ys
    walk_at "gi"
    refine ⟨by show 2 ≤ sizeLine; decide, fun p hp => ?_⟩
    walk_at "gi"
    refine go_isi2 (b := false) (b' := true) (.tup (sqt_new ha hp)) upd_same ?_ ?_ (c := true) rfl ?_
    · decide +kernel
    · decide +kernel
    walk_at "gi"
    refine ⟨by show 2 ≤ sizeLine; decide, fun p2 hp2 => ?_⟩
    walk_at "gi"
    refine go_isi2 (b := false) (b' := true) (.tup (sqt_new (sqt_new hb hp) hp2)) upd_same ?_ ?_ (c := true) rfl ?_
    · decide +kernel
    · decide +kernel
    have d2 : Dx No H (upd (upd H p (.tup [.ty "list", .ty "tuple"])) p2 (.tup [.ty "list", .ty "tuple"])) := (Dx.new hp).trans (Dx.new hp2)
    have ha2 := d2.sqT id ha
    have hb2 := d2.sqT id hb
    have hi2 := fun i x y e1 e2 => (hi i x y e1 e2).keep d2
    generalize upd (upd H p (.tup [.ty "list", .ty "tuple"])) p2 (.tup [.ty "list", .ty "tuple"]) = H2 at d2 ha2 hb2 hi2 ⊢
    walk_at "gi"
    refine go_lenT ha2 ?_
    walk_at "gi"
    refine go_lenT hb2 ?_
    walk_at "gi"
    rw [e, decide_eq_true rfl]
    walk_at "gi"
    refine go_bool (fun _ => ?_) (fun _ => ?_)
    all_goals
      walk_at "gi"
      try (rw [decide_eq_true rfl]; walk_at "gi")
      refine go_lenT ha2 ?_
      walk_at "gi"
      refine for_r (by omega) (fun i σ' H' => ∃ v, σ' = [some (.ref x), some (.ref b), some (.bl st), v] ∧ Dx No H H' ∧ Dx No H2 H') ⟨none, rfl, d2, Dx.refl⟩ ?_ ?_
      · rintro i σ' H' hi ⟨v, rfl, d3, d4⟩
        have hx : i < xs.length := by omega
        have hy : i < ys.length := by omega
        walk_at "go"
        refine go_ixT (d4.sqT id ha2) (atI_nat (List.getElem?_eq_getElem hx)) ?_
        walk_at "go"
        refine go_ixT (d4.sqT id hb2) (atI_nat (List.getElem?_eq_getElem hy)) ?_
        walk_at "go"
        refine ((hi2 i _ _ (List.getElem?_eq_getElem hx) (List.getElem?_eq_getElem hy)).keep d4).match fun H3 d5 => ?_
        walk_at "go"
        exact ⟨_, rfl, d3.trans d5, d4.trans d5⟩
      · rintro σ' H' ⟨v, rfl, d3, d4⟩
        walk_at "go"
        exact k _ d3
  | lst ha hb e l hi =>
    rename_i b xs ys
    walk_at "gi"
    refine ⟨by show 2 ≤ sizeLine; decide, fun p hp => ?_⟩
    walk_at "gi"
    refine go_isi2 (b := true) (b' := false) (.lst (sql_new ha hp)) upd_same ?_ ?_ (c := true) rfl ?_
    · decide +kernel
    · decide +kernel
    walk_at "gi"
    refine ⟨by show 2 ≤ sizeLine; decide, fun p2 hp2 => ?_⟩
    walk_at "gi"
    refine go_isi2 (b := true) (b' := false) (.lst (sql_new (sql_new hb hp) hp2)) upd_same ?_ ?_ (c := true) rfl ?_
    · decide +kernel
    · decide +kernel
    have d2 : Dx No H (upd (upd H p (.tup [.ty "list", .ty "tuple"])) p2 (.tup [.ty "list", .ty "tuple"])) := (Dx.new hp).trans (Dx.new hp2)
    have ha2 := d2.sqL id ha
    have hb2 := d2.sqL id hb
    have hi2 := fun i x y e1 e2 => (hi i x y e1 e2).keep d2
    generalize upd (upd H p (.tup [.ty "list", .ty "tuple"])) p2 (.tup [.ty "list", .ty "tuple"]) = H2 at d2 ha2 hb2 hi2 ⊢
    walk_at "gi"
    refine go_lenL ha2 ?_
    walk_at "gi"
    refine go_lenL hb2 ?_
    walk_at "gi"
    rw [e, decide_eq_true rfl]
    walk_at "gi"
    refine go_bool (fun _ => ?_) (fun _ => ?_)
    all_goals
      walk_at "gi"
      try (rw [decide_eq_true rfl]; walk_at "gi")
      refine go_lenL ha2 ?_
      walk_at "gi"
      refine for_r (by omega) (fun i σ' H' => ∃ v, σ' = [some (.ref x), some (.ref b), some (.bl st), v] ∧ Dx No H H' ∧ Dx No H2 H') ⟨none, rfl, d2, Dx.refl⟩ ?_ ?_
      · rintro i σ' H' hi ⟨v, rfl, d3, d4⟩
        have hx : i < xs.length := by omega
        have hy : i < ys.length := by omega
        walk_at "go"
        refine go_ixL (d4.sqL id ha2) (atI_nat (List.getElem?_eq_getElem hx)) ?_
        walk_at "go"
        refine go_ixL (d4.sqL id hb2) (atI_nat (List.getElem?_eq_getElem hy)) ?_
        walk_at "go"
        refine ((hi2 i _ _ (List.getElem?_eq_getElem hx) (List.getElem?_eq_getElem hy)).keep d4).match fun H3 d5 => ?_
        walk_at "go"
        exact ⟨_, rfl, d3.trans d5, d4.trans d5⟩
      · rintro σ' H' ⟨v, rfl, d3, d4⟩
        walk_at "go"
        exact k _ d3
theorem D_law_match (T : Txt K mg) : ∀ n : Nat, Def P w K mg base CX0 (n + 1) "_law_match" s__law_match ["_law_left", "_law_right", "_law_strict"] (Sp3 (pMatch K n))
  | 0 => def_or (D_law_match_0 T) (D_law_match_0 T) (Nat.le_refl _) (Nat.le_refl _) match_zero
  | n + 1 => def_or (D_law_match_0 T) (D_law_match_s T (D_law_match T n)) (by omega) (Nat.le_refl _) match_succ
abbrev N__law_same : List Str := ["_law_actual", "_law_expected"]
theorem sc__law_same : FnScope N__law_same ["_law_actual", "_law_expected"] (defScope s__law_same) := ⟨rfl, rfl, rfl, by decide +kernel, rfl, by decide +kernel, by decide +kernel⟩
set_option maxHeartbeats 4000000 in
theorem D_law_same  (T : Txt K mg) : Def P w K mg base CX0 (3) "_law_same" s__law_same ["_law_actual", "_law_expected"] (Sp2 (pSame K 1)) := by
  obtain ⟨f, fd, m, F⟩ := T.f__law_same.ex
  refine ⟨f, fd, m, F.kp, F.bindsN (ps := ["_law_actual", "_law_expected"]) (fun _ _ _ _ _ _ us hl => match us, hl with | [_, _], _ => rfl), ?_, F⟩
  obtain ⟨f_law_match, fd_law_match, m_law_match, kp_law_match, b_law_match, G_law_match, F_law_match⟩ := (D_law_match (P := P) (w := w) (base := base) T 1).ex
  refine F.ok (CX := CX0) sc__law_same len2 (fun cdv A outer s H vs Q E hr h => ?_)
  obtain ⟨v0, v1, rfl, h⟩ := h
  refine ⟨_, PSs.nox (pss_one (ps_ret (pe_call G_law_match (hr.mono (by first | decide | omega)) (by rfl) m_law_match kp_law_match b_law_match .nil pass0 (pa_cons (pv 0) (pa_cons (pv 1) (pa_cons pe_bl pa_nil)))))), ?_⟩
  try dsimp only [cxOf, Cx.nox, Cx.wish]
  rw [show start N__law_same [v0, v1] = [some v0, some v1] from rfl]
  rcases h with ⟨e, k⟩ | ⟨f0, f1, k⟩
  · walk_at "go"
    exact e.match k
  · walk_at "go"
    exact .inl ⟨true, rfl, f0, f1, k⟩
end
end Q
namespace Q
section
variable {P : Program} {w : World} {K : PySem.W.Frag} {mg : Str → Option Value} {base : Heap}
abbrev N__law_asked : List Str := ["_law_k", "_law_one", "_law_two", "_law_fits", "e"]
theorem sc__law_asked : FnScope N__law_asked ["_law_k", "_law_one", "_law_two"] (defScope s__law_asked) := ⟨rfl, rfl, rfl, by decide +kernel, rfl, by decide +kernel, by decide +kernel⟩
/-- what the law asks, by its number -/
def ask (k : Int) (a b : V) : V ⊕ V := if k < 2 then askTake a b else if k < 4 then askLower a b else askNum a
def AskTo (r : V ⊕ V) (H : Hp) (Q : VK) : Prop := told r (fun v => ∀ H', Dx No H H' → Q v H') (fun x => ∀ p H', H p = none → Dx No H H' → H' p = some (.tup [.str "BadNumber", x, .bl true, .bl false]) → Q (.ref p) H')
def pAsked : P3 := fun v0 v1 v2 H Q _ => ∃ k : Int, v0 = .int k ∧ 0 ≤ k ∧ flatE v1 = true ∧ flatE v2 = true ∧ AskTo (ask k v1 v2) H Q
theorem told_both {r : V ⊕ V} {A B A' B' : V → Prop} (h : told r A B) (a : ∀ v, A v → A' v) (b : ∀ v, B v → B' v) : told r A' B' := by
  cases r with
  | inl v => exact a v h
  | inr x => exact b x h
set_option maxHeartbeats 4000000 in
theorem D_law_asked  (T : Txt K mg) : Def P w K mg base CX0 (6) "_law_asked" s__law_asked ["_law_k", "_law_one", "_law_two"] (Sp3 pAsked) := by
  obtain ⟨f, fd, m, F⟩ := T.f__law_asked.ex
  refine ⟨f, fd, m, F.kp, F.bindsN (ps := ["_law_k", "_law_one", "_law_two"]) (fun _ _ _ _ _ _ us hl => match us, hl with | [_, _, _], _ => rfl), ?_, F⟩
  obtain ⟨fcheck_number, fdcheck_number, mcheck_number, kpcheck_number, bcheck_number, Gcheck_number, Fcheck_number⟩ := (Dcheck_number (P := P) (w := w) (base := base) T).ex
  obtain ⟨flower_ceiling, fdlower_ceiling, mlower_ceiling, kplower_ceiling, blower_ceiling, Glower_ceiling, Flower_ceiling⟩ := (Dlower_ceiling (P := P) (w := w) (base := base) T).ex
  obtain ⟨fmay_take, fdmay_take, mmay_take, kpmay_take, bmay_take, Gmay_take, Fmay_take⟩ := (Dmay_take (P := P) (w := w) (base := base) T).ex
  refine F.ok (CX := CX0) sc__law_asked len3 (fun cdv A outer s H vs Q E hr h => ?_)
  obtain ⟨v0, v1, v2, rfl, h⟩ := h
  refine ⟨_, PSs.nox (pss_one (ps_try_as (i := 4) (Wout := (fun _ _ _ _ => False)) rfl rfl sc__law_asked.nd rfl rfl ⟨rfl, by decide, Or.inl T.g_BadNumber⟩ takes0 (fun W pn xe tk _ => (pss_cons (ps_if (pt_cmpR op_eq (pv 0) pe_int (nomark _)) (pss_one (ps_ret (pe_callS Gmay_take (hr.mono (by first | decide | omega)) (by rfl) mmay_take kpmay_take bmay_take (fun s9 => passAt tk s9) (by exact (pa_cons (pv 1) (pa_cons (pv 2) pa_nil)))))) pss_nil)
      (pss_cons (ps_if (pt_cmpR op_eq (pv 0) pe_int (nomark _)) (pss_one (ps_ret (pe_callNS0 Gmay_take (hr.mono (by first | decide | omega)) (by rfl) mmay_take kpmay_take (kbinds_p (ks := ["ceiling", "light"]) Fmay_take 0 [1, 0] fun _ _ _ _ _ _ us ws hl hm => match us, ws, hl, hm with | [], [_, _], _, _ => rfl) (fun s9 => passAt tk s9) (by exact (pk_cons (pv 2) (pk_cons (pv 1) pk_nil)))))) pss_nil)
      (pss_cons (ps_if (pt_cmpR op_eq (pv 0) pe_int (nomark _)) (pss_one (ps_ret (pe_callS Glower_ceiling (hr.mono (by first | decide | omega)) (by rfl) mlower_ceiling kplower_ceiling blower_ceiling (fun s9 => passAt tk s9) (by exact (pa_cons (pv 1) (pa_cons (pv 2) pa_nil)))))) pss_nil)
      (pss_cons (ps_if (pt_cmpR op_eq (pv 0) pe_int (nomark _)) (pss_one (ps_ret (pe_callNS0 Glower_ceiling (hr.mono (by first | decide | omega)) (by rfl) mlower_ceiling kplower_ceiling (kbinds_p (ks := ["second", "first"]) Flower_ceiling 0 [1, 0] fun _ _ _ _ _ _ us ws hl hm => match us, ws, hl, hm with | [], [_, _], _, _ => rfl) (fun s9 => passAt tk s9) (by exact (pk_cons (pv 2) (pk_cons (pv 1) pk_nil)))))) pss_nil)
      (pss_one (ps_ret (pe_callS Gcheck_number (hr.mono (by first | decide | omega)) (by rfl) mcheck_number kpcheck_number bcheck_number (fun s9 => passAt tk s9) (by exact (pa_cons (pv 1) pa_nil)))))))))) (fun a oe cls d pn hz hf => (pss_cons (ps_set (i := 3) sc__law_asked.nd rfl (Or.inl rfl) (pe_and (pe_callB (call_isX hz hf) (by rfl) T.b_isinstance (by decide +kernel) (pa_cons (pv 4) (pa_cons (pe_glob (v := .ref (gA K "OutshinerError")) (by rfl) T.g_OutshinerError rfl) pa_nil))) (pe_one (pe_callB (call_isX hz hf) (by rfl) T.b_isinstance (by decide +kernel) (pa_cons (pv 4) (pa_cons (pe_bltn (v := .ty "ValueError") (by rfl) T.b_ValueError (by decide +kernel) rfl) pa_nil))))))
      (pss_one (ps_ret (pe_tup (pa_cons pe_str (pa_cons (pe_xf T.x_BadNumber.xf (T.i_BadNumber.no "number" (by decide +kernel)) hz hf (pv 4)) (pa_cons (pv 3) (pa_cons (pe_callB (call_isX hz hf) (by rfl) T.b_isinstance (by decide +kernel) (pa_cons (pv 4) (pa_cons (pe_tup (pa_cons (pe_glob (v := .ref (gA K "BadName")) (by rfl) T.g_BadName rfl) (pa_cons (pe_glob (v := .ref (gA K "BadSpan")) (by rfl) T.g_BadSpan rfl) (pa_cons (pe_glob (v := .ref (gA K "OutOfRange")) (by rfl) T.g_OutOfRange rfl) pa_nil)))) pa_nil))) pa_nil))))))))))), ?_⟩
  try dsimp only [cxOf, Cx.nox, Cx.wish]
  rw [show start N__law_asked [v0, v1, v2] = [some v0, some v1, some v2, none, none] from rfl]
  obtain ⟨n, rfl, hn, f1, f2, k⟩ := h
  unfold AskTo at k
  have hk : ∀ {r : V ⊕ V}, ask n v1 v2 = r → _ := fun {r} e => by rw [e] at k; exact k
  clear k
  walk_at "go"
  refine go_dec (fun e0 => ?_) (fun e0 => ?_)
  have k := hk (show _ = askTake v1 v2 from if_pos (by omega))
  walk_at "go"
  refine ⟨f1, f2, told_both k (fun v g => ?_) (fun x g d hd => ?_)⟩
  walk_at "go"
  exact g _ Dx.refl
  rotate_left 1
  walk_at "go"
  refine go_dec (fun e1 => ?_) (fun e1 => ?_)
  have k := hk (show _ = askTake v1 v2 from if_pos (by omega))
  walk_at "go"
  refine ⟨f1, f2, told_both k (fun v g => ?_) (fun x g d hd => ?_)⟩
  walk_at "go"
  exact g _ Dx.refl
  rotate_left 1
  walk_at "go"
  refine go_dec (fun e2 => ?_) (fun e2 => ?_)
  have k := hk (show _ = askLower v1 v2 from (if_neg (by omega)).trans (if_pos (by omega)))
  walk_at "go"
  refine ⟨f1, f2, told_both k (fun v g => ?_) (fun x g d hd => ?_)⟩
  walk_at "go"
  exact g _ Dx.refl
  rotate_left 1
  walk_at "go"
  refine go_dec (fun e3 => ?_) (fun e3 => ?_)
  have k := hk (show _ = askLower v1 v2 from (if_neg (by omega)).trans (if_pos (by omega)))
  walk_at "go"
  refine ⟨f1, f2, told_both k (fun v g => ?_) (fun x g d hd => ?_)⟩
  walk_at "go"
  exact g _ Dx.refl
  rotate_left 1
  have k := hk (show _ = askNum v1 from (if_neg (by omega)).trans (if_neg (by omega)))
  walk_at "go"
  refine ⟨f1, fun e => ?_, fun e d hd => ?_⟩
  rw [num_ok e] at k
  walk_at "go"
  exact k _ Dx.refl
  rw [num_bad e] at k
  have g := k
  generalize hx : v1 = x at g f1 ⊢
  all_goals
    refine ⟨true, T.x_BadNumber.te, fun _ a ha => ?_, fun z => nomatch z⟩
    have d0 : Dx No H (upd H d (.xd [("number", x)])) := Dx.new hd
    have h0 : (upd H d (.xd [("number", x)])) d = some (.xd [("number", x)]) := upd_same
    generalize upd H d (.xd [("number", x)]) = H0 at d0 h0 ha ⊢
    walk_at "go"
    refine go_isx1 T.x_BadNumber.isx ⟨rfl, d, _, rfl, h0⟩ T.k_base ?_
    walk_at "go"
    refine go_isxT T.x_BadNumber.isx ⟨rfl, d, _, rfl, h0⟩ T.k_val ?_
    walk_at "go"
    refine go_xfq h0 rfl ?_
    walk_at "go"
    refine ⟨by show 3 ≤ sizeLine; decide, fun p1 hp1 => ?_⟩
    walk_at "go"
    refine go_isxL T.x_BadNumber.isx T.k_t ⟨rfl, d, _, rfl, stands h0 hp1⟩ upd_same ?_
    walk_at "go"
    refine ⟨by show 4 ≤ sizeLine; decide, fun p2 hp2 => ?_⟩
    walk_at "go"
    exact g p2 _ ((d0.trans (Dx.new hp1)).dm p2 hp2) ((d0.trans (Dx.new hp1)).trans (Dx.new hp2)) upd_same
abbrev N__law_due : List Str := ["_law_values", "_law_value_here"]
theorem sc__law_due : FnScope N__law_due ["_law_values"] (defScope s__law_due) := ⟨rfl, rfl, rfl, by decide +kernel, rfl, by decide +kernel, by decide +kernel⟩
theorem find_at {p : V → Bool} : ∀ {xs : List V} {i : Nat} {x : V}, xs[i]? = some x → p x = true → (∀ (j : Nat) (v : V), j < i → xs[j]? = some v → p v = false) → xs.find? p = some x
  | [], _, _, h, _, _ => nomatch h
  | y :: ys, 0, x, h, hx, _ => by
    have e : y = x := Option.some.inj h
    subst e
    exact List.find?_cons_of_pos hx
  | y :: ys, i + 1, x, h, hx, hb => by
    have hy : p y = false := hb 0 y (Nat.zero_lt_succ _) rfl
    rw [List.find?_cons_of_neg (by rw [hy]; decide)]
    exact find_at (xs := ys) (i := i) h hx fun j v hj e => hb (j + 1) v (by omega) e
theorem find_no {p : V → Bool} {xs : List V} (h : ∀ (j : Nat) (v : V), xs[j]? = some v → p v = false) : xs.find? p = none := by
  rw [List.find?_eq_none]
  intro v hv
  obtain ⟨j, hj⟩ := List.mem_iff_getElem?.mp hv
  rw [h j v hj]
  decide
def notEnd (v : V) : Bool := !endOk v
def DueTo (o : Option V) (H : Hp) (Q : VK) : Prop := match o with
  | none => Q .non H
  | some x => ∀ p H', H p = none → Dx No H H' → H' p = some (.tup [.str "BadNumber", x, .bl true, .bl false]) → Q (.ref p) H'
def pDue (K : PySem.W.Frag) : P1 := fun v0 H Q _ => ∃ (p : Addr) (xs : List V), v0 = .ref p ∧ SqL K H p xs ∧ (∀ v ∈ xs, flatE v = true) ∧ DueTo (xs.find? notEnd) H Q
set_option maxHeartbeats 4000000 in
theorem D_law_due  (T : Txt K mg) : Def P w K mg base CX0 (2) "_law_due" s__law_due ["_law_values"] (Sp1 (pDue K)) := by
  obtain ⟨f, fd, m, F⟩ := T.f__law_due.ex
  refine ⟨f, fd, m, F.kp, F.bindsN (ps := ["_law_values"]) (fun _ _ _ _ _ _ us hl => match us, hl with | [_], _ => rfl), ?_, F⟩
  obtain ⟨f_law_is_number, fd_law_is_number, m_law_is_number, kp_law_is_number, b_law_is_number, G_law_is_number, F_law_is_number⟩ := (D_law_is_number (P := P) (w := w) (base := base) T).ex
  refine F.ok (CX := CX0) sc__law_due len1 (fun cdv A outer s H vs Q E hr h => ?_)
  obtain ⟨v0, rfl, h⟩ := h
  refine ⟨_, PSs.nox (pss_cons (ps_for PassesOwn.never rfl (pi_list (pv 0)) (pg_name (i := 1) sc__law_due.nd rfl (Or.inl rfl)) (pss_one (ps_if (PW.pt (pw_and (pt_cmpR op_isnot0 (pv 1) pe_non (nomark _)) (pw_and1 (pt_not (pt_val (pe_call G_law_is_number (hr.mono (by first | decide | omega)) (by rfl) m_law_is_number kp_law_is_number b_law_is_number .nil pass0 (pa_cons (pv 1) pa_nil))))))) (pss_one (ps_ret (pe_tup (pa_cons pe_str (pa_cons (pv 1) (pa_cons pe_bl (pa_cons pe_bl pa_nil))))))) pss_nil)))
      (pss_one (ps_ret pe_non))), ?_⟩
  try dsimp only [cxOf, Cx.nox, Cx.wish]
  rw [show start N__law_due [v0] = [some v0, none] from rfl]
  obtain ⟨p, xs, rfl, hp, hf, k⟩ := h
  walk_at "go"
  refine for_l hp (fun i σ' H' => ∃ (v1 : Option V), σ' = [some (.ref p), v1] ∧ H' = H ∧ ∀ (j : Nat) (v : V), j < i → xs[j]? = some v → notEnd v = false) ⟨none, rfl, rfl, fun j v hj => absurd hj (Nat.not_lt_zero _)⟩ (fun i σ' H' _ ⟨_, _, e, _⟩ => by rw [e]; exact hp) ?_ ?_
  · rintro i v σ' H' hv ⟨v1, rfl, rfl, hb⟩
    have hfv := hf v (List.mem_of_getElem? hv)
    have next : notEnd v = false → ∀ (j : Nat) (u : V), j < i + 1 → xs[j]? = some u → notEnd u = false := fun hv2 j u hj e => by
      by_cases q : j = i
      · subst q
        rw [hv] at e
        have e' : v = u := Option.some.inj e
        rw [← e']
        exact hv2
      · exact hb j u (by omega) e
    walk_at "go"
    by_cases e : v = .non
    · subst e
      walk_at "go"
      exact ⟨_, rfl, rfl, next rfl⟩
    · walk_at "go"
      refine ⟨hfv, ?_⟩
      walk_at "go"
      refine go_nbool (fun e2 => ?_) (fun e2 => ?_)
      · have z : notEnd v = true := by
          unfold notEnd
          rw [endOk_ne e, e2]
          rfl
        rw [find_at hv z hb] at k
        walk_at "go"
        refine ⟨by show 4 ≤ sizeLine; decide, fun q hq => ?_⟩
        walk_at "go"
        exact k q _ hq (Dx.new hq) upd_same
      · walk_at "go"
        refine ⟨_, rfl, rfl, next ?_⟩
        unfold notEnd
        rw [endOk_ne e, e2]
        rfl
  · rintro σ' H' ⟨v1, rfl, rfl, hb⟩
    walk_at "go"
    rw [find_no fun j v e => hb j v (List.getElem?_eq_some_iff.mp e).1 e] at k
    exact k
abbrev N__law_is_under : List Str := ["_law_light", "_law_bar_here"]
theorem sc__law_is_under : FnScope N__law_is_under ["_law_light", "_law_bar_here"] (defScope s__law_is_under) := ⟨rfl, rfl, rfl, by decide +kernel, rfl, by decide +kernel, by decide +kernel⟩
def pUnder : P2 := fun v0 v1 H Q _ => ∃ i : Int, v0 = .int i ∧ IsEndI v1 ∧ Q (.bl (leV v0 v1)) H
set_option maxHeartbeats 4000000 in
theorem D_law_is_under  (T : Txt K mg) : Def P w K mg base CX0 (1) "_law_is_under" s__law_is_under ["_law_light", "_law_bar_here"] (Sp2 pUnder) := by
  obtain ⟨f, fd, m, F⟩ := T.f__law_is_under.ex
  refine ⟨f, fd, m, F.kp, F.bindsN (ps := ["_law_light", "_law_bar_here"]) (fun _ _ _ _ _ _ us hl => match us, hl with | [_, _], _ => rfl), ?_, F⟩
  refine F.ok (CX := CX0) sc__law_is_under len2 (fun cdv A outer s H vs Q E hr h => ?_)
  obtain ⟨v0, v1, rfl, h⟩ := h
  refine ⟨_, PSs.nox (pss_one (ps_ret (pe_or (pe_cmpR op_is0 (pv 1) pe_non (nomark _)) (pe_one (pe_cmpR op_le0 (pv 0) (pv 1) (nomark _)))))), ?_⟩
  try dsimp only [cxOf, Cx.nox, Cx.wish]
  rw [show start N__law_is_under [v0, v1] = [some v0, some v1] from rfl]
  obtain ⟨i, rfl, e, k⟩ := h
  rcases e with rfl | ⟨j, rfl⟩
  · walk_at "go"
    exact k
  · walk_at "go"
    exact k
end
end Q
namespace Q
section
variable {P : Program} {w : World} {K : PySem.W.Frag} {mg : Str → Option Value} {base : Heap}
abbrev N__law_is_lower : List Str := ["_law_told", "_law_bars", "_law_lights", "_law_light", "_law_fine", "_law_apart"]
theorem sc__law_is_lower : FnScope N__law_is_lower ["_law_told", "_law_bars", "_law_lights"] (defScope s__law_is_lower) := ⟨rfl, rfl, rfl, by decide +kernel, rfl, by decide +kernel, by decide +kernel⟩
def pIsLower (K : PySem.W.Frag) : P3 := fun v0 v1 v2 H Q _ => ∃ (p q : Addr) (b0 b1 : V) (ls : List Int), v0 = lesserV b0 b1 ∧ v1 = .ref p ∧ v2 = .ref q ∧ SqL K H p [b0, b1] ∧ IsEnd b0 ∧ IsEnd b1 ∧ SqL K H q (ls.map V.int) ∧ (∀ l ∈ ls, InR l) ∧ ∀ H', Dx No H H' → Q (.bl true) H'
theorem lesser_end {a b : V} (ha : IsEnd a) (hb : IsEnd b) : IsEnd (lesserV a b) := by
  rcases ha with rfl | ⟨i, rfl, hi⟩
  · exact hb
  rcases hb with rfl | ⟨j, rfl, hj⟩
  · exact .inr ⟨i, rfl, hi⟩
  show IsEnd (if i < j then V.int i else V.int j)
  split
  · exact .inr ⟨i, rfl, hi⟩
  · exact .inr ⟨j, rfl, hj⟩
theorem lesser_le {a b : V} (ha : IsEnd a) (hb : IsEnd b) (l : Int) : leV (.int l) (lesserV a b) = (leV (.int l) a && leV (.int l) b) := by
  rcases ha with rfl | ⟨i, rfl, hi⟩
  · exact (Bool.true_and _).symm
  rcases hb with rfl | ⟨j, rfl, hj⟩
  · exact (Bool.and_true _).symm
  show leV (.int l) (if i < j then V.int i else V.int j) = (decide (l ≤ i) && decide (l ≤ j))
  split
  · show decide (l ≤ i) = _
    by_cases h : l ≤ i
    · rw [decide_eq_true h, decide_eq_true (show l ≤ j by omega)]
      rfl
    · rw [decide_eq_false h]
      rfl
  · show decide (l ≤ j) = _
    by_cases h : l ≤ j
    · rw [decide_eq_true h, decide_eq_true (show l ≤ i by omega)]
      rfl
    · rw [decide_eq_false h, Bool.and_false]
theorem ask_take {k : Int} {a b : V} (hk : k < 2) (ha : IsNum a) (hb : IsEnd b) : ask k a b = .inl (.bl (leV a b)) := by
  unfold ask
  rw [if_pos hk, take_ok (isNum_of ha) (endOk_of hb)]
set_option maxHeartbeats 4000000 in
theorem D_law_is_lower  (T : Txt K mg) : Def P w K mg base CX0 (7) "_law_is_lower" s__law_is_lower ["_law_told", "_law_bars", "_law_lights"] (Sp3 (pIsLower K)) := by
  obtain ⟨f, fd, m, F⟩ := T.f__law_is_lower.ex
  refine ⟨f, fd, m, F.kp, F.bindsN (ps := ["_law_told", "_law_bars", "_law_lights"]) (fun _ _ _ _ _ _ us hl => match us, hl with | [_, _, _], _ => rfl), ?_, F⟩
  obtain ⟨f_law_asked, fd_law_asked, m_law_asked, kp_law_asked, b_law_asked, G_law_asked, F_law_asked⟩ := (D_law_asked (P := P) (w := w) (base := base) T).ex
  obtain ⟨f_law_is_under, fd_law_is_under, m_law_is_under, kp_law_is_under, b_law_is_under, G_law_is_under, F_law_is_under⟩ := (D_law_is_under (P := P) (w := w) (base := base) T).ex
  obtain ⟨f_law_same, fd_law_same, m_law_same, kp_law_same, b_law_same, G_law_same, F_law_same⟩ := (D_law_same (P := P) (w := w) (base := base) T).ex
  refine F.ok (CX := CX0) sc__law_is_lower len3 (fun cdv A outer s H vs Q E hr h => ?_)
  obtain ⟨v0, v1, v2, rfl, h⟩ := h
  refine ⟨_, PSs.nox (C8.pss_cut (ps_if (PW.pt (pw_and (pt_not (pt_val (pe_call G_law_same (hr.mono (by first | decide | omega)) (by rfl) m_law_same kp_law_same b_law_same .nil pass0 (pa_cons (pv 0) (pa_cons (pe_ix ix_U (pv 1) pe_int (fun _ _ => rfl)) pa_nil))))) (pw_and1 (pt_not (pt_val (pe_call G_law_same (hr.mono (by first | decide | omega)) (by rfl) m_law_same kp_law_same b_law_same .nil pass0 (pa_cons (pv 0) (pa_cons (pe_ix ix_U (pv 1) pe_int (fun _ _ => rfl)) pa_nil)))))))) (pss_one (ps_ret pe_bl)) pss_nil)
      (C8.pss_cut (ps_if (pt_cmpR op_ne (pe_cmpR op_is0 (pv 0) pe_non (nomark _)) (pe_and (pe_cmpR op_is0 (pe_ix ix_U (pv 1) pe_int (fun _ _ => rfl)) pe_non (nomark _)) (pe_one (pe_cmpR op_is0 (pe_ix ix_U (pv 1) pe_int (fun _ _ => rfl)) pe_non (nomark _)))) (nomark _)) (pss_one (ps_ret pe_bl)) pss_nil)
      (pss_cons (ps_for PassesOwn.never rfl (pi_list (pv 2)) (pg_name (i := 3) sc__law_is_lower.nd rfl (Or.inl rfl)) (C8.pss_cut (ps_set (i := 4) sc__law_is_lower.nd rfl (Or.inl rfl) (pe_and (pe_call G_law_is_under (hr.mono (by first | decide | omega)) (by rfl) m_law_is_under kp_law_is_under b_law_is_under .nil pass0 (pa_cons (pv 3) (pa_cons (pe_ix ix_U (pv 1) pe_int (fun _ _ => rfl)) pa_nil))) (pe_one (pe_call G_law_is_under (hr.mono (by first | decide | omega)) (by rfl) m_law_is_under kp_law_is_under b_law_is_under .nil pass0 (pa_cons (pv 3) (pa_cons (pe_ix ix_U (pv 1) pe_int (fun _ _ => rfl)) pa_nil))))))
      (pss_cons (ps_if (PW.pt (pw_or (pt_cmpR op_ne (pe_call G_law_is_under (hr.mono (by first | decide | omega)) (by rfl) m_law_is_under kp_law_is_under b_law_is_under .nil pass0 (pa_cons (pv 3) (pa_cons (pv 0) pa_nil))) (pv 4) (nomark _)) (pw_or1 (pt_not (pt_val (pe_call G_law_same (hr.mono (by first | decide | omega)) (by rfl) m_law_same kp_law_same b_law_same .nil pass0 (pa_cons (pe_call G_law_asked (hr.mono (by first | decide | omega)) (by rfl) m_law_asked kp_law_asked b_law_asked .nil pass0 (pa_cons pe_int (pa_cons (pv 3) (pa_cons (pv 0) pa_nil)))) (pa_cons (pv 4) pa_nil)))))))) (pss_one (ps_ret pe_bl)) pss_nil)
      (pss_cons (ps_set (i := 5) sc__law_is_lower.nd rfl (Or.inl rfl) (pe_lst (pa_cons (pe_call G_law_asked (hr.mono (by first | decide | omega)) (by rfl) m_law_asked kp_law_asked b_law_asked .nil pass0 (pa_cons pe_int (pa_cons (pv 3) (pa_cons (pe_ix ix_U (pv 1) pe_int (fun _ _ => rfl)) pa_nil)))) (pa_cons (pe_call G_law_asked (hr.mono (by first | decide | omega)) (by rfl) m_law_asked kp_law_asked b_law_asked .nil pass0 (pa_cons pe_int (pa_cons (pv 3) (pa_cons (pe_ix ix_U (pv 1) pe_int (fun _ _ => rfl)) pa_nil)))) pa_nil))))
      (pss_one (ps_if (pt_not (pt_val (pe_call G_law_same (hr.mono (by first | decide | omega)) (by rfl) m_law_same kp_law_same b_law_same .nil pass0 (pa_cons (pv 5) (pa_cons (pe_lst (pa_cons (pe_call G_law_is_under (hr.mono (by first | decide | omega)) (by rfl) m_law_is_under kp_law_is_under b_law_is_under .nil pass0 (pa_cons (pv 3) (pa_cons (pe_ix ix_U (pv 1) pe_int (fun _ _ => rfl)) pa_nil))) (pa_cons (pe_call G_law_is_under (hr.mono (by first | decide | omega)) (by rfl) m_law_is_under kp_law_is_under b_law_is_under .nil pass0 (pa_cons (pv 3) (pa_cons (pe_ix ix_U (pv 1) pe_int (fun _ _ => rfl)) pa_nil))) pa_nil))) pa_nil))))) (pss_one (ps_ret pe_bl)) pss_nil))))))
      (pss_one (ps_ret pe_bl))))), ?_⟩
  try dsimp only [cxOf, Cx.nox, Cx.wish]
  rw [show start N__law_is_lower [v0, v1, v2] = [some v0, some v1, some v2, none, none, none] from rfl]
  obtain ⟨p, q, b0, b1, ls, rfl, rfl, rfl, hp, e0, e1, hq, hls, k⟩ := h
  have et := lesser_end e0 e1
  have ft := flat_end et
  have f0 := flat_end e0
  have f1 := flat_end e1
  have i0 : atI [b0, b1] 0 = some b0 := rfl
  have i1 : atI [b0, b1] 1 = some b1 := rfl
  have hor : lesserV b0 b1 = b0 ∨ lesserV b0 b1 = b1 := by
    rcases e0 with rfl | ⟨i, rfl, hi⟩
    · exact .inr rfl
    rcases e1 with rfl | ⟨j, rfl, hj⟩
    · exact .inl rfl
    show (if i < j then V.int i else V.int j) = _ ∨ (if i < j then V.int i else V.int j) = _
    split
    · exact .inl rfl
    · exact .inr rfl
  have hle := lesser_le e0 e1
  have hnon : decide (lesserV b0 b1 = .non) = (decide (b0 = .non) && decide (b1 = .non)) := by
    rcases e0 with rfl | ⟨i, rfl, hi⟩
    · exact (Bool.true_and _).symm
    rcases e1 with rfl | ⟨j, rfl, hj⟩
    · exact rfl
    show decide ((if i < j then V.int i else V.int j) = .non) = _
    split <;> rfl
  generalize lesserV b0 b1 = t at et ft hor hle hnon ⊢
  walk_at "go"
  refine ⟨fun σ' H' => σ' = [some t, some (.ref p), some (.ref q), none, none, none] ∧ Dx No H H', ?_, ?_⟩
  · walk_at "go"
    refine go_ixL hp i0 ?_
    walk_at "go"
    refine .inr ⟨ft, f0, ?_⟩
    walk_at "go"
    refine go_ndec (fun z => ?_) (fun _ => ?_)
    · walk_at "go"
      refine go_ixL hp i1 ?_
      walk_at "go"
      refine .inr ⟨ft, f1, ?_⟩
      rw [decide_eq_true (show t = b1 from hor.resolve_left z)]
      walk_at "go"
      exact ⟨rfl, Dx.refl⟩
    · walk_at "go"
      exact ⟨rfl, Dx.refl⟩
  rintro σ' H1 ⟨rfl, d1⟩
  have hp1 := d1.sqL id hp
  walk_at "go"
  refine ⟨fun σ' H' => σ' = [some t, some (.ref p), some (.ref q), none, none, none] ∧ Dx No H H', ?_, ?_⟩
  · walk_at "go"
    refine ⟨rfl, ?_⟩
    rw [hnon]
    walk_at "go"
    refine go_ixL hp1 i0 ?_
    walk_at "go"
    refine ⟨rfl, ?_⟩
    refine ⟨_, rfl, ?_⟩
    refine go_dec (fun z => ?_) (fun z => ?_)
    · walk_at "go"
      refine go_ixL hp1 i1 ?_
      walk_at "go"
      refine ⟨rfl, ?_⟩
      walk_at "go"
      rw [decide_eq_true z, Bool.true_and, decide_eq_true rfl]
      walk_at "go"
      exact ⟨rfl, d1⟩
    · walk_at "go"
      rw [decide_eq_false z, Bool.false_and]
      walk_at "go"
      exact ⟨rfl, d1⟩
  clear d1 hp1 H1
  rintro σ' H1 ⟨rfl, d1⟩
  walk_at "go"
  refine for_l (d1.sqL id hq) (fun i σ' H' => ∃ (v3 v4 v5 : Option V), σ' = [some t, some (.ref p), some (.ref q), v3, v4, v5] ∧ Dx No H H') ⟨_, _, _, rfl, d1⟩ (fun i σ' H' _ ⟨_, _, _, _, d⟩ => d.sqL id hq) ?_ ?_
  · rintro i v σ' H2 hv ⟨v3, v4, v5, rfl, d2⟩
    obtain ⟨n, rfl, hn⟩ := int_mem (List.mem_of_getElem? hv)
    have hr := hls n hn
    have nn : IsNum (.int n) := ⟨n, rfl, hr⟩
    have hp2 := d2.sqL id hp
    walk_at "go"
    refine ⟨fun σ' H' => σ' = [some t, some (.ref p), some (.ref q), some (.int n), some (.bl (leV (.int n) b0 && leV (.int n) b1)), v5] ∧ H' = H2, ?_, ?_⟩
    · walk_at "go"
      refine go_ixL hp2 i0 ?_
      walk_at "go"
      refine ⟨n, rfl, isEndI e0, ?_⟩
      refine ⟨_, rfl, ?_⟩
      refine go_bool (fun z => ?_) (fun z => ?_)
      · walk_at "go"
        refine go_ixL hp2 i1 ?_
        walk_at "go"
        refine ⟨n, rfl, isEndI e1, ?_⟩
        walk_at "go"
        rw [z, Bool.true_and]
        exact ⟨rfl, rfl⟩
      · walk_at "go"
        rw [z, Bool.false_and]
        exact ⟨rfl, rfl⟩
    rintro σ' H3 ⟨rfl, rfl⟩
    walk_at "go"
    refine ⟨n, rfl, isEndI et, ?_⟩
    walk_at "go"
    rw [hle n, decide_eq_true rfl]
    walk_at "go"
    refine ⟨0, rfl, by decide, rfl, ft, ?_⟩
    rw [ask_take (by decide) nn et, hle n]
    intro H4 d4
    walk_at "go"
    refine .inr ⟨rfl, rfl, ?_⟩
    rw [decide_eq_true rfl]
    walk_at "go"
    have hp4 := d4.sqL id hp2
    refine go_ixL hp4 i0 ?_
    walk_at "go"
    refine ⟨0, rfl, by decide, rfl, f0, ?_⟩
    rw [ask_take (by decide) nn e0]
    intro H5 d5
    walk_at "go"
    have hp5 := d5.sqL id hp4
    refine go_ixL hp5 i1 ?_
    walk_at "go"
    refine ⟨1, rfl, by decide, rfl, f1, ?_⟩
    rw [ask_take (by decide) nn e1]
    intro H6 d6
    walk_at "go"
    refine ⟨by show 2 ≤ sizeLine; decide, fun u hu => ?_⟩
    walk_at "go"
    have hp6 := d6.sqL id hp5
    refine go_ixL (sql_new hp6 hu) i0 ?_
    walk_at "go"
    refine ⟨n, rfl, isEndI e0, ?_⟩
    walk_at "go"
    refine go_ixL (sql_new hp6 hu) i1 ?_
    walk_at "go"
    refine ⟨n, rfl, isEndI e1, ?_⟩
    walk_at "go"
    refine ⟨by show 2 ≤ sizeLine; decide, fun w hw => ?_⟩
    walk_at "go"
    refine .inl ⟨eqv_lst (SqL.of (stands upd_same hw)) (SqL.of upd_same) rfl (by show 2 ≤ 100000; decide), fun H7 d7 => ?_⟩
    walk_at "go"
    exact ⟨_, _, _, rfl, ((((d2.trans d4).trans d5).trans d6).trans ((Dx.new hu).trans (Dx.new hw))).trans d7⟩
  · rintro σ' H2 ⟨v3, v4, v5, rfl, d2⟩
    walk_at "go"
    exact k _ d2
abbrev N__law_value : List Str := ["_law_store_here", "_law_pool_here", "_law_bar_here", "_law_kind"]
theorem sc__law_value : FnScope N__law_value ["_law_store_here", "_law_pool_here", "_law_bar_here"] (defScope s__law_value) := ⟨rfl, rfl, rfl, by decide +kernel, rfl, by decide +kernel, by decide +kernel⟩
def IsVal (b : Bool) (v : V) : Prop := (IsEnd v ∨ IsBad v) ∧ (b = false → v ≠ .non)
def pValue (K : PySem.W.Frag) : P3 := fun v0 v1 v2 H Q _ => ∃ (c : Addr) (M : Addr → Prop) (p : Addr) (ns : List Int) (b : Bool), v0 = .ref c ∧ v1 = .ref p ∧ v2 = .bl b ∧ Ok M H c ∧ SqL K H p (ns.map V.int) ∧ ¬ M p ∧ 0 < ns.length ∧ ns.length ≤ 100000 ∧ (∀ n ∈ ns, InR n) ∧ Drawn M c H (IsVal b) Q
set_option maxHeartbeats 4000000 in
theorem D_law_value  (T : Txt K mg) : Def P w K mg base CX0 (5) "_law_value" s__law_value ["_law_store_here", "_law_pool_here", "_law_bar_here"] (Sp3 (pValue K)) := by
  obtain ⟨f, fd, m, F⟩ := T.f__law_value.ex
  refine ⟨f, fd, m, F.kp, F.bindsN (ps := ["_law_store_here", "_law_pool_here", "_law_bar_here"]) (fun _ _ _ _ _ _ us hl => match us, hl with | [_, _, _], _ => rfl), ?_, F⟩
  obtain ⟨f_law_bad_number, fd_law_bad_number, m_law_bad_number, kp_law_bad_number, b_law_bad_number, G_law_bad_number, F_law_bad_number⟩ := (D_law_bad_number (P := P) (w := w) (base := base) T).ex
  obtain ⟨f_law_near, fd_law_near, m_law_near, kp_law_near, b_law_near, G_law_near, F_law_near⟩ := (D_law_near (P := P) (w := w) (base := base) T).ex
  obtain ⟨f_law_number, fd_law_number, m_law_number, kp_law_number, b_law_number, G_law_number, F_law_number⟩ := (D_law_number (P := P) (w := w) (base := base) T).ex
  obtain ⟨f_law_pick, fd_law_pick, m_law_pick, kp_law_pick, b_law_pick, G_law_pick, F_law_pick⟩ := (D_law_pick (P := P) (w := w) (base := base) T).ex
  obtain ⟨f_law_take, fd_law_take, m_law_take, kp_law_take, b_law_take, G_law_take, F_law_take⟩ := (D_law_take (P := P) (w := w) (base := base) T).ex
  refine F.ok (CX := CX0) sc__law_value len3 (fun cdv A outer s H vs Q E hr h => ?_)
  obtain ⟨v0, v1, v2, rfl, h⟩ := h
  refine ⟨_, PSs.nox (pss_cons (ps_set (i := 3) sc__law_value.nd rfl (Or.inl rfl) (pe_call G_law_take (hr.mono (by first | decide | omega)) (by rfl) m_law_take kp_law_take b_law_take .nil pass0 (pa_cons (pv 0) (pa_cons pe_int pa_nil))))
      (pss_cons (ps_if (pt_cmpR op_eq (pv 3) pe_int (nomark _)) (pss_one (ps_ret (pe_call G_law_bad_number (hr.mono (by first | decide | omega)) (by rfl) m_law_bad_number kp_law_bad_number b_law_bad_number .nil pass0 (pa_cons (pv 0) (pa_cons pe_bl pa_nil))))) pss_nil)
      (pss_cons (ps_if (PW.pt (pw_and (pt_cmpR op_eq (pv 3) pe_int (nomark _)) (pw_and1 (pt_val (pv 2))))) (pss_one (ps_ret pe_non)) pss_nil)
      (pss_one (ps_ret (pe_call G_law_pick (hr.mono (by first | decide | omega)) (by rfl) m_law_pick kp_law_pick b_law_pick .nil pass0 (pa_cons (pv 0) (pa_cons (pe_lst (pa_cons (pe_call G_law_near (hr.mono (by first | decide | omega)) (by rfl) m_law_near kp_law_near b_law_near .nil pass0 (pa_cons (pv 0) (pa_cons (pv 1) pa_nil))) (pa_cons (pe_call G_law_number (hr.mono (by first | decide | omega)) (by rfl) m_law_number kp_law_number b_law_number .nil pass0 (pa_cons (pv 0) pa_nil)) pa_nil))) pa_nil)))))))), ?_⟩
  try dsimp only [cxOf, Cx.nox, Cx.wish]
  rw [show start N__law_value [v0, v1, v2] = [some v0, some v1, some v2, none] from rfl]
  obtain ⟨c, M, p, ns, b, rfl, rfl, rfl, ok, hp, hM, hl0, hl1, hn, k⟩ := h
  walk_at "go"
  refine take_go ok (by decide) (by decide) fun r1 H1 a1 b1 d1 ok1 => ?_
  have hp1 := (ok.sub d1).sqL hM hp
  walk_at "go"
  refine go_dec (fun _ => ?_) (fun _ => ?_)
  · walk_at "go"
    refine ⟨c, M, false, rfl, rfl, ok1, fun r H2 hr d2 ok2 => k _ _ ⟨.inr hr.1, fun _ => ?_⟩ (d1.trans d2) ok2⟩
    rcases hr.1 with ⟨i, rfl, _⟩ | ⟨b, rfl⟩
    · exact fun z => nomatch z
    · exact fun z => nomatch z
  walk_at "go"
  refine go_dec (fun _ => ?_) (fun _ => ?_)
  · walk_at "go"
    refine go_bool (fun hb => ?_) (fun hb => ?_)
    · walk_at "go"
      exact k _ _ ⟨.inl (.inl rfl), fun z => by rw [hb] at z; exact nomatch z⟩ d1 ok1
    walk_at "go"
    refine ⟨c, M, p, ns, rfl, rfl, ok1, hp1, hM, hl0, hl1, hn, fun r H2 hr d2 ok2 => ?_⟩
    walk_at "go"
    refine ⟨c, M, rfl, ok2, fun r3 H3 hr3 d3 ok3 => ?_⟩
    walk_at "go"
    refine ⟨by show 2 ≤ sizeLine; decide, fun q hq => ?_⟩
    walk_at "go"
    refine ⟨c, M, rfl, ok3.new hq, .inr ⟨q, _, rfl, SqL.of upd_same, ok3.notM hq, by show 0 < 2; decide, by show 2 ≤ 100000; decide, fun r4 H4 hr4 d4 ok4 => ?_⟩⟩
    simp only [List.mem_cons, List.not_mem_nil, or_false] at hr4
    have hnum : IsNum r4 := by
      rcases hr4 with z | z
      · rw [z]
        exact hr
      · rw [z]
        exact hr3
    refine k _ _ ⟨.inl (.inr hnum), fun _ => ?_⟩ ((((d1.trans d2).trans d3).trans (Dx.new hq)).trans d4) ok4
    obtain ⟨i, rfl, _⟩ := hnum
    exact fun z => nomatch z
  walk_at "go"
  refine ⟨c, M, p, ns, rfl, rfl, ok1, hp1, hM, hl0, hl1, hn, fun r H2 hr d2 ok2 => ?_⟩
  walk_at "go"
  refine ⟨c, M, rfl, ok2, fun r3 H3 hr3 d3 ok3 => ?_⟩
  walk_at "go"
  refine ⟨by show 2 ≤ sizeLine; decide, fun q hq => ?_⟩
  walk_at "go"
  refine ⟨c, M, rfl, ok3.new hq, .inr ⟨q, _, rfl, SqL.of upd_same, ok3.notM hq, by show 0 < 2; decide, by show 2 ≤ 100000; decide, fun r4 H4 hr4 d4 ok4 => ?_⟩⟩
  simp only [List.mem_cons, List.not_mem_nil, or_false] at hr4
  have hnum : IsNum r4 := by
    rcases hr4 with z | z
    · rw [z]
      exact hr
    · rw [z]
      exact hr3
  refine k _ _ ⟨.inl (.inr hnum), fun _ => ?_⟩ ((((d1.trans d2).trans d3).trans (Dx.new hq)).trans d4) ok4
  obtain ⟨i, rfl, _⟩ := hnum
  exact fun z => nomatch z
end
end Q
namespace Q
section
variable {P : Program} {w : World} {K : PySem.W.Frag} {mg : Str → Option Value} {base : Heap}
abbrev N__law_refuses : List Str := ["_law_store_here", "_law_pool_here", "_law_light", "_law_bars", "_law_k", "_law_due_here", "_law_told", "_law_bar_here"]
theorem sc__law_refuses : FnScope N__law_refuses ["_law_store_here", "_law_pool_here"] (defScope s__law_refuses) := ⟨rfl, rfl, rfl, by decide +kernel, rfl, by decide +kernel, by decide +kernel⟩
theorem flat_val {b : Bool} {v : V} (h : IsVal b v) : flatE v = true := by
  rcases h.1 with h | h
  · exact flat_end h
  · exact flat_bad h
/-- both as the limits ask, or the first that is not -/
theorem due_two {a b : V} : ([a, b].find? notEnd = none ∧ endOk a = true ∧ endOk b = true) ∨ ([a, b].find? notEnd = some a ∧ endOk a = false) ∨ ([a, b].find? notEnd = some b ∧ endOk a = true ∧ endOk b = false) := by
  cases ha : endOk a with
  | false =>
    refine .inr (.inl ⟨?_, rfl⟩)
    exact List.find?_cons_of_pos (by unfold notEnd; rw [ha]; rfl)
  | true =>
    have na : ¬ notEnd a = true := by unfold notEnd; rw [ha]; decide
    cases hb : endOk b with
    | false =>
      refine .inr (.inr ⟨?_, rfl, rfl⟩)
      rw [List.find?_cons_of_neg na]
      exact List.find?_cons_of_pos (by unfold notEnd; rw [hb]; rfl)
    | true =>
      refine .inl ⟨?_, rfl, rfl⟩
      have nb : ¬ notEnd b = true := by unfold notEnd; rw [hb]; decide
      rw [List.find?_cons_of_neg na, List.find?_cons_of_neg nb]
      rfl
theorem ask_low {k : Int} {a b : V} (h2 : 2 ≤ k) (h4 : k < 4) : ask k a b = askLower a b := (if_neg (by omega)).trans (if_pos h4)
theorem ask_tak {k : Int} {a b : V} (h2 : k < 2) : ask k a b = askTake a b := if_pos h2
def AskEq (r : V ⊕ V) (v : V) (H : Hp) : Prop := match r with
  | .inl w => v = w ∧ flatE w = true
  | .inr y => flatE y = true ∧ ∃ q, v = .ref q ∧ H q = some (.tup [.str "BadNumber", y, .bl true, .bl false])
def DueEq (o : Option V) (v : V) (H : Hp) : Prop := match o with
  | none => v = .non
  | some y => flatE y = true ∧ ∃ q, v = .ref q ∧ H q = some (.tup [.str "BadNumber", y, .bl true, .bl false])
theorem told_flats {y : V} (h : flatE y = true) : ([.str "BadNumber", y, .bl true, .bl false] : List V).all flatE = true := by
  show (true && (flatE y && (true && (true && true)))) = true
  rw [h]
  rfl
theorem ask_elim {K : PySem.W.Frag} {r : V ⊕ V} {v : V} {H : Hp} {Q : VK} (h : AskEq r v H) (k : ∀ u H', Dx No H H' → Eqv K H' 1 u v → Q u H') : AskTo r H Q := by
  cases r with
  | inl w =>
    obtain ⟨e, f⟩ := h
    intro H' d
    rw [e] at k
    exact k _ _ d (flatE_eqv f)
  | inr y =>
    obtain ⟨f, q, e, hq⟩ := h
    intro p H' hp d ht
    rw [e] at k
    exact k _ _ d (eqv_tup (SqT.of ht) (SqT.of (d.st _ _ id hq)) (told_flats f) (by show 4 ≤ 100000; decide))
theorem due_elim {o : Option V} {H : Hp} {Q : VK} (f : ∀ y, o = some y → flatE y = true) (k : ∀ v H', Dx No H H' → DueEq o v H' → Q v H') : DueTo o H Q := by
  cases o with
  | none => exact k _ _ Dx.refl rfl
  | some y =>
    intro p H' hp d ht
    exact k _ _ d ⟨f y rfl, p, rfl, ht⟩
theorem find_flat {xs : List V} (h : ∀ v ∈ xs, flatE v = true) : ∀ y, xs.find? notEnd = some y → flatE y = true := fun y e => h y (List.mem_of_find?_eq_some e)
def pRefuses (K : PySem.W.Frag) : P2 := fun v0 v1 H Q _ => ∃ (c : Addr) (M : Addr → Prop) (p : Addr) (ns : List Int), v0 = .ref c ∧ v1 = .ref p ∧ Ok M H c ∧ SqL K H p (ns.map V.int) ∧ ¬ M p ∧ 0 < ns.length ∧ ns.length ≤ 100000 ∧ (∀ n ∈ ns, InR n) ∧ ∀ H', Dx (Only1 c) H H' → Ok M H' c → Q (.bl true) H'
set_option maxHeartbeats 4000000 in
theorem D_law_refuses  (T : Txt K mg) : Def P w K mg base CX0 (8) "_law_refuses" s__law_refuses ["_law_store_here", "_law_pool_here"] (Sp2 (pRefuses K)) := by
  obtain ⟨f, fd, m, F⟩ := T.f__law_refuses.ex
  refine ⟨f, fd, m, F.kp, F.bindsN (ps := ["_law_store_here", "_law_pool_here"]) (fun _ _ _ _ _ _ us hl => match us, hl with | [_, _], _ => rfl), ?_, F⟩
  obtain ⟨f_law_asked, fd_law_asked, m_law_asked, kp_law_asked, b_law_asked, G_law_asked, F_law_asked⟩ := (D_law_asked (P := P) (w := w) (base := base) T).ex
  obtain ⟨f_law_due, fd_law_due, m_law_due, kp_law_due, b_law_due, G_law_due, F_law_due⟩ := (D_law_due (P := P) (w := w) (base := base) T).ex
  obtain ⟨f_law_is_lower, fd_law_is_lower, m_law_is_lower, kp_law_is_lower, b_law_is_lower, G_law_is_lower, F_law_is_lower⟩ := (D_law_is_lower (P := P) (w := w) (base := base) T).ex
  obtain ⟨f_law_is_under, fd_law_is_under, m_law_is_under, kp_law_is_under, b_law_is_under, G_law_is_under, F_law_is_under⟩ := (D_law_is_under (P := P) (w := w) (base := base) T).ex
  obtain ⟨f_law_same, fd_law_same, m_law_same, kp_law_same, b_law_same, G_law_same, F_law_same⟩ := (D_law_same (P := P) (w := w) (base := base) T).ex
  obtain ⟨f_law_tried, fd_law_tried, m_law_tried, kp_law_tried, b_law_tried, G_law_tried, F_law_tried⟩ := (D_law_tried (P := P) (w := w) (base := base) T).ex
  obtain ⟨f_law_value, fd_law_value, m_law_value, kp_law_value, b_law_value, G_law_value, F_law_value⟩ := (D_law_value (P := P) (w := w) (base := base) T).ex
  refine F.ok (CX := CX0) sc__law_refuses len2 (fun cdv A outer s H vs Q E hr h => ?_)
  obtain ⟨v0, v1, rfl, h⟩ := h
  refine ⟨_, PSs.nox (pss_cons (ps_set (i := 2) sc__law_refuses.nd rfl (Or.inl rfl) (pe_call G_law_value (hr.mono (by first | decide | omega)) (by rfl) m_law_value kp_law_value b_law_value .nil pass0 (pa_cons (pv 0) (pa_cons (pv 1) (pa_cons pe_bl pa_nil)))))
      (pss_cons (ps_set (i := 3) sc__law_refuses.nd rfl (Or.inl rfl) (pe_lst (pa_cons (pe_call G_law_value (hr.mono (by first | decide | omega)) (by rfl) m_law_value kp_law_value b_law_value .nil pass0 (pa_cons (pv 0) (pa_cons (pv 1) (pa_cons pe_bl pa_nil)))) (pa_cons (pe_call G_law_value (hr.mono (by first | decide | omega)) (by rfl) m_law_value kp_law_value b_law_value .nil pass0 (pa_cons (pv 0) (pa_cons (pv 1) (pa_cons pe_bl pa_nil)))) pa_nil))))
      (pss_cons (ps_for PassesOwn.never rfl (pi_range1 (by rfl) T.b_range (pa_cons pe_int pa_nil)) (pg_name (i := 4) sc__law_refuses.nd rfl (Or.inl rfl)) (C8.pss_cut (ps_set (i := 5) sc__law_refuses.nd rfl (Or.inl rfl) (pe_call G_law_due (hr.mono (by first | decide | omega)) (by rfl) m_law_due kp_law_due b_law_due .nil pass0 (pa_cons (pe_lst (pa_cons (pv 2) (pa_cons (pe_ix ix_U (pv 3) pe_int (fun _ _ => rfl)) pa_nil))) pa_nil)))
      (C8.pss_cut (ps_if (pt_cmpR op_is0 (pv 5) pe_non (nomark _)) (pss_one (ps_set (i := 5) sc__law_refuses.nd rfl (Or.inl rfl) (pe_call G_law_is_under (hr.mono (by first | decide | omega)) (by rfl) m_law_is_under kp_law_is_under b_law_is_under .nil pass0 (pa_cons (pv 2) (pa_cons (pe_ix ix_U (pv 3) pe_int (fun _ _ => rfl)) pa_nil))))) pss_nil)
      (C8.pss_cut (ps_if (pt_not (pt_val (pe_call G_law_same (hr.mono (by first | decide | omega)) (by rfl) m_law_same kp_law_same b_law_same .nil pass0 (pa_cons (pe_call G_law_asked (hr.mono (by first | decide | omega)) (by rfl) m_law_asked kp_law_asked b_law_asked .nil pass0 (pa_cons (pv 4) (pa_cons (pv 2) (pa_cons (pe_ix ix_U (pv 3) pe_int (fun _ _ => rfl)) pa_nil)))) (pa_cons (pv 5) pa_nil))))) (pss_one (ps_ret pe_bl)) pss_nil)
      (C8.pss_cut (ps_set (i := 5) sc__law_refuses.nd rfl (Or.inl rfl) (pe_call G_law_due (hr.mono (by first | decide | omega)) (by rfl) m_law_due kp_law_due b_law_due .nil pass0 (pa_cons (pv 3) pa_nil)))
      (pss_cons (ps_set (i := 6) sc__law_refuses.nd rfl (Or.inl rfl) (pe_call G_law_asked (hr.mono (by first | decide | omega)) (by rfl) m_law_asked kp_law_asked b_law_asked .nil pass0 (pa_cons (pe_op op_addU pe_int (pv 4)) (pa_cons (pe_ix ix_U (pv 3) pe_int (fun _ _ => rfl)) (pa_cons (pe_ix ix_U (pv 3) pe_int (fun _ _ => rfl)) pa_nil)))))
      (pss_cons (ps_if (PW.pt (pw_and (pt_cmpR op_isnot0 (pv 5) pe_non (nomark _)) (pw_and1 (pt_not (pt_val (pe_call G_law_same (hr.mono (by first | decide | omega)) (by rfl) m_law_same kp_law_same b_law_same .nil pass0 (pa_cons (pv 6) (pa_cons (pv 5) pa_nil)))))))) (pss_one (ps_ret pe_bl)) pss_nil)
      (pss_one (ps_if (PW.pt (pw_and (pt_cmpR op_is0 (pv 5) pe_non (nomark _)) (pw_and1 (pt_not (pt_val (pe_call G_law_is_lower (hr.mono (by first | decide | omega)) (by rfl) m_law_is_lower kp_law_is_lower b_law_is_lower .nil pass0 (pa_cons (pv 6) (pa_cons (pv 3) (pa_cons (pe_call G_law_tried (hr.mono (by first | decide | omega)) (by rfl) m_law_tried kp_law_tried b_law_tried .nil pass0 (pa_cons (pe_lc (own := [("_law_bar_here", 7)]) (g := gName 7) rfl sc__law_refuses.nd (pi_list (pv 3)) (blkOk_by (own := [("_law_bar_here", 7)]) (N := N__law_refuses) (sc := defScope s__law_refuses) (by decide +kernel)) (fun _ _ _ _ _ => (pg_name (i := 7) sc__law_refuses.nd rfl (Or.inl rfl))) (fun _ _ _ _ _ => (pts_one (pt_cmpR op_isnot0 (pv 7) pe_non (nomark _)))) (fun _ _ _ _ _ => (pv 7))) pa_nil)) pa_nil))))))))) (pss_one (ps_ret pe_bl)) pss_nil)))))))))
      (pss_one (ps_ret pe_bl))))), ?_⟩
  try dsimp only [cxOf, Cx.nox, Cx.wish]
  rw [show start N__law_refuses [v0, v1] = [some v0, some v1, none, none, none, none, none, none] from rfl]
  obtain ⟨c, M, p, ns, rfl, rfl, ok, hp, hM, hl0, hl1, hn, k⟩ := h
  walk_at "go"
  refine ⟨c, M, p, ns, false, rfl, rfl, rfl, ok, hp, hM, hl0, hl1, hn, fun x H1 hx d1 ok1 => ?_⟩
  have hp1 := (ok.sub d1).sqL hM hp
  walk_at "go"
  refine ⟨c, M, p, ns, true, rfl, rfl, rfl, ok1, hp1, hM, hl0, hl1, hn, fun b0 H2 h0 d2 ok2 => ?_⟩
  have hp2 := (ok1.sub d2).sqL hM hp1
  walk_at "go"
  refine ⟨c, M, p, ns, true, rfl, rfl, rfl, ok2, hp2, hM, hl0, hl1, hn, fun b1 H3 h1 d3 ok3 => ?_⟩
  walk_at "go"
  refine ⟨by show 2 ≤ sizeLine; decide, fun l hl => ?_⟩
  walk_at "go"
  have fx := flat_val hx
  have f0 := flat_val h0
  have f1 := flat_val h1
  have i0 : atI [b0, b1] 0 = some b0 := rfl
  have i1 : atI [b0, b1] 1 = some b1 := rfl
  have d4 : Dx (Only1 c) H (upd H3 l (.lst [b0, b1])) := ((d1.trans d2).trans d3).trans (Dx.new hl)
  have ok4 := ok3.new (o := .lst [b0, b1]) hl
  have hb4 : SqL K (upd H3 l (.lst [b0, b1])) l [b0, b1] := SqL.of upd_same
  generalize upd H3 l (.lst [b0, b1]) = H4 at d4 ok4 hb4 ⊢
  refine for_r (by omega) (fun i σ' H' => ∃ (v4 v5 v6 v7 : Option V), σ' = [some (.ref c), some (.ref p), some x, some (.ref l), v4, v5, v6, v7] ∧ Dx No H4 H') ⟨_, _, _, _, rfl, Dx.refl⟩ ?_ ?_
  · rintro i σ' H5 hi ⟨v4, v5, v6, v7, rfl, d5⟩
    have hb5 := d5.sqL id hb4
    walk_at "go"
    have fl2 : ∀ {a b : V}, flatE a = true → flatE b = true → ∀ v ∈ [a, b], flatE v = true := fun ha hb v hv => by
      simp only [List.mem_cons, List.not_mem_nil, or_false] at hv
      rcases hv with z | z
      · rw [z]
        exact ha
      · rw [z]
        exact hb
    refine ⟨fun σ' H' => ∃ u5 : V, σ' = [some (.ref c), some (.ref p), some x, some (.ref l), some (.int i), some u5, v6, v7] ∧ Dx No H5 H' ∧ DueEq ([x, b0].find? notEnd) u5 H', ?_, ?_⟩
    · walk_at "go"
      refine go_ixL hb5 i0 ?_
      walk_at "go"
      refine ⟨by show 2 ≤ sizeLine; decide, fun q hq => ?_⟩
      walk_at "go"
      refine ⟨q, _, rfl, SqL.of upd_same, fl2 fx f0, due_elim (find_flat (fl2 fx f0)) fun u H6 d6 e6 => ?_⟩
      walk_at "go"
      exact ⟨u, rfl, (Dx.new hq).trans d6, e6⟩
    rintro σ' H6 ⟨u5, rfl, d6, e6⟩
    have hb6 := d6.sqL id hb5
    walk_at "go"
    refine ⟨fun σ' H' => ∃ u5 : V, σ' = [some (.ref c), some (.ref p), some x, some (.ref l), some (.int i), some u5, v6, v7] ∧ H' = H6 ∧ AskEq (ask i x b0) u5 H', ?_, ?_⟩
    · rw [ask_tak (by omega)]
      rcases due_two (a := x) (b := b0) with ⟨z, za, zb⟩ | ⟨z, za⟩ | ⟨z, za, zb⟩
      · rw [z] at e6
        have e6' : u5 = .non := e6
        subst e6'
        rcases endOk_to za with zx | ⟨n, rfl, hnr⟩
        · exact absurd zx (hx.2 rfl)
        walk_at "go"
        refine go_ixL hb6 i0 ?_
        walk_at "go"
        refine ⟨n, rfl, isEndI (endOk_to zb), ?_⟩
        walk_at "go"
        rw [take_ok (isNum_int hnr) zb]
        exact ⟨_, rfl, rfl, rfl, rfl⟩
      · rw [z] at e6
        obtain ⟨fy, q, rfl, hq⟩ := e6
        walk_at "go"
        rw [take_bad (by rcases hx.1 with g | g; (rw [endOk_of g] at za; exact nomatch za); exact isBad_of g)]
        exact ⟨_, rfl, rfl, fy, q, rfl, hq⟩
      · rw [z] at e6
        obtain ⟨fy, q, rfl, hq⟩ := e6
        walk_at "go"
        rw [take_bad2 (by rcases endOk_to za with g | g; (exact absurd g (hx.2 rfl)); exact isNum_of g) zb]
        exact ⟨_, rfl, rfl, fy, q, rfl, hq⟩
    rintro σ' H7 ⟨w5, rfl, rfl, e7⟩
    walk_at "go"
    refine ⟨fun σ' H' => σ' = [some (.ref c), some (.ref p), some x, some (.ref l), some (.int i), some w5, v6, v7] ∧ Dx No H7 H', ?_, ?_⟩
    · walk_at "go"
      refine go_ixL hb6 i0 ?_
      walk_at "go"
      refine ⟨i, rfl, by omega, fx, f0, ask_elim (K := K) e7 fun u H8 d8 e8 => ?_⟩
      walk_at "go"
      refine .inl ⟨e8, fun H9 d9 => ?_⟩
      walk_at "go"
      exact ⟨rfl, d8.trans d9⟩
    rintro σ' H8 ⟨rfl, d8⟩
    have hb8 := d8.sqL id hb6
    walk_at "go"
    refine ⟨fun σ' H' => ∃ u5 : V, σ' = [some (.ref c), some (.ref p), some x, some (.ref l), some (.int i), some u5, v6, v7] ∧ Dx No H8 H' ∧ DueEq ([b0, b1].find? notEnd) u5 H', ?_, ?_⟩
    · walk_at "go"
      refine ⟨l, _, rfl, hb8, fl2 f0 f1, due_elim (find_flat (fl2 f0 f1)) fun u H6 d6 e6 => ?_⟩
      walk_at "go"
      exact ⟨u, rfl, d6, e6⟩
    rintro σ' H9 ⟨y5, rfl, d9, e9⟩
    have hb9 := d9.sqL id hb8
    have d49 : Dx No H4 H9 := ((d5.trans d6).trans d8).trans d9
    have bad : ∀ {y : V}, askLower b0 b1 = .inr y → DueEq (some y) y5 H9 → AskEq (ask (2 + i) b0 b1) y5 H9 := fun {y} e g => by
      rw [ask_low (by omega) (by omega), e]
      exact g
    rcases due_two (a := b0) (b := b1) with ⟨z, za, zb⟩ | z
    · rw [z] at e9
      have e9' : y5 = .non := e9
      subst e9'
      walk_at "go"
      refine go_ixL hb9 i0 ?_
      walk_at "go"
      refine go_ixL hb9 i1 ?_
      walk_at "go"
      refine ⟨2 + i, rfl, by omega, f0, f1, ?_⟩
      rw [ask_low (by omega) (by omega), lower_ok za zb]
      intro H10 d10
      walk_at "go"
      have hb10 := d10.sqL id hb9
      refine lc_l hb10 fun D hD => ⟨fun j H' => ∃ ms : List Int, H' D = some (.lst (ms.map V.int)) ∧ (∀ m ∈ ms, InR m) ∧ ms.length ≤ j ∧ Dx No H10 H', ⟨[], upd_same, fun m hm => (List.not_mem_nil hm).elim, Nat.le_refl _, Dx.new hD⟩, fun j H' _ ⟨_, _, _, _, g⟩ => g.sqL id hb10, ?_, ?_⟩
      · rintro j v H' hv ⟨ms, g1, g2, g3, g4⟩
        have hj : j < 2 := (List.getElem?_eq_some_iff.mp hv).1
        have ev : IsEnd v := by
          have q := List.mem_of_getElem? hv
          simp only [List.mem_cons, List.not_mem_nil, or_false] at q
          rcases q with q | q
          · rw [q]
            exact endOk_to za
          · rw [q]
            exact endOk_to zb
        dsimp only [wipe, List.map, List.set_cons_zero, List.set_cons_succ]
        rcases ev with rfl | ⟨n, rfl, hnr⟩
        · walk_at "go"
          refine ⟨rfl, ?_⟩
          walk_at "go"
          exact ⟨ms, g1, g2, by omega, g4⟩
        · walk_at "go"
          refine ⟨rfl, ?_⟩
          walk_at "go"
          refine go_lca g1 (by rw [List.length_map]; exact size_lt (by omega)) ⟨ms ++ [n], by rw [upd_same, List.map_append]; rfl, fun m hm => ?_, by rw [List.length_append]; show ms.length + 1 ≤ j + 1; omega, g4.own hD⟩
          rcases List.mem_append.mp hm with q | q
          · exact g2 m q
          · rw [List.mem_singleton.mp q]
            exact hnr
      · rintro H11 ⟨ms, g1, g2, g3, g4⟩
        walk_at "go"
        have g3' : ms.length ≤ 2 := g3
        refine ⟨D, ms, rfl, SqL.of g1, by omega, g2, fun u ys H12 hu q1 q2 q3 => ?_⟩
        obtain ⟨ks, rfl, q4, q5⟩ := q2
        walk_at "go"
        refine ⟨l, u, b0, b1, ks, rfl, rfl, rfl, q3.sqL id (g4.sqL id hb10), endOk_to za, endOk_to zb, SqL.of q1, q4, fun H13 d13 => ?_⟩
        walk_at "go"
        exact ⟨_, _, _, _, rfl, (((d49.trans d10).trans g4).trans q3).trans d13⟩
    · have e10 : AskEq (ask (2 + i) b0 b1) y5 H9 ∧ ∃ q, y5 = .ref q := by
        rcases z with ⟨z, za⟩ | ⟨z, za, zb⟩
        · rw [z] at e9
          exact ⟨bad (lower_bad za) e9, by obtain ⟨_, q, hq, _⟩ := e9; exact ⟨q, hq⟩⟩
        · rw [z] at e9
          exact ⟨bad (lower_bad2 za zb) e9, by obtain ⟨_, q, hq, _⟩ := e9; exact ⟨q, hq⟩⟩
      obtain ⟨e10, q, rfl⟩ := e10
      walk_at "go"
      refine go_ixL hb9 i0 ?_
      walk_at "go"
      refine go_ixL hb9 i1 ?_
      walk_at "go"
      refine ⟨2 + i, rfl, by omega, f0, f1, ask_elim (K := K) e10 fun u H10 d10 g10 => ?_⟩
      walk_at "go"
      refine .inl ⟨g10, fun H11 d11 => ?_⟩
      walk_at "go"
      exact ⟨_, _, _, _, rfl, (d49.trans d10).trans d11⟩
  · rintro σ' H5 ⟨v4, v5, v6, v7, rfl, d5⟩
    walk_at "go"
    exact k _ (d4.trans (No.to d5)) (ok4.no d5)
abbrev N__law_is_told : List Str := ["_law_value_here", "_law_fine", "_law_due_here"]
theorem sc__law_is_told : FnScope N__law_is_told ["_law_value_here"] (defScope s__law_is_told) := ⟨rfl, rfl, rfl, by decide +kernel, rfl, by decide +kernel, by decide +kernel⟩
def pIsTold : P1 := fun v0 H Q _ => flatE v0 = true ∧ ∀ H', Dx No H H' → Q (.bl true) H'
theorem ask_num {k : Int} {a b : V} (h : 4 ≤ k) : ask k a b = askNum a := (if_neg (by omega)).trans (if_neg (by omega))
set_option maxHeartbeats 4000000 in
theorem D_law_is_told  (T : Txt K mg) : Def P w K mg base CX0 (7) "_law_is_told" s__law_is_told ["_law_value_here"] (Sp1 pIsTold) := by
  obtain ⟨f, fd, m, F⟩ := T.f__law_is_told.ex
  refine ⟨f, fd, m, F.kp, F.bindsN (ps := ["_law_value_here"]) (fun _ _ _ _ _ _ us hl => match us, hl with | [_], _ => rfl), ?_, F⟩
  obtain ⟨f_law_asked, fd_law_asked, m_law_asked, kp_law_asked, b_law_asked, G_law_asked, F_law_asked⟩ := (D_law_asked (P := P) (w := w) (base := base) T).ex
  obtain ⟨f_law_is_number, fd_law_is_number, m_law_is_number, kp_law_is_number, b_law_is_number, G_law_is_number, F_law_is_number⟩ := (D_law_is_number (P := P) (w := w) (base := base) T).ex
  obtain ⟨f_law_same, fd_law_same, m_law_same, kp_law_same, b_law_same, G_law_same, F_law_same⟩ := (D_law_same (P := P) (w := w) (base := base) T).ex
  obtain ⟨fis_number, fdis_number, mis_number, kpis_number, bis_number, Gis_number, Fis_number⟩ := (Dis_number (P := P) (w := w) (base := base) T).ex
  refine F.ok (CX := CX0) sc__law_is_told len1 (fun cdv A outer s H vs Q E hr h => ?_)
  obtain ⟨v0, rfl, h⟩ := h
  refine ⟨_, PSs.nox (pss_cons (ps_set (i := 1) sc__law_is_told.nd rfl (Or.inl rfl) (pe_call G_law_is_number (hr.mono (by first | decide | omega)) (by rfl) m_law_is_number kp_law_is_number b_law_is_number .nil pass0 (pa_cons (pv 0) pa_nil)))
      (pss_cons (ps_set (i := 2) sc__law_is_told.nd rfl (Or.inl rfl) (pv 0))
      (pss_cons (ps_if (pt_not (pt_val (pv 1))) (pss_one (ps_set (i := 2) sc__law_is_told.nd rfl (Or.inl rfl) (pe_tup (pa_cons pe_str (pa_cons (pv 0) (pa_cons pe_bl (pa_cons pe_bl pa_nil))))))) pss_nil)
      (pss_one (ps_ret (pe_and (pe_call G_law_same (hr.mono (by first | decide | omega)) (by rfl) m_law_same kp_law_same b_law_same .nil pass0 (pa_cons (pe_call Gis_number (hr.mono (by first | decide | omega)) (by rfl) mis_number kpis_number bis_number .nil pass0 (pa_cons (pv 0) pa_nil)) (pa_cons (pv 1) pa_nil))) (pe_one (pe_call G_law_same (hr.mono (by first | decide | omega)) (by rfl) m_law_same kp_law_same b_law_same .nil pass0 (pa_cons (pe_call G_law_asked (hr.mono (by first | decide | omega)) (by rfl) m_law_asked kp_law_asked b_law_asked .nil pass0 (pa_cons pe_int (pa_cons (pv 0) (pa_cons pe_non pa_nil)))) (pa_cons (pv 2) pa_nil)))))))))), ?_⟩
  try dsimp only [cxOf, Cx.nox, Cx.wish]
  rw [show start N__law_is_told [v0] = [some v0, none, none] from rfl]
  obtain ⟨hf, k⟩ := h
  walk_at "go"
  refine ⟨hf, ?_⟩
  walk_at "go"
  refine go_nbool (fun e => ?_) (fun e => ?_)
  · walk_at "go"
    refine ⟨by show 4 ≤ sizeLine; decide, fun p hp => ?_⟩
    walk_at "go"
    refine ⟨hf, ?_⟩
    walk_at "go"
    refine .inr ⟨rfl, rfl, ?_⟩
    rw [decide_eq_true rfl]
    walk_at "go"
    refine ⟨4, rfl, by decide, hf, rfl, ?_⟩
    rw [ask_num (by decide), num_bad e]
    intro q H1 hq d1 hq1
    walk_at "go"
    exact .inl ⟨eqv_tup (SqT.of hq1) (SqT.of (d1.st p _ id upd_same)) (told_flats hf) (by show 4 ≤ 100000; decide), fun H2 d2 => k _ (((Dx.new hp).trans d1).trans d2)⟩
  · walk_at "go"
    refine ⟨hf, ?_⟩
    walk_at "go"
    refine .inr ⟨rfl, rfl, ?_⟩
    rw [decide_eq_true rfl]
    walk_at "go"
    refine ⟨4, rfl, by decide, hf, rfl, ?_⟩
    rw [ask_num (by decide), num_ok e]
    intro H1 d1
    walk_at "go"
    refine .inr ⟨hf, hf, ?_⟩
    rw [decide_eq_true rfl]
    exact k _ d1
end
end Q
namespace Q
section
variable {P : Program} {w : World} {K : PySem.W.Frag} {mg : Str → Option Value} {base : Heap}
abbrev N_law : List Str := ["_law_script", "_law_store_here", "_law_pool_here", "_law_bars", "_law_lights", "_law_k", "_law_turn", "_law_values", "_law_value_here", "_law_bar_here"]
theorem sc_law : FnScope N_law ["_law_script"] (defScope s_law) := ⟨rfl, rfl, rfl, by decide +kernel, rfl, by decide +kernel, by decide +kernel⟩
theorem lesser_comm {a b : V} (ha : IsEnd a) (hb : IsEnd b) : lesserV b a = lesserV a b := by
  rcases ha with rfl | ⟨i, rfl, _⟩
  · rcases hb with rfl | ⟨j, rfl, _⟩
    · rfl
    · rfl
  rcases hb with rfl | ⟨j, rfl, _⟩
  · rfl
  show (if j < i then V.int j else V.int i) = (if i < j then V.int i else V.int j)
  by_cases h : j < i
  · rw [if_pos h, if_neg (by omega)]
  · rw [if_neg h]
    by_cases h2 : i < j
    · rw [if_pos h2]
    · rw [if_neg h2, show i = j by omega]
set_option maxHeartbeats 4000000 in
theorem Dlaw  (T : Txt K mg) : Def P w K mg base CX0 (9) "law" s_law ["_law_script"] (Sp1 (pLaw K)) := by
  obtain ⟨f, fd, m, F⟩ := T.f_law.ex
  refine ⟨f, fd, m, F.kp, F.bindsN (ps := ["_law_script"]) (fun _ _ _ _ _ _ us hl => match us, hl with | [_], _ => rfl), ?_, F⟩
  obtain ⟨f_law_asked, fd_law_asked, m_law_asked, kp_law_asked, b_law_asked, G_law_asked, F_law_asked⟩ := (D_law_asked (P := P) (w := w) (base := base) T).ex
  obtain ⟨f_law_bad_number, fd_law_bad_number, m_law_bad_number, kp_law_bad_number, b_law_bad_number, G_law_bad_number, F_law_bad_number⟩ := (D_law_bad_number (P := P) (w := w) (base := base) T).ex
  obtain ⟨f_law_bar, fd_law_bar, m_law_bar, kp_law_bar, b_law_bar, G_law_bar, F_law_bar⟩ := (D_law_bar (P := P) (w := w) (base := base) T).ex
  obtain ⟨f_law_is_lower, fd_law_is_lower, m_law_is_lower, kp_law_is_lower, b_law_is_lower, G_law_is_lower, F_law_is_lower⟩ := (D_law_is_lower (P := P) (w := w) (base := base) T).ex
  obtain ⟨f_law_is_told, fd_law_is_told, m_law_is_told, kp_law_is_told, b_law_is_told, G_law_is_told, F_law_is_told⟩ := (D_law_is_told (P := P) (w := w) (base := base) T).ex
  obtain ⟨f_law_number, fd_law_number, m_law_number, kp_law_number, b_law_number, G_law_number, F_law_number⟩ := (D_law_number (P := P) (w := w) (base := base) T).ex
  obtain ⟨f_law_pool, fd_law_pool, m_law_pool, kp_law_pool, b_law_pool, G_law_pool, F_law_pool⟩ := (D_law_pool (P := P) (w := w) (base := base) T).ex
  obtain ⟨f_law_refuses, fd_law_refuses, m_law_refuses, kp_law_refuses, b_law_refuses, G_law_refuses, F_law_refuses⟩ := (D_law_refuses (P := P) (w := w) (base := base) T).ex
  obtain ⟨f_law_same, fd_law_same, m_law_same, kp_law_same, b_law_same, G_law_same, F_law_same⟩ := (D_law_same (P := P) (w := w) (base := base) T).ex
  obtain ⟨f_law_store, fd_law_store, m_law_store, kp_law_store, b_law_store, G_law_store, F_law_store⟩ := (D_law_store (P := P) (w := w) (base := base) T).ex
  obtain ⟨f_law_tried, fd_law_tried, m_law_tried, kp_law_tried, b_law_tried, G_law_tried, F_law_tried⟩ := (D_law_tried (P := P) (w := w) (base := base) T).ex
  obtain ⟨tc_LIMIT, ec_LIMIT⟩ := T.c_LIMIT
  refine F.ok (CX := CX0) sc_law len1 (fun cdv A outer s H vs Q E hr h => ?_)
  obtain ⟨v0, rfl, h⟩ := h
  refine ⟨_, PSs.nox (pss_cons (ps_set (i := 1) sc_law.nd rfl (Or.inl rfl) (pe_call G_law_store (hr.mono (by first | decide | omega)) (by rfl) m_law_store kp_law_store b_law_store .nil pass0 (pa_cons (pv 0) pa_nil)))
      (pss_cons (ps_set (i := 2) sc_law.nd rfl (Or.inl rfl) (pe_call G_law_pool (hr.mono (by first | decide | omega)) (by rfl) m_law_pool kp_law_pool b_law_pool .nil pass0 (pa_cons (pv 1) pa_nil)))
      (pss_cons (ps_set (i := 3) sc_law.nd rfl (Or.inl rfl) (pe_lst (pa_cons (pe_call G_law_bar (hr.mono (by first | decide | omega)) (by rfl) m_law_bar kp_law_bar b_law_bar .nil pass0 (pa_cons (pv 1) (pa_cons (pv 2) pa_nil))) (pa_cons (pe_call G_law_bar (hr.mono (by first | decide | omega)) (by rfl) m_law_bar kp_law_bar b_law_bar .nil pass0 (pa_cons (pv 1) (pa_cons (pv 2) pa_nil))) pa_nil))))
      (pss_cons (ps_set (i := 4) sc_law.nd rfl (Or.inl rfl) (pe_op op_addU (pe_call G_law_tried (hr.mono (by first | decide | omega)) (by rfl) m_law_tried kp_law_tried b_law_tried .nil pass0 (pa_cons (pe_op op_addU (pv 2) (pe_lc (own := [("_law_bar_here", 9)]) (g := gName 9) rfl sc_law.nd (pi_list (pv 3)) (blkOk_by (own := [("_law_bar_here", 9)]) (N := N_law) (sc := defScope s_law) (by decide +kernel)) (fun _ _ _ _ _ => (pg_name (i := 9) sc_law.nd rfl (Or.inl rfl))) (fun _ _ _ _ _ => (pts_one (pt_cmpR op_isnot0 (pv 9) pe_non (nomark _)))) (fun _ _ _ _ _ => (pv 9)))) pa_nil)) (pe_lst (pa_cons (pe_call G_law_number (hr.mono (by first | decide | omega)) (by rfl) m_law_number kp_law_number b_law_number .nil pass0 (pa_cons (pv 1) pa_nil)) pa_nil))))
      (pss_cons (ps_for PassesOwn.never rfl (pi_list (pe_lst (pa_cons pe_int (pa_cons pe_int pa_nil)))) (pg_name (i := 5) sc_law.nd rfl (Or.inl rfl)) (pss_cons (ps_if (pt_not (pt_val (pe_call G_law_is_lower (hr.mono (by first | decide | omega)) (by rfl) m_law_is_lower kp_law_is_lower b_law_is_lower .nil pass0 (pa_cons (pe_call G_law_asked (hr.mono (by first | decide | omega)) (by rfl) m_law_asked kp_law_asked b_law_asked .nil pass0 (pa_cons (pv 5) (pa_cons (pe_ix ix_U (pv 3) pe_int (fun _ _ => rfl)) (pa_cons (pe_ix ix_U (pv 3) pe_int (fun _ _ => rfl)) pa_nil)))) (pa_cons (pv 3) (pa_cons (pv 4) pa_nil)))))) (pss_one (ps_ret pe_bl)) pss_nil)
      (pss_one (ps_if (pt_not (pt_val (pe_call G_law_same (hr.mono (by first | decide | omega)) (by rfl) m_law_same kp_law_same b_law_same .nil pass0 (pa_cons (pe_call G_law_asked (hr.mono (by first | decide | omega)) (by rfl) m_law_asked kp_law_asked b_law_asked .nil pass0 (pa_cons (pv 5) (pa_cons (pe_ix ix_U (pv 3) pe_int (fun _ _ => rfl)) (pa_cons (pe_ix ix_U (pv 3) pe_int (fun _ _ => rfl)) pa_nil)))) (pa_cons (pe_call G_law_asked (hr.mono (by first | decide | omega)) (by rfl) m_law_asked kp_law_asked b_law_asked .nil pass0 (pa_cons (pv 5) (pa_cons (pe_ix ix_U (pv 3) pe_int (fun _ _ => rfl)) (pa_cons (pe_ix ix_U (pv 3) pe_int (fun _ _ => rfl)) pa_nil)))) pa_nil))))) (pss_one (ps_ret pe_bl)) pss_nil))))
      (pss_cons (ps_for PassesOwn.never rfl (pi_range1 (by rfl) T.b_range (pa_cons pe_int pa_nil)) (pg_name (i := 6) sc_law.nd rfl (Or.inl rfl)) (pss_one (ps_if (pt_not (pt_val (pe_call G_law_refuses (hr.mono (by first | decide | omega)) (by rfl) m_law_refuses kp_law_refuses b_law_refuses .nil pass0 (pa_cons (pv 1) (pa_cons (pv 2) pa_nil))))) (pss_one (ps_ret pe_bl)) pss_nil)))
      (pss_cons (ps_set (i := 7) sc_law.nd rfl (Or.inl rfl) (pe_lst (pa_cons pe_non (pa_cons pe_bl (pa_cons pe_bl (pa_cons pe_int (pa_cons (pe_op op_pow0 pe_int pe_int) (pa_cons (pe_un un_neg0 (pe_op op_pow0 pe_int pe_int)) (pa_cons (pe_op op_addU (pe_op op_pow0 pe_int pe_int) pe_int) (pa_cons (pe_op op_sub0 (pe_un un_neg0 (pe_op op_pow0 pe_int pe_int)) pe_int) (pa_cons (pe_call G_law_bad_number (hr.mono (by first | decide | omega)) (by rfl) m_law_bad_number kp_law_bad_number b_law_bad_number .nil pass0 (pa_cons (pv 1) (pa_cons pe_bl pa_nil))) pa_nil)))))))))))
      (pss_cons (ps_for PassesOwn.never rfl (pi_list (pe_op op_addU (pe_op op_addU (pv 7) (pe_lst (pa_cons (pe_call G_law_number (hr.mono (by first | decide | omega)) (by rfl) m_law_number kp_law_number b_law_number .nil pass0 (pa_cons (pv 1) pa_nil)) pa_nil))) (pv 3))) (pg_name (i := 8) sc_law.nd rfl (Or.inl rfl)) (pss_one (ps_if (pt_not (pt_val (pe_call G_law_is_told (hr.mono (by first | decide | omega)) (by rfl) m_law_is_told kp_law_is_told b_law_is_told .nil pass0 (pa_cons (pv 8) pa_nil)))) (pss_one (ps_ret pe_bl)) pss_nil)))
      (pss_one (ps_ret (pe_call G_law_same (hr.mono (by first | decide | omega)) (by rfl) m_law_same kp_law_same b_law_same .nil pass0 (pa_cons (pe_glob (v := .int 1000000000000) (by rfl) ec_LIMIT ⟨_, rfl⟩) (pa_cons (pe_op op_pow0 pe_int pe_int) pa_nil))))))))))))), ?_⟩
  try dsimp only [cxOf, Cx.nox, Cx.wish]
  rw [show start N_law [v0] = [some v0, none, none, none, none, none, none, none, none, none] from rfl]
  obtain ⟨a, ns, rfl, hs, hl, k⟩ := h
  walk_at "go"
  refine ⟨a, ns, rfl, hs, fun c H1 d1 hc ok1 => ?_⟩
  walk_at "go"
  refine ⟨c, _, rfl, ok1, fun l xs H2 hl2 h2 hxs d2 ok2 => ?_⟩
  obtain ⟨ps, rfl, hps, hp1, hp2⟩ := hxs
  have okc : Ok (Only1 c) H2 c := ok2.less rfl fun a z => .inr z
  have hlM : ¬ Only1 c l := ok1.notM hl2
  walk_at "go"
  refine ⟨c, _, l, ps, rfl, rfl, okc, SqL.of h2, hlM, by omega, by omega, hps, fun b0 H3 e0 d3 ok3 => ?_⟩
  have h3 := d3.st _ _ hlM h2
  walk_at "go"
  refine ⟨c, _, l, ps, rfl, rfl, ok3, SqL.of h3, hlM, by omega, by omega, hps, fun b1 H4 e1 d4 ok4 => ?_⟩
  have h4 := d4.st _ _ hlM h3
  walk_at "go"
  refine ⟨by show 2 ≤ sizeLine; decide, fun b hb => ?_⟩
  walk_at "go"
  have f0 := flat_end e0
  have f1 := flat_end e1
  have i0 : atI [b0, b1] 0 = some b0 := rfl
  have i1 : atI [b0, b1] 1 = some b1 := rfl
  have ok5 := ok4.new (o := .lst [b0, b1]) hb
  have hbM : ¬ Only1 c b := ok4.notM hb
  have h5 := stands (o := .lst [b0, b1]) h4 hb
  have g5 : (upd H4 b (.lst [b0, b1])) b = some (.lst [b0, b1]) := upd_same
  generalize upd H4 b (.lst [b0, b1]) = H5 at ok5 h5 g5 ⊢
  refine lc_l (SqL.of g5) fun D hD => ⟨fun j H' => ∃ ms : List Int, H' D = some (.lst (ms.map V.int)) ∧ (∀ m ∈ ms, InR m) ∧ ms.length ≤ j ∧ Dx No H5 H', ⟨[], upd_same, fun m hm => (List.not_mem_nil hm).elim, Nat.le_refl _, Dx.new hD⟩, fun j H' _ ⟨_, _, _, _, g⟩ => g.sqL id (SqL.of g5), ?_, ?_⟩
  · rintro j v H' hv ⟨ms, g1, g2, g3, g4⟩
    have hj : j < 2 := (List.getElem?_eq_some_iff.mp hv).1
    have ev : IsEnd v := by
      have q := List.mem_of_getElem? hv
      simp only [List.mem_cons, List.not_mem_nil, or_false] at q
      rcases q with q | q
      · rw [q]
        exact e0
      · rw [q]
        exact e1
    dsimp only [wipe, List.map, List.set_cons_zero, List.set_cons_succ]
    rcases ev with rfl | ⟨n, rfl, hnr⟩
    · walk_at "go"
      refine ⟨rfl, ?_⟩
      walk_at "go"
      exact ⟨ms, g1, g2, by omega, g4⟩
    · walk_at "go"
      refine ⟨rfl, ?_⟩
      walk_at "go"
      refine go_lca g1 (by rw [List.length_map]; exact size_lt (by omega)) ⟨ms ++ [n], by rw [upd_same, List.map_append]; rfl, fun m hm => ?_, by rw [List.length_append]; show ms.length + 1 ≤ j + 1; omega, g4.own hD⟩
      rcases List.mem_append.mp hm with q | q
      · exact g2 m q
      · rw [List.mem_singleton.mp q]
        exact hnr
  rintro H6 ⟨ms, g1, g2, g3, d6⟩
  have g3' : ms.length ≤ 2 := g3
  walk_at "go"
  refine go_cat (d6.st _ _ id h5) g1 (by rw [List.length_map, List.length_map]; exact size_ok (by omega)) fun q hq => ?_
  walk_at "go"
  refine ⟨q, ps ++ ms, rfl, SqL.of (by rw [upd_same, List.map_append]), by rw [List.length_append]; omega, fun n hn => ?_, fun t ys H7 ht g7 hys d7 => ?_⟩
  · rcases List.mem_append.mp hn with z | z
    · exact hps n z
    · exact g2 n z
  obtain ⟨ts, rfl, hts, hts2⟩ := hys
  have d57 : Dx No H5 H7 := (d6.trans (Dx.new hq)).trans d7
  have ok7 := ok5.no d57
  have htM : ¬ Only1 c t := fun z => by
    have z' : t = c := z
    rw [z'] at ht
    exact (ok5.no (d6.trans (Dx.new hq))).al c rfl ht
  walk_at "go"
  refine ⟨c, _, rfl, ok7, fun w H8 hw d8 ok8 => ?_⟩
  obtain ⟨wn, rfl, hwr⟩ := hw
  walk_at "go"
  refine ⟨by show 1 ≤ sizeLine; decide, fun r hr => ?_⟩
  walk_at "go"
  have g8 := d8.st _ _ htM g7
  have hlen : (ts.map V.int).length ≤ 1000 := by
    rw [List.length_map, List.length_append] at *
    omega
  refine go_cat (stands g8 hr) upd_same (by simp only [List.length_cons, List.length_nil]; exact size_ok (by omega)) fun s hs2 => ?_
  walk_at "go"
  have ok9 := (ok8.new (o := .lst [.int wn]) hr).new (o := .lst (ts.map V.int ++ [.int wn])) hs2
  have g9 : (upd (upd H8 r (.lst [.int wn])) s (.lst (ts.map V.int ++ [.int wn]))) s = some (.lst ((ts ++ [wn]).map V.int)) := by
    rw [upd_same, List.map_append]
    rfl
  have b9 : (upd (upd H8 r (.lst [.int wn])) s (.lst (ts.map V.int ++ [.int wn]))) b = some (.lst [b0, b1]) := stands (stands (d8.st _ _ hbM (d57.st _ _ id g5)) hr) hs2
  have h9 : (upd (upd H8 r (.lst [.int wn])) s (.lst (ts.map V.int ++ [.int wn]))) l = some (.lst (ps.map V.int)) := stands (stands (d8.st _ _ hlM (d57.st _ _ id h5)) hr) hs2
  have hls : ∀ n ∈ ts ++ [wn], InR n := fun n hn => by
    rcases List.mem_append.mp hn with z | z
    · exact hts n z
    · rw [List.mem_singleton.mp z]
      exact hwr
  generalize upd (upd H8 r (.lst [.int wn])) s (.lst (ts.map V.int ++ [.int wn])) = H9 at ok9 g9 b9 h9 ⊢
  generalize ts ++ [wn] = ls at g9 hls
  walk_at "go"
  refine ⟨by show 2 ≤ sizeLine; decide, fun u hu => ?_⟩
  walk_at "go"
  have gu : SqL K (upd H9 u (.lst [V.int 2, V.int 3])) u [V.int 2, V.int 3] := SqL.of upd_same
  have b10 := stands (o := .lst [V.int 2, V.int 3]) b9 hu
  have h10 := stands (o := .lst [V.int 2, V.int 3]) h9 hu
  have g10 := stands (o := .lst [V.int 2, V.int 3]) g9 hu
  have ok10 := ok9.new (o := .lst [V.int 2, V.int 3]) hu
  generalize upd H9 u (.lst [V.int 2, V.int 3]) = H10 at gu b10 h10 g10 ok10 ⊢
  have o0 := endOk_of e0
  have o1 := endOk_of e1
  refine for_l gu (fun i σ' H' => ∃ v5 : Option V, σ' = [some (.ref a), some (.ref c), some (.ref l), some (.ref b), some (.ref s), v5, none, none, none, none] ∧ Dx No H10 H') ⟨_, rfl, Dx.refl⟩ (fun i σ' H' _ ⟨_, _, d⟩ => d.sqL id gu) ?_ ?_
  · rintro i v σ' H11 hv ⟨v5, rfl, d11⟩
    obtain ⟨n, rfl, hn2, hn4⟩ : ∃ n : Int, v = .int n ∧ 2 ≤ n ∧ n < 4 := by
      have q := List.mem_of_getElem? hv
      simp only [List.mem_cons, List.not_mem_nil, or_false] at q
      rcases q with q | q
      · exact ⟨2, q, by decide, by decide⟩
      · exact ⟨3, q, by decide, by decide⟩
    have b11 : SqL K H11 b [b0, b1] := d11.sqL id (SqL.of b10)
    walk_at "go"
    refine go_ixL b11 i0 ?_
    walk_at "go"
    refine go_ixL b11 i1 ?_
    walk_at "go"
    refine ⟨n, rfl, by omega, f0, f1, ?_⟩
    rw [ask_low hn2 hn4, lower_ok o0 o1]
    intro H12 d12
    walk_at "go"
    refine ⟨b, s, b0, b1, ls, rfl, rfl, rfl, d12.sqL id b11, e0, e1, d12.sqL id (d11.sqL id (SqL.of g10)), hls, fun H13 d13 => ?_⟩
    have b13 := d13.sqL id (d12.sqL id b11)
    walk_at "go"
    refine go_ixL b13 i1 ?_
    walk_at "go"
    refine go_ixL b13 i0 ?_
    walk_at "go"
    refine ⟨n, rfl, by omega, f1, f0, ?_⟩
    rw [ask_low hn2 hn4, lower_ok o1 o0]
    intro H14 d14
    have b14 := d14.sqL id b13
    walk_at "go"
    refine go_ixL b14 i0 ?_
    walk_at "go"
    refine go_ixL b14 i1 ?_
    walk_at "go"
    refine ⟨n, rfl, by omega, f0, f1, ?_⟩
    rw [ask_low hn2 hn4, lower_ok o0 o1]
    intro H15 d15
    walk_at "go"
    refine .inr ⟨flat_end (lesser_end e1 e0), flat_end (lesser_end e0 e1), ?_⟩
    rw [decide_eq_true (lesser_comm e0 e1)]
    walk_at "go"
    exact ⟨_, rfl, (((d11.trans d12).trans d13).trans d14).trans d15⟩
  rintro σ' H11 ⟨v5, rfl, d11⟩
  have b11 := d11.st _ _ id b10
  have h11 := d11.st _ _ id h10
  have ok11 := ok10.no d11
  walk_at "go"
  refine for_r (by omega) (fun i σ' H' => ∃ v6 : Option V, σ' = [some (.ref a), some (.ref c), some (.ref l), some (.ref b), some (.ref s), v5, v6, none, none, none] ∧ Dx (Only1 c) H11 H' ∧ Ok (Only1 c) H' c) ⟨_, rfl, Dx.refl, ok11⟩ ?_ ?_
  · rintro i σ' H12 hi ⟨v6, rfl, d12, ok12⟩
    walk_at "go"
    refine ⟨c, _, l, ps, rfl, rfl, ok12, SqL.of (d12.st _ _ hlM h11), hlM, by omega, by omega, hps, fun H13 d13 ok13 => ?_⟩
    walk_at "go"
    exact ⟨_, rfl, d12.trans d13, ok13⟩
  rintro σ' H12 ⟨v6, rfl, d12, ok12⟩
  have b12 := d12.st _ _ hbM b11
  walk_at "go"
  refine ⟨c, _, false, rfl, rfl, ok12, fun x H13 hx d13 ok13 => ?_⟩
  walk_at "go"
  refine ⟨by show 9 ≤ sizeLine; decide, fun y hy => ?_⟩
  walk_at "go"
  have b14 := stands (o := .lst [.non, .bl true, .bl false, .int 0, .int 1000000000000, .int (-1000000000000), .int (1000000000000 + 1), .int (-1000000000000 - 1), x]) (d13.st _ _ hbM b12) hy
  have y14 : (upd H13 y (.lst [.non, .bl true, .bl false, .int 0, .int 1000000000000, .int (-1000000000000), .int (1000000000000 + 1), .int (-1000000000000 - 1), x])) y = some (.lst [.non, .bl true, .bl false, .int 0, .int 1000000000000, .int (-1000000000000), .int (1000000000000 + 1), .int (-1000000000000 - 1), x]) := upd_same
  have ok14 := ok13.new (o := .lst [.non, .bl true, .bl false, .int 0, .int 1000000000000, .int (-1000000000000), .int (1000000000000 + 1), .int (-1000000000000 - 1), x]) hy
  have hyM := ok13.notM hy
  have vf : ∀ v ∈ ([.non, .bl true, .bl false, .int 0, .int 1000000000000, .int (-1000000000000), .int (1000000000000 + 1), .int (-1000000000000 - 1), x] : List V), flatE v = true := fun v hv => by
    simp only [List.mem_cons, List.not_mem_nil, or_false] at hv
    rcases hv with z | z | z | z | z | z | z | z | z <;> subst z
    all_goals first | rfl | exact flat_bad hx.1
  have vl : ([.non, .bl true, .bl false, .int 0, .int 1000000000000, .int (-1000000000000), .int (1000000000000 + 1), .int (-1000000000000 - 1), x] : List V).length = 9 := rfl
  generalize ([.non, .bl true, .bl false, .int 0, .int 1000000000000, .int (-1000000000000), .int (1000000000000 + 1), .int (-1000000000000 - 1), x] : List V) = vs at b14 y14 ok14 vf vl ⊢
  generalize upd H13 y (.lst vs) = H14 at b14 y14 ok14 ⊢
  refine ⟨c, _, rfl, ok14, fun z H15 hz d15 ok15 => ?_⟩
  walk_at "go"
  refine ⟨by show 1 ≤ sizeLine; decide, fun y2 hy2 => ?_⟩
  walk_at "go"
  refine go_cat (stands (d15.st _ _ hyM y14) hy2) upd_same (by simp only [List.length_cons, List.length_nil]; exact size_ok (by omega)) fun y3 hy3 => ?_
  walk_at "go"
  refine go_cat upd_same (stands (stands (d15.st _ _ hbM b14) hy2) hy3) (by simp only [List.length_append, List.length_cons, List.length_nil]; exact size_ok (by omega)) fun y4 hy4 => ?_
  refine for_l (xs := (vs ++ [z]) ++ [b0, b1]) (SqL.of upd_same) (fun i σ' H' => ∃ v8 : Option V, σ' = [some (.ref a), some (.ref c), some (.ref l), some (.ref b), some (.ref s), v5, v6, some (.ref y), v8, none] ∧ SqL K H' y4 ((vs ++ [z]) ++ [b0, b1])) ⟨_, rfl, SqL.of upd_same⟩ (fun i σ' H' _ ⟨_, _, d⟩ => d) ?_ ?_
  · rintro i v σ' H16 hv ⟨v8, rfl, g16⟩
    have fv : flatE v = true := by
      rcases List.mem_append.mp (List.mem_of_getElem? hv) with q | q
      · rcases List.mem_append.mp q with q | q
        · exact vf v q
        · rw [List.mem_singleton.mp q]
          exact flat_num hz
      · simp only [List.mem_cons, List.not_mem_nil, or_false] at q
        rcases q with q | q
        · rw [q]
          exact f0
        · rw [q]
          exact f1
    walk_at "go"
    refine ⟨fv, fun H17 d17 => ?_⟩
    walk_at "go"
    exact ⟨_, rfl, d17.sqL id g16⟩
  · rintro σ' H16 ⟨v8, rfl, g16⟩
    walk_at "go"
    refine .inr ⟨rfl, rfl, ?_⟩
    exact k _
end
end Q
namespace Q
open PySem PySem.Spec PyProof.Rows L2
def names0 : List Str := ["__name__", "OutshinerError", "BadName", "BadNumber", "BadSpan", "OutOfRange", "LIMIT", "is_number", "check_number", "check_end", "lesser_end", "may_take", "lower_ceiling", "_law_store", "_law_stir", "_law_take", "_law_pick", "_law_shuffled", "_law_unlike", "_law_number", "_law_clamped", "_law_pool", "_law_near", "_law_bad_number", "_law_bar", "_law_is_number", "_law_match", "_law_match_dicts", "_law_same", "_law_tried"]
def names1 : List Str := ["_law_asked", "_law_due", "_law_is_under", "_law_is_lower", "_law_value", "_law_refuses", "_law_is_told"]
def names : List Str := names0 ++ names1
abbrev lawRow : PySem.W.OpenLaw := PySem.Challenge.rw_outshiners_k05_ceilings_and_numbers
abbrev hk : PySem.W.Hook := hookQ 5 fa fn exB
def ob (s : PySem.W.SharedT) : He.AlD × Bool := obsQ 5 fa fn exB (HandSHeadRun.getT s)
theorem ob_eq (s : PySem.W.SharedT) : ob s = hk.obs s.abs := obsQ_eq (HandSHeadRun.getT_eq s)
theorem run (w : World) : HandSHeadRun.RunEq (PySem.W.OpenLaw.row lawRow) (PySem.W.view lawRow.prog [39]) hk ob 9000 names w := by
  intro os
  kernel_rfl
end Q
open PySem PySem.W PyProof.Rows
set_option maxHeartbeats 0 in
theorem PySem.Challenge.cw_outshiners_k05_ceilings_and_numbers_holds : PySem.Challenge.rw_outshiners_k05_ceilings_and_numbers.Holds := by
  w_on; o_law
  refine HandSHeadRun.head_any (r := OpenLaw.row Q.lawRow) (q := view (OpenLaw.row Q.lawRow).prog [39]) (H := Q.hk) (ob := Q.ob) (M := 9000) (loose := Q.names) (d := HandSHeadRun.topDef (OpenLaw.row Q.lawRow).prog 39) (kwd := []) Q.ob_eq
    (by kernel_rfl) (fun s => by kernel_rfl) Q.run (by kernel_rfl) (by kernel_rfl) (by kernel_rfl) (by rfl) (by first | assumption | decide +kernel) (by decide +kernel) ⟨rfl, rfl, rfl, rfl, rfl, by decide +kernel⟩ ?hw ?hc
  case hw => w_witness2
  case hc =>
    refine L2.walk_ofE (l := Q.lawRow) (n := 63) (k := 9) (x := "_law_script") (CX := L2.CX0) rfl (by decide) (by kernel_rfl) ⟨rfl, by decide, by decide⟩ ?F (fun _ _ _ _ z => z)
    intro w mg fa h Y G hmg0
    obtain ⟨K, KX, c⟩ := Y
    have T := Q.txt_of KX G c
    have e0 : (HandSHeadRun.topDef (OpenLaw.row Q.lawRow).prog 39).name = ("law" : PySem.Str) := by kernel_rfl
    have hmg : mg ("law" : PySem.Str) = some (.ref fa) := by
      rw [← e0]
      exact hmg0
    obtain ⟨f, fd, m, F⟩ := T.f_law.ex
    have ef : f = fa := by
      rw [m] at hmg
      exact Value.ref.inj (Option.some.inj hmg)
    subst ef
    have b := FunD.bindsA (ps := ["_law_script"]) F fun _ _ _ _ _ _ us hl => match us, hl with | [_], _ => rfl
    refine ⟨K, fd, Q.Sp1 (Q.pLaw K), KX, fun s v => b s [v] rfl, fun H a ns hl _ hS => ⟨_, rfl, a, ns, rfl, hS, hl, fun _ => rfl⟩, fun base _ _ => ?_⟩
    obtain ⟨f2, fd2, m2, kp2, b2, G2, F2⟩ := (Q.Dlaw (P := Q.lawRow.prog) (w := w) (base := base) T).ex
    have ef : f2 = f := by
      rw [m] at m2
      exact (Value.ref.inj (Option.some.inj m2)).symm
    subst ef
    have ed := Q.fund_same F F2
    subst ed
    exact G2
