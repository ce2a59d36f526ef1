import PyProof.Rows.All
import Wide.All
import OpenK.AllK
import Wide.FinOn
import HandS.ForMost
import HandS.Exc
import HandS.TryOnly
import HandS.TryMany
import HandS.ExcInit
import HandS.ExcField
import HandS.ExcIs
import HandS.IsInst
import HandS.Wide
import HandS.Defaults
import HandS.WordsExc
import HandS.FStr
import HandS.Codes
import HandS.Flow
import KE.KExcIs
import HandS.Rev
import KE.KStateDown
import HandS.Head0
import HandS.Head1
import HandS.Head2
import HandS.HeadEnd
import HandS.HeadHook1
import HandS.HeadHook2
import HandS.HeadNt
import HandS.SortInts
import HandS.Evl
import HandS.Property
import HandS.ClsMeth
import HandS.MakeKw
import HandS.MakeKwOnly
import HandS.More
import HandS.Star
import PyProof.Rows.SortShellAny
import HandS.DictComp
import KE.DataEq
import PyProof.Rows.StrMeet
import HandS.Lambda
import KE.SortKeyHeap
import HandS.SortKw
import KE.KSortTupG
import KE.SortLaws
import KE.KUnpack
import Flt.Ops
import HandS.IterNext
import HandS.OwnIter
import HandS.HeadWalk
import PySem.Challenge.RW_outshiners_k07_webs_refuse_in_order
set_option Elab.async false
set_option linter.all false
set_option maxRecDepth 100000
set_option maxHeartbeats 4000000
/-! Q: words over the hand layer: universal operators, steps of readings, promises. -/
namespace Q
open PySem L2
/-! ### promises by the number of arguments -/
abbrev P1 := V → Hp → VK → XK → Prop
abbrev P2 := V → V → Hp → VK → XK → Prop
abbrev P3 := V → V → V → Hp → VK → XK → Prop
abbrev P4 := V → V → V → V → Hp → VK → XK → Prop
abbrev P5 := V → V → V → V → V → Hp → VK → XK → Prop
def Sp1 (f : P1) : Sp := fun vs H Q E => ∃ a, vs = [a] ∧ f a H Q E
def Sp2 (f : P2) : Sp := fun vs H Q E => ∃ a b, vs = [a, b] ∧ f a b H Q E
def Sp3 (f : P3) : Sp := fun vs H Q E => ∃ a b c, vs = [a, b, c] ∧ f a b c H Q E
def Sp4 (f : P4) : Sp := fun vs H Q E => ∃ a b c d, vs = [a, b, c, d] ∧ f a b c d H Q E
def Sp5 (f : P5) : Sp := fun vs H Q E => ∃ a b c d e, vs = [a, b, c, d, e] ∧ f a b c d e H Q E
theorem len1 {f : P1} : ∀ vs H Q E, Sp1 f vs H Q E → vs.length = 1 := by
  rintro vs H Q E ⟨a, rfl, _⟩
  rfl
theorem len2 {f : P2} : ∀ vs H Q E, Sp2 f vs H Q E → vs.length = 2 := by
  rintro vs H Q E ⟨a, b, rfl, _⟩
  rfl
theorem len3 {f : P3} : ∀ vs H Q E, Sp3 f vs H Q E → vs.length = 3 := by
  rintro vs H Q E ⟨a, b, c, rfl, _⟩
  rfl
theorem len4 {f : P4} : ∀ vs H Q E, Sp4 f vs H Q E → vs.length = 4 := by
  rintro vs H Q E ⟨a, b, c, d, rfl, _⟩
  rfl
/-! ### a def as it stands, a def with its promise -/
structure Raw (K : PySem.W.Frag) (mg : Str → Option Value) (x : Str) (st : Stmt) (dvs : List V) (kws : List (Str × V)) : Prop where
  ex : ∃ (f : Addr) (fd : FuncData), mg x = some (.ref f) ∧ FunD K x x (defArgs st) (defBody st) (defScope st) dvs kws f fd
structure Def (P : Program) (w : World) (K : PySem.W.Frag) (mg : Str → Option Value) (base : Heap) (CX : CXT) (k : Nat) (x : Str) (st : Stmt) (ps : List Str) (sp : Sp) : Prop where
  ex : ∃ (f : Addr) (fd : FuncData), mg x = some (.ref f) ∧ PySem.W.keepIn K (.ref f) = true ∧ Binds K fd ps [] ∧ FnOk P w K mg base CX k f fd ps sp ∧ FunD K x x (defArgs st) (defBody st) (defScope st) [] [] f fd
/-- the def at f is one -/
theorem fund_same {K : PySem.W.Frag} {x q x' q' : Str} {A A' : Arguments} {B B' : List Stmt} {S S' : Scope} {dvs dvs' : List V} {kws kws' : List (Str × V)} {f : Addr} {fd fd' : FuncData} (F : FunD K x q A B S dvs kws f fd) (F' : FunD K x' q' A' B' S' dvs' kws' f fd') : fd = fd' := by
  obtain ⟨oc, od, dV, kV, doc, pm, an, cdv, ct, osl, _, lk, _⟩ := F.ex
  obtain ⟨oc', od', dV', kV', doc', pm', an', cdv', ct', osl', _, lk', _⟩ := F'.ex
  rw [lk] at lk'
  have e := Option.some.inj lk'
  injection e with _ _ e3 _
  exact Data.func.inj e3
/-! ### universal operators -/
section
variable {X : Cx}
def rAddU (K : PySem.W.Frag) : R2 := fun x y H Q => (∃ i j, x = .int i ∧ y = .int j ∧ Q (.int (i + j)) H) ∨
  ((∃ i j, x = .str i ∧ y = .str j ∧ i.length + j.length ≤ sizeLine ∧ Q (.str (i ++ j)) H) ∨ (rCat x y H Q ∨ rCatT K x y H Q))
theorem op_addU : OpR X (binaryOp .Add) (rAddU X.K) := op_add.or (op_add_str.or (op_cat.or op_catT))
def rLtU : R2 := fun x y H Q => (∃ i j, x = .int i ∧ y = .int j ∧ Q (.bl (decide (i < j))) H) ∨ (∃ i j, x = .str i ∧ y = .str j ∧ Q (.bl (decide (i.cps.toList < j.cps.toList))) H)
theorem op_ltU : OpR X (compareOp .Lt) rLtU := op_lt.or op_lt_str
def rGt0 : R2 := rI0 fun i j => .bl (decide (j < i))
theorem op_gt0 : OpR X (compareOp .Gt) rGt0 := op_gt
def rLe0 : R2 := rI0 fun i j => .bl (decide (i ≤ j))
def rGe0 : R2 := rI0 fun i j => .bl (decide (j ≤ i))
theorem op_ge0 : OpR X (compareOp .GtE) rGe0 := op_ge
def rSub0 : R2 := rI0 fun i j => .int (i - j)
theorem op_sub0 : OpR X (binaryOp .Sub) rSub0 := op_sub
def rMul0 : R2 := rI CMul fun i j => .int (i * j)
theorem op_mul0 : OpR X (binaryOp .Mult) rMul0 := op_mul
def rMod0 : R2 := rI (fun _ j => 0 < j) fun i j => .int (i % j)
theorem op_mod0 : OpR X (binaryOp .Mod) rMod0 := op_mod
def rDiv0 : R2 := rI CDivW fun i j => .int (i / j)
theorem op_div0 : OpR X (binaryOp .FloorDiv) rDiv0 := op_fdivW
def rPow0 : R2 := rI CPow fun i j => .int (i ^ j.toNat)
theorem op_pow0 : OpR X (binaryOp .Pow) rPow0 := op_pow
def uNeg0 : V → Hp → VK → Prop := rU fun i => .int (-i)
theorem un_neg0 : UnR X (unaryOp .USub) uNeg0 := un_neg
/-- in, not in: one sign in a text; a list or tuple of flat things -/
def rInU (K : PySem.W.Frag) : R2 := fun x y H Q => (∃ (c : Nat) (z : Str), x = .str ⟨#[c]⟩ ∧ y = .str z ∧ Q (.bl (decide (c ∈ z.cps.toList))) H) ∨ rIn K false x y H Q
theorem op_inU : OpR X (compareOp .In) (rInU X.K) := op_in_sign.or op_in_seq
def rNiU (K : PySem.W.Frag) : R2 := fun x y H Q => (∃ (c : Nat) (z : Str), x = .str ⟨#[c]⟩ ∧ y = .str z ∧ Q (.bl (!decide (c ∈ z.cps.toList))) H) ∨ rIn K true x y H Q
theorem op_niU : OpR X (compareOp .NotIn) (rNiU X.K) := op_notIn_sign.or op_notIn_seq
/-- len -/
def rLenU (K : PySem.W.Frag) : List V → Hp → VK → Prop := fun xs H Q => (∃ p ys, xs = [.ref p] ∧ (SqL K H p ys ∨ SqT K H p ys) ∧ Q (.int ys.length) H) ∨ (∃ z, xs = [.str z] ∧ z.length ≤ sizeLine ∧ Q (.int z.length) H)
theorem call_lenU : CallR X (.builtin "len") (rLenU X.K) := call_len_seq.or call_len_str
def rInt0 : List V → Hp → VK → Prop := fun xs H Q => (∃ i, xs = [.int i] ∧ Q (.int i) H) ∨ ∃ k, xs = [.bl k] ∧ Q (.int (if k then 1 else 0)) H
theorem call_int0 : CallR X (.type "int") rInt0 := call_int1
def rList0 (K : PySem.W.Frag) : List V → Hp → VK → Prop := fun xs H Q => ∃ p ys, xs = [.ref p] ∧ (SqL K H p ys ∨ SqT K H p ys) ∧ ∀ l, H l = none → Q (.ref l) (upd H l (.lst ys))
theorem call_list0 : CallR X (.type "list") (rList0 X.K) := call_list_of
def rMax0 : List V → Hp → VK → Prop := fun xs H Q => ∃ i j, xs = [.int i, .int j] ∧ Q (.int (if j > i then j else i)) H
theorem call_max0 (hc : X.calm = true) : CallR X (.builtin "max") rMax0 := call_max2 hc
def rMin0 : List V → Hp → VK → Prop := fun xs H Q => ∃ i j, xs = [.int i, .int j] ∧ Q (.int (if j < i then j else i)) H
theorem call_min0 (hc : X.calm = true) : CallR X (.builtin "min") rMin0 := call_min2 hc
/-- a[b] of a list, a tuple, a text -/
theorem ix_U : IxR X (rIx X.K) := ix_seq
end
/-! ### steps of readings -/
section
variable {K : PySem.W.Frag} {σ : L2.St} {H H1 : Hp} {Q : VK} {D : Ends} {t u : TS} {te ta tb tc : TE} {g : TG} {v x y : V} {i j : Int} {n : Nat} {tt tu : TT} {rt : VK} {nx bk ct : L2.St → Hp → Prop}
theorem go_seq (h : t ⟨u D, D.rt, D.bk, D.ct⟩ σ H) : tSeq t u D σ H := h
theorem go_next (h : D.nx σ H) : tNext D σ H := h
theorem go_nx (h : nx σ H) : Ends.nx ⟨nx, rt, bk, ct⟩ σ H := h
theorem go_rt (h : rt v H) : Ends.rt ⟨nx, rt, bk, ct⟩ v H := h
theorem go_bk (h : bk σ H) : Ends.bk ⟨nx, rt, bk, ct⟩ σ H := h
theorem go_ct (h : ct σ H) : Ends.ct ⟨nx, rt, bk, ct⟩ σ H := h
theorem go_asg (h : te σ H fun x H1 => g x σ H1 D.nx) : tAsg te g D σ H := h
theorem go_name {R : L2.St → Hp → Prop} (h : R (σ.set n (some v)) H) : gName n v σ H R := h
theorem go_sub {to ti : TE} {ts : TSet} {R : L2.St → Hp → Prop} (h : to σ H fun o H1 => ti σ H1 fun i H2 => ts o i v H2 fun H3 => R σ H3) : gSub to ti ts v σ H R := h
theorem go_var (h : σ[n]? = some (some v)) (q : Q v H) : tVar n σ H Q := ⟨v, h, q⟩
theorem go_c (q : Q v H) : tC v σ H Q := q
theorem go_op {r : R2} (h : ta σ H fun x H1 => tb σ H1 fun y H2 => r x y H2 Q) : tOp r ta tb σ H Q := h
theorem go_un {r : V → Hp → VK → Prop} (h : ta σ H fun x H1 => r x H1 Q) : tUn r ta σ H Q := h
theorem go_cb {r : List V → Hp → VK → Prop} {t : TA} (h : t σ H fun vs H1 => r vs H1 Q) : tCB r t σ H Q := h
theorem go_nil {R : List V → Hp → Prop} (h : R [] H) : tNil σ H R := h
theorem go_cons {tr : TA} {R : List V → Hp → Prop} (h : ta σ H fun x H1 => tr σ H1 fun xs H2 => R (x :: xs) H2) : tCons ta tr σ H R := h
theorem go_addI (q : Q (.int (i + j)) H) : rAddU K (.int i) (.int j) H Q := .inl ⟨i, j, rfl, rfl, q⟩
theorem go_addS {a b : Str} (l : a.length + b.length ≤ sizeLine) (q : Q (.str (a ++ b)) H) : rAddU K (.str a) (.str b) H Q := .inr (.inl ⟨a, b, rfl, rfl, l, q⟩)
theorem go_sub0 (q : Q (.int (i - j)) H) : rSub0 (.int i) (.int j) H Q := ⟨i, j, rfl, rfl, q⟩
theorem go_mul0 (c : CMul i j) (q : Q (.int (i * j)) H) : rMul0 (.int i) (.int j) H Q := ⟨i, j, rfl, rfl, c, q⟩
theorem go_mod0 (c : 0 < j) (q : Q (.int (i % j)) H) : rMod0 (.int i) (.int j) H Q := ⟨i, j, rfl, rfl, c, q⟩
theorem go_div0 (c : CDivW i j) (q : Q (.int (i / j)) H) : rDiv0 (.int i) (.int j) H Q := ⟨i, j, rfl, rfl, c, q⟩
theorem go_neg0 (q : Q (.int (-i)) H) : uNeg0 (.int i) H Q := ⟨i, rfl, q⟩
theorem go_ltI (q : Q (.bl (decide (i < j))) H) : rLtU (.int i) (.int j) H Q := .inl ⟨i, j, rfl, rfl, q⟩
theorem go_ltS {a b : Str} (q : Q (.bl (decide (a.cps.toList < b.cps.toList))) H) : rLtU (.str a) (.str b) H Q := .inr ⟨a, b, rfl, rfl, q⟩
theorem go_gt0 (q : Q (.bl (decide (j < i))) H) : rGt0 (.int i) (.int j) H Q := ⟨i, j, rfl, rfl, q⟩
theorem go_le0 (q : Q (.bl (decide (i ≤ j))) H) : rLe0 (.int i) (.int j) H Q := ⟨i, j, rfl, rfl, q⟩
theorem go_ge0 (q : Q (.bl (decide (j ≤ i))) H) : rGe0 (.int i) (.int j) H Q := ⟨i, j, rfl, rfl, q⟩
theorem go_eqI (q : Q (.bl (decide (i = j))) H) : rEq (.int i) (.int j) H Q := ⟨rfl, by
  have e : decide (V.int i = V.int j) = decide (i = j) := by rw [dec_int, Bool.beq_eq_decide_eq]
  rw [e]; exact q⟩
theorem go_eqS {a b : Str} (q : Q (.bl (decide (a = b))) H) : rEq (.str a) (.str b) H Q := ⟨rfl, by
  have e : decide (V.str a = V.str b) = decide (a = b) := by rw [dec_str, Bool.beq_eq_decide_eq]
  rw [e]; exact q⟩
theorem go_eqB {a b : Bool} (q : Q (.bl (decide (a = b))) H) : rEq (.bl a) (.bl b) H Q := ⟨rfl, by
  have e : decide (V.bl a = V.bl b) = decide (a = b) := by rw [dec_bl, Bool.beq_eq_decide_eq]
  rw [e]; exact q⟩
theorem go_neI (q : Q (.bl (!decide (i = j))) H) : rNe (.int i) (.int j) H Q := ⟨rfl, by
  have e : decide (V.int i = V.int j) = decide (i = j) := by rw [dec_int, Bool.beq_eq_decide_eq]
  rw [e]; exact q⟩
theorem go_neS {a b : Str} (q : Q (.bl (!decide (a = b))) H) : rNe (.str a) (.str b) H Q := ⟨rfl, by
  have e : decide (V.str a = V.str b) = decide (a = b) := by rw [dec_str, Bool.beq_eq_decide_eq]
  rw [e]; exact q⟩
theorem go_neB {a b : Bool} (q : Q (.bl (!decide (a = b))) H) : rNe (.bl a) (.bl b) H Q := ⟨rfl, by
  have e : decide (V.bl a = V.bl b) = decide (a = b) := by rw [dec_bl, Bool.beq_eq_decide_eq]
  rw [e]; exact q⟩
theorem go_inS {c : Nat} {z : Str} (q : Q (.bl (decide (c ∈ z.cps.toList))) H) : rInU K (.str ⟨#[c]⟩) (.str z) H Q := .inl ⟨c, z, rfl, rfl, q⟩
theorem go_niS {c : Nat} {z : Str} (q : Q (.bl (!decide (c ∈ z.cps.toList))) H) : rNiU K (.str ⟨#[c]⟩) (.str z) H Q := .inl ⟨c, z, rfl, rfl, q⟩
theorem go_lenS {z : Str} (l : z.length ≤ sizeLine) (q : Q (.int z.length) H) : rLenU K [.str z] H Q := .inr ⟨z, rfl, l, q⟩
theorem go_lenL {p : Addr} {xs : List V} (h : SqL K H p xs) (q : Q (.int xs.length) H) : rLenU K [.ref p] H Q := .inl ⟨p, xs, rfl, .inl h, q⟩
theorem go_int0 (q : Q (.int i) H) : rInt0 [.int i] H Q := .inl ⟨i, rfl, q⟩
theorem go_max0 (q : Q (.int (if j > i then j else i)) H) : rMax0 [.int i, .int j] H Q := ⟨i, j, rfl, q⟩
theorem go_min0 (q : Q (.int (if j < i then j else i)) H) : rMin0 [.int i, .int j] H Q := ⟨i, j, rfl, q⟩
theorem go_ixL {p : Addr} {xs : List V} (h : SqL K H p xs) (e : atI xs i = some v) (q : Q v H) : rIx K (.ref p) (.int i) H Q := .inl ⟨p, xs, i, v, rfl, rfl, h, e, q⟩
theorem go_ixS {z : Str} {c : Nat} (l : z.length ≤ sizeLine) (e : atI z.cps.toList i = some c) (q : Q (.str ⟨#[c]⟩) H) : rIx K (.str z) (.int i) H Q := .inr (.inr ⟨z, i, c, rfl, rfl, l, e, q⟩)
theorem go_setL {p : Addr} {xs : List V} {k : Nat} {R : Hp → Prop} (h : H p = some (.lst xs)) (e : ixN xs.length i = some k) (q : R (upd H p (.lst (xs.set k v)))) : rSetL (.ref p) (.int i) v H R := ⟨p, xs, i, k, rfl, rfl, h, e, q⟩
/-! tests -/
theorem go_test {R : Bool → Hp → Prop} (h : te σ H fun x H1 => ∃ k, x = .bl k ∧ R k H1) : tTest te σ H R := h
theorem go_tB {R : Bool → Hp → Prop} (h : te σ H fun x H1 => ∃ k, x = .bl k ∧ R k H1) : tB te σ H R := h
theorem go_ex {k : Bool} {R : Bool → Prop} (q : R k) : ∃ k', V.bl k = .bl k' ∧ R k' := ⟨k, rfl, q⟩
theorem go_and {R : Bool → Hp → Prop} (h : tt σ H fun c H1 => if c = true then tu σ H1 R else R false H1) : tAnd tt tu σ H R := h
theorem go_or {R : Bool → Hp → Prop} (h : tt σ H fun c H1 => if c = true then R true H1 else tu σ H1 R) : tOr tt tu σ H R := h
theorem go_not {R : Bool → Hp → Prop} (h : tt σ H fun c H1 => R (!c) H1) : tNot tt σ H R := h
theorem go_andV (h : ta σ H fun x H1 => ∃ c, x = .bl c ∧ if c = true then tb σ H1 Q else Q (.bl false) H1) : tAndV ta tb σ H Q := h
theorem go_orV (h : ta σ H fun x H1 => ∃ c, x = .bl c ∧ if c = true then Q (.bl true) H1 else tb σ H1 Q) : tOrV ta tb σ H Q := h
theorem go_notV (h : ta σ H fun x H1 => ∃ c, x = .bl c ∧ Q (.bl (!c)) H1) : tNotV ta σ H Q := h
theorem go_ifE (h : tt σ H fun c H1 => if c = true then ta σ H1 Q else tb σ H1 Q) : tIf tt ta tb σ H Q := h
theorem go_if (h : tt σ H fun b H1 => if b = true then t D σ H1 else u D σ H1) : tIfS tt t u D σ H := h
theorem go_ret (h : te σ H D.rt) : tRet te D σ H := h
theorem go_retN (h : D.rt .non H) : tRetN D σ H := h
theorem go_drop (h : te σ H fun _ H1 => D.nx σ H1) : tDrop te D σ H := h
theorem go_brk (h : D.bk σ H) : tBreak D σ H := h
theorem go_cont (h : D.ct σ H) : tCont D σ H := h
theorem go_t {A B : Prop} (h : A) : if true = true then A else B := by rw [if_pos rfl]; exact h
theorem go_f {A B : Prop} (h : B) : if false = true then A else B := by rw [if_neg Bool.false_ne_true]; exact h
theorem go_nt {A B : Prop} (h : B) : if (!true) = true then A else B := go_f h
theorem go_nf {A B : Prop} (h : A) : if (!false) = true then A else B := go_t h
theorem go_dec {p A B : Prop} [Decidable p] (h1 : p → A) (h2 : ¬ p → B) : if decide p = true then A else B := by
  by_cases h : p
  · rw [if_pos (decide_eq_true h)]; exact h1 h
  · rw [decide_eq_false h, if_neg Bool.false_ne_true]; exact h2 h
theorem go_ndec {p A B : Prop} [Decidable p] (h1 : ¬ p → A) (h2 : p → B) : if (!decide p) = true then A else B := by
  by_cases h : p
  · rw [decide_eq_true h]; exact go_f (h2 h)
  · rw [decide_eq_false h]; exact go_t (h1 h)
theorem go_bool {b : Bool} {A B : Prop} (h1 : b = true → A) (h2 : b = false → B) : if b = true then A else B := by
  cases b with
  | true => exact go_t (h1 rfl)
  | false => exact go_f (h2 rfl)
/-! new objects -/
theorem go_lst {t : TA} (h : t σ H fun xs H1 => xs.length ≤ sizeLine ∧ ∀ p, H1 p = none → Q (.ref p) (upd H1 p (.lst xs))) : tLst t σ H Q := h
theorem go_tup {t : TA} (h : t σ H fun xs H1 => xs.length ≤ sizeLine ∧ ∀ p, H1 p = none → Q (.ref p) (upd H1 p (.tup xs))) : tTup t σ H Q := h
theorem go_call {sp : Sp} {E : XK} {t : TA} (h : t σ H fun vs H1 => sp vs H1 Q E) : tCall sp [] E t σ H Q := by
  have e : (fun (vs : List V) (H1 : Hp) => sp (vs ++ []) H1 Q E) = fun vs H1 => sp vs H1 Q E := by
    funext vs H1
    rw [List.append_nil]
  show t σ H fun vs H1 => sp (vs ++ []) H1 Q E
  rw [e]
  exact h
variable {a b c d e : V} {E : XK}
theorem go_sp1 {f : P1} (h : f a H Q E) : Sp1 f [a] H Q E := ⟨a, rfl, h⟩
theorem go_sp2 {f : P2} (h : f a b H Q E) : Sp2 f [a, b] H Q E := ⟨a, b, rfl, h⟩
theorem go_sp3 {f : P3} (h : f a b c H Q E) : Sp3 f [a, b, c] H Q E := ⟨a, b, c, rfl, h⟩
theorem go_sp4 {f : P4} (h : f a b c d H Q E) : Sp4 f [a, b, c, d] H Q E := ⟨a, b, c, d, rfl, h⟩
theorem go_sp5 {f : P5} (h : f a b c d e H Q E) : Sp5 f [a, b, c, d, e] H Q E := ⟨a, b, c, d, e, rfl, h⟩
end
theorem atI_of {α : Type} {xs : List α} {i : Int} {v : α} (h0 : 0 ≤ i) (h : xs[i.toNat]? = some v) : atI xs i = some v := by
  have e : ((i.toNat : Nat) : Int) = i := by omega
  have q := atI_nat (xs := xs) (j := i.toNat) h
  rw [e] at q
  exact q
/-! ### loops -/
/-- what a for asks of its iterator -/
def ForIt (J : It) (g : TG) (tb : TS) (D : Ends) (σ : L2.St) (H : Hp) : Prop := ∃ W : Nat → Nat → L2.St → Hp → Prop, (∃ m, W 0 m σ H) ∧ ∀ i m σ H, W i m σ H →
  (J.stop i H ∧ D.nx σ H) ∨ (J.go i H ∧ ∃ N : L2.St → Hp → Prop, (∀ σ' H', N σ' H' → ∃ m', m' < m ∧ W (i + 1) m' σ' H') ∧ ∀ x H', J.yld i H x H' → g x σ H' fun σ2 H2 => tb { D with nx := N, ct := N, bk := D.nx } σ2 H2)
section
variable {K : PySem.W.Frag} {σ : L2.St} {H : Hp} {D : Ends} {g : TG} {tb : TS} {tl : TE} {ta : TA} {a : Addr} {xs : List V} {R : It → Hp → Prop} {tc : TT}
theorem go_for {wi : TI} (h : wi σ H fun J H1 => ForIt J g tb D σ H1) : tFor wi g tb D σ H := h
def iL (K : PySem.W.Frag) (R : It → Hp → Prop) : VK := fun x H1 => ∃ a, x = .ref a ∧ (∃ xs, SqL K H1 a xs) ∧ R (Itl K a) H1
def iT (K : PySem.W.Frag) (R : It → Hp → Prop) : VK := fun x H1 => ∃ a, x = .ref a ∧ (∃ xs, SqT K H1 a xs) ∧ R (Itt K a) H1
def iS (R : It → Hp → Prop) : VK := fun v H1 => ∃ x, v = .str x ∧ R (Its x) H1
def iR1 (R : It → Hp → Prop) : List V → Hp → Prop := fun vs H1 => ∃ j : Int, vs = [.int j] ∧ -(2 ^ 62) ≤ j ∧ j < 2 ^ 62 ∧ R (Itr 0 j.toNat) H1
def iR2 (R : It → Hp → Prop) : List V → Hp → Prop := fun vs H1 => ∃ i j : Int, vs = [.int i, .int j] ∧ (-(2 ^ 62) ≤ i ∧ i < 2 ^ 62 ∧ -(2 ^ 62) ≤ j ∧ j < 2 ^ 62) ∧ R (Itr i (j - i).toNat) H1
theorem go_iL (h : tl σ H (iL K R)) : iList K tl σ H R := h
theorem go_iT (h : tl σ H (iT K R)) : iTup K tl σ H R := h
theorem go_iS (h : tl σ H (iS R)) : iStr tl σ H R := h
theorem go_iR1 (h : ta σ H (iR1 R)) : iRng1 ta σ H R := h
theorem go_iR2 (h : ta σ H (iR2 R)) : iRng2 ta σ H R := h
theorem for_r {j : Int} (hj : -(2 ^ 62) ≤ j ∧ j < 2 ^ 62) (Pv : Nat → L2.St → Hp → Prop) (h0 : Pv 0 σ H)
    (hs : ∀ (i : Nat) σ H, (i : Int) < j → Pv i σ H → g (.int (i : Int)) σ H fun σ2 H2 => tb ⟨Pv (i + 1), D.rt, D.nx, Pv (i + 1)⟩ σ2 H2) (hd : ∀ σ H, Pv j.toNat σ H → D.nx σ H) : iR1 (fun J H1 => ForIt J g tb D σ H1) [.int j] H := by
  refine ⟨j, rfl, hj.1, hj.2, for_range (lo := 0) (n := j.toNat) Pv h0 (fun i σ H hi p => ?_) hd⟩
  have e : (0 : Int) + (i : Int) = (i : Int) := Int.zero_add _
  rw [e]
  exact hs i σ H (by omega) p
theorem for_s {z : Str} (Pv : Nat → L2.St → Hp → Prop) (h0 : Pv 0 σ H)
    (hs : ∀ (i : Nat) (c : Nat) σ H, z.cps.toList[i]? = some c → Pv i σ H → g (.str ⟨#[c]⟩) σ H fun σ2 H2 => tb ⟨Pv (i + 1), D.rt, D.nx, Pv (i + 1)⟩ σ2 H2) (hd : ∀ σ H, Pv z.length σ H → D.nx σ H) : iS (fun J H1 => ForIt J g tb D σ H1) (.str z) H := by
  refine ⟨z, rfl, fun i m σ H => m = z.length - i ∧ i ≤ z.length ∧ Pv i σ H, ⟨z.length, by simp, Nat.zero_le _, h0⟩, ?_⟩
  rintro i m σ H ⟨rfl, hi, p⟩
  by_cases hlt : i < z.length
  · refine .inr ⟨hlt, Pv (i + 1), fun σ' H' p' => ⟨z.length - (i + 1), by omega, rfl, hlt, p'⟩, fun x H' y => ?_⟩
    obtain ⟨e, c, hc, ex⟩ := y
    subst e ex
    exact hs i c σ _ (by simpa using hc) p
  · have e : i = z.length := by omega
    subst e
    exact .inl ⟨Nat.le_refl _, hd σ H p⟩
/-- slices of a text -/
theorem go_sl {r : V → Option Int → Option Int → Hp → VK → Prop} {te : TE} {tl th : TO} {Q : VK} (h : te σ H fun x H1 => tl σ H1 fun l H2 => th σ H2 fun u H3 => r x l u H3 Q) : tSl r te tl th σ H Q := h
theorem go_part {t : TE} {Q : Option Int → Hp → Prop} (h : t σ H fun x H1 => ∃ i, x = .int i ∧ Q (some i) H1) : tPart t σ H Q := h
theorem go_nopart {Q : Option Int → Hp → Prop} (h : Q none H) : tNoPart σ H Q := h
theorem go_exi {i : Int} {R : Int → Prop} (q : R i) : ∃ k, V.int i = .int k ∧ R k := ⟨i, rfl, q⟩
theorem go_slS {z : Str} {lo hi : Option Int} {Q : VK} (l : z.length ≤ sizeLine) (q : Q (.str (cutS z lo hi)) H) : rSlS (.str z) lo hi H Q := ⟨z, rfl, l, q⟩
/-- list append -/
theorem go_bm {T : String} {r : V → List V → Hp → VK → Prop} {to : TE} {t : TA} {Q : VK} (h : to σ H fun x H1 => tyV K T x H1 ∧ t σ H1 fun xs H2 => r x xs H2 Q) : tBM K T r to t σ H Q := h
theorem ty_lst {l : Addr} {ys : List V} (h : SqL K H l ys) : tyV K "list" (.ref l) H := .inl ⟨rfl, ys, h⟩
end
theorem len_one (c : Nat) : (⟨#[c]⟩ : Str).length = 1 := rfl
theorem length_append (a b : Str) : (a ++ b).length = a.length + b.length := by
  show (a.cps ++ b.cps).size = a.cps.size + b.cps.size
  rw [Array.size_append]
theorem size_ok {n : Nat} (h : n ≤ 100000) : n ≤ sizeLine := Nat.le_trans h (by decide)
theorem size_lt {n : Nat} (h : n < 100000) : n < sizeLine := Nat.lt_of_lt_of_le h (by decide)
/-! ### heaps: what stands but at M -/
structure Dx (M : Addr → Prop) (H H' : Hp) : Prop where
  st : ∀ a o, ¬ M a → H a = some o → H' a = some o
  dm : ∀ a, H' a = none → H a = none
section
variable {M N : Addr → Prop} {H H' H1 H2 : Hp} {a p l : Addr} {o u : HO} {K : PySem.W.Frag} {xs : List V}
theorem Dx.refl : Dx M H H := ⟨fun _ _ _ h => h, fun _ h => h⟩
theorem Dx.trans (a : Dx M H H1) (b : Dx M H1 H2) : Dx M H H2 := ⟨fun c o n h => b.st c o n (a.st c o n h), fun c h => a.dm c (b.dm c h)⟩
theorem Dx.mono (a : Dx M H H1) (h : ∀ c, M c → N c) : Dx N H H1 := ⟨fun c o n q => a.st c o (fun z => n (h c z)) q, a.dm⟩
theorem Dx.new (h : H p = none) : Dx M H (upd H p o) := ⟨fun c u _ q => by rw [upd_ne (ne_of_none q h)]; exact q, fun c q => by
  by_cases e : c = p
  · rw [e]; exact h
  · rw [upd_ne e] at q; exact q⟩
theorem stands (h : H a = some u) (hp : H p = none) : upd H p o a = some u := by
  rw [upd_ne (ne_of_none h hp)]
  exact h
theorem Dx.mut (hm : M l) : Dx M H (upd H l u) := ⟨fun c o n q => by rw [upd_ne (fun e => n (by rw [e]; exact hm))]; exact q, fun c q => by
  by_cases e : c = l
  · rw [e, upd_same] at q; cases q
  · rw [upd_ne e] at q; exact q⟩
/-- what M holds besides is not yet there at H -/
theorem Dx.loc (d : Dx N H H1) (h : ∀ c, N c → M c ∨ H c = none) : Dx M H H1 := ⟨fun c o n q => d.st c o (fun z => by
  rcases h c z with e | e
  · exact n e
  · rw [q] at e
    exact nomatch e) q, d.dm⟩
theorem Dx.al (d : Dx M H H1) (h : H a ≠ none) : H1 a ≠ none := fun e => h (d.dm a e)
theorem Dx.rd (d : Dx M H H1) (n : ¬ M a) (h : Rd H a o) : Rd H1 a o := by
  rcases h with h | ⟨u, h⟩
  · exact .inl (d.st _ _ n h)
  · exact .inr ⟨u, d.st _ _ n h⟩
theorem Dx.sqL (d : Dx M H H1) (n : ¬ M a) (h : SqL K H a xs) : SqL K H1 a xs := by
  rcases h with h | h
  · exact .inl (d.rd n h)
  · exact .inr h
theorem Dx.sqT (d : Dx M H H1) (n : ¬ M a) (h : SqT K H a xs) : SqT K H1 a xs := by
  rcases h with h | h
  · exact .inl (d.rd n h)
  · exact .inr h
end
/-- the draws' store at c: six numbers behind the cells' list at p -/
def stL (p : Addr) (i rest left n a b : Int) : List V := [.ref p, .int i, .int rest, .int left, .int n, .int a, .int b]
structure StoreAt (M : Addr → Prop) (H : Hp) (c : Addr) : Prop where
  ex : ∃ (p : Addr) (i rest left n a b : Int) (cells : List Int), H c = some (.lst (stL p i rest left n a b)) ∧ H p = some (.lst (cells.map V.int)) ∧ ¬ M p ∧ 0 ≤ i ∧ (0 ≤ a ∧ a < 2147483647) ∧ (0 ≤ b ∧ b < 2147483399)
/-- the store is at c, which M holds; M's are all there -/
structure Ok (M : Addr → Prop) (H : Hp) (c : Addr) : Prop where
  inM : M c
  al : ∀ a, M a → H a ≠ none
  st : StoreAt M H c
abbrev Only1 (c : Addr) : Addr → Prop := fun a => a = c
/-- l besides -/
def Add (M : Addr → Prop) (l : Addr) : Addr → Prop := fun a => a = l ∨ M a
section
variable {M : Addr → Prop} {H H1 : Hp} {c l : Addr} {o u : HO}
theorem Only1.sub (h : M c) : ∀ a, Only1 c a → M a := fun a e => by
  have e' : a = c := e
  rw [e']
  exact h
theorem Ok.sub (k : Ok M H c) (d : Dx (Only1 c) H H1) : Dx M H H1 := d.mono (Only1.sub k.inM)
theorem Ok.alive (k : Ok M H c) (d : Dx M H H1) : ∀ a, M a → H1 a ≠ none := fun a h => d.al (k.al a h)
/-- anything but the store has changed -/
theorem Ok.keep (k : Ok M H c) (d : Dx M H H1) (e : H1 c = H c) : Ok M H1 c := by
  obtain ⟨p, i, rest, left, n, a, b, cells, h1, h2, h3, h4⟩ := k.st.ex
  exact ⟨k.inM, k.alive d, ⟨p, i, rest, left, n, a, b, cells, by rw [e]; exact h1, d.st _ _ h3 h2, h3, h4⟩⟩
theorem Ok.ne_new (k : Ok M H c) (h : H l = none) : l ≠ c := fun e => k.al c k.inM (by rw [← e]; exact h)
theorem Ok.notM (k : Ok M H c) (h : H l = none) : ¬ M l := fun e => k.al l e h
theorem Ok.new (k : Ok M H c) (h : H l = none) : Ok M (upd H l o) c := k.keep (Dx.new h) (upd_ne (Ne.symm (k.ne_new h)))
/-- a new object joins M -/
theorem Ok.add (k : Ok M H c) (h : H l = none) : Ok (Add M l) (upd H l o) c := by
  obtain ⟨p, i, rest, left, n, a, b, cells, h1, h2, h3, h4⟩ := k.st.ex
  have hp : p ≠ l := ne_of_none h2 h
  have hc : c ≠ l := Ne.symm (k.ne_new h)
  refine ⟨.inr k.inM, fun a z => ?_, ⟨p, i, rest, left, n, a, b, cells, by rw [upd_ne hc]; exact h1, by rw [upd_ne hp]; exact h2, fun z => ?_, h4⟩⟩
  · rcases z with e | z
    · rw [e, upd_same]
      exact fun q => by cases q
    · exact (k.new (o := o) h).al a z
  · rcases z with e | z
    · exact hp e
    · exact h3 z
theorem Ok.ne {a : Addr} (k : Ok M H c) (h : ¬ M a) : a ≠ c := fun e => h (by rw [e]; exact k.inM)
/-- a smaller M -/
theorem Ok.less {N : Addr → Prop} (k : Ok M H c) (hc : N c) (h : ∀ a, N a → M a) : Ok N H c := by
  obtain ⟨p, i, rest, left, n, a, b, cells, h1, h2, h3, h4⟩ := k.st.ex
  exact ⟨hc, fun a z => k.al a (h a z), ⟨p, i, rest, left, n, a, b, cells, h1, h2, fun z => h3 (h p z), h4⟩⟩
/-- what M holds, other than the store, is written -/
theorem Ok.mut (k : Ok M H c) (hm : M l) (hc : l ≠ c) : Ok M (upd H l o) c := k.keep (Dx.mut hm) (upd_ne (Ne.symm hc))
end
/-! ### drawn things -/
/-- a draw: the store turns, the rest stands -/
def Drawn (M : Addr → Prop) (c : Addr) (H : Hp) (R : V → Prop) (Q : VK) : Prop := ∀ r H', R r → Dx (Only1 c) H H' → Ok M H' c → Q r H'
/-- f(store): a value of R -/
def pDraw (R : V → Prop) : P1 := fun v0 H Q _ => ∃ (c : Addr) (M : Addr → Prop), v0 = .ref c ∧ Ok M H c ∧ Drawn M c H R Q
def IsText (lo hi : Nat) : V → Prop := fun v => ∃ x : Str, v = .str x ∧ lo ≤ x.length ∧ x.length ≤ hi
end Q
/-! list(reversed(xs)) -/
namespace QR
open PySem PySem.Spec PySem.Calls PyProof.Rows L2
open RT
section
variable {prog : Program} {w : World} {A : Around} {E : Value → Shared → Prop} {s : Shared}
end
end QR
namespace Q
open PySem PySem.Spec PySem.Calls PyProof.Rows L2
/-- list(reversed(x)), x a list: a new list -/
def tListRev (K : PySem.W.Frag) (te : TE) : TE := fun σ H Q => te σ H fun v H1 => ∃ (a : Addr) (xs : List V), v = .ref a ∧ SqL K H1 a xs ∧ ∀ q, H1 q = none → Q (.ref q) (upd H1 q (.lst xs.reverse))
end Q
/-! isinstance of a caught exception that has its own dict -/
namespace Q
open PySem PySem.Spec PyProof.Rows L2
/-- the exception that the suite holds at a: its class is D, its dict stands -/
def XAt (cls : Value) (d : Option Addr) (D : Addr) (H : Hp) : Prop := cls = .ref D ∧ ∃ (dd : Addr) (fs : List (Str × V)), d = some dd ∧ H dd = some (.xd fs)
def rIsX (K : PySem.W.Frag) (a : Addr) (cls : Value) (d : Option Addr) : List V → Hp → VK → Prop := fun xs H Q => ∃ D : Addr, ExcC K D ∧ XAt cls d D H ∧
  ((∃ (c : V) (cv : Value) (b : Bool), xs = [.ref a, c] ∧ ClsV c cv ∧ PySem.W.kitOne K (.ref D) cv = some b ∧ Q (.bl b) H) ∨
   (∃ (tp : Addr) (cs : List V) (us : List Value) (b : Bool), xs = [.ref a, .ref tp] ∧ H tp = some (.tup cs) ∧ Paired ClsV cs us ∧ PySem.W.kitAny K (.ref D) us = some b ∧ Q (.bl b) H))
theorem call_isX {X : Cx} {a : Addr} {oe : Obj} {cls : Value} {d : Option Addr} {pn : List (Addr × Obj)} (hz : Zc cls d oe) (hf : ∃ vs, oe.data = .fields vs) : CallR (X.suite a ((a, oe) :: pn)) (.builtin "isinstance") (rIsX X.K a cls d) := by
  intro pins s σ H xs us Q I r h
  obtain ⟨D, C, ⟨ec, dd, fs, ed, ea⟩, h⟩ := h
  subst ec ed
  obtain ⟨ha, _⟩ := I.pin (a, oe) (List.mem_append.mpr (.inl List.mem_cons_self))
  obtain ⟨vs, hv⟩ := hf
  have hx : ObjOk X.prog X.w H s.heap dd (.xd fs) := I.hok dd _ ea
  obtain ⟨mA, hns, hr⟩ := hx
  obtain ⟨od, ho, hl⟩ := lookIn_ns hns
  have J : PySem.W.InstAt s.heap a oe D (some od) := ⟨ha, hz.1, by unfold PySem.W.notCls; rw [hv] <;> rfl, by rw [hz.2]; exact ho⟩
  have hcl : (PySem.W.clsIn X.K D).isSome = true := by
    obtain ⟨cd, e, _⟩ := PySem.W.any_some C.hd
    rw [e] <;> rfl
  have Z := PySem.W.kitx_exc (K := X.K) (x := a) (ox := oe) (od := some od) hcl C.hg C.hk C.hs C.ha C.hn C.ht C.hm
  rcases h with ⟨c, cv, b, rfl, k, e, q⟩ | ⟨tp, cs, ws, b, rfl, hT, k, e, q⟩
  · obtain ⟨u1, u2, rfl, r1, r2⟩ := vals2 r
    have e2 := k.eq r2
    subst e2
    cases (show u1 = Value.ref a from r1)
    exact PySem.W.kia_one Z I.kIn J e (fun z => nomatch z) fun tk => ⟨.bl b, H, I.tok tk, rfl, q⟩
  · obtain ⟨u1, u2, rfl, r1, r2⟩ := vals2 r
    cases (show u1 = Value.ref a from r1)
    cases (show u2 = Value.ref tp from r2)
    obtain ⟨_, its, rv, o, h1, h2, n, h3⟩ := (show ObjOk X.prog X.w H s.heap tp (.tup cs) from I.hok tp _ hT)
    have e3 := ClsV.all k rv
    subst e3
    obtain ⟨oc, od2, dt, sl⟩ := o
    simp only at h2 h3
    subst h2 h3
    exact PySem.W.kia_tup Z I.kIn J h1 e (fun z => nomatch z) fun tk => ⟨.bl b, H, I.tok tk, rfl, q⟩
/-! ### is None, isinstance of built-in types -/
def rIs0 : R2 := fun x y H Q => y = .non ∧ Q (.bl (decide (x = .non))) H
def rIsNot0 : R2 := fun x y H Q => y = .non ∧ Q (.bl (!decide (x = .non))) H
section
variable {X : Cx}
theorem op_is0 : OpR X (compareOp .Is) rIs0 := op_isN
theorem op_isnot0 : OpR X (compareOp .IsNot) rIsNot0 := op_notN
end
section
variable {K : PySem.W.Frag} {H : Hp} {Q : VK} {x c : V}
theorem go_isY (q : Q (.bl true) H) : rIs0 .non .non H Q := ⟨rfl, q⟩
theorem go_isN (h : x ≠ .non) (q : Q (.bl false) H) : rIs0 x .non H Q := ⟨rfl, by rw [decide_eq_false h]; exact q⟩
theorem go_isnotN (q : Q (.bl false) H) : rIsNot0 .non .non H Q := ⟨rfl, q⟩
theorem go_isnotY (h : x ≠ .non) (q : Q (.bl true) H) : rIsNot0 x .non H Q := ⟨rfl, by rw [decide_eq_false h]; exact q⟩
/-- the built-in type of a value -/
inductive Bt (K : PySem.W.Frag) (H : Hp) : V → String → Prop where
  | non : Bt K H .non "NoneType"
  | bl (b : Bool) : Bt K H (.bl b) "bool"
  | int (i : Int) : Bt K H (.int i) "int"
  | str (s : Str) : Bt K H (.str s) "str"
  | lst {a : Addr} {xs : List V} (h : SqL K H a xs) : Bt K H (.ref a) "list"
  | tup {a : Addr} {xs : List V} (h : SqT K H a xs) : Bt K H (.ref a) "tuple"
  | dic {a : Addr} {kvs : List (Key × V)} (h : H a = some (.dK kvs)) : Bt K H (.ref a) "dict"
theorem Bt.tyX {T : String} (h : Bt K H x T) : TyX K H x (.type T) := by
  cases h with
  | non => exact .base .non
  | bl b => exact .base (.bl b)
  | int i => exact .base (.int i)
  | str s => exact .base (.str s)
  | lst h =>
    rcases h with (h | ⟨o, h⟩) | ⟨o, its, n, h, c, _⟩
    · exact .base (.lst h)
    · exact .base (.frz h)
    · exact .kList h c
  | tup h =>
    rcases h with (h | ⟨o, h⟩) | ⟨o, its, n, h, c, _⟩
    · exact .base (.tup h)
    · exact .fTuple h
    · exact .kTuple h c
  | dic h => exact .base (.dK h)
theorem go_isi {T U : String} {b : Bool} (ty : Bt K H x T) (e : kitB T U = some b) (q : Q (.bl b) H) : rIsi K [x, .ty U] H Q :=
  ⟨x, .ty U, .type T, .type U, b, rfl, .ty U, ty.tyX, kit_ty e, q⟩
end
/-- texts of a menu -/
def textsB (n : Nat) (xs : List V) : Bool := xs.all fun v => match v with
  | .str x => decide (x.length ≤ n)
  | _ => false
theorem texts_ok {n : Nat} {xs : List V} {v : V} (h : textsB n xs = true) (hv : v ∈ xs) : IsText 0 n v := by
  have q := List.all_eq_true.mp h v hv
  cases v with
  | str x => exact ⟨x, rfl, Nat.zero_le _, of_decide_eq_true q⟩
  | _ => exact nomatch q
theorem one_sign {z : Str} {v : V} (h : ∃ ch, ch ∈ z.cps.toList ∧ v = .str ⟨#[ch]⟩) : IsText 1 1 v := by
  obtain ⟨ch, _, e⟩ := h
  exact ⟨_, e, Nat.le_refl _, Nat.le_refl _⟩
section
variable {K : PySem.W.Frag} {H : Hp} {Q : VK} {a D C : Addr} {cls : Value} {d : Option Addr} {b : Bool}
end
section
variable {X : Cx} {CX : CXT} {k : Nat} {f : Addr} {fd : FuncData} {ps ks : List Str} {sp : Sp} {E : XK} {x : Str} {p pos : Pos} {kws : List Keyword} {tk : TA} {g : List Value → List Value → List Value} {gV : List V → List V → List V}
end
end Q
/-! what the top has written, asked of the part K as Bools -/
namespace Q
open PySem PySem.Spec PyProof.Rows L2
/-! ### the Hook: the facts and defs of He, one Bool more -/
def obsQ (n : Nat) (fa : List He.Fa) (fn : List He5.DefA) (ex : PySem.W.Frag → Bool) (g : Addr → Option Obj) : He.AlD × Bool := (He5.obsA fa fn (He.frG g (He5.asA g n)), ex (He.frG g (He5.asA g n)))
structure SaysQ (fa : List He.Fa) (fn : List He5.DefA) (ex : PySem.W.Frag → Bool) (K : PySem.W.Frag) : Prop where
  d : He5.SaysA fa fn K
  x : ex K = true
def hookQ (n : Nat) (fa : List He.Fa) (fn : List He5.DefA) (ex : PySem.W.Frag → Bool) : PySem.W.Hook where
  α := He.AlD × Bool
  obs := fun s => obsQ n fa fn ex s.heap.get?
  val := fun _ => (He5.valA fn, true)
  says := fun _ h => ∃ K : PySem.W.Frag, K.In h ∧ SaysQ fa fn ex K
  of := fun _ _ e => ⟨_, He.frG_in, ⟨congrArg Prod.fst e, congrArg Prod.snd e⟩⟩
  keeps := fun _ _ _ ⟨K, hK, c⟩ k => ⟨K, PySem.W.Frag.In.keeps hK k, c⟩
/-! ### exception classes -/
abbrev gA (K : PySem.W.Frag) (x : Str) : Addr := He.ga K x
/-- the class object: own classes, then ValueError's -/
def oexB (K : PySem.W.Frag) (C : Addr) : Bool := match K.lookup C with
  | some ⟨.type t, _, .cls cd, sl⟩ => (match cd.mro, sl.toList with
    | .ref C' :: bm, [_, _, _, _, some (.builtin n), _] => t == "type" && (C' == C && (n == "ValueError.__new__" && (!cd.hasDel && (cd.hasDict && PySem.HandSPX.refsVE bm))))
    | _, _ => false)
  | _ => false
def fnd (K : PySem.W.Frag) (C : Addr) (x : Str) (v : Option Value) : Bool := decide (PySem.W.findIn K (.ref C) x = some v)
/-- all that is asked of an exception class (with its own __init__ or without) -/
def xcB (K : PySem.W.Frag) (C : Addr) : Bool := oexB K C && (fnd K C "__setattr__" (some (.builtin "object.__setattr__")) && (decide (PySem.W.subIn K (.ref C) (.type "BaseException") = some true) && (decide (PySem.W.typeIn K (.ref C) = some (.type "type")) && (PySem.W.keepIn K (.ref C) &&
  (fnd K C "__getattribute__" (some (.builtin "BaseException.__getattribute__")) && (fnd K C "__getattr__" none && (PySem.W.hasDictIn K C && (fnd K C "__class__" (some (.builtin "object.__class__")) &&
  (decide (PySem.W.specialIn K (.builtin "object.__class__") "__get__" = some (some (.builtin "getset_descriptor.__get__"))) && (decide (PySem.W.takesIn K (.builtin "object.__class__") = some true) && (decide (PySem.W.mroIn K C (.type "object") = some true) &&
  decide (PySem.W.exmOne K (.ref C) (.ref C) = some true))))))))))))
structure XC (K : PySem.W.Frag) (C : Addr) : Prop where
  oex : OexC K C
  xf : XfC K C
  isx : ExcC K C
  te : PySem.W.exmOne K (.ref C) (.ref C) = some true
theorem oexB_ok {K : PySem.W.Frag} {C : Addr} (h : oexB K C = true) : ∃ nm q N bs bm sn sub ab col dd k0 k1 k2 k3 k5, K.lookup C = some (excClassObj nm q C N bs bm true sn sub ab col dd k0 k1 k2 k3 k5 "ValueError.__new__") ∧ PySem.HandSPX.refsVE bm = true := by
  unfold oexB at h
  split at h
  · rename_i t dd cd sl ho
    split at h
    · rename_i C' bm k0 k1 k2 k3 n k5 hm hs
      obtain ⟨h0, h⟩ := He.ba h
      obtain ⟨h1, h⟩ := He.ba h
      obtain ⟨h2, h⟩ := He.ba h
      obtain ⟨h3, h⟩ := He.ba h
      obtain ⟨h4, h5⟩ := He.ba h
      obtain ⟨nm, bs, mro, ns, qn, hd, sn, sub, ab, col, del⟩ := cd
      have e0 : t = "type" := beq_iff_eq.mp h0
      have e1 : C' = C := beq_iff_eq.mp h1
      have e2 : n = "ValueError.__new__" := beq_iff_eq.mp h2
      have e3 : del = false := by
        cases del with
        | false => rfl
        | true => exact nomatch h3
      have e4 : hd = true := h4
      dsimp only at hm
      have hsl : sl = #[k0, k1, k2, k3, some (.builtin n), k5] := by
        obtain ⟨l⟩ := sl
        have q : l = [k0, k1, k2, k3, some (.builtin n), k5] := hs
        rw [q]
      rw [hm, hsl, e0, e1, e2, e3, e4] at ho
      exact ⟨nm, qn, ns, bs, bm, sn, sub, ab, col, dd, k0, k1, k2, k3, k5, ho, h5⟩
    · exact nomatch h
  · exact nomatch h
theorem xcB_ok {K : PySem.W.Frag} {C : Addr} (h : xcB K C = true) : XC K C := by
  obtain ⟨h0, h⟩ := He.ba h
  obtain ⟨h1, h⟩ := He.ba h
  obtain ⟨h2, h⟩ := He.ba h
  obtain ⟨h3, h⟩ := He.ba h
  obtain ⟨h4, h⟩ := He.ba h
  obtain ⟨h5, h⟩ := He.ba h
  obtain ⟨h6, h⟩ := He.ba h
  obtain ⟨h7, h⟩ := He.ba h
  obtain ⟨h8, h⟩ := He.ba h
  obtain ⟨h9, h⟩ := He.ba h
  obtain ⟨h10, h⟩ := He.ba h
  obtain ⟨h11, h12⟩ := He.ba h
  have g1 := of_decide_eq_true h1
  have g2 := of_decide_eq_true h2
  have g5 := of_decide_eq_true h5
  have g6 := of_decide_eq_true h6
  exact ⟨⟨oexB_ok h0, g1, g2, of_decide_eq_true h3, h4⟩, ⟨g5, g6, g2, h7⟩, ⟨g5, g6, g2, h7, of_decide_eq_true h8, of_decide_eq_true h9, of_decide_eq_true h10, of_decide_eq_true h11⟩, of_decide_eq_true h12⟩
/-- its __init__ is a def of the text; the names are no attributes of the class -/
def xinB (K : PySem.W.Frag) (C : Addr) (fs : List Str) : Bool := fnd K C "__init__" (some (.ref (He.ma K C "__init__"))) && (decide (PySem.W.typeIn K (.ref (He.ma K C "__init__")) = some (.type "function")) && fs.all fun f => fnd K C f none)
structure XIn (K : PySem.W.Frag) (C : Addr) (fs : List Str) : Prop where
  ini : PySem.W.findIn K (.ref C) "__init__" = some (some (.ref (He.ma K C "__init__")))
  ty : PySem.W.typeIn K (.ref (He.ma K C "__init__")) = some (.type "function")
  no : ∀ f ∈ fs, PySem.W.findIn K (.ref C) f = some none
theorem xinB_ok {K : PySem.W.Frag} {C : Addr} {fs : List Str} (h : xinB K C fs = true) : XIn K C fs := by
  obtain ⟨h1, h⟩ := He.ba h
  obtain ⟨h2, h3⟩ := He.ba h
  exact ⟨of_decide_eq_true h1, of_decide_eq_true h2, fun f hf => of_decide_eq_true (List.all_eq_true.mp h3 f hf)⟩
/-- isinstance of an exception of x against several classes, one class; a clause -/
def kinB (K : PySem.W.Frag) (x : Str) (ys : List Str) (b : Bool) : Bool := decide (PySem.W.kitAny K (.ref (gA K x)) (ys.map fun y => .ref (gA K y)) = some b)
def kin1B (K : PySem.W.Frag) (x y : Str) (b : Bool) : Bool := decide (PySem.W.kitOne K (.ref (gA K x)) (.ref (gA K y)) = some b)
def kinTB (K : PySem.W.Frag) (x : Str) (T : String) (b : Bool) : Bool := decide (PySem.W.kitOne K (.ref (gA K x)) (.type T) = some b)
def exmB (K : PySem.W.Frag) (x y : Str) (b : Bool) : Bool := decide (PySem.W.exmOne K (.ref (gA K x)) (.ref (gA K y)) = some b)
/-! ### an exception's __init__ -/
/-- self.f = y, of a new exception -/
def pInit1 (K : PySem.W.Frag) (C : Addr) (f : Str) : P2 := fun v0 v1 H Q _ => ∃ a : Addr, v0 = .ref a ∧ H a = some (exo a C none) ∧ ∀ dx, H dx = none → dx ≠ a → Q .non (upd (upd H dx (exd dx [(f, v1)])) a (exo a C (some dx)))
def pInit2 (K : PySem.W.Frag) (C : Addr) (f g : Str) : P3 := fun v0 v1 v2 H Q _ => ∃ a : Addr, v0 = .ref a ∧ H a = some (exo a C none) ∧ ∀ dx, H dx = none → dx ≠ a → Q .non (upd (upd (upd H dx (exd dx [(f, v1)])) a (exo a C (some dx))) dx (exd dx [(g, v2), (f, v1)]))
def pInit3 (K : PySem.W.Frag) (C : Addr) (f g k : Str) : P4 := fun v0 v1 v2 v3 H Q _ => ∃ a : Addr, v0 = .ref a ∧ H a = some (exo a C none) ∧ ∀ dx, H dx = none → dx ≠ a →
  Q .non (upd (upd (upd (upd H dx (exd dx [(f, v1)])) a (exo a C (some dx))) dx (exd dx [(g, v2), (f, v1)])) dx (exd dx [(k, v3), (g, v2), (f, v1)]))
section
variable {K : PySem.W.Frag} {C : Addr} {f g k : Str} {σ : L2.St} {H : Hp} {R : XK} {te : TE} {ta : TA}
/-- C(e, ..), its __init__ keeping sp: behind the arguments -/
def mkO (C : Addr) (sp : Sp) (R : XK) : List V → Hp → Prop := fun vs H1 => vs.length ≤ 1000 ∧ ∀ a, H1 a = none → sp (.ref a :: (vs ++ [])) (upd H1 a (exo a C none))
  (fun v H2 => v = .non ∧ ∃ (d : Addr) (fs : List (Str × V)), H2 a = some (exo a C (some d)) ∧ H2 d = some (exd d fs) ∧ H1 d = none ∧ R (.ref C) (some d) (upd (del H2 a) d (.xd fs))) (fun _ _ _ => False)
theorem go_mkO {sp : Sp} (h : ta σ H (mkO C sp R)) : tMkO C sp [] ta σ H R := h
/-- raise C(v): what is wished at the error's new dict -/
theorem mk1 {v : V} (h : ∀ d, H d = none → R (.ref C) (some d) (upd H d (.xd [(f, v)]))) : mkO C (Sp2 (pInit1 K C f)) R [v] H := by
  refine ⟨by show 1 ≤ 1000; decide, fun a ha => ⟨.ref a, v, rfl, a, rfl, upd_same, fun dx hdx hne => ?_⟩⟩
  have hd1 : H dx = none := by
    rw [upd_ne hne] at hdx
    exact hdx
  refine ⟨rfl, dx, [(f, v)], upd_same, by rw [upd_ne hne, upd_same], hd1, ?_⟩
  have e : upd (del (upd (upd (upd H a (exo a C none)) dx (exd dx [(f, v)])) a (exo a C (some dx))) a) dx (.xd [(f, v)]) = upd H dx (.xd [(f, v)]) := by
    funext b
    by_cases h1 : b = dx
    · rw [h1, upd_same, upd_same]
    · rw [upd_ne h1, upd_ne h1]
      by_cases h2 : b = a
      · rw [h2, del_same, ha]
      · rw [del_ne h2, upd_ne h2, upd_ne h1, upd_ne h2]
  rw [e]
  exact h dx hd1
theorem mk2 {v w : V} (h : ∀ d, H d = none → R (.ref C) (some d) (upd H d (.xd [(g, w), (f, v)]))) : mkO C (Sp3 (pInit2 K C f g)) R [v, w] H := by
  refine ⟨by show 2 ≤ 1000; decide, fun a ha => ⟨.ref a, v, w, rfl, a, rfl, upd_same, fun dx hdx hne => ?_⟩⟩
  have hd1 : H dx = none := by
    rw [upd_ne hne] at hdx
    exact hdx
  refine ⟨rfl, dx, [(g, w), (f, v)], by rw [upd_ne (Ne.symm hne), upd_same], upd_same, hd1, ?_⟩
  have e : upd (del (upd (upd (upd (upd H a (exo a C none)) dx (exd dx [(f, v)])) a (exo a C (some dx))) dx (exd dx [(g, w), (f, v)])) a) dx (.xd [(g, w), (f, v)]) = upd H dx (.xd [(g, w), (f, v)]) := by
    funext b
    by_cases h1 : b = dx
    · rw [h1, upd_same, upd_same]
    · rw [upd_ne h1, upd_ne h1]
      by_cases h2 : b = a
      · rw [h2, del_same, ha]
      · rw [del_ne h2, upd_ne h1, upd_ne h2, upd_ne h1, upd_ne h2]
  rw [e]
  exact h dx hd1
theorem mk3 {v w x : V} (h : ∀ d, H d = none → R (.ref C) (some d) (upd H d (.xd [(k, x), (g, w), (f, v)]))) : mkO C (Sp4 (pInit3 K C f g k)) R [v, w, x] H := by
  refine ⟨by show 3 ≤ 1000; decide, fun a ha => ⟨.ref a, v, w, x, rfl, a, rfl, upd_same, fun dx hdx hne => ?_⟩⟩
  have hd1 : H dx = none := by
    rw [upd_ne hne] at hdx
    exact hdx
  refine ⟨rfl, dx, [(k, x), (g, w), (f, v)], by rw [upd_ne (Ne.symm hne), upd_ne (Ne.symm hne), upd_same], upd_same, hd1, ?_⟩
  have e : upd (del (upd (upd (upd (upd (upd H a (exo a C none)) dx (exd dx [(f, v)])) a (exo a C (some dx))) dx (exd dx [(g, w), (f, v)])) dx (exd dx [(k, x), (g, w), (f, v)])) a) dx (.xd [(k, x), (g, w), (f, v)]) = upd H dx (.xd [(k, x), (g, w), (f, v)]) := by
    funext b
    by_cases h1 : b = dx
    · rw [h1, upd_same, upd_same]
    · rw [upd_ne h1, upd_ne h1]
      by_cases h2 : b = a
      · rw [h2, del_same, ha]
      · rw [del_ne h2, upd_ne h1, upd_ne h1, upd_ne h2, upd_ne h1, upd_ne h2]
  rw [e]
  exact h dx hd1
end
end Q
/-! words that many of the laws share -/
namespace Q
open PySem PySem.Spec PyProof.Rows L2
/-- the names of point 2 -/
def letS : Str := Str.ofString "abcdefghijklmnopqrstuvwxyz"
def signS : Str := Str.ofString "abcdefghijklmnopqrstuvwxyz0123456789"
def isNm (x : Str) : Bool := match x.cps.toList with
  | [] => false
  | c :: r => decide (r.length + 1 ≤ 8) && (decide (c ∈ letS.cps.toList) && (c :: r).all fun c => decide (c ∈ signS.cps.toList))
theorem nm_short {x : Str} (h : x.length < 1) : isNm x = false := by
  have e : x.cps.toList = [] := List.eq_nil_of_length_eq_zero (by simp only [Array.length_toList]; unfold Str.length at h; omega)
  unfold isNm
  rw [e]
theorem nm_long {x : Str} (h : (8 : Int) < x.length) : isNm x = false := by
  have e : x.cps.toList.length = x.length := by simp [Str.length]
  unfold isNm
  cases q : x.cps.toList with
  | nil => rfl
  | cons c r =>
    rw [q] at e
    show (decide (r.length + 1 ≤ 8) && _) = false
    rw [decide_eq_false (by simp only [List.length_cons] at e; omega)]
    rfl
theorem nm_head {x : Str} {c : Nat} (h : atI x.cps.toList 0 = some c) (hc : ¬ c ∈ letS.cps.toList) : isNm x = false := by
  unfold isNm
  cases q : x.cps.toList with
  | nil => rfl
  | cons c' r =>
    rw [q] at h
    have e : c' = c := by
      have h2 : atI (c' :: r) 0 = some c' := atI_of (by decide) rfl
      rw [h2] at h
      exact Option.some.inj h
    show (decide (r.length + 1 ≤ 8) && (decide (c' ∈ letS.cps.toList) && _)) = false
    rw [e, decide_eq_false hc, Bool.false_and, Bool.and_false]
theorem nm_sign {x : Str} {i c : Nat} (h : x.cps.toList[i]? = some c) (hc : ¬ c ∈ signS.cps.toList) : isNm x = false := by
  unfold isNm
  cases q : x.cps.toList with
  | nil => rfl
  | cons c' r =>
    rw [q] at h
    have e : ((c' :: r).all fun c => decide (c ∈ signS.cps.toList)) = false := by
      rw [List.all_eq_false]
      exact ⟨c, List.mem_of_getElem? h, by rw [decide_eq_false hc]; decide⟩
    show (decide (r.length + 1 ≤ 8) && (decide (c' ∈ letS.cps.toList) && _)) = false
    rw [e, Bool.and_false, Bool.and_false]
theorem nm_yes {x : Str} (h1 : ¬ (x.length : Int) < 1) (h2 : ¬ (8 : Int) < x.length) (h3 : ∀ c, atI x.cps.toList 0 = some c → c ∈ letS.cps.toList) (h4 : ∀ (i c : Nat), x.cps.toList[i]? = some c → c ∈ signS.cps.toList) : isNm x = true := by
  have e : x.cps.toList.length = x.length := by simp [Str.length]
  unfold isNm
  cases q : x.cps.toList with
  | nil =>
    rw [q] at e
    exact absurd e.symm (by simp only [List.length_nil]; omega)
  | cons c r =>
    rw [q] at e h3 h4
    have a1 : decide (r.length + 1 ≤ 8) = true := decide_eq_true (by simp only [List.length_cons] at e; omega)
    have a2 : decide (c ∈ letS.cps.toList) = true := decide_eq_true (h3 c (atI_of (by decide) rfl))
    have a3 : ((c :: r).all fun c => decide (c ∈ signS.cps.toList)) = true := List.all_eq_true.mpr fun d hd => by
      obtain ⟨i, hi⟩ := List.mem_iff_getElem?.mp hd
      exact decide_eq_true (h4 i d hi)
    show (decide (r.length + 1 ≤ 8) && (decide (c ∈ letS.cps.toList) && _)) = true
    rw [a1, a2, a3]
    rfl
def pIsName : P1 := fun v0 H Q _ => ∃ x : Str, v0 = .str x ∧ x.length ≤ 100000 ∧ Q (.bl (isNm x)) H
/-! ### comprehensions -/
def LcIt (J : It) (g : TG) (tt : TT) (te : TE) (vs : List Nat) (σ : L2.St) (Q : VK) (H1 : Hp) : Prop := ∀ D, H1 D = none → ∃ W : Nat → Nat → Hp → Prop, (∃ m, W 0 m (upd H1 D (.lst []))) ∧ ∀ i m H, W i m H →
  (J.stop i H ∧ Q (.ref D) H) ∨ (J.go i H ∧ ∃ Nx : Hp → Prop, (∀ H', Nx H' → ∃ m', m' < m ∧ W (i + 1) m' H') ∧ ∀ x H', J.yld i H x H' → g x (wipe σ vs) H' fun σ2 H2 => wipe σ2 vs = wipe σ vs ∧ tt σ2 H2 fun b H3 =>
    if b = true then te σ2 H3 fun y H4 => ∃ acc, H4 D = some (.lst acc) ∧ acc.length < sizeLine ∧ Nx (upd H4 D (.lst (acc ++ [y]))) else Nx H3)
/-- the item goes behind what the new list at D holds -/
def lcApp (D : Addr) (N : Hp → Prop) : VK := fun y H => ∃ acc, H D = some (.lst acc) ∧ acc.length < sizeLine ∧ N (upd H D (.lst (acc ++ [y])))
def lcTest (te : TE) (D : Addr) (N : Hp → Prop) (σ : L2.St) : Bool → Hp → Prop := fun b H => if b = true then te σ H (lcApp D N) else N H
section
variable {K : PySem.W.Frag} {σ : L2.St} {H : Hp} {g : TG} {tt : TT} {te : TE} {wi : TI} {vs : List Nat} {Q : VK} {a D : Addr} {xs : List V}
theorem go_lc (h : wi σ H fun J H1 => LcIt J g tt te vs σ Q H1) : tLc wi g tt te vs σ H Q := h
theorem go_yes {R : Bool → Hp → Prop} (h : R true H) : tYes σ H R := h
theorem go_lct {N : Hp → Prop} (h : te σ H (lcApp D N)) : lcTest te D N σ true H := h
theorem go_lcf {N : Hp → Prop} (h : N H) : lcTest te D N σ false H := by
  unfold lcTest
  rw [if_neg Bool.false_ne_true]
  exact h
end
/-! ### two things alike, n deep -/
inductive Eqv (K : PySem.W.Frag) (H : Hp) : Nat → V → V → Prop where
  | non {n : Nat} : Eqv K H n .non .non
  | bl {n : Nat} (b : Bool) : Eqv K H n (.bl b) (.bl b)
  | int {n : Nat} (i : Int) : Eqv K H n (.int i) (.int i)
  | str {n : Nat} (s : Str) : Eqv K H n (.str s) (.str s)
  | lst {n : Nat} {a b : Addr} {xs ys : List V} (ha : SqL K H a xs) (hb : SqL K H b ys) (e : xs.length = ys.length) (l : xs.length ≤ 100000) (h : ∀ (i : Nat) (x y : V), xs[i]? = some x → ys[i]? = some y → Eqv K H n x y) : Eqv K H (n + 1) (.ref a) (.ref b)
  | tup {n : Nat} {a b : Addr} {xs ys : List V} (ha : SqT K H a xs) (hb : SqT K H b ys) (e : xs.length = ys.length) (l : xs.length ≤ 100000) (h : ∀ (i : Nat) (x y : V), xs[i]? = some x → ys[i]? = some y → Eqv K H n x y) : Eqv K H (n + 1) (.ref a) (.ref b)
abbrev No : Addr → Prop := fun _ => False
theorem Eqv.keep {K : PySem.W.Frag} {H H' : Hp} (d : Dx No H H') {n : Nat} {x y : V} (h : Eqv K H n x y) : Eqv K H' n x y := by
  induction h with
  | non => exact .non
  | bl b => exact .bl b
  | int i => exact .int i
  | str s => exact .str s
  | lst ha hb e l _ ih => exact .lst (d.sqL id ha) (d.sqL id hb) e l ih
  | tup ha hb e l _ ih => exact .tup (d.sqT id ha) (d.sqT id hb) e l ih
def flatE : V → Bool
  | .non => true
  | .bl _ => true
  | .int _ => true
  | .str _ => true
  | _ => false
/-- list(reversed(x)) -/
def lrQ (K : PySem.W.Frag) (Q : VK) : VK := fun v H1 => ∃ (a : Addr) (xs : List V), v = .ref a ∧ SqL K H1 a xs ∧ ∀ q, H1 q = none → Q (.ref q) (upd H1 q (.lst xs.reverse))
theorem go_lrev {K : PySem.W.Frag} {te : TE} {σ : L2.St} {H : Hp} {Q : VK} (h : te σ H (lrQ K Q)) : tListRev K te σ H Q := h
def pMatchF : P3 := fun v0 v1 v2 H Q _ => ∃ st : Bool, v2 = .bl st ∧ flatE v0 = true ∧ flatE v1 = true ∧ Q (.bl (decide (v0 = v1))) H
def pMatchE (K : PySem.W.Frag) (n : Nat) : P3 := fun v0 v1 v2 H Q _ => ∃ (st : Bool) (a : Addr), v2 = .bl st ∧ v0 = .ref a ∧ Eqv K H n v0 v1 ∧ ∀ H', Dx No H H' → Q (.bl true) H'
def pMatch (K : PySem.W.Frag) (n : Nat) : P3 := fun v0 v1 v2 H Q E => pMatchF v0 v1 v2 H Q E ∨ pMatchE K n v0 v1 v2 H Q E
/-- two flat things, or two alike -/
def pSame (K : PySem.W.Frag) (n : Nat) : P2 := fun v0 v1 H Q _ => (Eqv K H n v0 v1 ∧ ∀ H', Dx No H H' → Q (.bl true) H') ∨ (flatE v0 = true ∧ flatE v1 = true ∧ Q (.bl (decide (v0 = v1))) H)
theorem Eqv.cases {K : PySem.W.Frag} {H : Hp} {n : Nat} {v0 v1 : V} (h : Eqv K H n v0 v1) : (flatE v0 = true ∧ v0 = v1) ∨ ∃ a m, v0 = .ref a ∧ n = m + 1 := by
  cases h with
  | non => exact .inl ⟨rfl, rfl⟩
  | bl b => exact .inl ⟨rfl, rfl⟩
  | int i => exact .inl ⟨rfl, rfl⟩
  | str s => exact .inl ⟨rfl, rfl⟩
  | lst ha hb e l h => exact .inr ⟨_, _, rfl, rfl⟩
  | tup ha hb e l h => exact .inr ⟨_, _, rfl, rfl⟩
theorem Eqv.match {K : PySem.W.Frag} {H : Hp} {n : Nat} {v0 v1 : V} {st : Bool} {Q : VK} {E : XK} (h : Eqv K H n v0 v1) (k : ∀ H', Dx No H H' → Q (.bl true) H') : pMatch K n v0 v1 (.bl st) H Q E := by
  rcases h.cases with ⟨f, e⟩ | ⟨a, m, e, _⟩
  · refine .inl ⟨st, rfl, f, by rw [← e]; exact f, ?_⟩
    rw [decide_eq_true e]
    exact k _ Dx.refl
  · exact .inr ⟨st, a, rfl, e, h, k⟩
theorem def_or {P : Program} {w : World} {K : PySem.W.Frag} {mg : Str → Option Value} {base : Heap} {CX : CXT} {k1 k2 k : Nat} {x : Str} {st : Stmt} {ps : List Str} {sp1 sp2 sp : Sp} (A : Def P w K mg base CX k1 x st ps sp1) (B : Def P w K mg base CX k2 x st ps sp2) (h1 : k1 ≤ k) (h2 : k2 ≤ k)
    (h : ∀ vs H Q E, sp vs H Q E → sp1 vs H Q E ∨ sp2 vs H Q E) : Def P w K mg base CX k x st ps sp := by
  obtain ⟨f, fd, m, kp, b, G, F⟩ := A.ex
  obtain ⟨f', fd', m', kp', b', G', F'⟩ := B.ex
  have e : f = f' := by
    rw [m] at m'
    exact Value.ref.inj (Option.some.inj m')
  subst e
  have e := fund_same F F'
  subst e
  refine ⟨f, fd, m, kp, b, ⟨fun vs H Q E q => ?_, fun A outer s H args us vs Q E hr he hb hv hs => ?_⟩, F⟩
  · rcases h _ _ _ _ q with q | q
    · exact G.len _ _ _ _ q
    · exact G'.len _ _ _ _ q
  · rcases h _ _ _ _ hs with q | q
    · exact (G.mono h1).run A outer s H args us vs Q E hr he hb hv q
    · exact (G'.mono h2).run A outer s H args us vs Q E hr he hb hv q
/-- the law's own promise -/
def pLaw (K : PySem.W.Frag) : P1 := fun v0 H Q _ => ∃ (a : Addr) (ns : List Int), v0 = .ref a ∧ SqL K H a (ns.map V.int) ∧ ns.length ≤ 63 ∧ ∀ H', Q (.bl true) H'
/-! ### the caught exception -/
section
variable {K : PySem.W.Frag} {H : Hp} {Q : VK} {a C dd : Addr} {f : Str} {te : TE} {σ : L2.St} {cls : Value} {d : Option Addr} {v : V} {fs : List (Str × V)}
def xfQ (a : Addr) (cls : Value) (d : Option Addr) (C : Addr) (f : Str) (Q : VK) : VK := fun x H1 => x = .ref a ∧ cls = .ref C ∧ ∃ (dd : Addr) (fs : List (Str × V)) (v : V), d = some dd ∧ H1 dd = some (.xd fs) ∧ fs.lookup f = some v ∧ Q v H1
theorem go_xf (h : te σ H (xfQ a cls d C f Q)) : tXf a cls d C f te σ H Q := h
theorem go_callS {sp : Sp} {E : L2.St → XK} {t : TA} (h : t σ H fun vs H1 => sp vs H1 Q (E σ)) : tCallS sp E t σ H Q := h
def kwQ (n m : Nat) (sp : Sp) (gV : List V → List V → List V) (E : XK) (Q : VK) (vs : List V) : List V → Hp → Prop := fun zs H2 => vs.length = n ∧ zs.length = m ∧ sp (gV vs zs) H2 Q E
theorem go_callN {n m : Nat} {sp : Sp} {gV : List V → List V → List V} {E : XK} {t tk : TA} (h : t σ H fun vs H1 => tk σ H1 (kwQ n m sp gV E Q vs)) : tCallN n m sp gV E t tk σ H Q := h
end
/-! ### keywords in any order, behind positional values -/
def nth {α : Type} : List α → Nat → List α
  | [], _ => []
  | a :: _, 0 => [a]
  | _ :: r, n + 1 => nth r n
def perm {α : Type} : List Nat → List α → List α
  | [], _ => []
  | i :: is, xs => nth xs i ++ perm is xs
theorem vals_nth : ∀ {zs : List V} {ws : List Value} (n : Nat), Vals zs ws → Vals (nth zs n) (nth ws n)
  | [], [], _, _ => .nil
  | _ :: _, _ :: _, 0, .cons r _ => .cons r .nil
  | _ :: _, _ :: _, n + 1, .cons _ rs => vals_nth n rs
theorem vals_perm {zs : List V} {ws : List Value} (r : Vals zs ws) : ∀ is : List Nat, Vals (perm is zs) (perm is ws)
  | [] => .nil
  | i :: is => (vals_nth i r).append (vals_perm r is)
theorem kbinds_p {K : PySem.W.Frag} {x q : Str} {A : Arguments} {B : List Stmt} {S : Scope} {kws : List (Str × V)} {f : Addr} {fd : FuncData} {ps ks : List Str} (F : FunD K x q A B S [] kws f fd) (n : Nat) (is : List Nat)
    (h : ∀ (kV doc pm : Value) (an : Option Addr) (cdv ct : Value) (us ws : List Value), us.length = n → ws.length = ks.length → bindArgs (PySem.W.fnOf x q A B S .none kV doc pm an cdv ct) ⟨us, ks.zip ws⟩ = pure (ps.zip (perm is (us ++ ws)))) :
    KBn K fd ps n ks (fun us ws => perm is (us ++ ws)) (fun vs zs => perm is (vs ++ zs)) := by
  obtain ⟨oc, od, dV, kV, doc, pm, an, cdv, ct, osl, rfl, lk, hcd, hD, hK⟩ := F.ex
  rcases hD with ⟨_, rfl⟩ | ⟨e, _⟩
  · exact ⟨fun s us ws X l1 l2 => .of_eq (h kV doc pm an cdv ct us ws l1 l2), fun r1 r2 => vals_perm (r1.append r2) is⟩
  · exact absurd rfl e
section
variable {X : Cx} {CX : CXT} {k n : Nat} {f : Addr} {fd : FuncData} {ps ks : List Str} {sp : Sp} {E : L2.St → XK} {x : Str} {p pos : Pos} {kws : List Keyword} {tk : TA} {g : List Value → List Value → List Value} {gV : List V → List V → List V}
def tCallNS (n m : Nat) (sp : Sp) (gV : List V → List V → List V) (E : L2.St → XK) (t tk : TA) : TE := fun σ H Q => t σ H fun vs H1 => tk σ H1 fun zs H2 => vs.length = n ∧ zs.length = m ∧ sp (gV vs zs) H2 Q (E σ)
theorem run_fnNS {pins : List (Addr × Obj)} {σ : L2.St} {H : Hp} {s : Shared} {Q : VK} {us ws : List Value} {vs zs : List V} (F : FnOk X.prog X.w X.K X.mg X.base CX k f fd ps sp) (hr : Room k X.A) (hb : KBn X.K fd ps n ks g gV) (hx : PassesAt CX X σ (E σ))
    (I : Inv X pins σ H s) (r : Vals vs us) (rz : Vals zs ws) (l1 : vs.length = n) (l2 : zs.length = ks.length) (h : sp (gV vs zs) H Q (E σ)) : wpAny (model X.prog X.w) X.A (call (.ref f) us (ks.zip ws)) (EP X pins σ Q) X.xe s := by
  refine wpAny_call (codeAny_mono (F.run X.A X.stack s H ⟨us, ks.zip ws⟩ (g us ws) (gV vs zs) Q (E σ) hr I.env0 (hb.to s us ws I.kIn (r.length.symm.trans l1) (rz.length.symm.trans l2)) (hb.rel r rz) h) fun r s' hq => ?_)
  cases r with
  | error e => exact hx pins H s e s' I hq
  | ok fl =>
    cases fl with
    | ret u => exact I.after hq
    | next => exact False.elim hq
    | brk => exact False.elim hq
    | cont => exact False.elim hq
end
section
variable {K : PySem.W.Frag} {σ : L2.St} {H : Hp} {Q : VK} {D : Ends} {te ta tb tc : TE} {i j : Int}
theorem go_callNS {n m : Nat} {sp : Sp} {gV : List V → List V → List V} {E : L2.St → XK} {t tk : TA} (h : t σ H fun vs H1 => tk σ H1 (kwQ n m sp gV (E σ) Q vs)) : tCallNS n m sp gV E t tk σ H Q := h
theorem go_kwp {n m : Nat} {sp : Sp} {is : List Nat} {E : XK} {vs zs : List V} (l1 : vs.length = n) (l2 : zs.length = m) (h : sp (perm is (vs ++ zs)) H Q E) : kwQ n m sp (fun vs zs => perm is (vs ++ zs)) E Q vs zs H := ⟨l1, l2, h⟩
theorem go_pow12 (q : Q (.int 1000000000000) H) : rPow0 (.int 10) (.int 12) H Q := ⟨10, 12, rfl, rfl, ⟨by decide, by decide, by decide⟩, q⟩
theorem go_pow13 (q : Q (.int 10000000000000) H) : rPow0 (.int 10) (.int 13) H Q := ⟨10, 13, rfl, rfl, ⟨by decide, by decide, by decide⟩, q⟩
theorem go_pow11 (q : Q (.int 100000000000) H) : rPow0 (.int 10) (.int 11) H Q := ⟨10, 11, rfl, rfl, ⟨by decide, by decide, by decide⟩, q⟩
theorem go_pow9 (q : Q (.int 1000000000) H) : rPow0 (.int 10) (.int 9) H Q := ⟨10, 9, rfl, rfl, ⟨by decide, by decide, by decide⟩, q⟩
theorem go_pow18 (q : Q (.int 1000000000000000000) H) : rPow0 (.int 10) (.int 18) H Q := ⟨10, 18, rfl, rfl, ⟨by decide, by decide, by decide⟩, q⟩
theorem go_pow30 (q : Q (.int 1000000000000000000000000000000) H) : rPow0 (.int 10) (.int 30) H Q := ⟨10, 30, rfl, rfl, ⟨by decide, by decide, by decide⟩, q⟩
def chQ (r' : R2) (tc : TE) (σ : L2.St) (Q : VK) : VK := fun z H3 => ∃ k, z = .bl k ∧ (if k = true then tc σ H3 fun w' H4 => r' (.int i) w' H4 Q else Q (.bl false) H3)
theorem go_chain {r r' : R2} (h : ta σ H fun x H1 => tb σ H1 fun y H2 => r x y H2 fun z H3 => ∃ k, z = .bl k ∧ (if k = true then tc σ H3 fun w' H4 => r' y w' H4 Q else Q (.bl false) H3)) : tChain r r' ta tb tc σ H Q := h
end
section
variable {M : Addr → Prop} {H H1 : Hp} {c l : Addr} {o u : HO}
theorem Ok.no (k : Ok M H c) (d : Dx No H H1) : Ok M H1 c := by
  obtain ⟨p, i, rest, left, n, a, b, cells, h1, _⟩ := k.st.ex
  exact k.keep (d.mono fun _ z => z.elim) (by rw [h1]; exact d.st _ _ id h1)
/-- a new object at l is written again -/
theorem Dx.own (d : Dx M H H1) (h : H l = none) : Dx M H (upd H1 l u) := ⟨fun a o n q => by
  rw [upd_ne (ne_of_none q h)]
  exact d.st a o n q, fun a q => by
  by_cases e : a = l
  · rw [e]
    exact h
  · rw [upd_ne e] at q
    exact d.dm a q⟩
theorem No.to (d : Dx No H H1) : Dx M H H1 := d.mono fun _ z => z.elim
end
/-- a draw that makes a new list -/
def DrawnL (M : Addr → Prop) (c : Addr) (H : Hp) (R : List V → Prop) (Q : VK) : Prop := ∀ l xs H', H l = none → H' l = some (.lst xs) → R xs → Dx (Only1 c) H H' → Ok (Add M l) H' c → Q (.ref l) H'
/-- a new list, nothing else -/
def NewL (H : Hp) (R : List V → Prop) (Q : VK) : Prop := ∀ l xs H', H l = none → H' l = some (.lst xs) → R xs → Dx No H H' → Q (.ref l) H'
theorem int_mem {ns : List Int} {v : V} (h : v ∈ ns.map V.int) : ∃ i, v = .int i ∧ i ∈ ns := by
  obtain ⟨i, hi, e⟩ := List.mem_map.mp h
  exact ⟨i, e.symm, hi⟩
/-! ### lights and numbers -/
abbrev InR (i : Int) : Prop := -1000000000000 ≤ i ∧ i ≤ 1000000000000
def isNumV : V → Bool
  | .int i => decide (-1000000000000 ≤ i) && decide (i ≤ 1000000000000)
  | _ => false
def IsNum (v : V) : Prop := ∃ i : Int, v = .int i ∧ InR i
def IsEnd (v : V) : Prop := v = .non ∨ IsNum v
def endOk (v : V) : Bool := decide (v = .non) || isNumV v
/-- a number that is none -/
def IsBad (v : V) : Prop := (∃ i : Int, v = .int i ∧ (i < -1000000000000 ∨ 1000000000000 < i) ∧ -1000000000000000000000000000000 ≤ i ∧ i ≤ 1000000000000000000000000000000) ∨ ∃ b, v = .bl b
/-- numbers, all within the limits -/
def numsB (xs : List V) : Bool := xs.all isNumV
end Q
/-! the promises of the drawing functions -/
namespace Q
open PySem PySem.Spec PyProof.Rows L2
/-- a new store over the script -/
def pStore (K : PySem.W.Frag) : P1 := fun v0 H Q _ => ∃ (a : Addr) (ns : List Int), v0 = .ref a ∧ SqL K H a (ns.map V.int) ∧
  ∀ (c : Addr) (H' : Hp), Dx (fun _ => False) H H' → H c = none → Ok (Only1 c) H' c → Q (.ref c) H'
/-- the two sums turn, the count grows -/
def pStir : P2 := fun v0 v1 H Q _ => ∃ (c p : Addr) (i rest left n a b cell : Int), v0 = .ref c ∧ v1 = .int cell ∧ H c = some (.lst (stL p i rest left n a b)) ∧ (0 ≤ a ∧ a < 2147483647) ∧ (0 ≤ b ∧ b < 2147483399) ∧
  ∀ (n' a' b' : Int) (H' : Hp), (0 ≤ a' ∧ a' < 2147483647) → (0 ≤ b' ∧ b' < 2147483399) → H' = upd H c (.lst (stL p i rest left n' a' b')) → Q .non H'
/-- a number below many (below 1 if many is less) -/
def pTake : P2 := fun v0 v1 H Q _ => ∃ (c : Addr) (M : Addr → Prop) (n : Int), v0 = .ref c ∧ v1 = .int n ∧ -1000000000000000000 ≤ n ∧ n ≤ 1000000000000000000 ∧ Ok M H c ∧
  ∀ (r : Int) (H' : Hp), 0 ≤ r → r < (if n > 1 then n else 1) → Dx (Only1 c) H H' → Ok M H' c → Q (.int r) H'
/-- the store behind a write -/
theorem Ok.set {M : Addr → Prop} {H H' : Hp} {c p : Addr} {i rest left n a b : Int} {cells : List Int} (k : Ok M H c) (hc : H' c = some (.lst (stL p i rest left n a b))) (hp : H p = some (.lst (cells.map V.int))) (hm : ¬ M p) (d : Dx (Only1 c) H H')
    (h1 : 0 ≤ i) (h2 : 0 ≤ a ∧ a < 2147483647) (h3 : 0 ≤ b ∧ b < 2147483399) : Ok M H' c :=
  ⟨k.inM, k.alive (k.sub d), ⟨p, i, rest, left, n, a, b, cells, hc, (k.sub d).st _ _ hm hp, hm, h1, h2, h3⟩⟩
theorem div_ok {i j : Int} (h0 : 0 < j) (h : j ≤ 1000000000000000000) : CDivW i j := wide_div h0 (b := 64) (by omega) (by decide) (by decide)
/-- take's promise in short -/
theorem take_go {c : Addr} {M : Addr → Prop} {H : Hp} {n : Int} {Q : VK} {E : XK} (ok : Ok M H c) (h0 : 0 < n) (h1 : n ≤ 1000000000000000000) (k : ∀ (r : Int) (H' : Hp), 0 ≤ r → r < n → Dx (Only1 c) H H' → Ok M H' c → Q (.int r) H') : pTake (.ref c) (.int n) H Q E :=
  ⟨c, M, n, rfl, rfl, by omega, h1, ok, fun r H' g0 g1 d ok' => k r H' g0 (by split at g1 <;> omega) d ok'⟩
theorem pick_ix {z : Str} {r : Int} (h0 : 0 ≤ r) (h1 : r < z.length) : ∃ ch, atI z.cps.toList r = some ch := by
  have e : z.cps.toList.length = z.length := by simp [Str.length]
  have hr : r.toNat < z.cps.toList.length := by omega
  exact ⟨_, atI_of h0 (List.getElem?_eq_getElem hr)⟩
/-- an item of a text, or of a list -/
def pPick (K : PySem.W.Frag) : P2 := fun v0 v1 H Q _ => ∃ (c : Addr) (M : Addr → Prop), v0 = .ref c ∧ Ok M H c ∧
  ((∃ z : Str, v1 = .str z ∧ 0 < z.length ∧ z.length ≤ 100000 ∧ Drawn M c H (fun v => ∃ ch, ch ∈ z.cps.toList ∧ v = .str ⟨#[ch]⟩) Q) ∨
   (∃ (p : Addr) (xs : List V), v1 = .ref p ∧ SqL K H p xs ∧ ¬ M p ∧ 0 < xs.length ∧ xs.length ≤ 100000 ∧ Drawn M c H (fun v => v ∈ xs) Q))
/-- a text of at most n signs -/
def pText : P2 := fun v0 v1 H Q _ => ∃ (c : Addr) (M : Addr → Prop) (n : Int), v0 = .ref c ∧ v1 = .int n ∧ 0 ≤ n ∧ n ≤ 1000 ∧ Ok M H c ∧ Drawn M c H (IsText 0 n.toNat) Q
def pCheckName (K : PySem.W.Frag) : P1 := fun v0 H Q E => ∃ x : Str, v0 = .str x ∧ x.length ≤ 100000 ∧ (isNm x = true → Q (.str x) H) ∧ (isNm x = false → ∀ d, H d = none → E (.ref (gA K "BadName")) (some d) (upd H d (.xd [("name", .str x)])))
/-- a new list of the same items in some order -/
def pShuf (K : PySem.W.Frag) : P2 := fun v0 v1 H Q _ => ∃ (c : Addr) (M : Addr → Prop) (p : Addr) (xs : List V), v0 = .ref c ∧ v1 = .ref p ∧ Ok M H c ∧ SqL K H p xs ∧ xs.length ≤ 100000 ∧ DrawnL M c H (fun ys => ys.Perm xs) Q
/-- a new list of the ints' kinds -/
def pUnlike (K : PySem.W.Frag) : P1 := fun v0 H Q _ => ∃ (p : Addr) (ns : List Int), v0 = .ref p ∧ SqL K H p (ns.map V.int) ∧ ns.length ≤ 100000 ∧ NewL H (fun ys => ∃ ms : List Int, ys = ms.map V.int ∧ (∀ m ∈ ms, m ∈ ns) ∧ ms.length ≤ ns.length) Q
/-! numbers -/
/-- pulled into the limits -/
def pClamp : P1 := fun v0 H Q _ => ∃ i : Int, v0 = .int i ∧ ∀ r, InR r → (InR i → r = i) → Q (.int r) H
def pNear (K : PySem.W.Frag) : P2 := fun v0 v1 H Q _ => ∃ (c : Addr) (M : Addr → Prop) (p : Addr) (ns : List Int), v0 = .ref c ∧ v1 = .ref p ∧ Ok M H c ∧ SqL K H p (ns.map V.int) ∧ ¬ M p ∧ 0 < ns.length ∧ ns.length ≤ 100000 ∧ (∀ n ∈ ns, InR n) ∧ Drawn M c H IsNum Q
def pPool : P1 := fun v0 H Q _ => ∃ (c : Addr) (M : Addr → Prop), v0 = .ref c ∧ Ok M H c ∧ DrawnL M c H (fun ys => ∃ ns : List Int, ys = ns.map V.int ∧ (∀ n ∈ ns, InR n) ∧ 2 ≤ ns.length ∧ ns.length ≤ 6) Q
def IsBad0 (k : Bool) (v : V) : Prop := IsBad v ∧ (k = true → ∃ i, v = .int i)
def pBadNumber : P2 := fun v0 v1 H Q _ => ∃ (c : Addr) (M : Addr → Prop) (k : Bool), v0 = .ref c ∧ v1 = .bl k ∧ Ok M H c ∧ Drawn M c H (IsBad0 k) Q
def pTried (K : PySem.W.Frag) : P1 := fun v0 H Q _ => ∃ (p : Addr) (ns : List Int), v0 = .ref p ∧ SqL K H p (ns.map V.int) ∧ ns.length ≤ 10000 ∧ (∀ n ∈ ns, InR n) ∧ NewL H (fun ys => ∃ ms : List Int, ys = ms.map V.int ∧ (∀ m ∈ ms, InR m) ∧ ms.length ≤ 2 + 3 * ns.length) Q
def pIsNum : P1 := fun v0 H Q _ => flatE v0 = true ∧ Q (.bl (isNumV v0)) H
/-- an error of the class x with one attribute is let out -/
def Bad1 (K : PySem.W.Frag) (x f : Str) (v : V) (H : Hp) (E : XK) : Prop := ∀ d, H d = none → E (.ref (gA K x)) (some d) (upd H d (.xd [(f, v)]))
def pCheckNum (K : PySem.W.Frag) : P1 := fun v0 H Q E => flatE v0 = true ∧ (isNumV v0 = true → Q v0 H) ∧ (isNumV v0 = false → Bad1 K "BadNumber" "number" v0 H E)
def pCheckEnd (K : PySem.W.Frag) : P1 := fun v0 H Q E => flatE v0 = true ∧ (endOk v0 = true → Q .non H) ∧ (endOk v0 = false → Bad1 K "BadNumber" "number" v0 H E)
def lesserV (a b : V) : V := match a, b with
  | .non, b => b
  | a, .non => a
  | .int i, .int j => if i < j then .int i else .int j
  | a, _ => a
def greaterV (a b : V) : V := match a, b with
  | .non, b => b
  | a, .non => a
  | .int i, .int j => if j < i then .int i else .int j
  | a, _ => a
def IsEndI (v : V) : Prop := v = .non ∨ ∃ i : Int, v = .int i
def pLesser : P2 := fun v0 v1 H Q _ => IsEndI v0 ∧ IsEndI v1 ∧ Q (lesserV v0 v1) H
def pGreater : P2 := fun v0 v1 H Q _ => IsEndI v0 ∧ IsEndI v1 ∧ Q (greaterV v0 v1) H
/-- light under the ceiling -/
def leV (a b : V) : Bool := match a, b with
  | .int i, .int j => decide (i ≤ j)
  | _, _ => true
def told (r : V ⊕ V) (A B : V → Prop) : Prop := match r with
  | .inl v => A v
  | .inr x => B x
def askTake (a b : V) : V ⊕ V := if isNumV a = true then if endOk b = true then .inl (.bl (leV a b)) else .inr b else .inr a
def askLower (a b : V) : V ⊕ V := if endOk a = true then if endOk b = true then .inl (lesserV a b) else .inr b else .inr a
def askNum (a : V) : V ⊕ V := if isNumV a = true then .inl a else .inr a
def pMayTake (K : PySem.W.Frag) : P2 := fun v0 v1 H Q E => flatE v0 = true ∧ flatE v1 = true ∧ told (askTake v0 v1) (fun v => Q v H) (fun x => Bad1 K "BadNumber" "number" x H E)
def pLower (K : PySem.W.Frag) : P2 := fun v0 v1 H Q E => flatE v0 = true ∧ flatE v1 = true ∧ told (askLower v0 v1) (fun v => Q v H) (fun x => Bad1 K "BadNumber" "number" x H E)
end Q
/-! classes of the text: operators by own methods, facts as Bools -/
namespace Q
open PySem PySem.Spec PyProof.Rows L2
section
variable {X : Cx} {pins : List (Addr × Obj)} {σ : L2.St} {H : Hp} {s : Shared}
/-- the type of an operand: a built-in one, or a class of the text -/
def TyO (K : PySem.W.Frag) (H : Hp) (y : V) (tb : Value) : Prop := (∃ T, TyB K H y T ∧ tb = .type T) ∨ ∃ (b C : Addr) (dx : Addr) (fs : List (Str × V)), y = .ref b ∧ H b = some (.ins C dx fs) ∧ tb = .ref C
/-- x op y by the own method of x's class at C -/
def rOwnI (K : PySem.W.Frag) (C : Addr) (sp : Sp) (E : XK) : R2 := fun x y H Q => ∃ (a dx : Addr) (fs : List (Str × V)) (tb : Value), x = .ref a ∧ H a = some (.ins C dx fs) ∧ TyO K H y tb ∧ PySem.W.notFirst K C tb = true ∧ sp [x, y] H Q E
variable {CX : CXT} {n : Nat} {C f : Addr} {fd : FuncData} {ps : List Str} {sp : Sp} {E : XK}
/-- x op y, both of the class at C -/
def rBinI (C : Addr) (sp : Sp) (E : XK) : R2 := fun x y H Q => ∃ (a dx b dy : Addr) (fs gs : List (Str × V)), x = .ref a ∧ y = .ref b ∧ H a = some (.ins C dx fs) ∧ H b = some (.ins C dy gs) ∧ sp [x, y] H Q E
/-- x in y, y of the class at C -/
def rInI (C : Addr) (sp : Sp) (E : XK) : R2 := fun x y H Q => ∃ (a dx : Addr) (fs : List (Str × V)), y = .ref a ∧ H a = some (.ins C dx fs) ∧ sp [y, x] H (fun z H' => ∃ b, z = .bl b ∧ Q (.bl b) H') E
end
/-! ### facts -/
def clsB (K : PySem.W.Frag) (C : Addr) : Bool := PySem.W.plainGet K C Str.empty && (PySem.W.hasDictIn K C && (PySem.W.plainOver K C && fnd K C "__setattr__" (some (.builtin "object.__setattr__"))))
theorem clsB_ok {K : PySem.W.Frag} {C : Addr} (h : clsB K C = true) : Cls K C := by
  obtain ⟨h1, h⟩ := He.ba h
  obtain ⟨h2, h⟩ := He.ba h
  obtain ⟨h3, h4⟩ := He.ba h
  exact ⟨h1, h2, h3, of_decide_eq_true h4⟩
def mkB (K : PySem.W.Frag) (C : Addr) : Bool := PySem.W.makesIn K C && (fnd K C "__init__" (some (.ref (He.ma K C "__init__"))) && (PySem.W.isFn K (.ref (He.ma K C "__init__")) && PySem.W.keepIn K (.ref C)))
theorem mkB_ok {K : PySem.W.Frag} {C : Addr} (h : mkB K C = true) : Mk K C (He.ma K C "__init__") := by
  obtain ⟨h1, h⟩ := He.ba h
  obtain ⟨h2, h⟩ := He.ba h
  obtain ⟨h3, h4⟩ := He.ba h
  exact ⟨h1, of_decide_eq_true h2, h3, h4⟩
def methB (K : PySem.W.Frag) (C : Addr) (m : Str) : Bool := fnd K C m (some (.ref (He.ma K C m))) && (PySem.W.isFn K (.ref (He.ma K C m)) && PySem.W.keepIn K (.ref (He.ma K C m)))
theorem methB_ok {K : PySem.W.Frag} {C : Addr} {m : Str} (h : methB K C m = true) : Meth K C m (He.ma K C m) := by
  obtain ⟨h1, h⟩ := He.ba h
  obtain ⟨h2, h3⟩ := He.ba h
  exact ⟨of_decide_eq_true h1, h2, h3⟩
def noB (K : PySem.W.Frag) (C : Addr) (fs : List Str) : Bool := fs.all fun f => fnd K C f none
theorem noB_ok {K : PySem.W.Frag} {C : Addr} {fs : List Str} (h : noB K C fs = true) : ∀ f ∈ fs, NoAttr K C f := fun f hf => show PySem.W.findIn K (.ref C) f = some none from of_decide_eq_true (List.all_eq_true.mp h f hf)
def cmetB (K : PySem.W.Frag) (C : Addr) (m : Str) : Bool := He5.wrapB K C "classmethod" "classmethod.__get__" m && PySem.W.fnIn K (He5.wf K C "classmethod" m)
def creadB (K : PySem.W.Frag) (C : Addr) : Bool := PySem.W.readsIn K C (.type "type") && decide (PySem.W.specialIn K (.ref C) "__getattribute__" = some (some (.builtin "type.__getattribute__")))
/-- a property's getter -/
def propG (K : PySem.W.Frag) (C : Addr) (f : Str) : Addr := match PySem.W.recIn K (He.ma K C f) "property" with
  | some (.ref g :: _) => g
  | _ => 0
def propB (K : PySem.W.Frag) (C : Addr) (f : Str) : Bool := fnd K C f (some (.ref (He.ma K C f))) && (decide (PySem.W.specialIn K (.ref (He.ma K C f)) "__get__" = some (some (.builtin "property.__get__"))) && (decide (PySem.W.takesIn K (.ref (He.ma K C f)) = some true) && match PySem.W.recIn K (He.ma K C f) "property" with
  | some (.ref _ :: _) => true
  | _ => false))
theorem propB_ok {K : PySem.W.Frag} {C : Addr} {f : Str} (h : propB K C f = true) : PropOf K C f (He.ma K C f) (propG K C f) := by
  obtain ⟨h1, h⟩ := He.ba h
  obtain ⟨h2, h⟩ := He.ba h
  obtain ⟨h3, h4⟩ := He.ba h
  refine ⟨of_decide_eq_true h1, of_decide_eq_true h2, of_decide_eq_true h3, ?_⟩
  unfold propG
  split at h4
  · rename_i g r e
    exact ⟨r, by rw [e]⟩
  · exact nomatch h4
end Q
/-! a try with several clauses that name the exception; calls within a try -/
namespace Q
open PySem PySem.Spec PyProof.Rows L2
/-- behind a clause the name is gone -/
abbrev gone (i : Nat) (D : Ends) : Ends := ⟨fun τ G => D.nx (τ.set i none) G, D.rt, fun τ G => D.bk (τ.set i none) G, fun τ G => D.ct (τ.set i none) G⟩
abbrev Clause := Value × Nat × (Addr → Value → Option Addr → TS)
def wNamed (K : PySem.W.Frag) (Wo : WX) (D : Ends) : List Clause → WX
  | [] => Wo
  | (c, i, ts) :: more => fun cls d τ G => ∃ b, PySem.W.exmOne K cls c = some b ∧ (b = true → ∀ x, G x = none → ts x cls d (gone i D) (τ.set i (some (.ref x))) G) ∧ (b = false → wNamed K Wo D more cls d τ G)
inductive Named (X : Cx) : List ExceptHandler → List Clause → Prop
  | nil : Named X [] []
  | cons {x y : Str} {c : Value} {i : Nat} {ts : Addr → Value → Option Addr → TS} {st : Stmt} {sts : List Stmt} {q1 q2 : Pos} {hs : List ExceptHandler} {l : List Clause} (hi : X.N[i]? = some y) (hy : X.env.kindOf y = some .local) (hc : Names X x c)
      (suite : ∀ (e : Addr) (o : Obj) (cls : Value) (d : Option Addr) (pn : List (Addr × Obj)), Zc cls d o → (∃ vs, o.data = .fields vs) → PSs (X.suite e ((e, o) :: pn)) (st :: sts) (ts e cls d)) (rest : Named X hs l) :
      Named X (.ExceptHandler (some (.Name x q1)) (some y) (st :: sts) q2 :: hs) ((c, i, ts) :: l)
section
variable {X : Cx} {body : List Stmt} {hd : ExceptHandler} {hs : List ExceptHandler} {l : List Clause} {pos : Pos} {tb : WX → TS} {Wo : WX}
theorem ps_try_named (hst : X.stack = X.env :: X.outer) (hfr : X.env.frame = some X.env.locals) (nd : X.N.Nodup) (out : Takes X Wo)
    (inner : ∀ (W : WX) (pn : List (Addr × Obj)) (xe : Value → Shared → Prop), Takes (X.tr pn xe) W → PassesOwn (model X.prog X.w) X.A X.env xe → PSs (X.tr pn xe) body (tb W)) (cl : Named X (hd :: hs) l) :
    PS X (.Try body (hd :: hs) [] [] pos) (fun D σ H => tb (wNamed X.K Wo D l) D σ H) := by
  constructor
  intro pins s σ H D inv rd
  have okX := inv.ok
  have frs' : X.A.frames = some (X.env :: X.outer) := by
    rw [okX.frames, hst]
  refine wpAny_Try_except (wpAny_mono ((inner (wNamed X.K Wo D l) (X.pn ++ pins) (fun err t => wpAny (model X.prog X.w) X.A (noteFrame err X.env) (fun _ t2 => wpAny (model X.prog X.w) X.A (setFlight err none)
    (fun _ t3 => wpAny (model X.prog X.w) X.A (handleBy err X.env (hd :: hs)) (SP X pins D) X.xe t3) X.xe t2) X.xe t) (fun err t caught => ?_) PassesOwn.looking).run [] s σ H D (inv.toTry _) rd) (fun fl t done => ?_) fun _ _ z => z)
  · obtain ⟨e, B, sI, pins', τ, G, cls, d, rfl, inT, nb, up, sky, ne, os, ag, wish⟩ := caught
    have I0 : Inv X pins τ G sI := inT.ofTry okX
    rw [hst] at sky
    show wpAny _ X.A (noteFrame (.ref e) X.env) _ _ _
    refine Sky.land Zc.steady frs' hfr sky fun g flies grows => ?_
    have I1 : Inv X pins τ G { t with heap := g } := I0.landed nb flies.1 (up.trans grows) os ag
    obtain ⟨o1, v1, at1, z1, f1⟩ := flies.there
    have free : e ∉ frs (X.env :: X.outer) := fun mem => by
      obtain ⟨_, o2, at2, nf⟩ := flies.2.2.1.mem mem
      rw [at1] at at2
      cases at2
      exact nf _ f1
    have notL : e ≠ X.env.locals := fun z => free (List.mem_filterMap.mpr ⟨X.env, List.mem_cons_self, by rw [hfr, z]⟩)
    have notF : e ∉ X.fs := fun mem => by
      obtain ⟨en, me, q⟩ := List.mem_filterMap.mp mem
      exact free (List.mem_filterMap.mpr ⟨en, List.mem_cons_of_mem _ me, q⟩)
    have S1 := I1.suite at1 f1 ne notL notF
    have type : PySem.W.Looks (model X.prog X.w) g (typeOf (.ref e)) cls := fun A Q E u k q => wpAny_typeOf_ref (k _ _ at1) (by
      rw [z1.1]
      exact q)
    have each : ∀ {hs' : List ExceptHandler} {l' : List Clause}, Named X hs' l' → wNamed X.K Wo D l' cls d τ G → wpAny (model X.prog X.w) X.A (handleBy (.ref e) X.env hs') (SP X pins D) X.xe { t with heap := g } := by
      intro hs' l' nm
      induction nm with
      | nil =>
        intro wo
        refine wpAny_handleBy_nil ?_
        obtain ⟨_, _, _, o3, v3, T3, oT3, ts3, at3, _, f3, fst3, _⟩ := id flies
        unfold PySem.passOn
        refine wpAny_bind (wpAny_field at3 f3 fst3 ?_)
        rw [if_neg (by simp : ¬ ((Value.ref T3 == Value.none) = true))]
        have leave : wpAny (model X.prog X.w) X.A (setFlight (.ref e) X.env.frame) (fun _ u => wpAny (model X.prog X.w) X.A (throw (.ref e) : Sem Flow) (SP X pins D) X.xe u) X.xe { t with heap := g } := by
          rw [hfr]
          refine HandSPX.setFlight_upZ flies fun g2 fly2 grow2 => wpAny_throw (out _ _ ?_)
          exact ⟨e, B, sI, pins, τ, G, cls, d, rfl, I0, nb, (up.trans grows).trans grow2, .inr (.inr (by rw [hst]; exact fly2)), ne, os, ag, wo⟩
        first
          | exact wpAny_bind (wpAny_pure (wpAny_bind leave))
          | exact wpAny_bind leave
      | @cons x y c i ts st sts q1 q2 hs2 l2 hi hy hc suite rest ih =>
        rintro ⟨b, eb, yes, no⟩
        refine wpAny_handleBy_cons (codeAny_handlers_test ?_) (by intro q; cases q)
        have goes := PySem.W.exm_one (M := model X.prog X.w) I1.kIn type eb
        have asked : ∀ {Q : Value → Shared → Prop} {E : Value → Shared → Prop}, Q c { t with heap := g } → wpAny (model X.prog X.w) (X.A.mark (some (.ref e))) (eval (.Name x q1) X.env) Q E { t with heap := g } := fun {Q E} q => by
          obtain ⟨gl, db, mg1 | ⟨mg1, bv, nn⟩⟩ := hc
          · exact ld_glob (X := X.suite e ((e, o1) :: (X.pn ++ pins))) S1 gl mg1 q db
          · exact ld_blt (X := X.suite e ((e, o1) :: (X.pn ++ pins))) S1 gl mg1 bv q nn db
        refine asked (goes.here ?_)
        cases b with
        | false => exact ih (no rfl)
        | true =>
          refine codeAny_handlers_suite_as (HandSPX.lands_againZ flies fun g4 flies4 grows4 => ?_)
          have I4 : Inv X pins τ G { t with heap := g4 } := I0.landed nb flies4.1 ((up.trans grows).trans grows4) os ag
          obtain ⟨o4, v4, at4, z4, f4⟩ := flies4.there
          have S4 := I4.suite at4 f4 ne notL notF
          refine store_ok (X := X.suite e ((e, o4) :: (X.pn ++ pins))) (v := .ref e) S4 nd hi (.inl hy) rfl (fun t5 S5 => ?_) (.inr hy)
          refine wpAny_mono ((suite e o4 cls d (X.pn ++ pins) z4 ⟨_, f4⟩).run [] t5 _ G _ S5 (yes rfl e ne)) (fun fl t6 over => ?_) fun _ _ z => z.elim
          have close : ∀ {τ6 : L2.St} {G6 : Hp} {R : Shared → Prop}, Inv (X.suite e ((e, o4) :: (X.pn ++ pins))) [] τ6 G6 t6 → (∀ t7, Inv X pins (τ6.set i none) G6 t7 → R t7) →
              wpAny (model X.prog X.w) X.A (do bindName X.env y .none; unbindBehindTheSuite X.env y q2) (fun _ t7 => R t7) X.xe t6 := fun {_ _ _} S6 r => gone_ok (S6.unsuite okX) nd hi hy r
          match fl, over with
          | .next, ⟨τ6, G6, S6, r6⟩ => exact close S6 fun t7 I7 => ⟨_, _, I7, r6⟩
          | .brk, ⟨τ6, G6, S6, r6⟩ => exact close S6 fun t7 I7 => ⟨_, _, I7, r6⟩
          | .cont, ⟨τ6, G6, S6, r6⟩ => exact close S6 fun t7 I7 => ⟨_, _, I7, r6⟩
          | .ret _, ⟨v6, τ6, G6, S6, rv6, r6⟩ => exact close S6 fun t7 I7 => ⟨_, _, _, I7, rv6, r6⟩
    exact each cl wish
  · match fl, done with
    | .next, ⟨τ, G, J, r⟩ => exact wpAny_execs_nil ⟨τ, G, J.ofTry okX, r⟩
    | .brk, ⟨τ, G, J, r⟩ => exact ⟨τ, G, J.ofTry okX, r⟩
    | .cont, ⟨τ, G, J, r⟩ => exact ⟨τ, G, J.ofTry okX, r⟩
    | .ret _, ⟨v, τ, G, J, rv, r⟩ => exact ⟨v, τ, G, J.ofTry okX, rv, r⟩
end
/-! ### calls whose way out looks at the slots -/
section
variable {X : Cx} {CX : CXT} {k : Nat} {f g p C : Addr} {fd : FuncData} {ps ks : List Str} {sp : Sp} {E : L2.St → XK} {x m : Str} {q1 pos apos : Pos} {o e : Expr} {es : List Expr} {t : TA} {ta : TE} {ds : List Value} {dvs : List V} {pins : List (Addr × Obj)} {σ : L2.St} {H : Hp} {s : Shared} {Qv : VK}
/-- C(e, ..) -/
def tMakeS (C : Addr) (sp : Sp) (dvs : List V) (E : L2.St → XK) (t : TA) : TE := fun σ H Q => t σ H fun vs H1 => ∀ a dx, H1 a = none → H1 dx = none → dx ≠ a →
  sp (.ref a :: (vs ++ dvs)) (upd (upd H1 dx (.own a)) a (.ins C dx [])) (fun v H2 => v = .non ∧ Q (.ref a) H2) (E σ)
theorem run_mkS {us : List Value} {vs : List V} (M : Mk X.K C f) (F : FnOk X.prog X.w X.K X.mg X.base CX k f fd ps sp) (hr : Room (k + 1) X.A) (hb : Binds X.K fd ps ds) (hd : Vals dvs ds) (hx : PassesAt CX X σ (E σ)) (I : Inv X pins σ H s) (r : Vals vs us)
    (h : ∀ a dx, H a = none → H dx = none → dx ≠ a → sp (.ref a :: (vs ++ dvs)) (upd (upd H dx (.own a)) a (.ins C dx [])) (fun v H2 => v = .non ∧ Qv (.ref a) H2) (E σ)) : wpAny (model X.prog X.w) X.A (call (.ref C) us) (EP X pins σ Qv) X.xe s := by
  have h1 := h (s.heap.objs.size + 1) s.heap.objs.size (I.hok.fresh (Nat.le_succ _)) (I.hok.fresh (Nat.le_refl _)) (Nat.ne_of_lt (Nat.lt_succ_self _))
  have I1 := Inv.made (C := C) I
  have rv : Vals (V.ref (s.heap.objs.size + 1) :: (vs ++ dvs)) (Value.ref (s.heap.objs.size + 1) :: (us ++ ds)) := .cons rfl (r.append hd)
  have len : (Value.ref (s.heap.objs.size + 1) :: us ++ ds).length = ps.length := (rv.length.symm.trans (F.len _ _ _ _ h1))
  have body := F.run _ X.stack _ _ ⟨Value.ref (s.heap.objs.size + 1) :: us, []⟩ (Value.ref (s.heap.objs.size + 1) :: (us ++ ds)) _ _ (E σ) (hr.make C us []) (I1.env0.make C us []) (hb _ (Value.ref (s.heap.objs.size + 1) :: us) I1.kIn len) rv h1
  refine wpAny_call (make_map (f := f) I.kIn M.makes M.init (beq_iff_eq.mp M.fn) (codeAny_mono body fun res s' y => ?_))
  match res, y with
  | .error u, y => exact hx pins _ _ u s' I1 y
  | .ok (.ret u), y =>
    obtain ⟨v, H', I2, ru, ev, q2⟩ := I1.after y
    subst ev
    exact ⟨ru, V.ref (s.heap.objs.size + 1), H', I2, rfl, q2⟩
theorem pe_makeS (M : Mk X.K C f) (F : FnOk X.prog X.w X.K X.mg X.base CX k f fd ps sp) (hr : Room (k + 1) X.A) (hg : Gl X x) (hm : X.mg x = some (.ref C)) (hb : Binds X.K fd ps ds) (hd : Vals dvs ds) (hx : ∀ σ, PassesAt CX X σ (E σ)) (ha : PA X (e :: es) t)
    (hdb : (x == ("__debug__" : Str)) = false := by decide) (he : starEach (e :: es) X.env = (false, eval e X.env) :: starEach es X.env := by rfl) (hpl : (backTo pos (starEach es X.env)).any (·.1) = false := by rfl) : PE X (.Call (.Name x q1) (e :: es) [] pos) (tMakeS C sp dvs E t) :=
  ⟨fun pins s σ H Q I h => wpAny_Call_Name_kw (ld_glob I hg hm (PySem.W.callWith_K (h₀ := X.base) I.ok.mod.kin M.kp (thn (ha.run pos pins s σ H _ I h) fun us s1 ⟨vs, H1, I1, r, w⟩ => ⟨I1.kIn, run_mkS M F hr hb hd (hx σ) I1 r w⟩) he hpl) hdb)⟩
/-- a local that holds the class at C, called -/
def tMakeL (i : Nat) (C : Addr) (sp : Sp) (dvs : List V) (E : L2.St → XK) (t : TA) : TE := fun σ H Q => σ[i]? = some (some (.ref C)) ∧ tMakeS C sp dvs E t σ H Q
open ClX in
/-- C.m(e, ..), m a classmethod -/
def tCMethS (C : Addr) (sp : Sp) (E : L2.St → XK) (ta : TE) (t : TA) : TE := fun σ H Q => ta σ H fun x H1 => x = .ref C ∧ t σ H1 fun vs H2 => sp (.ref C :: vs) H2 Q (E σ)
open ClX in
end
end Q
/-! objects of the text's classes: steps -/
namespace Q
open PySem PySem.Spec PyProof.Rows L2
/-- a method with its promise -/
structure MDef (P : Program) (w : World) (K : PySem.W.Frag) (mg : Str → Option Value) (base : Heap) (CX : CXT) (k : Nat) (f : Addr) (x q : Str) (st : Stmt) (dvs : List V) (ps : List Str) (sp : Sp) : Prop where
  ex : ∃ fd : FuncData, FnOk P w K mg base CX k f fd ps sp ∧ FunD K x q (defArgs st) (defBody st) (defScope st) dvs [] f fd
/-- what isinstance asks of an own class -/
structure TyC (K : PySem.W.Frag) (C : Addr) : Prop where
  at_ : PySem.W.findIn K (.ref C) "__class__" = some (some (.builtin "object.__class__"))
  get : PySem.W.specialIn K (.builtin "object.__class__") "__get__" = some (some (.builtin "getset_descriptor.__get__"))
  tak : PySem.W.takesIn K (.builtin "object.__class__") = some true
  mro : PySem.W.mroIn K C (.type "object") = some true
def tyCB (K : PySem.W.Frag) (C : Addr) : Bool := fnd K C "__class__" (some (.builtin "object.__class__")) && (decide (PySem.W.specialIn K (.builtin "object.__class__") "__get__" = some (some (.builtin "getset_descriptor.__get__"))) &&
  (decide (PySem.W.takesIn K (.builtin "object.__class__") = some true) && decide (PySem.W.mroIn K C (.type "object") = some true)))
theorem tyCB_ok {K : PySem.W.Frag} {C : Addr} (h : tyCB K C = true) : TyC K C := by
  obtain ⟨h1, h⟩ := He.ba h
  obtain ⟨h2, h⟩ := He.ba h
  obtain ⟨h3, h4⟩ := He.ba h
  exact ⟨of_decide_eq_true h1, of_decide_eq_true h2, of_decide_eq_true h3, of_decide_eq_true h4⟩
section
variable {K : PySem.W.Frag} {σ : L2.St} {H : Hp} {Q : VK} {D : Ends} {te ta tv : TE} {t tk : TA} {E : XK} {a b C dx dy p : Addr} {fs gs : List (Str × V)} {f : Str} {v x y : V} {sp : Sp} {vs dvs : List V}
def fldQ (K : PySem.W.Frag) (f : Str) (Q : VK) : VK := fun x H1 => ∃ a C dx fs v, x = .ref a ∧ H1 a = some (.ins C dx fs) ∧ Cls K C ∧ NoAttr K C f ∧ fs.lookup f = some v ∧ Q v H1
theorem go_fld (h : ta σ H (fldQ K f Q)) : tFld K ta f σ H Q := h
def sfQ (K : PySem.W.Frag) (f : Str) (y : V) (R : L2.St → Hp → Prop) (σ : L2.St) : VK := fun x H2 => ∃ a C dx fs, x = .ref a ∧ H2 a = some (.ins C dx fs) ∧ Cls K C ∧ NoAttr K C f ∧ fs.length < 1000 ∧ R σ (upd H2 a (.ins C dx (putF f y fs)))
theorem go_sfld (h : tv σ H fun y H1 => ta σ H1 (sfQ K f y D.nx σ)) : sFld K ta tv f D σ H := h
def mkQ (C : Addr) (sp : Sp) (dvs : List V) (E : XK) (Q : VK) : List V → Hp → Prop := fun vs H1 => ∀ x dx, H1 x = none → H1 dx = none → dx ≠ x → sp (.ref x :: (vs ++ dvs)) (upd (upd H1 dx (.own x)) x (.ins C dx [])) (fun v H2 => v = .non ∧ Q (.ref x) H2) E
theorem go_make (h : t σ H (mkQ C sp dvs E Q)) : tMake C sp dvs E t σ H Q := h
theorem go_makeS {E : L2.St → XK} (h : t σ H (mkQ C sp dvs (E σ) Q)) : tMakeS C sp dvs E t σ H Q := h
def mkKQ (C : Addr) (n m : Nat) (sp : Sp) (gV : List V → List V → List V) (E : XK) (Q : VK) (vs : List V) : List V → Hp → Prop := fun zs H2 => vs.length = n ∧ zs.length = m ∧ ∀ x dx, H2 x = none → H2 dx = none → dx ≠ x →
  sp (gV (.ref x :: vs) zs) (upd (upd H2 dx (.own x)) x (.ins C dx [])) (fun v H3 => v = .non ∧ Q (.ref x) H3) E
theorem go_makeN {n m : Nat} {gV : List V → List V → List V} (h : t σ H fun vs H1 => tk σ H1 (mkKQ C n m sp gV E Q vs)) : tMakeN C n m sp gV E t tk σ H Q := h
theorem go_makeK {n m : Nat} {gV : List V → List V → List V} (h : t σ H fun vs H1 => tk σ H1 (mkKQ C n m sp gV E Q vs)) : tMakeK C n m sp gV E t tk σ H Q := h
def cmQ (C : Addr) (sp : Sp) (E : XK) (Q : VK) : List V → Hp → Prop := fun vs H2 => sp (.ref C :: vs) H2 Q E
theorem go_cmeth {E : L2.St → XK} {o : TE} (h : o σ H fun x H1 => x = .ref C ∧ t σ H1 (cmQ C sp (E σ) Q)) : tCMethS C sp E o t σ H Q := h
end
end Q
/-! spans: two ends -/
namespace Q
open PySem PySem.Spec PyProof.Rows L2
def spanO (K : PySem.W.Frag) (dx : Addr) (lo hi : V) : HO := .ins (gA K "Span") dx [("low", lo), ("high", hi)]
structure SpanAt (K : PySem.W.Frag) (H : Hp) (p : Addr) (lo hi : V) : Prop where
  ex : ∃ dx, H p = some (spanO K dx lo hi)
theorem SpanAt.keep {K : PySem.W.Frag} {M : Addr → Prop} {H H' : Hp} {p : Addr} {lo hi : V} (s : SpanAt K H p lo hi) (d : Dx M H H') (n : ¬ M p) : SpanAt K H' p lo hi := by
  obtain ⟨dx, e⟩ := s.ex
  exact ⟨dx, d.st _ _ n e⟩
def crossed (lo hi : V) : Bool := match lo, hi with
  | .int i, .int j => decide (j < i)
  | _, _ => false
def spanR (lo hi : V) (ok : Prop) (bad : V → Prop) (rev : Prop) : Prop := if endOk lo = true then if endOk hi = true then if crossed lo hi = true then rev else ok else bad hi else bad lo
def Bad2 (K : PySem.W.Frag) (x f g : Str) (v w : V) (H : Hp) (E : XK) : Prop := ∀ d, H d = none → E (.ref (gA K x)) (some d) (upd H d (.xd [(g, w), (f, v)]))
def pSpanInit (K : PySem.W.Frag) : P3 := fun v0 v1 v2 H Q E => ∃ a dx : Addr, v0 = .ref a ∧ H a = some (.ins (gA K "Span") dx []) ∧ flatE v1 = true ∧ flatE v2 = true ∧
  spanR v1 v2 (Q .non (upd H a (spanO K dx v1 v2))) (fun x => Bad1 K "BadNumber" "number" x H E) (Bad2 K "BadSpan" "low" "high" v1 v2 H E)
/-- the errors of a span: their dicts stand -/
def Err1 (K : PySem.W.Frag) (x f : Str) (v : V) (H : Hp) (E : XK) : Prop := ∀ d H', H d = none → Dx No H H' → H' d = some (.xd [(f, v)]) → E (.ref (gA K x)) (some d) H'
def Err2 (K : PySem.W.Frag) (x f g : Str) (v w : V) (H : Hp) (E : XK) : Prop := ∀ d H', H d = none → Dx No H H' → H' d = some (.xd [(g, w), (f, v)]) → E (.ref (gA K x)) (some d) H'
def loOk (lo : V) (i : Int) : Bool := match lo with
  | .int j => !decide (i < j)
  | _ => true
def inSpan (lo hi : V) (i : Int) : Bool := loOk lo i && leV (.int i) hi
def pSpanHas (K : PySem.W.Frag) : P2 := fun v0 v1 H Q _ => ∃ (a : Addr) (lo hi : V) (i : Int), v0 = .ref a ∧ v1 = .int i ∧ SpanAt K H a lo hi ∧ IsEndI lo ∧ IsEndI hi ∧ Q (.bl (inSpan lo hi i)) H
def MeetTo (K : PySem.W.Frag) (lo hi : V) (H : Hp) (Q : VK) : Prop := if crossed lo hi = true then Q .non H else ∀ p H', H p = none → Dx No H H' → SpanAt K H' p lo hi → Q (.ref p) H'
def pSpanMeet (K : PySem.W.Frag) : P2 := fun v0 v1 H Q _ => ∃ (a b : Addr) (l1 h1 l2 h2 : V), v0 = .ref a ∧ v1 = .ref b ∧ SpanAt K H a l1 h1 ∧ SpanAt K H b l2 h2 ∧ (IsEnd l1 ∧ IsEnd h1 ∧ IsEnd l2 ∧ IsEnd h2) ∧ MeetTo K (greaterV l1 l2) (lesserV h1 h2) H Q
/-- no span: a value of a built-in type -/
def NoSpan (K : PySem.W.Frag) (H : Hp) (v : V) : Prop := ∃ T, Bt K H v T ∧ PySem.W.kitOne K (.type T) (.ref (gA K "Span")) = some false
def pSpanEq (K : PySem.W.Frag) : P2 := fun v0 v1 H Q _ => ∃ (a : Addr) (lo hi : V), v0 = .ref a ∧ SpanAt K H a lo hi ∧
  ((NoSpan K H v1 ∧ Q (.bl false) H) ∨ ∃ (b : Addr) (l2 h2 : V), v1 = .ref b ∧ SpanAt K H b l2 h2 ∧ (IsEndI lo ∧ IsEndI hi ∧ IsEndI l2 ∧ IsEndI h2) ∧ Q (.bl (decide (lo = l2) && decide (hi = h2))) H)
def pSpanPoint (K : PySem.W.Frag) : P2 := fun v0 v1 H Q E => v0 = .ref (gA K "Span") ∧ flatE v1 = true ∧ (isNumV v1 = true → ∀ p H', H p = none → Dx No H H' → SpanAt K H' p v1 v1 → Q (.ref p) H') ∧ (isNumV v1 = false → Bad1 K "BadNumber" "number" v1 H E)
/-! ### the meet of several -/
def MeetLo (es : List (V × V)) (lo : V) : Prop := (lo = .non ∧ ∀ e ∈ es, e.1 = .non) ∨ ∃ m : Int, lo = .int m ∧ (∃ e ∈ es, e.1 = .int m) ∧ ∀ e ∈ es, ∀ i : Int, e.1 = .int i → i ≤ m
def MeetHi (es : List (V × V)) (hi : V) : Prop := (hi = .non ∧ ∀ e ∈ es, e.2 = .non) ∨ ∃ m : Int, hi = .int m ∧ (∃ e ∈ es, e.2 = .int m) ∧ ∀ e ∈ es, ∀ i : Int, e.2 = .int i → m ≤ i
def EndsOk (es : List (V × V)) : Prop := ∀ e ∈ es, IsEnd e.1 ∧ IsEnd e.2
def heldBy (n : Int) (es : List (V × V)) : Bool := es.all fun e => inSpan e.1 e.2 n
/-- a list of pairs of ends -/
structure PairsAt (K : PySem.W.Frag) (H : Hp) (l : Addr) (es : List (V × V)) : Prop where
  ex : ∃ ps : List Addr, SqL K H l (ps.map V.ref) ∧ ps.length = es.length ∧ ∀ (i : Nat) (p : Addr) (e : V × V), ps[i]? = some p → es[i]? = some e → SqT K H p [e.1, e.2]
theorem PairsAt.keep {K : PySem.W.Frag} {H H' : Hp} {l : Addr} {es : List (V × V)} (s : PairsAt K H l es) (d : Dx No H H') : PairsAt K H' l es := by
  obtain ⟨ps, h1, h2, h3⟩ := s.ex
  exact ⟨ps, d.sqL id h1, h2, fun i p e a b => d.sqT id (h3 i p e a b)⟩
/-! ### promises of the law's defs about spans -/
def pEnds (K : PySem.W.Frag) : P2 := fun v0 v1 H Q _ => ∃ (c : Addr) (M : Addr → Prop) (p : Addr) (ns : List Int), v0 = .ref c ∧ v1 = .ref p ∧ Ok M H c ∧ SqL K H p (ns.map V.int) ∧ ¬ M p ∧ 0 < ns.length ∧ ns.length ≤ 100000 ∧ (∀ n ∈ ns, InR n) ∧
  ∀ q lo hi H', H q = none → H' q = some (.tup [lo, hi]) → IsEnd lo → IsEnd hi → crossed lo hi = false → Dx (Only1 c) H H' → Ok M H' c → Q (.ref q) H'
def pMade (K : PySem.W.Frag) : P2 := fun v0 v1 H Q _ => ∃ (c : Addr) (M : Addr → Prop) (p : Addr) (lo hi : V), v0 = .ref c ∧ v1 = .ref p ∧ Ok M H c ∧ SqT K H p [lo, hi] ∧ ¬ M p ∧ IsEnd lo ∧ IsEnd hi ∧ crossed lo hi = false ∧
  ∀ a H', H a = none → SpanAt K H' a lo hi → Dx (Only1 c) H H' → Ok M H' c → Q (.ref a) H'
def pIsSpan (K : PySem.W.Frag) : P2 := fun v0 v1 H Q _ => ∃ (a p : Addr) (lo hi : V), v0 = .ref a ∧ v1 = .ref p ∧ SpanAt K H a lo hi ∧ (SqT K H p [lo, hi] ∨ SqL K H p [lo, hi]) ∧ IsEnd lo ∧ IsEnd hi ∧ ∀ H', Dx No H H' → Q (.bl true) H'
def pHeld (K : PySem.W.Frag) : P2 := fun v0 v1 H Q _ => ∃ (n : Int) (l : Addr) (es : List (V × V)), v0 = .int n ∧ v1 = .ref l ∧ PairsAt K H l es ∧ EndsOk es ∧ Q (.bl (heldBy n es)) H
def pIsMeet (K : PySem.W.Frag) : P3 := fun v0 v1 v2 H Q _ => ∃ (l q : Addr) (es : List (V × V)) (ls : List Int) (lo hi : V), v1 = .ref l ∧ v2 = .ref q ∧ PairsAt K H l es ∧ EndsOk es ∧ es.length ≤ 1000 ∧ SqL K H q (ls.map V.int) ∧ ls.length ≤ 10000 ∧ MeetLo es lo ∧ MeetHi es hi ∧ (IsEnd lo ∧ IsEnd hi) ∧
  ((v0 = .non ∧ crossed lo hi = true) ∨ ∃ a, v0 = .ref a ∧ SpanAt K H a lo hi ∧ crossed lo hi = false) ∧ ∀ H', Dx No H H' → Q (.bl true) H'
def spanL (lo hi : V) : List V := if endOk lo = true then if endOk hi = true then if crossed lo hi = true then [.str "BadSpan", lo, hi, .bl true, .bl false] else [lo, hi] else [.str "BadNumber", hi, .bl true, .bl false] else [.str "BadNumber", lo, .bl true, .bl false]
def pSpanDue (K : PySem.W.Frag) : P1 := fun v0 H Q _ => ∃ (p : Addr) (lo hi : V), v0 = .ref p ∧ SqT K H p [lo, hi] ∧ flatE lo = true ∧ flatE hi = true ∧ ∀ q H', Dx No H H' → SqT K H' q (spanL lo hi) → Q (.ref q) H'
def pointL (v : V) : List V := if isNumV v = true then [v, v] else [.str "BadNumber", v]
def pPointAsked (K : PySem.W.Frag) : P1 := fun v0 H Q _ => flatE v0 = true ∧ ∀ q H', Dx No H H' → SqT K H' q (pointL v0) → Q (.ref q) H'
def IsAny (v : V) : Prop := IsEnd v ∨ IsBad v
def pEnd (K : PySem.W.Frag) : P2 := fun v0 v1 H Q _ => ∃ (c : Addr) (M : Addr → Prop) (p : Addr) (ns : List Int), v0 = .ref c ∧ v1 = .ref p ∧ Ok M H c ∧ SqL K H p (ns.map V.int) ∧ ¬ M p ∧ 0 < ns.length ∧ ns.length ≤ 100000 ∧ (∀ n ∈ ns, InR n) ∧ Drawn M c H IsAny Q
end Q
/-! == of two pairs of ends -/
namespace Q
open PySem PySem.Spec PyProof.Rows L2
def dEnd : V → PyData
  | .int i => .int i
  | _ => .none
section
variable {K : PySem.W.Frag} {H : Hp} {p q : Addr} {a b c d : V}
end
section
variable {K : PySem.W.Frag} {σ : L2.St} {H : Hp} {g : TG} {tt : TT} {te : TE} {vs : List Nat} {Qv : VK} {a : Addr} {xs : List V}
theorem go_pow40 (q : Qv (.int 10000000000000000000000000000000000000000) H) : rPow0 (.int 10) (.int 40) H Qv := ⟨10, 40, rfl, rfl, ⟨by decide, by decide, by decide⟩, q⟩
end
section
variable {K : PySem.W.Frag} {H : Hp} {l q r : Addr} {e f : V × V}
end
end Q
/-! QText: sequences (a list or a tuple), sorted texts, dicts by keys. -/
/-! ### sorted of a tuple of texts -/
namespace QSrt
open PySem PyProof.Rows PyProof
section
variable {prog : Program} {w : World} {A : Around} {E : Value → Shared → Prop} {s : Shared}
theorem collect_tup {l : Addr} {vs : List Value} {Q : List Value → Shared → Prop} (hl : s.heap.IsTuple l vs.toArray)
    (h : Q vs { s with heap := (s.heap.push (seqObj "list" #[] 0)).update s.heap.objs.size (Obj.mapSeq (· ++ vs.toArray)) }) (hsz : vs.length ≤ sizeLine) :
    wpAny (model prog w) A (collect (.ref l)) Q E s := by
  obtain ⟨o, ho, hc, n, hd⟩ := id hl
  unfold collect
  refine wpAny_bind (wpAny_runValue (codeAny_builtin entry_proto_collect' ?_))
  show wpAny _ _ (do again (.builtin "list.__iadd__" ⟨[← newList [], .ref l], []⟩)) _ _ s
  refine wpAny_bind (wpAny_newList (wpAny_pure ⟨Code.quiet_builtin _ (by decide +kernel), codeAny_builtin entry_list_iadd' ?_⟩))
  show wpAny _ _ (Builtin.List.listExtendWith (.ref s.heap.objs.size) (.ref l) (.ref s.heap.objs.size)) _ _ { s with heap := s.heap.push (seqObj "list" #[] 0) }
  unfold Builtin.List.listExtendWith
  have ho' : (s.heap.push (seqObj "list" #[] 0)).get? l = some o := Heap.get?_push_of_some _ ho
  refine wpAny_bind (wpAny_typeOf (T := "tuple") ⟨o, ho', hc⟩ ?_)
  have ht : (Value.type "tuple" == Value.type "tuple") = true := by rfl
  rw [if_pos (by rw [ht]; simp)]
  refine wpAny_bind (listItems_at ho' hd ?_)
  refine wpAny_bind (listItems_at (xs := #[]) (n := 0) (Heap.get?_push_size _ rfl) rfl ?_)
  rw [if_neg (by simp)]
  refine wpAny_bind (listUpdate_at (xs := #[]) (n := 0) (Heap.get?_push_size _ rfl) rfl ?_ (Nat.zero_le _) (by show (#[] ++ vs.toArray).size ≤ sizeLine + 1; simp only [Array.size_append, List.size_toArray, List.length_nil]; omega))
  refine wpAny_pure ?_
  show wpAny (model prog w) A (do
      let o ← load s.heap.objs.size
      match o.data with
      | .seq xs _ => pure xs.toList
      | _ => unsupported "internal:collect") Q E { s with heap := (s.heap.push (seqObj "list" #[] 0)).update s.heap.objs.size (Obj.mapSeq (· ++ vs.toArray)) }
  refine wpAny_bind (wpAny_load (get?_update_seq (Heap.get?_push_size _ rfl) _) ?_)
  show wpAny _ _ (pure ((#[] : Array Value) ++ vs.toArray).toList) Q E _
  rw [show ((#[] : Array Value) ++ vs.toArray).toList = vs by simp]
  exact wpAny_pure h
theorem sortedK_tup {κ : KeyKind} (hO : κ.OneLt) {l : Addr} {vs : List Value} {Q : Value → Shared → Prop} (hl : s.heap.IsTuple l vs.toArray) (h0 : KeysOf κ (pairsOf vs)) (hkk : ∀ v₁ v₂ rest, vs = v₁ :: v₂ :: rest → keyKind' (v₁ :: v₂ :: rest).toArray = pure oneType') (hL : vs.length ≤ sizeLine)
    (h : ∀ st' : SortSt, (arrOf st').Perm (pairsOf vs) → SortedToK κ (arrOf st') (pairsOf vs).size → Q (.ref (s.heap.objs.size + 1)) { s with heap := sortedAll s.heap vs ((arrOf st').map (·.2)) }) :
    wpAny (model prog w) A (call (.builtin "sorted") [.ref l]) Q E s := by
  refine Calls.call_function_entry kind_sorted plain_sorted entry_sorted (args_sorted1 _) ?_
  unfold Builtin.«sorted»
  refine wpAny_bind (m := checkCount "sorted" 1 1 _) (wpAny_pure ?_)
  refine wpAny_bind (collect_tup hl ?_ hL)
  refine wpAny_bind (wpAny_newList ?_)
  have hsz : ((s.heap.push (seqObj "list" #[] 0)).update s.heap.objs.size (Obj.mapSeq (· ++ vs.toArray))).objs.size = s.heap.objs.size + 1 := by
    rw [Heap.size_update, size_push']
  have hoL : (((s.heap.push (seqObj "list" #[] 0)).update s.heap.objs.size (Obj.mapSeq (· ++ vs.toArray))).push (seqObj "list" vs.toArray 0)).get? (s.heap.objs.size + 1) = some (seqObj "list" vs.toArray 0) := by
    rw [← hsz]; exact Heap.get?_push_size _ rfl
  show wpAny _ _ _ _ _ { s with heap := ((s.heap.push (seqObj "list" #[] 0)).update s.heap.objs.size (Obj.mapSeq (· ++ vs.toArray))).push (seqObj "list" vs.toArray 0) }
  rw [hsz]
  refine wpAny_bind (wpAny_holding (wpAny_call_entry slot_list_sort ⟨_, hoL, rfl⟩ entry_list_sort (list_sort_treeKAny hO hoL h0 hkk hL fun st' a1 a2 => ⟨_, rfl, ?_⟩) (args_list_sort _)))
  exact wpAny_pure ⟨_, rfl, h st' a1 a2⟩
theorem sorted_strsT {l : Addr} {vs : List Value} {ss : List Str} {Q : Value → Shared → Prop} (hl : s.heap.IsTuple l vs.toArray) (hS : StrsAre vs ss) (hL : vs.length ≤ sizeLine)
    (h : ∀ (out : Array Value) (ss' : List Str), StrsAre out.toList ss' → ss'.Perm ss → sortedS ss' = true → Q (.ref (s.heap.objs.size + 1)) { s with heap := sortedAll s.heap vs out }) :
    wpAny (model prog w) A (call (.builtin "sorted") [.ref l]) Q E s := by
  refine sortedK_tup strKind_oneLt hl hS.keysOf (fun v₁ v₂ rest e => keyKind_strs (by rw [← e]; exact hS)) hL fun st' hp hs => ?_
  obtain ⟨ss', h1, h2, h3⟩ := sorted_out_str hS hp hs
  exact h _ ss' h1 h2 h3
end
end QSrt
namespace Q
open PySem PySem.Spec PyProof.Rows L2
/-- a list or a tuple at a -/
def Sq (K : PySem.W.Frag) (H : Hp) (a : Addr) (xs : List V) : Prop := SqL K H a xs ∨ SqT K H a xs
theorem Dx.sq {M : Addr → Prop} {H H1 : Hp} {a : Addr} {K : PySem.W.Frag} {xs : List V} (d : Dx M H H1) (n : ¬ M a) (h : Sq K H a xs) : Sq K H1 a xs := h.elim (fun z => .inl (d.sqL n z)) (fun z => .inr (d.sqT n z))
section
variable {X : Cx} {tg : Expr}
/-- sorted(xs): texts of a list or a tuple, any number of them -/
def rSortedQ (K : PySem.W.Frag) : List V → Hp → VK → Prop := fun vs H Q => ∃ (a : Addr) (xs : List Str), vs = [V.ref a] ∧ Sq K H a (xs.map V.str) ∧
  ∀ (ys : List Str) (p : Addr), ys.Perm xs → sortedS ys = true → H p = none → Q (.ref p) (upd H p (.lst (ys.map V.str)))
theorem cr_sortedQ : CallR X (.builtin "sorted") (rSortedQ X.K) := by
  intro pins s σ H vs us Q I r h
  obtain ⟨a, xs, rfl, hs | hs, q⟩ := h
  · obtain ⟨its, rv, hl, hz⟩ := I.list hs
    rw [Vals.ref1 r]
    have hlen0 := rv.length
    rw [List.length_map] at hlen0
    refine PyProof.Rows.sorted_strsAny hl.isList rv.strs (by rw [List.length_map] at hz; rw [← hlen0]; exact hz) fun out ys h1 h2 h3 => ?_
    obtain ⟨ep, he'⟩ := PyProof.Rows.sortedAll_at s.heap its out
    have hlen : (ys.map V.str).length ≤ sizeLine := by rw [List.length_map] at hz; rw [List.length_map, h2.length_eq]; exact hz
    exact ⟨.ref _, upd H (s.heap.objs.size + 1) (.lst (ys.map V.str)), I.laid (t' := s.toks) (fun _ _ => PyProof.Rows.sortedAll_old) (Nat.le_succ _) ⟨hlen, out.toList, ep, vals_of_strs h1, he'⟩, rfl, q ys _ h2 h3 (I.hok.fresh (Nat.le_succ _))⟩
  · obtain ⟨its, rv, hl, hz⟩ := I.tuple hs
    rw [Vals.ref1 r]
    have hlen0 := rv.length
    rw [List.length_map] at hlen0
    refine QSrt.sorted_strsT (show s.heap.IsTuple a its.toArray from hl) rv.strs (by rw [List.length_map] at hz; rw [← hlen0]; exact hz) fun out ys h1 h2 h3 => ?_
    obtain ⟨ep, he'⟩ := PyProof.Rows.sortedAll_at s.heap its out
    have hlen : (ys.map V.str).length ≤ sizeLine := by rw [List.length_map] at hz; rw [List.length_map, h2.length_eq]; exact hz
    exact ⟨.ref _, upd H (s.heap.objs.size + 1) (.lst (ys.map V.str)), I.laid (t' := s.toks) (fun _ _ => PyProof.Rows.sortedAll_old) (Nat.le_succ _) ⟨hlen, out.toList, ep, vals_of_strs h1, he'⟩, rfl, q ys _ h2 h3 (I.hok.fresh (Nat.le_succ _))⟩
/-- for x in xs: a list or a tuple -/
def iSeq (K : PySem.W.Frag) (tl : TE) : TI := fun σ H R => tl σ H fun x H1 => ∃ a, x = .ref a ∧ (((∃ xs, SqL K H1 a xs) ∧ R (Itl K a) H1) ∨ ((∃ xs, SqT K H1 a xs) ∧ R (Itt K a) H1))
theorem pi_seq {l : Expr} {tl : TE} (hl : PE X l tl) : PI X tg l (iSeq X.K tl) := by
  refine ⟨fun pins s σ H R I h => ?_⟩
  refine thn (hl.run pins s σ H _ I h) fun v s1 ⟨x, H1, I1, r1, q1⟩ => ?_
  obtain ⟨a, e, q⟩ := q1
  subst e
  cases r1
  rcases q with ⟨⟨xs, hq⟩, q⟩ | ⟨⟨xs, hq⟩, q⟩
  · obtain ⟨its, rv, p, hz⟩ := I1.list hq
    refine wpAny_pyIter_list p.isList ?_
    refine ⟨s1.heap.objs.size, [s1.heap.objs.size], _, _, H1, rfl, I1.kept (t' := s1.toks) fun b o e => Heap.get?_push_of_some _ e, turn_list a _, ⟨_, Heap.get?_push_size _ rfl, rfl, rfl⟩, fun b hb => ?_, q⟩
    have e : b = s1.heap.objs.size := by simpa using hb
    subst e
    exact I1.fpOk (Nat.le_refl _) (I1.hok.fresh (Nat.le_refl _))
  · obtain ⟨its, rv, p, hz⟩ := I1.tuple hq
    refine wpAny_pyIter_tuple (show s1.heap.IsTuple a its.toArray from p) ?_
    refine ⟨s1.heap.objs.size, [s1.heap.objs.size], _, _, H1, rfl, I1.kept (t' := s1.toks) fun b o e => Heap.get?_push_of_some _ e, turn_tuple a _, ⟨_, Heap.get?_push_size _ rfl, rfl, rfl⟩, fun b hb => ?_, q⟩
    have e : b = s1.heap.objs.size := by simpa using hb
    subst e
    exact I1.fpOk (Nat.le_refl _) (I1.hok.fresh (Nat.le_refl _))
end
section
variable {K : PySem.W.Frag} {σ : L2.St} {H : Hp} {D : Ends} {g : TG} {tb : TS} {tl : TE} {a : Addr} {xs : List V} {R : It → Hp → Prop} {Q : VK} {i : Int} {v : V}
def iQ (K : PySem.W.Frag) (R : It → Hp → Prop) : VK := fun x H1 => ∃ a, x = .ref a ∧ (((∃ xs, SqL K H1 a xs) ∧ R (Itl K a) H1) ∨ ((∃ xs, SqT K H1 a xs) ∧ R (Itt K a) H1))
theorem go_iQ (h : tl σ H (iQ K R)) : iSeq K tl σ H R := h
end
/-! ### dicts -/
section
variable {K : PySem.W.Frag} {σ : L2.St} {H : Hp} {D : Ends} {td ty tv : TE} {Q : VK} {kvs : List (Key × V)} {a : Addr} {v : V} {x : Str}
theorem go_dnew (h : ∀ p, H p = none → Q (.ref p) (upd H p (.dK []))) : tDNewK σ H Q := h
def dinQ (b : Bool) (Q : VK) (y : V) : VK := fun x H2 => ∃ a o, x = .ref a ∧ DGet H2 a y o ∧ Q (.bl (if b then o.isSome else !o.isSome)) H2
theorem go_din (h : ty σ H fun y H1 => td σ H1 (dinQ true Q y)) : tDIn ty td σ H Q := h
theorem go_dnotin (h : ty σ H fun y H1 => td σ H1 (dinQ false Q y)) : tDNotIn ty td σ H Q := h
def dputQ (v : V) (R : Hp → Prop) (a : V) : VK := fun y H3 => ∃ p H4, a = .ref p ∧ DPut H3 p y v H4 ∧ R H4
theorem go_dput (h : tv σ H fun v H1 => td σ H1 fun x H2 => ty σ H2 fun y H3 => ∃ p H4, x = .ref p ∧ DPut H3 p y v H4 ∧ D.nx σ H4) : sDPut td ty tv D σ H := h
end
/-! ### texts of ints -/
def rStrI : List V → Hp → VK → Prop := fun xs H Q => ∃ i : Int, xs = [.int i] ∧ i.natAbs.log2 < 1920 ∧ Q (.str (toString i)) H
theorem call_strI {X : Cx} : CallR X (.type "str") rStrI := call_str_int
def rLeS : R2 := fun x y H Q => (∃ i j, x = .int i ∧ y = .int j ∧ Q (.bl (decide (i ≤ j))) H) ∨ (∃ i j, x = .str i ∧ y = .str j ∧ Q (.bl (!decide (j.cps.toList < i.cps.toList))) H)
theorem op_leU {X : Cx} : OpR X (compareOp .LtE) rLeS := op_le.or op_le_str
/-! ### a text, so many times -/
theorem rep_size (a : Array Nat) : ∀ (n : Nat) (acc : Array Nat), ((List.replicate n a).foldl (· ++ ·) acc).size = acc.size + a.size * n
  | 0, acc => by simp
  | n + 1, acc => by
    rw [List.replicate_succ, List.foldl_cons, rep_size a n, Array.size_append, Nat.mul_succ]
    omega
def rMulS : R2 := fun x y H Q => ∃ (i : Str) (n : Int), x = .str i ∧ y = .int n ∧ 1 ≤ n ∧ n ≤ 1000 ∧ i.length ≤ 1000 ∧ ∀ z : Str, z.length = i.length * n.toNat → Q (.str z) H
/-! ### == and != of plain data (no dicts), any texts -/
def rEqP (K : PySem.W.Frag) : R2 := fun x y H Q => ∃ d e, Dp K H x d ∧ Dp K H y e ∧ PyData.plain d = true ∧ PyData.plain e = true ∧ min d.depth e.depth ≤ 60 ∧ Q (.bl (PyData.eqv d e)) H
def rNeP (K : PySem.W.Frag) : R2 := fun x y H Q => ∃ d e, Dp K H x d ∧ Dp K H y e ∧ PyData.plain d = true ∧ PyData.plain e = true ∧ min d.depth e.depth ≤ 60 ∧ Q (.bl (!PyData.eqv d e)) H
theorem op_eqP {X : Cx} (hu : X.A.units + 64 < cLine) : OpR X (compareOp .Eq) (rEqP X.K) := by
  intro pins s σ H x y v u Q I rx ry h
  obtain ⟨d, e, hd, he, sd, se, dp, q⟩ := h
  obtain ⟨as, r1⟩ := Dp.reads I d x v hd rx
  obtain ⟨bs, r2⟩ := Dp.reads I e y u he ry
  exact SeqAt.eq_plain r1 r2 sd se (by omega) ⟨.bl _, H, I, rfl, q⟩
theorem op_neP {X : Cx} (hu : X.A.units + 64 < cLine) : OpR X (compareOp .NotEq) (rNeP X.K) := by
  intro pins s σ H x y v u Q I rx ry h
  obtain ⟨d, e, hd, he, sd, se, dp, q⟩ := h
  obtain ⟨as, r1⟩ := Dp.reads I d x v hd rx
  obtain ⟨bs, r2⟩ := Dp.reads I e y u he ry
  exact SeqAt.ne_plain r1 r2 sd se (by omega) ⟨.bl _, H, I, rfl, q⟩
def strsD (xs : List Str) : PyData := .list (xs.map PyData.str)
end Q
/-! QNames: lists of names in order. -/
namespace Q
open PySem PySem.Spec PyProof.Rows L2
/-! ### sorted texts -/
abbrev leT (a b : Str) : Prop := ¬ b.cps.toList < a.cps.toList
theorem leT_trans {a b c : Str} (h : leT a b) (g : leT b c) : leT a c := List.le_trans (l₁ := a.cps.toList) (l₂ := b.cps.toList) (l₃ := c.cps.toList) h g
theorem rising_pw : ∀ {r : List Str} {p : Str}, risingS p r = true → (p :: r).Pairwise leT
  | [], p, _ => List.pairwise_singleton ..
  | x :: r, p, h => by
    have h0 : (!ltCps x.cps.toList p.cps.toList && risingS x r) = true := h
    obtain ⟨h1, h2⟩ := Bool.and_eq_true_iff.mp h0
    rw [ltCps_eq] at h1
    have h1' : leT p x := by
      intro z
      rw [decide_eq_true z] at h1
      exact nomatch h1
    have ih := rising_pw h2
    refine List.pairwise_cons.mpr ⟨fun y hy => ?_, ih⟩
    rcases List.mem_cons.mp hy with e | hy
    · rw [e]; exact h1'
    · exact leT_trans h1' ((List.pairwise_cons.mp ih).1 y hy)
theorem sorted_pw : ∀ {l : List Str}, sortedS l = true → l.Pairwise leT
  | [], _ => .nil
  | _ :: _, h => rising_pw h
/-! ### the first that is no name, else the first that is equal to an earlier one -/
def dupOf (acc : List Str) : List Str → Option Str
  | [] => none
  | x :: r => if x ∈ acc then some x else dupOf (acc ++ [x]) r
def ordDue (xs : List Str) : Option (Str × Str) := match xs.find? (fun x => !isNm x) with
  | some x => some (Str.ofString "BadName", x)
  | none => (dupOf [] xs).map fun x => (Str.ofString "Doubled", x)
/-- a dict that holds these texts -/
def Holds (kvs : List (Key × V)) (ts : List Str) : Prop := kvs.length ≤ ts.length ∧ ∀ x : Str, (valV kvs (Sum.inr x : Key)).isSome = decide (x ∈ ts)
theorem Holds.put {kvs : List (Key × V)} {ts : List Str} (h : Holds kvs ts) (x : Str) (v : V) : Holds (putK kvs (Sum.inr x : Key) v) (ts ++ [x]) := by
  refine ⟨?_, fun y => ?_⟩
  · unfold putK
    have hl := h.1
    split
    · rw [List.length_map, List.length_append]
      omega
    · rw [List.length_append, List.length_append]
      simp only [List.length_cons, List.length_nil]
      omega
  · by_cases e : y = x
    · subst e
      rw [valV_put, if_pos rfl, decide_eq_true (List.mem_append.mpr (.inr List.mem_cons_self))]
      rfl
    · rw [valV_put, if_neg (fun z => e (Sum.inr.inj z)), h.2 y]
      by_cases m : y ∈ ts
      · rw [decide_eq_true m, decide_eq_true (List.mem_append.mpr (.inl m))]
      · rw [decide_eq_false m, decide_eq_false (fun z => (List.mem_append.mp z).elim m fun w => e (List.mem_singleton.mp w))]
/-! ### promises -/
def TextsAt (hi n : Nat) (ys : List V) : Prop := ∃ xs : List Str, ys = xs.map V.str ∧ (∀ x ∈ xs, x.length ≤ hi) ∧ xs.length ≤ n
def pDrawL (R : List V → Prop) : P1 := fun v0 H Q _ => ∃ (c : Addr) (M : Addr → Prop), v0 = .ref c ∧ Ok M H c ∧ DrawnL M c H R Q
def pUnused (K : PySem.W.Frag) : P1 := fun v0 H Q _ => ∃ (p : Addr) (xs : List Str), v0 = .ref p ∧ SqL K H p (xs.map V.str) ∧ xs.length ≤ 10000 ∧ ∀ x : Str, x.length ≤ 30 → Q (.str x) H
def pFresh (K : PySem.W.Frag) : P3 := fun v0 v1 v2 H Q _ => ∃ (c : Addr) (M : Addr → Prop) (n : Int) (p : Addr) (us : List Str), v0 = .ref c ∧ v1 = .int n ∧ v2 = .ref p ∧ 0 ≤ n ∧ n ≤ 1000 ∧ Ok M H c ∧ SqL K H p (us.map V.str) ∧ ¬ M p ∧ us.length ≤ 1000 ∧
  DrawnL M c H (fun ys => ∃ xs : List Str, ys = xs.map V.str ∧ (∀ x ∈ xs, x.length ≤ 30) ∧ xs.length = n.toNat) Q
def pNames (K : PySem.W.Frag) : P2 := fun v0 v1 H Q _ => ∃ (c : Addr) (M : Addr → Prop) (n : Int), v0 = .ref c ∧ v1 = .int n ∧ 0 ≤ n ∧ n ≤ 30 ∧ Ok M H c ∧ DrawnL M c H (TextsAt 60 30) Q
def pIsNames (K : PySem.W.Frag) : P1 := fun v0 H Q _ => ∃ (p : Addr) (xs : List Str), v0 = .ref p ∧ SqL K H p (xs.map V.str) ∧ xs.length ≤ 10000 ∧ ∀ H', Dx No H H' → Q (.bl true) H'
def ordTo (xs : List Str) (A : Prop) (B : Str → Str → Prop) : Prop := match ordDue xs with
  | none => A
  | some (e, x) => B e x
/-- names: a list or a tuple of texts -/
def NamesIn (K : PySem.W.Frag) (H : Hp) (p : Addr) (xs : List Str) : Prop := Sq K H p (xs.map V.str) ∧ (∀ x ∈ xs, x.length ≤ 100000) ∧ xs.length ≤ 10000
def pOrdered (K : PySem.W.Frag) : P1 := fun v0 H Q E => ∃ (p : Addr) (xs : List Str), v0 = .ref p ∧ NamesIn K H p xs ∧
  ordTo xs (∀ ys q H', ys.Perm xs → sortedS ys = true → H q = none → H' q = some (.lst (ys.map V.str)) → Dx No H H' → Q (.ref q) H') (fun e x => Err1 K e "name" (.str x) H E)
def dueTup (e x : Str) : List V := [.str e, .str x, .bl true, .bl false]
def pOrdDue (K : PySem.W.Frag) : P1 := fun v0 H Q _ => ∃ (p : Addr) (xs : List Str), v0 = .ref p ∧ NamesIn K H p xs ∧
  ordTo xs (∀ H', Dx No H H' → Q .non H') (fun e x => ∀ q H', H q = none → H' q = some (.tup (dueTup e x)) → Dx No H H' → Q (.ref q) H')
def pOrdAsked (K : PySem.W.Frag) : P1 := fun v0 H Q _ => ∃ (p : Addr) (xs : List Str), v0 = .ref p ∧ NamesIn K H p xs ∧
  ordTo xs (∀ ys q H', ys.Perm xs → sortedS ys = true → H q = none → H' q = some (.lst (ys.map V.str)) → Dx No H H' → Q (.ref q) H') (fun e x => ∀ q H', H q = none → H' q = some (.tup (dueTup e x)) → Dx No H H' → Q (.ref q) H')
def pIsOrder (K : PySem.W.Frag) : P2 := fun v0 v1 H Q _ => ∃ (p q : Addr) (ys xs : List Str), v0 = .ref p ∧ v1 = .ref q ∧ SqL K H p (ys.map V.str) ∧ SqL K H q (xs.map V.str) ∧ ys.Perm xs ∧ sortedS ys = true ∧ xs.Nodup ∧ xs.length ≤ 10000 ∧ ∀ H', Dx No H H' → Q (.bl true) H'
def pOrdHolds (K : PySem.W.Frag) : P2 := fun v0 v1 H Q _ => ∃ (p : Addr) (xs : List Str), v0 = .ref p ∧ SqL K H p (xs.map V.str) ∧ (∀ x ∈ xs, x.length ≤ 100000) ∧ xs.length ≤ 5000 ∧
  ((v1 = .non ∧ ordDue xs = none) ∨ ∃ (q : Addr) (e x : Str), v1 = .ref q ∧ SqT K H q (dueTup e x) ∧ ordDue xs = some (e, x)) ∧ ∀ H', Dx No H H' → Q (.bl true) H'
def rTupL (K : PySem.W.Frag) : List V → Hp → VK → Prop := fun xs H Q => ∃ p ys, xs = [.ref p] ∧ ((SqL K H p ys ∧ ∀ l, H l = none → Q (.ref l) (upd H l (.tup ys))) ∨ (SqT K H p ys ∧ Q (.ref p) H))
theorem upd_upd {H : Hp} {a : Addr} {o u : HO} : upd (upd H a o) a u = upd H a u := by
  funext b
  by_cases e : b = a
  · rw [e, upd_same, upd_same]
  · rw [upd_ne e, upd_ne e, upd_ne e]
end Q
/-! QDict: f-strings, dict comprehensions, keyword-only parameters, numbered texts. -/
namespace Q
open PySem PySem.Spec PyProof.Rows L2
/-! ### f-strings -/
section
variable {X : Cx} {σ : L2.St} {H : Hp} {Q : VK} {te : TE} {t : TE} {ts : List TE} {acc y : Str} {Qs : Str → Hp → Prop}
def tFS (ts : List TE) : TE := fun σ H Q => tJs ts Str.empty σ H fun out H1 => Q (.str out) H1
theorem go_fs (h : tJs ts Str.empty σ H fun out H1 => Q (.str out) H1) : tFS ts σ H Q := h
def jsQ (ts : List TE) (acc : Str) (σ : L2.St) (Q : Str → Hp → Prop) : VK := fun x H1 => ∃ y : Str, x = .str y ∧ (acc ++ y).length ≤ sizeLine ∧ tJs ts (acc ++ y) σ H1 Q
theorem go_js (h : t σ H (jsQ ts acc σ Qs)) : tJs (t :: ts) acc σ H Qs := h
theorem go_jn (h : Qs acc H) : tJs [] acc σ H Qs := h
theorem go_jx (l : (acc ++ y).length ≤ sizeLine) (h : tJs ts (acc ++ y) σ H Qs) : jsQ ts acc σ Qs (.str y) H := ⟨y, rfl, l, h⟩
def fmtQ (Q : VK) : VK := fun x H1 => (∃ y : Str, x = .str y ∧ y.length ≤ sizeLine ∧ Q (.str y) H1) ∨ ∃ i : Int, x = .int i ∧ i.natAbs.log2 < 1920 ∧ Q (.str (toString i)) H1
theorem go_fmt (h : te σ H (fmtQ Q)) : tFmt te σ H Q := h
theorem go_fmtS (l : y.length ≤ sizeLine) (q : Q (.str y) H) : fmtQ Q (.str y) H := .inl ⟨y, rfl, l, q⟩
end
section
variable {X : Cx}
/-- name = {..} on one line, the name a local -/
theorem ps_setDc {i : Nat} {y : Str} {py : Pos} {kx vx tg iter : Expr} {ifs : List Expr} {scope : Scope} {own : List (Str × Nat)} {pos spos : Pos} {wi : TI} {g : TG} {tt : TT} {tk tv : TE} (hc : X.calm = true) (hN : X.N.Nodup) (hy : X.N[i]? = some y) (hyl : X.env.scope.names.lookup y = some .local)
    (hsw : swapsWith (.DictComp kx vx [⟨tg, iter, ifs, 0⟩] scope pos) (some (.Name y py)) spos.line X.env = pure true) (hi : PI X tg iter wi) (ok : BlkOk X.N X.env.scope scope own)
    (hg : ∀ (s : Shared) (H : Hp) (C : Addr) (cl : List (Str × Addr)) (fp : List Addr), PG (X.blk s H scope (compEnvC scope cl C X.env) fp) tg g) (ht : ∀ (s : Shared) (H : Hp) (C : Addr) (cl : List (Str × Addr)) (fp : List Addr), PTs (X.blk s H scope (compEnvC scope cl C X.env) fp) ifs tt)
    (hk : ∀ (s : Shared) (H : Hp) (C : Addr) (cl : List (Str × Addr)) (fp : List Addr), PE (X.blk s H scope (compEnvC scope cl C X.env) fp) kx tk)
    (he : ∀ (s : Shared) (H : Hp) (C : Addr) (cl : List (Str × Addr)) (fp : List Addr), PE (X.blk s H scope (compEnvC scope cl C X.env) fp) vx tv) (hs : ∀ x, foldedSetIterable iter X.env x = pure x := by intro _; rfl) :
    PS X (.Assign [.Name y py] (.DictComp kx vx [⟨tg, iter, ifs, 0⟩] scope pos) spos) (tAsg (tDc wi g tt tk tv (own.map (·.2))) (gName i)) := by
  refine ⟨fun pins s σ H D I h => ?_⟩
  rw [exec_Assign_Name_used _ _ _ _ hsw]
  refine wpAny_bind (wpAny_standAt (wpAny_bind ?_))
  show wpAny _ X.A (do let _ ← comprehension (.DictComp kx vx [⟨tg, iter, ifs, 0⟩] scope pos) scope X.env (firstIterPos [⟨tg, iter, ifs, 0⟩] pos) newDict false (eval iter X.env) (some (assign (.Name y py) X.env))) _ _ s
  have h : tDc wi g tt tk tv (own.map (·.2)) σ H (fun x H1 => gName i x σ H1 D.nx) := h
  refine wpAny_bind (thn (dc_core (Qf := fun _ s' => SP X pins D .next s') hc hN I hi ok hg ht hk he hs h fun L C s' m H' I' q hn f => ?_) fun _ s' hq => wpAny_pure (wpAny_pure hq))
  show wpAny _ _ (assign (.Name y py) X.env (.ref L)) _ _ _
  refine wpAny_assign_Name (store_ok2 (v := V.ref L) I' hN hy (.inl hyl) rfl (fun s2 I2 ⟨a, sb, ha⟩ => ?_) (.inr hyl))
  obtain ⟨f0, f1, f2, f3, f4, f5⟩ := f
  have haC : C ≠ a := by
    rcases ha with z | z
    · rw [z]; exact f1
    · exact fun e => f4 y a z e.symm
  refine ⟨m, hn.sameBut sb haC, fun h3 sb3 => ?_⟩
  exact ⟨_, H', I2.turned (t' := s2.toks) (fun b o hb e => (sb3.2 b hb).trans e) f0 f1 f3 f4 f5, q⟩
theorem sw_trueD {kx vx : Expr} {gs : List Comprehension} {scope : Scope} {pos py : Pos} {y : Str} {l : Nat} {env : Env} (hk : env.scope.kind = .function) (hy : env.scope.names.lookup y = some .local) (hl : (py.line == pos.line) = true)
    (ha : (scope.names.any fun (n, k) => n == y && (k == .local || k == .cell)) = false) : swapsWith (.DictComp kx vx gs scope pos) (some (.Name y py)) l env = pure true := by
  have ky : env.kindOf y = some .local := hy
  have hb : env.blockKind = .function := by unfold Env.blockKind; rw [hk]; rfl
  unfold swapsWith
  simp only [hb, ky, ha, Expr.pos, hl]
  rfl
end
/-! ### a call that leaves defaults -/
section
variable {σ : L2.St} {H : Hp} {Q : VK} {t : TA} {sp : Sp} {ds vs : List V} {E : XK}
def cdQ (ds : List V) (sp : Sp) (E : XK) (Q : VK) : List V → Hp → Prop := fun vs H1 => sp (vs ++ ds) H1 Q E
theorem go_callD (h : t σ H (cdQ ds sp E Q)) : tCall sp ds E t σ H Q := h
theorem go_cdq (h : sp (vs ++ ds) H Q E) : cdQ ds sp E Q vs H := h
end
theorem go_kwg {n m : Nat} {sp : Sp} {gV : List V → List V → List V} {E : XK} {Q : VK} {vs zs : List V} {H : Hp} (l1 : vs.length = n) (l2 : zs.length = m) (h : sp (gV vs zs) H Q E) : kwQ n m sp gV E Q vs zs H := ⟨l1, l2, h⟩
structure DefK (P : Program) (w : World) (K : PySem.W.Frag) (mg : Str → Option Value) (base : Heap) (CX : CXT) (k : Nat) (x : Str) (st : Stmt) (dvs : List V) (kws : List (Str × V)) (ps : List Str) (sp : Sp) : Prop where
  ex : ∃ (f : Addr) (fd : FuncData), mg x = some (.ref f) ∧ PySem.W.keepIn K (.ref f) = true ∧ FnOk P w K mg base CX k f fd ps sp ∧ FunD K x x (defArgs st) (defBody st) (defScope st) dvs kws f fd
section
variable {X : Cx} {CX : CXT} {k n : Nat} {f : Addr} {fd : FuncData} {ps ks : List Str} {sp : Sp} {E : L2.St → XK} {x : Str} {p pos : Pos} {e : Expr} {es : List Expr} {kws : List Keyword} {t tk : TA} {g : List Value → List Value → List Value} {gV : List V → List V → List V}
end
/-! ### {k: v for x in xs} -/
section
variable {K : PySem.W.Frag} {σ : L2.St} {H : Hp} {g : TG} {tt : TT} {tk tv : TE} {vs : List Nat} {a : Addr} {xs : List V} {Q : VK} {D : Addr} {N : Hp → Prop} {wi : TI} {kvs : List (Key × V)} {x : Str} {z : V}
def dcPut (D : Addr) (N : Hp → Prop) (y : V) : VK := fun z H5 => ∃ kvs k, y = kV k ∧ H5 D = some (.dK kvs) ∧ kvs.length < sizeLine ∧ N (upd H5 D (.dK (putK kvs k z)))
def dcTest (tk tv : TE) (D : Addr) (N : Hp → Prop) (σ : L2.St) : Bool → Hp → Prop := fun b H3 => if b = true then tk σ H3 fun y H4 => tv σ H4 (dcPut D N y) else N H3
def DcIt (J : It) (g : TG) (tt : TT) (tk tv : TE) (vs : List Nat) (σ : L2.St) (Q : VK) (H1 : Hp) : Prop := ∀ D, H1 D = none → ∃ W : Nat → Nat → Hp → Prop, (∃ m, W 0 m (upd H1 D (.dK []))) ∧ ∀ i m H, W i m H →
  (J.stop i H ∧ Q (.ref D) H) ∨ (J.go i H ∧ ∃ Nx : Hp → Prop, (∀ H', Nx H' → ∃ m', m' < m ∧ W (i + 1) m' H') ∧ ∀ x H', J.yld i H x H' → g x (wipe σ vs) H' fun σ2 H2 => wipe σ2 vs = wipe σ vs ∧ tt σ2 H2 (dcTest tk tv D Nx σ2))
theorem go_dc (h : wi σ H fun J H1 => DcIt J g tt tk tv vs σ Q H1) : tDc wi g tt tk tv vs σ H Q := h
theorem go_dct (h : tk σ H fun y H4 => tv σ H4 (dcPut D N y)) : dcTest tk tv D N σ true H := h
theorem go_dcf (h : N H) : dcTest tk tv D N σ false H := by
  show if false = true then _ else N H
  rw [if_neg Bool.false_ne_true]
  exact h
end
/-! ### numbered texts -/
def numT (s : Str) (n : Nat) : Str := s ++ Str.ofString (toString (n : Int))
theorem numT_inj {s : Str} {i j : Nat} (h : numT s i = numT s j) : i = j := by
  have e : s.cps.toList ++ (Str.ofString (toString (i : Int))).cps.toList = s.cps.toList ++ (Str.ofString (toString (j : Int))).cps.toList := by
    have := congrArg (fun x : Str => x.cps.toList) h
    have q : ∀ a b : Str, (a ++ b).cps.toList = a.cps.toList ++ b.cps.toList := fun a b => Array.toList_append
    show _ = _
    rw [← q, ← q]
    exact this
  have e2 := List.append_cancel_left e
  rw [show (Str.ofString (toString (i : Int))).cps.toList = TL.numL i from TL.tl_num i, show (Str.ofString (toString (j : Int))).cps.toList = TL.numL j from TL.tl_num j] at e2
  exact TL.numL_inj e2
theorem sub_len : ∀ {l xs : List Str}, l.Nodup → (∀ x ∈ l, x ∈ xs) → l.length ≤ xs.length
  | [], _, _, _ => Nat.zero_le _
  | x :: r, xs, nd, h => by
    have hx := h x List.mem_cons_self
    have nd' := List.nodup_cons.mp nd
    have ih := sub_len (l := r) (xs := xs.erase x) nd'.2 fun y hy => (List.mem_erase_of_ne (fun e => nd'.1 (by rw [← e]; exact hy))).mpr (h y (List.mem_cons_of_mem _ hy))
    have hl := List.length_erase_of_mem hx
    have hp : 0 < xs.length := List.length_pos_of_mem hx
    rw [List.length_cons]
    omega
theorem free_le {s : Str} {xs : List Str} {n : Nat} (h : ∀ j, j < n → numT s j ∈ xs) : n ≤ xs.length := by
  have nd : ((List.range n).map (numT s)).Nodup := List.pairwise_map.mpr (List.nodup_range.imp fun {a b} hab e => hab (numT_inj e))
  have := sub_len nd (xs := xs) fun x hx => by
    obtain ⟨j, hj, rfl⟩ := List.mem_map.mp hx
    exact h j (List.mem_range.mp hj)
  rwa [List.length_map, List.length_range] at this
def FreeAt (s : Str) (xs : List Str) (n : Nat) : Prop := numT s n ∉ xs ∧ ∀ j, j < n → numT s j ∈ xs
/-! ### promises -/
def pFreshName (K : PySem.W.Frag) : P2 := fun v0 v1 H Q E => ∃ (p : Addr) (xs : List Str) (s : Str), v0 = .ref p ∧ v1 = .str s ∧ Sq K H p (xs.map V.str) ∧ s.length ≤ 100000 ∧ xs.length ≤ 5000 ∧
  (isNm s = true → s.length ≤ 4 → ∀ n H', FreeAt s xs n → Dx No H H' → Q (.str (numT s n)) H') ∧ (¬ (isNm s = true ∧ s.length ≤ 4) → Err1 K "BadName" "name" (.str s) H E)
def pNumbered (K : PySem.W.Frag) : P3 := fun v0 v1 v2 H Q _ => ∃ (c : Addr) (M : Addr → Prop) (s : Str) (n : Int), v0 = .ref c ∧ v1 = .str s ∧ v2 = .int n ∧ s.length ≤ 100 ∧ 0 ≤ n ∧ n ≤ 480 ∧ Ok M H c ∧ DrawnL M c H (TextsAt 110 480) Q
def pUsed (K : PySem.W.Frag) : P2 := fun v0 v1 H Q _ => ∃ (c : Addr) (M : Addr → Prop) (s : Str), v0 = .ref c ∧ v1 = .str s ∧ s.length ≤ 100 ∧ Ok M H c ∧ DrawnL M c H (TextsAt 110 1000) Q
def pIsLeast (K : PySem.W.Frag) : P3 := fun v0 v1 v2 H Q _ => ∃ (p : Addr) (xs : List Str) (s : Str) (n : Nat), v0 = .str (numT s n) ∧ v1 = .str s ∧ v2 = .ref p ∧ FreeAt s xs n ∧ s.length ≤ 1000 ∧ SqL K H p (xs.map V.str) ∧ xs.length ≤ 5000 ∧ ∀ H', Dx No H H' → Q (.bl true) H'
def pRefusedName (K : PySem.W.Frag) : P2 := fun v0 v1 H Q _ => ∃ (p : Addr) (xs : List Str) (s : Str), v0 = .ref p ∧ v1 = .str s ∧ SqL K H p (xs.map V.str) ∧ s.length ≤ 100000 ∧ xs.length ≤ 5000 ∧
  (isNm s = true → s.length ≤ 4 → ∀ n H', FreeAt s xs n → Dx No H H' → Q (.str (numT s n)) H') ∧ (¬ (isNm s = true ∧ s.length ≤ 4) → ∀ q H', SqT K H' q (dueTup (Str.ofString "BadName") s) → Dx No H H' → Q (.ref q) H')
theorem numT_len {s : Str} {n : Nat} (h : n < 1000000000) : (numT s n).length ≤ s.length + 9 := by
  unfold numT
  have := PyProof.Rows.toString_length_le (v := (n : Int)) (k := 9) (by omega) (by decide) (by omega)
  rw [length_append]
  omega
/-! ### names drawn are names -/
def IsNameT (v : V) : Prop := ∃ x : Str, v = .str x ∧ isNm x = true ∧ 1 ≤ x.length ∧ x.length ≤ 8
theorem pick_mem {z : Str} {r : Int} (h0 : 0 ≤ r) (h1 : r < z.length) : ∃ ch, atI z.cps.toList r = some ch ∧ ch ∈ z.cps.toList := by
  have e : z.cps.toList.length = z.length := by simp [Str.length]
  have hr : r.toNat < z.cps.toList.length := by omega
  exact ⟨_, atI_of h0 (List.getElem?_eq_getElem hr), List.getElem_mem hr⟩
theorem sign_of_let {c : Nat} (h : c ∈ letS.cps.toList) : c ∈ signS.cps.toList := by
  have e : letS.cps.toList.all (fun c => decide (c ∈ signS.cps.toList)) = true := by decide +kernel
  exact of_decide_eq_true (List.all_eq_true.mp e c h)
theorem isNm_mk {x : Str} {c : Nat} {r : List Nat} (e : x.cps.toList = c :: r) (l : r.length + 1 ≤ 8) (h : c ∈ letS.cps.toList) (g : ∀ d ∈ r, d ∈ signS.cps.toList) : isNm x = true := by
  unfold isNm
  rw [e]
  refine Bool.and_eq_true_iff.mpr ⟨decide_eq_true l, Bool.and_eq_true_iff.mpr ⟨decide_eq_true h, List.all_eq_true.mpr fun d hd => decide_eq_true ?_⟩⟩
  rcases List.mem_cons.mp hd with z | z
  · rw [z]; exact sign_of_let h
  · exact g d z
theorem isNm_get {x : Str} (h : isNm x = true) : ∃ c r, x.cps.toList = c :: r ∧ r.length + 1 ≤ 8 ∧ c ∈ letS.cps.toList ∧ ∀ d ∈ r, d ∈ signS.cps.toList := by
  unfold isNm at h
  cases e : x.cps.toList with
  | nil => rw [e] at h; exact nomatch h
  | cons c r =>
    rw [e] at h
    obtain ⟨h1, h2⟩ := Bool.and_eq_true_iff.mp h
    obtain ⟨h2, h3⟩ := Bool.and_eq_true_iff.mp h2
    exact ⟨c, r, rfl, of_decide_eq_true h1, of_decide_eq_true h2, fun d hd => of_decide_eq_true (List.all_eq_true.mp h3 d (List.mem_cons_of_mem _ hd))⟩
theorem cutS_to {z : Str} {n : Int} (h : 0 ≤ n) : (cutS z none (some n)).cps.toList = z.cps.toList.take n.toNat := by
  obtain ⟨k, rfl⟩ : ∃ k : Nat, n = (k : Int) := ⟨n.toNat, by omega⟩
  have e : z.cps.toList.length = z.length := by simp [Str.length]
  unfold cutS
  rw [HT.sIx_none, HT.sIx_nat, List.drop_zero, Nat.sub_zero, Int.toNat_natCast, ← e]
  show ((List.take (min k z.cps.toList.length) z.cps.toList).toArray).toList = _
  rw [List.toList_toArray, ← List.take_eq_take_min]
theorem str_app (a b : Str) : (a ++ b).cps.toList = a.cps.toList ++ b.cps.toList := Array.toList_append
theorem letS_is : Str.ofString "abcdefghijklmnopqrstuvwxyz" = letS := rfl
theorem signS_is : letS ++ Str.ofString "0123456789" = signS := by decide +kernel
end Q
/-! QStat: staticmethods and properties of own classes; methods of texts as steps. -/
namespace Q
open PySem PySem.Spec PyProof.Rows L2 ClX
/-- C.m is a staticmethod: its record at p, its def at g -/
structure SMet (K : PySem.W.Frag) (C : Addr) (mc : Value) (m : Str) (p g : Addr) : Prop where
  at_ : PySem.W.findCls K (.ref C) mc m = some (.get (.builtin "staticmethod.__get__") (.ref p) .none (.ref C))
  rc : ∃ rest, PySem.W.recIn K p "staticmethod" = some (.ref g :: rest)
  kp : PySem.W.keepIn K (.ref g) = true
section
variable {X : Cx} {pins : List (Addr × Obj)} {σ : L2.St} {H : Hp} {s : Shared} {C p g : Addr} {mc : Value} {m : Str} {A : Around} {E : Value → Shared → Prop}
end
section
variable {X : Cx} {CX : CXT} {k : Nat} {C p g : Addr} {m : Str} {sp : Sp} {E : L2.St → XK} {o : Expr} {ta : TE} {e : Expr} {es : List Expr} {t : TA} {apos pos : Pos}
def tSMethS (C : Addr) (sp : Sp) (E : L2.St → XK) (ta : TE) (t : TA) : TE := fun σ H Q => ta σ H fun x H1 => x = .ref C ∧ t σ H1 fun vs H2 => sp vs H2 Q (E σ)
def smQ (sp : Sp) (E : XK) (Q : VK) : List V → Hp → Prop := fun vs H2 => sp vs H2 Q E
theorem go_smeth {σ : L2.St} {H : Hp} {Q : VK} {o : TE} (h : o σ H fun x H1 => x = .ref C ∧ t σ H1 (smQ sp (E σ) Q)) : tSMethS C sp E o t σ H Q := h
theorem go_smq {E : XK} {Q : VK} {vs : List V} {H : Hp} (h : sp vs H Q E) : smQ (fun vs H Q E => sp (vs ++ []) H Q E) E Q vs H := by
  show sp (vs ++ []) H Q E
  rw [List.append_nil]
  exact h
end
def smetB (K : PySem.W.Frag) (C : Addr) (m : Str) : Bool := He5.wrapB K C "staticmethod" "staticmethod.__get__" m && PySem.W.keepIn K (.ref (He5.wf K C "staticmethod" m))
/-! ### a property -/
section
variable {σ : L2.St} {H : Hp} {Q : VK} {ta : TE} {C : Addr} {sp : Sp} {dvs : List V} {E : XK} {a dx : Addr} {fs : List (Str × V)}
def prQ (C : Addr) (sp : Sp) (dvs : List V) (E : XK) (Q : VK) : VK := fun x H1 => ∃ a dx fs, x = .ref a ∧ H1 a = some (.ins C dx fs) ∧ sp (.ref a :: dvs) H1 Q E
theorem go_prop (h : ta σ H (prQ C sp dvs E Q)) : tProp C sp dvs E ta σ H Q := h
end
/-! ### methods of texts -/
theorem go_tys {K : PySem.W.Frag} {H : Hp} {x : Str} {P : Prop} (h : P) : tyV K "str" (.str x) H ∧ P := ⟨rfl, h⟩
section
variable {K : PySem.W.Frag} {σ : L2.St} {H : Hp} {a : Addr} {xs r : List V} {v : V} {n : Nat} {g : TG} {t u : TGs} {R : L2.St → Hp → Prop}
theorem go_gc (k : g v σ H fun σ' H' => u r σ' H' R) : gCons g u (v :: r) σ H R := ⟨v, r, rfl, k⟩
theorem go_gn (k : R σ H) : gNil [] σ H R := ⟨rfl, k⟩
end
end Q
/-! QNum: the texts of numbers and of spans, and their reading. -/
namespace Q
open PySem PySem.Spec PyProof.Rows L2 NumText
abbrev tl (x : Str) : List Nat := x.cps.toList
theorem tl_len (x : Str) : (tl x).length = x.length := by simp [tl, Str.length]
/-! ### numL and digitsVal -/
/-! ### the text of an int -/
def textZ (v : Int) : Str := Str.ofString (toString v)
/-! ### reading -/
def isDig (c : Nat) : Bool := decide (48 ≤ c) && decide (c ≤ 57)
def negL (l : List Nat) : Bool := match l with
  | 45 :: _ => true
  | _ => false
def figs (l : List Nat) : List Nat := if negL l = true then l.tail else l
def valL (l : List Nat) : Int := if negL l = true then -(digitsVal (figs l) : Int) else (digitsVal (figs l) : Int)
def shapeL (l : List Nat) : Bool := decide (1 ≤ (figs l).length) && (decide ((figs l).length ≤ 13) && (figs l).all isDig)
def zeroL (l : List Nat) : Bool := match figs l with
  | 48 :: _ => decide (l = [48])
  | _ => true
def readL (l : List Nat) : Option Int := if shapeL l = true then if zeroL l = true then if InR (valL l) then some (valL l) else none else none else none
end Q
/-! QNum2: texts of spans, promises of the readers. -/
namespace Q
open PySem PySem.Spec PyProof.Rows L2 NumText
theorem cutS_from {z : Str} {n : Nat} : tl (cutS z (some (n : Int)) none) = (tl z).drop n := by
  have e := tl_len z
  show ((((tl z).drop (HT.sIx z.length 0 (some (n : Int)))).take (HT.sIx z.length z.length none - HT.sIx z.length 0 (some (n : Int)))).toArray).toList = _
  rw [List.toList_toArray, HT.sIx_none, HT.sIx_nat]
  by_cases h : n ≤ z.length
  · rw [Nat.min_eq_left h, List.take_of_length_le (by rw [List.length_drop]; omega)]
  · rw [Nat.min_eq_right (by omega), List.drop_of_length_le (by omega), List.drop_of_length_le (by omega), List.take_nil]
def digS : Str := Str.ofString "0123456789"
def digsB (l : List Nat) : Bool := decide (1 ≤ l.length) && (decide (l.length ≤ 13) && l.all isDig)
/-! ### ends and spans -/
def optV : Option Int → V
  | none => .non
  | some i => .int i
def endR (x : Str) : Option V := if x.length = 0 then some .non else (readL (tl x)).map V.int
def dotS : Str := Str.ofString ".."
def bothV (a b : Option V) : Option (V × V) := match a, b with
  | some u, some v => if crossed u v = true then none else some (u, v)
  | _, _ => none
def spanPR (a d b : Str) : Option (V × V) := if d.length = 0 then none else bothV (endR a) (endR b)
def spanRd (x : Str) : Option (V × V) := spanPR (Txt.partition x dotS).1 (Txt.partition x dotS).2.1 (Txt.partition x dotS).2.2
def endT (v : V) : Str := match v with
  | .int i => textZ i
  | _ => Str.empty
def spanT (lo hi : V) : Str := endT lo ++ dotS ++ endT hi
/-! ### steps -/
section
variable {K : PySem.W.Frag} {H : Hp} {Q : VK}
def rIntS : List V → Hp → VK → Prop := fun xs H Q => ∃ a n, xs = [.str a] ∧ PySem.intText? a = some n ∧ a.length ≤ 640 ∧ Q (.int n) H
def rStarts : V → List V → Hp → VK → Prop := fun x xs H Q => ∃ a b, x = .str a ∧ xs = [.str b] ∧ Q (.bl (Txt.startswith a b)) H
def rPart : V → List V → Hp → VK → Prop := fun x xs H Q => ∃ a b, x = .str a ∧ xs = [.str b] ∧ (b.length == 0) = false ∧ a.length ≤ sizeLine ∧
    ∀ p, H p = none → Q (.ref p) (upd H p (.tup [.str (Txt.partition a b).1, .str (Txt.partition a b).2.1, .str (Txt.partition a b).2.2]))
def rSplit : V → List V → Hp → VK → Prop := fun x xs H Q => ∃ a b, x = .str a ∧ xs = [.str b] ∧ (b.length == 0) = false ∧ a.length + 2 ≤ sizeLine ∧ rNewStrs (Txt.split a b) H Q
def rJoin (K : PySem.W.Frag) : V → List V → Hp → VK → Prop := fun x xs H Q => ∃ a p, ∃ ys : List Str, x = .str a ∧ xs = [.ref p] ∧ (SqL K H p (ys.map V.str) ∨ SqT K H p (ys.map V.str)) ∧
    (ys.map (·.length)).sum + ys.length * a.length ≤ 16777216 ∧ Q (.str (Txt.join a ys)) H
/-- the pieces of a text and their joining, by lengths -/
def LinesAt (n m : Nat) (ys : List Str) : Prop := (∀ y ∈ ys, y.length ≤ m) ∧ ys.length ≤ n
end
theorem size_okB {n : Nat} (h : n ≤ 16000000) : n ≤ sizeLine := Nat.le_trans h (by decide)
theorem LinesAt.mono {n m n' m' : Nat} {ys : List Str} (h : LinesAt n m ys) (a : n ≤ n') (b : m ≤ m') : LinesAt n' m' ys := ⟨fun y hy => Nat.le_trans (h.1 y hy) b, Nat.le_trans h.2 a⟩
theorem LinesAt.set {n m k : Nat} {ys : List Str} {z : Str} (h : LinesAt n m ys) (l : z.length ≤ m) : LinesAt n m (ys.set k z) := ⟨fun y hy => (List.mem_or_eq_of_mem_set hy).elim (h.1 y) (fun e => by rw [e]; exact l), by rw [List.length_set]; exact h.2⟩
theorem LinesAt.take {n m k : Nat} {ys : List Str} (h : LinesAt n m ys) : LinesAt (min k n) m (ys.take k) := ⟨fun y hy => h.1 y (List.mem_of_mem_take hy), by rw [List.length_take]; have := h.2; omega⟩
theorem LinesAt.drop {m k : Nat} {ys : List Str} (h : LinesAt ys.length m ys) : LinesAt (ys.length - k) m (ys.drop k) := ⟨fun y hy => h.1 y (List.mem_of_mem_drop hy), by rw [List.length_drop]; exact Nat.le_refl _⟩
theorem LinesAt.own {n m : Nat} {ys : List Str} (h : LinesAt n m ys) : LinesAt ys.length m ys := ⟨h.1, Nat.le_refl _⟩
/-! ### promises -/
def pReadN : P1 := fun v0 H Q _ => ∃ x : Str, v0 = .str x ∧ x.length ≤ 10000 ∧ Q (optV (readL (tl x))) H
def pIsDigits : P1 := fun v0 H Q _ => ∃ x : Str, v0 = .str x ∧ x.length ≤ 100000 ∧ Q (.bl (digsB (tl x))) H
def pNumText (K : PySem.W.Frag) : P1 := fun v0 H Q E => flatE v0 = true ∧ (∀ i, v0 = .int i → InR i → Q (.str (textZ i)) H) ∧ (isNumV v0 = false → Bad1 K "BadNumber" "number" v0 H E)
def pEndText : P1 := fun v0 H Q _ => IsEnd v0 ∧ Q (.str (endT v0)) H
def pParseNum (K : PySem.W.Frag) : P1 := fun v0 H Q E => ∃ x : Str, v0 = .str x ∧ x.length ≤ 10000 ∧ (∀ i, readL (tl x) = some i → InR i → Q (.int i) H) ∧ (readL (tl x) = none → Bad1 K "BadText" "line" (.int 1) H E)
def pParseEnd (K : PySem.W.Frag) : P1 := fun v0 H Q E => ∃ x : Str, v0 = .str x ∧ x.length ≤ 10000 ∧ (∀ v, endR x = some v → IsEnd v → Q v H) ∧ (endR x = none → Bad1 K "BadText" "line" (.int 1) H E)
def pSpanText (K : PySem.W.Frag) : P1 := fun v0 H Q _ => ∃ (a : Addr) (lo hi : V), v0 = .ref a ∧ SpanAt K H a lo hi ∧ IsEnd lo ∧ IsEnd hi ∧ Q (.str (spanT lo hi)) H
def pSpanParse (K : PySem.W.Frag) : P1 := fun v0 H Q E => ∃ x : Str, v0 = .str x ∧ x.length ≤ 10000 ∧ (∀ lo hi, spanRd x = some (lo, hi) → ∀ p H', H p = none → Dx No H H' → SpanAt K H' p lo hi → Q (.ref p) H') ∧ (spanRd x = none → Err1 K "BadText" "line" (.int 1) H E)
def pEndsText (K : PySem.W.Frag) : P1 := fun v0 H Q _ => ∃ (p : Addr) (lo hi : V), v0 = .ref p ∧ SqT K H p [lo, hi] ∧ IsEnd lo ∧ IsEnd hi ∧ Q (.str (spanT lo hi)) H
def pReadEnds (K : PySem.W.Frag) : P1 := fun v0 H Q _ => ∃ x : Str, v0 = .str x ∧ x.length ≤ 10000 ∧ (spanRd x = none → ∀ H', Dx No H H' → Q .non H') ∧ (∀ lo hi, spanRd x = some (lo, hi) → ∀ p H', H p = none → H' p = some (.tup [lo, hi]) → Dx No H H' → Q (.ref p) H')
def badText : List V := [.str (Str.ofString "BadText"), .int 1, .bl true, .bl false]
def pParsed (K : PySem.W.Frag) : P1 := fun v0 H Q _ => ∃ x : Str, v0 = .str x ∧ x.length ≤ 10000 ∧ (spanRd x = none → ∀ p H', SqT K H' p badText → Dx No H H' → Q (.ref p) H') ∧ (∀ lo hi, spanRd x = some (lo, hi) → ∀ p H', SqT K H' p [.bl true, lo, hi] → Dx No H H' → Q (.ref p) H')
def pParsedNum (K : PySem.W.Frag) : P1 := fun v0 H Q _ => ∃ x : Str, v0 = .str x ∧ x.length ≤ 10000 ∧ (readL (tl x) = none → ∀ p H', SqT K H' p badText → Dx No H H' → Q (.ref p) H') ∧ (∀ i, readL (tl x) = some i → Q (.int i) H)
def pToldNum (K : PySem.W.Frag) : P1 := fun v0 H Q _ => flatE v0 = true ∧ (∀ i, v0 = .int i → InR i → Q (.str (textZ i)) H) ∧ (isNumV v0 = false → ∀ p H', SqT K H' p [.str (Str.ofString "BadNumber"), v0, .bl true, .bl false] → Dx No H H' → Q (.ref p) H')
def pReads : P1 := fun v0 H Q _ => ∃ x : Str, v0 = .str x ∧ x.length ≤ 10000 ∧ ∀ H', Dx No H H' → Q (.bl true) H'
def pSpoilt (K : PySem.W.Frag) : P3 := fun v0 v1 v2 H Q _ => ∃ (x s : Str) (i : Int), v0 = .str x ∧ v1 = .int i ∧ v2 = .str s ∧ x.length ≤ 1000 ∧ s.length ≤ 10 ∧ -(10 ^ 6 : Int) ≤ i ∧ i ≤ 10 ^ 6 ∧ ∀ (p : Addr) (H' : Hp) (ys : List Str), H p = none → H' p = some (.lst (ys.map V.str)) → (∀ y ∈ ys, y.length ≤ 2010) → Dx No H H' → Q (.ref p) H'
def pBent : P2 := fun v0 v1 H Q _ => ∃ (c : Addr) (M : Addr → Prop) (x : Str), v0 = .ref c ∧ v1 = .str x ∧ x.length ≤ 100 ∧ Ok M H c ∧ Drawn M c H (IsText 0 16000000) Q
def pNear2 : P2 := fun v0 v1 H Q _ => ∃ (c : Addr) (M : Addr → Prop) (x : Str), v0 = .ref c ∧ v1 = .str x ∧ x.length ≤ 100 ∧ Ok M H c ∧ ∀ H', Dx (Only1 c) H H' → Ok M H' c → Q (.bl true) H'
def pAnyEnds (K : PySem.W.Frag) : P1 := fun v0 H Q _ => ∃ (c : Addr) (M : Addr → Prop), v0 = .ref c ∧ Ok M H c ∧ ∀ p lo hi H', H p = none → H' p = some (.tup [lo, hi]) → IsEnd lo → IsEnd hi → crossed lo hi = false → Dx (Only1 c) H H' → Ok M H' c → Q (.ref p) H'
end Q
/-! R3a: data trees over the abstract heap; the relation of a frame's slots to data. -/
namespace Q
open PySem PySem.Spec PyProof.Rows L2
/-- data: what a value and all that it reaches is, without addresses -/
inductive D where
  | non | bl (b : Bool) | int (i : Int) | str (x : Str)
  | lst (xs : List D) | tup (xs : List D)
  | dic (kvs : List (Key × D))
  | obj (C : Addr) (fs : List (Str × D))
  | val (v : V)
  | store
  | exc (a dd C : Addr) (fs : List (Str × D))
/-- a tuple of the written part -/
def KTup (K : PySem.W.Frag) (a : Addr) (vs : List V) : Prop := ∃ (o : Obj) (its : Array Value) (n : Nat), K.lookup a = some o ∧ o.cls = .type "tuple" ∧ o.data = .seq its n ∧ its.size ≤ sizeLine ∧ Vals vs its.toList
section
variable (K : PySem.W.Frag) (M : Addr → Prop) (c : Addr) (H : Hp)
mutual
/-- v stands for d at H, at no address of M; the draws' store is at c -/
inductive Rep : V → D → Prop
  | non : Rep .non .non
  | bl (b : Bool) : Rep (.bl b) (.bl b)
  | int (i : Int) : Rep (.int i) (.int i)
  | str (x : Str) : Rep (.str x) (.str x)
  | lst {a : Addr} {vs : List V} {ds : List D} (m : ¬ M a) (h : H a = some (.lst vs)) (r : Reps vs ds) : Rep (.ref a) (.lst ds)
  | tup {a : Addr} {vs : List V} {ds : List D} (m : ¬ M a) (h : H a = some (.tup vs)) (r : Reps vs ds) : Rep (.ref a) (.tup ds)
  | kt {a : Addr} {vs : List V} {ds : List D} (h : KTup K a vs) (r : Reps vs ds) : Rep (.ref a) (.tup ds)
  | dic {a : Addr} {kvs : List (Key × V)} {ds : List (Key × D)} (m : ¬ M a) (h : H a = some (.dK kvs)) (r : RepK kvs ds) : Rep (.ref a) (.dic ds)
  | obj {a C dx : Addr} {fs : List (Str × V)} {ds : List (Str × D)} (m : ¬ M a) (h : H a = some (.ins C dx fs)) (r : RepF fs ds) : Rep (.ref a) (.obj C ds)
  | val (v : V) : Rep v (.val v)
  | store : Rep (.ref c) .store
  | exc {a dd C : Addr} {fs : List (Str × V)} {ds : List (Str × D)} (m : ¬ M dd) (h : H dd = some (.xd fs)) (r : RepF fs ds) : Rep (.ref a) (.exc a dd C ds)
inductive Reps : List V → List D → Prop
  | nil : Reps [] []
  | cons {v : V} {vs : List V} {d : D} {ds : List D} (h : Rep v d) (t : Reps vs ds) : Reps (v :: vs) (d :: ds)
inductive RepK : List (Key × V) → List (Key × D) → Prop
  | nil : RepK [] []
  | cons {k : Key} {v : V} {vs : List (Key × V)} {d : D} {ds : List (Key × D)} (h : Rep v d) (t : RepK vs ds) : RepK ((k, v) :: vs) ((k, d) :: ds)
inductive RepF : List (Str × V) → List (Str × D) → Prop
  | nil : RepF [] []
  | cons {k : Str} {v : V} {vs : List (Str × V)} {d : D} {ds : List (Str × D)} (h : Rep v d) (t : RepF vs ds) : RepF ((k, v) :: vs) ((k, d) :: ds)
end
end
section
variable {K : PySem.W.Frag} {M N : Addr → Prop} {c : Addr} {H H' : Hp}
mutual
theorem Rep.to (st : ∀ a o, ¬ M a → H a = some o → H' a = some o ∧ ¬ N a) : ∀ {v : V} {d : D}, Rep K M c H v d → Rep K N c H' v d
  | _, _, .non => .non
  | _, _, .bl b => .bl b
  | _, _, .int i => .int i
  | _, _, .str x => .str x
  | _, _, .lst m h r => .lst (st _ _ m h).2 (st _ _ m h).1 (Reps.to st r)
  | _, _, .tup m h r => .tup (st _ _ m h).2 (st _ _ m h).1 (Reps.to st r)
  | _, _, .kt h r => .kt h (Reps.to st r)
  | _, _, .dic m h r => .dic (st _ _ m h).2 (st _ _ m h).1 (RepK.to st r)
  | _, _, .obj m h r => .obj (st _ _ m h).2 (st _ _ m h).1 (RepF.to st r)
  | _, _, .val v => .val v
  | _, _, .store => .store
  | _, _, .exc m h r => .exc (st _ _ m h).2 (st _ _ m h).1 (RepF.to st r)
theorem Reps.to (st : ∀ a o, ¬ M a → H a = some o → H' a = some o ∧ ¬ N a) : ∀ {v : List V} {d : List D}, Reps K M c H v d → Reps K N c H' v d
  | _, _, .nil => .nil
  | _, _, .cons h t => .cons (Rep.to st h) (Reps.to st t)
theorem RepK.to (st : ∀ a o, ¬ M a → H a = some o → H' a = some o ∧ ¬ N a) : ∀ {v : List (Key × V)} {d : List (Key × D)}, RepK K M c H v d → RepK K N c H' v d
  | _, _, .nil => .nil
  | _, _, .cons h t => .cons (Rep.to st h) (RepK.to st t)
theorem RepF.to (st : ∀ a o, ¬ M a → H a = some o → H' a = some o ∧ ¬ N a) : ∀ {v : List (Str × V)} {d : List (Str × D)}, RepF K M c H v d → RepF K N c H' v d
  | _, _, .nil => .nil
  | _, _, .cons h t => .cons (Rep.to st h) (RepF.to st t)
end
theorem Rep.keep {v : V} {d : D} (r : Rep K M c H v d) (dx : Dx M H H') : Rep K M c H' v d := r.to fun a o m h => ⟨dx.st a o m h, m⟩
theorem Reps.keep {v : List V} {d : List D} (r : Reps K M c H v d) (dx : Dx M H H') : Reps K M c H' v d := r.to fun a o m h => ⟨dx.st a o m h, m⟩
theorem RepF.keep {v : List (Str × V)} {d : List (Str × D)} (r : RepF K M c H v d) (dx : Dx M H H') : RepF K M c H' v d := r.to fun a o m h => ⟨dx.st a o m h, m⟩
theorem RepK.keep {v : List (Key × V)} {d : List (Key × D)} (r : RepK K M c H v d) (dx : Dx M H H') : RepK K M c H' v d := r.to fun a o m h => ⟨dx.st a o m h, m⟩
theorem Rep.less {v : V} {d : D} (r : Rep K M c H v d) (s : ∀ a, N a → M a) : Rep K N c H v d := r.to fun a o m h => ⟨h, fun z => m (s a z)⟩
theorem Reps.less {v : List V} {d : List D} (r : Reps K M c H v d) (s : ∀ a, N a → M a) : Reps K N c H v d := r.to fun a o m h => ⟨h, fun z => m (s a z)⟩
theorem RepF.less {v : List (Str × V)} {d : List (Str × D)} (r : RepF K M c H v d) (s : ∀ a, N a → M a) : RepF K N c H v d := r.to fun a o m h => ⟨h, fun z => m (s a z)⟩
theorem RepK.less {v : List (Key × V)} {d : List (Key × D)} (r : RepK K M c H v d) (s : ∀ a, N a → M a) : RepK K N c H v d := r.to fun a o m h => ⟨h, fun z => m (s a z)⟩
theorem Reps.length : ∀ {vs : List V} {ds : List D}, Reps K M c H vs ds → vs.length = ds.length
  | _, _, .nil => rfl
  | _, _, .cons _ t => by rw [List.length_cons, List.length_cons, t.length]
theorem Reps.append : ∀ {vs ws : List V} {ds es : List D}, Reps K M c H vs ds → Reps K M c H ws es → Reps K M c H (vs ++ ws) (ds ++ es)
  | _, _, _, _, .nil, s => s
  | _, _, _, _, .cons h t, s => .cons h (t.append s)
theorem Reps.snoc {vs : List V} {ds : List D} {v : V} {d : D} (r : Reps K M c H vs ds) (h : Rep K M c H v d) : Reps K M c H (vs ++ [v]) (ds ++ [d]) := r.append (.cons h .nil)
theorem Reps.get : ∀ {vs : List V} {ds : List D} {i : Nat} {d : D}, Reps K M c H vs ds → ds[i]? = some d → ∃ v, vs[i]? = some v ∧ Rep K M c H v d
  | _, _, _, _, .nil, e => by simp at e
  | _, _, 0, _, .cons h _, e => by simp at e; subst e; exact ⟨_, rfl, h⟩
  | _, _, i + 1, d, .cons _ t, e => by
    obtain ⟨u, h1, h2⟩ := t.get (i := i) (d := d) (by simpa using e)
    exact ⟨u, by simpa using h1, h2⟩
theorem Reps.get' : ∀ {vs : List V} {ds : List D} {i : Nat} {v : V}, Reps K M c H vs ds → vs[i]? = some v → ∃ d, ds[i]? = some d ∧ Rep K M c H v d
  | _, _, _, _, .nil, e => by simp at e
  | _, _, 0, _, .cons h _, e => by simp at e; subst e; exact ⟨_, rfl, h⟩
  | _, _, i + 1, v, .cons _ t, e => by
    obtain ⟨u, h1, h2⟩ := t.get' (i := i) (v := v) (by simpa using e)
    exact ⟨u, by simpa using h1, h2⟩
theorem Reps.take : ∀ {vs : List V} {ds : List D} (n : Nat), Reps K M c H vs ds → Reps K M c H (vs.take n) (ds.take n)
  | _, _, 0, _ => .nil
  | _, _, _ + 1, .nil => .nil
  | _, _, n + 1, .cons r t => .cons r (t.take n)
theorem Reps.drop : ∀ {vs : List V} {ds : List D} (n : Nat), Reps K M c H vs ds → Reps K M c H (vs.drop n) (ds.drop n)
  | _, _, 0, r => r
  | _, _, _ + 1, .nil => .nil
  | _, _, n + 1, .cons _ t => t.drop n
theorem Reps.set {v : V} {d : D} (h : Rep K M c H v d) : ∀ {vs : List V} {ds : List D} (i : Nat), Reps K M c H vs ds → Reps K M c H (vs.set i v) (ds.set i d)
  | _, _, _, .nil => .nil
  | _, _, 0, .cons _ t => .cons h t
  | _, _, i + 1, .cons q t => .cons q (t.set h i)
theorem Reps.reverse : ∀ {vs : List V} {ds : List D}, Reps K M c H vs ds → Reps K M c H vs.reverse ds.reverse
  | _, _, .nil => .nil
  | _, _, .cons h t => by
    rw [List.reverse_cons, List.reverse_cons]
    exact t.reverse.snoc h
theorem RepF.lookup : ∀ {fs : List (Str × V)} {ds : List (Str × D)} {f : Str} {d : D}, RepF K M c H fs ds → ds.lookup f = some d → ∃ v, fs.lookup f = some v ∧ Rep K M c H v d
  | _, _, _, _, .nil, e => by simp at e
  | _, _, f, d, .cons (k := k) h t, e => by
    rw [List.lookup_cons] at e ⊢
    cases q : (f == k) with
    | true => rw [q] at e; cases e; exact ⟨_, rfl, h⟩
    | false => rw [q] at e; exact t.lookup e
theorem RepF.lookup_none : ∀ {fs : List (Str × V)} {ds : List (Str × D)} {f : Str}, RepF K M c H fs ds → ds.lookup f = none → fs.lookup f = none
  | _, _, _, .nil, _ => rfl
  | _, _, f, .cons (k := k) h t, e => by
    rw [List.lookup_cons] at e ⊢
    cases q : (f == k) with
    | true => rw [q] at e; cases e
    | false => rw [q] at e; exact t.lookup_none e
end
/-! ### frames -/
/-- the frame of a def that runs: M0 what the caller may still write; c the store; A what this def may change; H0 the heap at the entry; T the tables -/
structure Fx where
  K : PySem.W.Frag
  M0 : Addr → Prop
  c : Addr
  A : Addr → Prop
  H0 : Hp
  T : List (Addr × Str)
/-- what a slot holds: data; a list, a dict, an instance of the def's own that it still writes; a list or dict that is borrowed: its caller may write it later -/
inductive W where
  | d (x : D) | ol (xs : List D) | od (kvs : List (Key × D)) | oi (C : Addr) (fs : List (Str × D)) | bw (x : D)
abbrev Env3 := List (Option W)
def owned : W → Bool
  | .d _ => false
  | .bw _ => false
  | _ => true
/-- the address may be written by this def -/
structure Own (F : Fx) (M : Addr → Prop) (l : Addr) : Prop where
  m : M l
  c : l ≠ F.c
  a : F.A l ∨ F.H0 l = none
inductive RepW (F : Fx) (M : Addr → Prop) (H : Hp) : V → W → Prop
  | d {v : V} {x : D} (r : Rep F.K M F.c H v x) : RepW F M H v (.d x)
  | ol {l : Addr} {vs : List V} {xs : List D} (o : Own F M l) (n : F.H0 l = none) (h : H l = some (.lst vs)) (r : Reps F.K M F.c H vs xs) : RepW F M H (.ref l) (.ol xs)
  | od {l : Addr} {vs : List (Key × V)} {xs : List (Key × D)} (o : Own F M l) (n : F.H0 l = none) (h : H l = some (.dK vs)) (r : RepK F.K M F.c H vs xs) : RepW F M H (.ref l) (.od xs)
  | oi {l C dx : Addr} {vs : List (Str × V)} {xs : List (Str × D)} (o : Own F M l) (s : F.A l) (h : H l = some (.ins C dx vs)) (r : RepF F.K M F.c H vs xs) : RepW F M H (.ref l) (.oi C xs)
  | bd {v : V} {x : D} (r : Rep F.K M F.c H v x) : RepW F M H v (.bw x)
  | bl {l : Addr} {vs : List V} {xs : List D} (n : ¬ F.A l) (h0 : F.H0 l = some (.lst vs)) (h : H l = some (.lst vs)) (r : Reps F.K M F.c H vs xs) : RepW F M H (.ref l) (.bw (.lst xs))
  | bk {l : Addr} {vs : List (Key × V)} {xs : List (Key × D)} (n : ¬ F.A l) (h0 : F.H0 l = some (.dK vs)) (h : H l = some (.dK vs)) (r : RepK F.K M F.c H vs xs) : RepW F M H (.ref l) (.bw (.dic xs))
/-- the heap's part -/
structure Heq (F : Fx) (M : Addr → Prop) (H : Hp) : Prop where
  ok : Ok M H F.c
  sub : ∀ a, F.M0 a → M a
  al0 : ∀ a, F.M0 a → F.H0 a ≠ none
  new : ∀ a, M a → F.M0 a ∨ F.H0 a = none
  cA : F.A F.c
  c0 : F.M0 F.c
  tA : ∀ p ∈ F.T, F.A p.1 ∧ F.M0 p.1
  dx : Dx F.A F.H0 H
  tab : LamX.Tabs F.T H
structure Rel (F : Fx) (M : Addr → Prop) (Tm : List (V × W)) (S : Env3) (σ : L2.St) (H : Hp) : Prop where
  heq : Heq F M H
  len : S.length = σ.length
  sl : ∀ (i : Nat) (w : W), S[i]? = some (some w) → ∃ v, σ[i]? = some (some v) ∧ RepW F M H v w
  inj : ∀ (i j : Nat) (l : Addr) (w w' : W), S[i]? = some (some w) → S[j]? = some (some w') → owned w = true → owned w' = true → σ[i]? = some (some (.ref l)) → σ[j]? = some (some (.ref l)) → i = j
  tm : ∀ p ∈ Tm, RepW F M H p.1 p.2
section
variable {F : Fx} {M N : Addr → Prop} {H H' : Hp} {v : V} {w : W} {Tm : List (V × W)} {S : Env3} {σ : L2.St}
/-- a step that leaves M's objects as they are but the store and the tables -/
structure Calm (F : Fx) (M : Addr → Prop) (H H' : Hp) : Prop where
  st : ∀ a o, ¬ M a → H a = some o → H' a = some o
  ow : ∀ a o, Own F M a → H a = some o → H' a = some o ∨ ¬ (∀ p ∈ F.T, p.1 ≠ a)
  dm : ∀ a, H' a = none → H a = none
theorem ne_tab {l : Addr} {T : List (Addr × Str)} {o : HO} (t : LamX.Tabs T H) (h : H l = some o) (n : ∀ ps, o ≠ .tbl ps) : ∀ p ∈ T, p.1 ≠ l := fun p hp e => by
  obtain ⟨ps, h1, _⟩ := t p hp
  rw [e, h] at h1
  exact n ps (Option.some.inj h1)
/-- what a call of another def leaves: all but the store and the tables -/
def Ch (F : Fx) : Addr → Prop := fun a => a = F.c ∨ ∃ p ∈ F.T, p.1 = a
theorem RepW.keep (e : Heq F M H) (r : RepW F M H v w) (dx : Dx (Ch F) H H') : RepW F M H' v w := by
  have sub : ∀ a, Ch F a → M a := fun a z => by
    rcases z with z | ⟨p, hp, z⟩
    · rw [z]; exact e.ok.inM
    · rw [← z]; exact e.sub _ (e.tA p hp).2
  have dM : Dx M H H' := dx.mono sub
  have chA : ∀ a, Ch F a → F.A a := fun a z => by
    rcases z with z | ⟨p, hp, z⟩
    · rw [z]; exact e.cA
    · rw [← z]; exact (e.tA p hp).1
  have own : ∀ {l : Addr} {o : HO}, Own F M l → H l = some o → (∀ ps, o ≠ .tbl ps) → H' l = some o := fun {l o} ow h n => dx.st _ _ (fun z => by
    rcases z with z | ⟨p, hp, z⟩
    · exact ow.c z
    · exact ne_tab e.tab h n p hp z) h
  cases r with
  | d r => exact .d (r.keep dM)
  | ol o n h r => exact .ol o n (own o h fun _ z => nomatch z) (r.keep dM)
  | od o n h r => exact .od o n (own o h fun _ z => nomatch z) (r.keep dM)
  | oi o s h r => exact .oi o s (own o h fun _ z => nomatch z) (r.keep dM)
  | bd r => exact .bd (r.keep dM)
  | bl n h0 h r => exact .bl n h0 (dx.st _ _ (fun z => n (chA _ z)) h) (r.keep dM)
  | bk n h0 h r => exact .bk n h0 (dx.st _ _ (fun z => n (chA _ z)) h) (r.keep dM)
theorem Heq.sub_ch (e : Heq F M H) : ∀ a, Ch F a → M a := fun a z => by
  rcases z with z | ⟨p, hp, z⟩
  · rw [z]; exact e.ok.inM
  · rw [← z]; exact e.sub _ (e.tA p hp).2
theorem Heq.ch_A (e : Heq F M H) : ∀ a, Ch F a → F.A a := fun a z => by
  rcases z with z | ⟨p, hp, z⟩
  · rw [z]; exact e.cA
  · rw [← z]; exact (e.tA p hp).1
theorem Heq.next (e : Heq F M H) (dx : Dx (Ch F) H H') (ok : Ok M H' F.c) (tab : LamX.Tabs F.T H') : Heq F M H' :=
  ⟨ok, e.sub, e.al0, e.new, e.cA, e.c0, e.tA, e.dx.trans (dx.mono e.ch_A), tab⟩
/-- behind a call -/
theorem Rel.next (R : Rel F M Tm S σ H) (dx : Dx (Ch F) H H') (ok : Ok M H' F.c) (tab : LamX.Tabs F.T H') : Rel F M Tm S σ H' :=
  ⟨R.heq.next dx ok tab, R.len, fun i w h => by
    obtain ⟨v, h1, h2⟩ := R.sl i w h
    exact ⟨v, h1, h2.keep R.heq dx⟩, R.inj, fun p hp => (R.tm p hp).keep R.heq dx⟩
theorem Rel.push (R : Rel F M Tm S σ H) (r : RepW F M H v w) : Rel F M ((v, w) :: Tm) S σ H :=
  ⟨R.heq, R.len, R.sl, R.inj, fun p hp => by
    rcases List.mem_cons.mp hp with e | e
    · rw [e]; exact r
    · exact R.tm p e⟩
theorem Rel.pop (R : Rel F M ((v, w) :: Tm) S σ H) : Rel F M Tm S σ H ∧ RepW F M H v w :=
  ⟨⟨R.heq, R.len, R.sl, R.inj, fun p hp => R.tm p (List.mem_cons_of_mem _ hp)⟩, R.tm (v, w) List.mem_cons_self⟩
theorem Rel.with (R : Rel F M Tm S σ H) (Tm' : List (V × W)) (h : ∀ p ∈ Tm', RepW F M H p.1 p.2) : Rel F M Tm' S σ H := ⟨R.heq, R.len, R.sl, R.inj, h⟩
/-- a new object that nothing bears -/
theorem Rel.new {l : Addr} {o : HO} (R : Rel F M Tm S σ H) (h : H l = none) : Rel F M Tm S σ (upd H l o) :=
  R.next (Dx.new h) (R.heq.ok.new h) (R.heq.tab.ext fun b u q => stands q h)
/-- .. it joins M -/
theorem Rep.add {K : PySem.W.Frag} {c l : Addr} {d : D} (r : Rep K M c H v d) (h : H l = none) : Rep K (Add M l) c H v d := r.to fun a o m q => ⟨q, fun z => by
  rcases z with z | z
  · rw [z, h] at q; cases q
  · exact m z⟩
theorem Reps.add {K : PySem.W.Frag} {c l : Addr} {vs : List V} {d : List D} (r : Reps K M c H vs d) (h : H l = none) : Reps K (Add M l) c H vs d := r.to fun a o m q => ⟨q, fun z => by
  rcases z with z | z
  · rw [z, h] at q; cases q
  · exact m z⟩
theorem RepK.add {K : PySem.W.Frag} {c l : Addr} {vs : List (Key × V)} {d : List (Key × D)} (r : RepK K M c H vs d) (h : H l = none) : RepK K (Add M l) c H vs d := r.to fun a o m q => ⟨q, fun z => by
  rcases z with z | z
  · rw [z, h] at q; cases q
  · exact m z⟩
theorem RepF.add {K : PySem.W.Frag} {c l : Addr} {vs : List (Str × V)} {d : List (Str × D)} (r : RepF K M c H vs d) (h : H l = none) : RepF K (Add M l) c H vs d := r.to fun a o m q => ⟨q, fun z => by
  rcases z with z | z
  · rw [z, h] at q; cases q
  · exact m z⟩
theorem Own.add {l : Addr} {k : Addr} (o : Own F M l) : Own F (Add M k) l := ⟨.inr o.m, o.c, o.a⟩
theorem RepW.add {l : Addr} (r : RepW F M H v w) (h : H l = none) : RepW F (Add M l) H v w := by
  cases r with
  | d r => exact .d (r.add h)
  | ol o n e r => exact .ol o.add n e (r.add h)
  | od o n e r => exact .od o.add n e (r.add h)
  | oi o s e r => exact .oi o.add s e (r.add h)
  | bd r => exact .bd (r.add h)
  | bl n h0 e r => exact .bl n h0 e (r.add h)
  | bk n h0 e r => exact .bk n h0 e (r.add h)
theorem Rel.add {l : Addr} {o : HO} (R : Rel F M Tm S σ H) (h : H l = none) : Rel F (Add M l) Tm S σ (upd H l o) := by
  have dx : Dx (Ch F) H (upd H l o) := Dx.new h
  have h0 : F.H0 l = none := R.heq.dx.dm l h
  have e : Heq F (Add M l) (upd H l o) := ⟨R.heq.ok.add h, fun a z => .inr (R.heq.sub a z), R.heq.al0, fun a z => by
    rcases z with z | z
    · rw [z]; exact .inr h0
    · exact R.heq.new a z, R.heq.cA, R.heq.c0, R.heq.tA, R.heq.dx.trans (Dx.new h), R.heq.tab.ext fun b u q => stands q h⟩
  have st : ∀ a u, ¬ Add M l a → H a = some u → upd H l o a = some u ∧ ¬ Add M l a := fun a u m q => ⟨stands q h, m⟩
  have up : ∀ {v : V} {w : W}, RepW F M H v w → RepW F (Add M l) (upd H l o) v w := fun {v w} r => by
    cases r with
    | d r => exact .d ((r.add h).to st)
    | ol ow n e r => exact .ol ow.add n (stands e h) ((r.add h).to st)
    | od ow n e r => exact .od ow.add n (stands e h) ((r.add h).to st)
    | oi ow s e r => exact .oi ow.add s (stands e h) ((r.add h).to st)
    | bd r => exact .bd ((r.add h).to st)
    | bl n h0 e r => exact .bl n h0 (stands e h) ((r.add h).to st)
    | bk n h0 e r => exact .bk n h0 (stands e h) ((r.add h).to st)
  exact ⟨e, R.len, fun i w q => by
    obtain ⟨v, h1, h2⟩ := R.sl i w q
    exact ⟨v, h1, up h2⟩, R.inj, fun p hp => up (R.tm p hp)⟩
end
end Q
/-! R3b: readings over data: expressions, tests, arguments. -/
namespace Q
open PySem PySem.Spec PyProof.Rows L2
abbrev XP := Addr → List (Str × D) → Prop
abbrev X3 := Env3 → XP
abbrev T3 := Env3 → (W → Prop) → X3 → Prop
abbrev B3 := Env3 → (Bool → Prop) → X3 → Prop
abbrev A3 := Env3 → (List W → Prop) → X3 → Prop
inductive RepWs (F : Fx) (M : Addr → Prop) (H : Hp) : List V → List W → Prop
  | nil : RepWs F M H [] []
  | cons {v : V} {w : W} {vs : List V} {ws : List W} (h : RepW F M H v w) (t : RepWs F M H vs ws) : RepWs F M H (v :: vs) (w :: ws)
/-- an exception that leaves: what is wanted of it -/
def LiftX (F : Fx) (Tm : List (V × W)) (X : X3) (EE : L2.St → XK) : Prop := ∀ (M : Addr → Prop) (Tm' : List (V × W)) (S : Env3) (σ : L2.St) (H : Hp) (C d : Addr) (fs : List (Str × V)) (ds : List (Str × D)),
  (∀ p ∈ Tm, p ∈ Tm') → Rel F M Tm' S σ H → ¬ M d → H d = some (.xd fs) → RepF F.K M F.c H fs ds → X S C ds → EE σ (.ref C) (some d) H
theorem LiftX.push {F : Fx} {Tm : List (V × W)} {X : X3} {EE : L2.St → XK} (l : LiftX F Tm X EE) (p : V × W) : LiftX F (p :: Tm) X EE :=
  fun M Tm' S σ H C d fs ds h => l M Tm' S σ H C d fs ds fun q hq => h q (List.mem_cons_of_mem _ hq)
structure E3 (F : Fx) (EE : L2.St → XK) (te : TE) (t : T3) : Prop where
  run : ∀ (M : Addr → Prop) (Tm : List (V × W)) (S : Env3) (σ : L2.St) (H : Hp) (Qv : VK) (Q3 : W → Prop) (X : X3), Rel F M Tm S σ H → t S Q3 X → (∀ v w H', Rel F M Tm S σ H' → RepW F M H' v w → Q3 w → Qv v H') → LiftX F Tm X EE → te σ H Qv
structure TT3 (F : Fx) (EE : L2.St → XK) (te : TT) (t : B3) : Prop where
  run : ∀ (M : Addr → Prop) (Tm : List (V × W)) (S : Env3) (σ : L2.St) (H : Hp) (Qv : Bool → Hp → Prop) (Q3 : Bool → Prop) (X : X3), Rel F M Tm S σ H → t S Q3 X → (∀ b H', Rel F M Tm S σ H' → Q3 b → Qv b H') → LiftX F Tm X EE → te σ H Qv
structure AR3 (F : Fx) (EE : L2.St → XK) (te : TA) (t : A3) : Prop where
  run : ∀ (M : Addr → Prop) (Tm : List (V × W)) (S : Env3) (σ : L2.St) (H : Hp) (Qv : List V → Hp → Prop) (Q3 : List W → Prop) (X : X3), Rel F M Tm S σ H → t S Q3 X → (∀ vs ws H', Rel F M Tm S σ H' → RepWs F M H' vs ws → Q3 ws → Qv vs H') → LiftX F Tm X EE → te σ H Qv
/-- what an owned thing is, once it is no longer written -/
def frz : W → D
  | .d x => x
  | .ol xs => .lst xs
  | .od kvs => .dic kvs
  | .oi C fs => .obj C fs
  | .bw x => x
theorem RepW.frz {F : Fx} {M : Addr → Prop} {l : Addr} {w : W} {H : Hp} (r : RepW F (Add M l) H (.ref l) w) (n : ¬ M l) : Rep F.K M F.c H (.ref l) (frz w) := by
  cases r with
  | d r => exact r.less fun a z => .inr z
  | ol o _ h r => exact .lst n h (r.less fun a z => .inr z)
  | od o _ h r => exact .dic n h (r.less fun a z => .inr z)
  | oi o _ h r => exact .obj n h (r.less fun a z => .inr z)
  | bd r => exact r.less fun a z => .inr z
  | bl _ _ h r => exact .lst n h (r.less fun a z => .inr z)
  | bk _ _ h r => exact .dic n h (r.less fun a z => .inr z)
/-- an expression whose value is a new object that nothing else bears -/
structure FE3 (F : Fx) (EE : L2.St → XK) (te : TE) (t : T3) : Prop where
  run : ∀ (M : Addr → Prop) (Tm : List (V × W)) (S : Env3) (σ : L2.St) (H : Hp) (Qv : VK) (Q3 : W → Prop) (X : X3), Rel F M Tm S σ H → t S Q3 X →
    (∀ l w H', Rel F M Tm S σ H' → Rel F (Add M l) Tm S σ H' → ¬ M l → owned w = true → RepW F (Add M l) H' (.ref l) w → Q3 w → Qv (.ref l) H') → LiftX F Tm X EE → te σ H Qv
section
variable {F : Fx} {EE : L2.St → XK} {te ta tb tc : TE} {t a b c : T3} {tt tu : TT} {p q : B3} {tas : TA} {as : A3}
def x_frz (t : T3) : T3 := fun S Q X => t S (fun w => Q (.d (frz w))) X
theorem e3_fresh (h : FE3 F EE te t) : E3 F EE te (x_frz t) := ⟨fun M Tm S σ H Qv Q3 X R h0 k lx => h.run M Tm S σ H Qv _ X R h0 (fun l w H' R1 R2 n ow r q => k _ _ H' R1 (.d (r.frz n)) q) lx⟩
def x_var (i : Nat) : T3 := fun S Q _ => match S[i]? with
  | some (some w) => Q w
  | _ => False
theorem e3_var {i : Nat} : E3 F EE (tVar i) (x_var i) := ⟨fun M Tm S σ H Qv Q3 X R h k _ => by
  unfold x_var at h
  split at h
  · rename_i w e
    obtain ⟨v, h1, h2⟩ := R.sl i w e
    exact ⟨v, h1, k v w H R h2 h⟩
  · exact h.elim⟩
def cD : V → D
  | .non => .non
  | .bl b => .bl b
  | .int i => .int i
  | .str x => .str x
  | v => .val v
theorem rep_c {K : PySem.W.Frag} {M : Addr → Prop} {c : Addr} {H : Hp} (v : V) : Rep K M c H v (cD v) := by
  cases v with
  | non => exact .non
  | bl b => exact .bl b
  | int i => exact .int i
  | str x => exact .str x
  | _ => exact .val _
def x_c (v : V) : T3 := fun _ Q _ => Q (.d (cD v))
theorem e3_c {v : V} : E3 F EE (tC v) (x_c v) := ⟨fun M Tm S σ H Qv Q3 X R h k _ => k v _ H R (.d (rep_c v)) h⟩
/-- operators by values -/
abbrev Op3 := W → W → (W → Prop) → Prop
def O3 (F : Fx) (r : R2) (o : Op3) : Prop := ∀ (M : Addr → Prop) (Tm : List (V × W)) (S : Env3) (σ : L2.St) (H : Hp) (x y : V) (wx wy : W) (Qv : VK) (Q3 : W → Prop), Rel F M Tm S σ H → RepW F M H x wx → RepW F M H y wy → o wx wy Q3 →
  (∀ v w H', Rel F M Tm S σ H' → RepW F M H' v w → Q3 w → Qv v H') → r x y H Qv
def x_op (o : Op3) (a b : T3) : T3 := fun S Q X => a S (fun w => b S (fun w' => o w w' Q) X) X
theorem e3_op {r : R2} {o : Op3} (ho : O3 F r o) (ha : E3 F EE ta a) (hb : E3 F EE tb b) : E3 F EE (tOp r ta tb) (x_op o a b) :=
  ⟨fun M Tm S σ H Qv Q3 X R h k lx => ha.run M Tm S σ H _ _ X R h (fun v w H1 R1 r1 q1 => hb.run M ((v, w) :: Tm) S σ H1 _ _ X (R1.push r1) q1 (fun u w' H2 R2 r2 q2 => by
    obtain ⟨R3, r1'⟩ := R2.pop
    exact ho M Tm S σ H2 v u w w' _ Q3 R3 r1' r2 q2 k) (lx.push _)) lx⟩
def U3 (F : Fx) (r : V → Hp → VK → Prop) (o : W → (W → Prop) → Prop) : Prop := ∀ (M : Addr → Prop) (Tm : List (V × W)) (S : Env3) (σ : L2.St) (H : Hp) (x : V) (wx : W) (Qv : VK) (Q3 : W → Prop), Rel F M Tm S σ H → RepW F M H x wx → o wx Q3 →
  (∀ v w H', Rel F M Tm S σ H' → RepW F M H' v w → Q3 w → Qv v H') → r x H Qv
def x_un (o : W → (W → Prop) → Prop) (a : T3) : T3 := fun S Q X => a S (fun w => o w Q) X
theorem e3_un {r : V → Hp → VK → Prop} {o : W → (W → Prop) → Prop} (ho : U3 F r o) (ha : E3 F EE ta a) : E3 F EE (tUn r ta) (x_un o a) :=
  ⟨fun M Tm S σ H Qv Q3 X R h k lx => ha.run M Tm S σ H _ _ X R h (fun v w H1 R1 r1 q1 => ho M Tm S σ H1 v w _ Q3 R1 r1 q1 k) lx⟩
/-! tests -/
def asB (w : W) (Q : Bool → Prop) : Prop := match w with
  | .d (.bl b) => Q b
  | _ => False
theorem asB_get {M : Addr → Prop} {H : Hp} {v : V} {w : W} {Q : Bool → Prop} (r : RepW F M H v w) (h : asB w Q) : ∃ b, v = .bl b ∧ Q b := by
  cases r with
  | d r =>
    cases r with
    | bl b => exact ⟨b, rfl, h⟩
    | _ => exact h.elim
  | _ => exact h.elim
def x_b (t : T3) : B3 := fun S Q X => t S (fun w => asB w Q) X
theorem t3_b (h : E3 F EE te t) : TT3 F EE (tB te) (x_b t) := ⟨fun M Tm S σ H Qv Q3 X R h0 k lx => h.run M Tm S σ H _ _ X R h0 (fun v w H1 R1 r1 q1 => by
  obtain ⟨b, e, q⟩ := asB_get r1 q1
  exact ⟨b, e, k b H1 R1 q⟩) lx⟩
theorem t3_test (h : E3 F EE te t) : TT3 F EE (tTest te) (x_b t) := ⟨fun M Tm S σ H Qv Q3 X R h0 k lx => h.run M Tm S σ H _ _ X R h0 (fun v w H1 R1 r1 q1 => by
  obtain ⟨b, e, q⟩ := asB_get r1 q1
  exact ⟨b, e, k b H1 R1 q⟩) lx⟩
def x_and (p q : B3) : B3 := fun S Q X => p S (fun b => (b = true → q S Q X) ∧ (b = false → Q false)) X
def x_or (p q : B3) : B3 := fun S Q X => p S (fun b => (b = true → Q true) ∧ (b = false → q S Q X)) X
def x_not (p : B3) : B3 := fun S Q X => p S (fun b => Q (!b)) X
theorem t3_and (hp : TT3 F EE tt p) (hq : TT3 F EE tu q) : TT3 F EE (tAnd tt tu) (x_and p q) := ⟨fun M Tm S σ H Qv Q3 X R h k lx => hp.run M Tm S σ H _ _ X R h (fun b H1 R1 q1 => by
  cases b with
  | true => exact go_t (hq.run M Tm S σ H1 _ _ X R1 (q1.1 rfl) k lx)
  | false => exact go_f (k _ _ R1 (q1.2 rfl))) lx⟩
theorem t3_or (hp : TT3 F EE tt p) (hq : TT3 F EE tu q) : TT3 F EE (tOr tt tu) (x_or p q) := ⟨fun M Tm S σ H Qv Q3 X R h k lx => hp.run M Tm S σ H _ _ X R h (fun b H1 R1 q1 => by
  cases b with
  | true => exact go_t (k _ _ R1 (q1.1 rfl))
  | false => exact go_f (hq.run M Tm S σ H1 _ _ X R1 (q1.2 rfl) k lx)) lx⟩
theorem t3_not (hp : TT3 F EE tt p) : TT3 F EE (tNot tt) (x_not p) := ⟨fun M Tm S σ H Qv Q3 X R h k lx => hp.run M Tm S σ H _ _ X R h (fun b H1 R1 q1 => k _ H1 R1 q1) lx⟩
def x_yes : B3 := fun _ Q _ => Q true
theorem t3_yes : TT3 F EE tYes x_yes := ⟨fun M Tm S σ H Qv Q3 X R h k lx => k true H R h⟩
def x_if (p : B3) (a b : T3) : T3 := fun S Q X => p S (fun k => (k = true → a S Q X) ∧ (k = false → b S Q X)) X
def x_andV (a b : T3) : T3 := fun S Q X => a S (fun w => asB w fun k => (k = true → b S Q X) ∧ (k = false → Q (.d (.bl false)))) X
def x_orV (a b : T3) : T3 := fun S Q X => a S (fun w => asB w fun k => (k = true → Q (.d (.bl true))) ∧ (k = false → b S Q X)) X
def x_notV (a : T3) : T3 := fun S Q X => a S (fun w => asB w fun k => Q (.d (.bl (!k)))) X
theorem e3_andV (ha : E3 F EE ta a) (hb : E3 F EE tb b) : E3 F EE (tAndV ta tb) (x_andV a b) := ⟨fun M Tm S σ H Qv Q3 X R h k lx => ha.run M Tm S σ H _ _ X R h (fun v w H1 R1 r1 q1 => by
  obtain ⟨c, e, q⟩ := asB_get r1 q1
  refine ⟨c, e, ?_⟩
  cases c with
  | true => exact go_t (hb.run M Tm S σ H1 _ _ X R1 (q.1 rfl) k lx)
  | false => exact go_f (k _ _ _ R1 (.d (.bl _)) (q.2 rfl))) lx⟩
theorem e3_notV (ha : E3 F EE ta a) : E3 F EE (tNotV ta) (x_notV a) := ⟨fun M Tm S σ H Qv Q3 X R h k lx => ha.run M Tm S σ H _ _ X R h (fun v w H1 R1 r1 q1 => by
  obtain ⟨c, e, q⟩ := asB_get r1 q1
  exact ⟨c, e, k _ _ _ R1 (.d (.bl _)) q⟩) lx⟩
/-- a chain of two comparisons -/
def x_chain (o o' : Op3) (a b c : T3) : T3 := fun S Q X => a S (fun w => b S (fun w' => o w w' fun z => asB z fun k => (k = true → c S (fun w2 => o' w' w2 Q) X) ∧ (k = false → Q (.d (.bl false)))) X) X
theorem e3_chain {r r' : R2} {o o' : Op3} (ho : O3 F r o) (ho' : O3 F r' o') (ha : E3 F EE ta a) (hb : E3 F EE tb b) (hc : E3 F EE tc c) : E3 F EE (tChain r r' ta tb tc) (x_chain o o' a b c) :=
  ⟨fun M Tm S σ H Qv Q3 X R h k lx => ha.run M Tm S σ H _ _ X R h (fun v w H1 R1 r1 q1 => hb.run M ((v, w) :: Tm) S σ H1 _ _ X (R1.push r1) q1 (fun u w' H2 R2 r2 q2 => by
    obtain ⟨R3, r1'⟩ := R2.pop
    refine ho M ((u, w') :: Tm) S σ H2 v u w w' _ _ (R3.push r2) r1' r2 q2 fun z wz H3 R4 r3 q3 => ?_
    obtain ⟨k1, e, q4⟩ := asB_get r3 q3
    obtain ⟨R5, r2'⟩ := R4.pop
    refine ⟨k1, e, ?_⟩
    cases k1 with
    | true =>
      refine go_t (hc.run M ((u, w') :: Tm) S σ H3 _ _ X R4 (q4.1 rfl) (fun u2 w2 H4 R6 r6 q6 => ?_) (lx.push _))
      obtain ⟨R7, r7⟩ := R6.pop
      exact ho' M Tm S σ H4 u u2 w' w2 _ Q3 R7 r7 r6 q6 k
    | false => exact go_f (k _ _ _ R5 (.d (.bl _)) (q4.2 rfl))) (lx.push _)) lx⟩
/-! arguments -/
def x_nil : A3 := fun _ Q _ => Q []
def x_cons (a : T3) (as : A3) : A3 := fun S Q X => a S (fun w => as S (fun ws => Q (w :: ws)) X) X
theorem a3_nil : AR3 F EE tNil x_nil := ⟨fun M Tm S σ H Qv Q3 X R h k lx => k [] [] H R .nil h⟩
theorem a3_cons (ha : E3 F EE ta a) (hs : AR3 F EE tas as) : AR3 F EE (tCons ta tas) (x_cons a as) := ⟨fun M Tm S σ H Qv Q3 X R h k lx => ha.run M Tm S σ H _ _ X R h (fun v w H1 R1 r1 q1 => hs.run M ((v, w) :: Tm) S σ H1 _ _ X (R1.push r1) q1 (fun vs ws H2 R2 r2 q2 => by
  obtain ⟨R3, r1'⟩ := R2.pop
  exact k _ _ H2 R3 (.cons r1' r2) q2) (lx.push _)) lx⟩
/-- all of them data -/
def allD : List W → (List D → Prop) → Prop
  | [], Q => Q []
  | .d x :: ws, Q => allD ws fun ds => Q (x :: ds)
  | _ :: _, _ => False
theorem allD_get {M : Addr → Prop} {H : Hp} : ∀ {ws : List W} {vs : List V} {Q : List D → Prop}, RepWs F M H vs ws → allD ws Q → ∃ ds, Reps F.K M F.c H vs ds ∧ Q ds
  | _, _, _, .nil, h => ⟨[], .nil, h⟩
  | _, _, Q, .cons (.d r) t, h => by
    obtain ⟨ds, h1, h2⟩ := allD_get (Q := fun ds => Q (_ :: ds)) t h
    exact ⟨_ :: ds, .cons r h1, h2⟩
  | _, _, _, .cons (.ol _ _ _ _) _, h => h.elim
  | _, _, _, .cons (.od _ _ _ _) _, h => h.elim
  | _, _, _, .cons (.oi _ _ _ _) _, h => h.elim
  | _, _, _, .cons (.bd _) _, h => h.elim
  | _, _, _, .cons (.bl _ _ _ _) _, h => h.elim
  | _, _, _, .cons (.bk _ _ _ _) _, h => h.elim
/-- displays -/
def x_tup (as : A3) : T3 := fun S Q X => as S (fun ws => allD ws fun ds => ds.length ≤ 100000 ∧ Q (.d (.tup ds))) X
theorem e3_tup (h : AR3 F EE tas as) : E3 F EE (tTup tas) (x_tup as) := ⟨fun M Tm S σ H Qv Q3 X R h0 k lx => h.run M Tm S σ H _ _ X R h0 (fun vs ws H1 R1 r1 q1 => by
  obtain ⟨ds, rd, hl, q⟩ := allD_get r1 q1
  refine ⟨by rw [rd.length]; exact size_ok hl, fun l hl => k _ _ _ (R1.new hl) (.d (.tup (R1.heq.ok.notM hl) upd_same (rd.keep (Dx.new hl)))) q⟩) lx⟩
def x_lst (as : A3) : T3 := fun S Q X => as S (fun ws => allD ws fun ds => ds.length ≤ 100000 ∧ Q (.ol ds)) X
/-- a new list at l over H1 -/
theorem new_ol {M : Addr → Prop} {Tm : List (V × W)} {S : Env3} {σ : L2.St} {H1 : Hp} {vs : List V} {ds : List D} {Qv : VK} {Q3 : W → Prop} (R1 : Rel F M Tm S σ H1) (rd : Reps F.K M F.c H1 vs ds) (q : Q3 (.ol ds))
    (k : ∀ l w H', Rel F M Tm S σ H' → Rel F (Add M l) Tm S σ H' → ¬ M l → owned w = true → RepW F (Add M l) H' (.ref l) w → Q3 w → Qv (.ref l) H') : ∀ l, H1 l = none → Qv (.ref l) (upd H1 l (.lst vs)) := fun l hl =>
  k l _ _ (R1.new hl) (R1.add hl) (R1.heq.ok.notM hl) rfl (.ol ⟨.inl rfl, R1.heq.ok.ne_new hl, .inr (R1.heq.dx.dm l hl)⟩ (R1.heq.dx.dm l hl) upd_same ((rd.add hl).to fun a o m h => ⟨stands h hl, m⟩)) q
theorem new_od {M : Addr → Prop} {Tm : List (V × W)} {S : Env3} {σ : L2.St} {H1 : Hp} {vs : List (Key × V)} {ds : List (Key × D)} {Qv : VK} {Q3 : W → Prop} (R1 : Rel F M Tm S σ H1) (rd : RepK F.K M F.c H1 vs ds) (q : Q3 (.od ds))
    (k : ∀ l w H', Rel F M Tm S σ H' → Rel F (Add M l) Tm S σ H' → ¬ M l → owned w = true → RepW F (Add M l) H' (.ref l) w → Q3 w → Qv (.ref l) H') : ∀ l, H1 l = none → Qv (.ref l) (upd H1 l (.dK vs)) := fun l hl =>
  k l _ _ (R1.new hl) (R1.add hl) (R1.heq.ok.notM hl) rfl (.od ⟨.inl rfl, R1.heq.ok.ne_new hl, .inr (R1.heq.dx.dm l hl)⟩ (R1.heq.dx.dm l hl) upd_same ((rd.add hl).to fun a o m h => ⟨stands h hl, m⟩)) q
theorem f3_lst (h : AR3 F EE tas as) : FE3 F EE (tLst tas) (x_lst as) := ⟨fun M Tm S σ H Qv Q3 X R h0 k lx => h.run M Tm S σ H _ _ X R h0 (fun vs ws H1 R1 r1 q1 => by
  obtain ⟨ds, rd, hl, q⟩ := allD_get r1 q1
  exact ⟨by rw [rd.length]; exact size_ok hl, new_ol R1 rd q k⟩) lx⟩
def x_dnew : T3 := fun _ Q _ => Q (.od [])
theorem f3_dnew : FE3 F EE tDNewK x_dnew := ⟨fun M Tm S σ H Qv Q3 X R h0 k lx => new_od R .nil h0 k⟩
/-- built-in calls by values -/
abbrev Cb3 := List W → (W → Prop) → Prop
def C3 (F : Fx) (r : List V → Hp → VK → Prop) (o : Cb3) : Prop := ∀ (M : Addr → Prop) (Tm : List (V × W)) (S : Env3) (σ : L2.St) (H : Hp) (vs : List V) (ws : List W) (Qv : VK) (Q3 : W → Prop), Rel F M Tm S σ H → RepWs F M H vs ws → o ws Q3 →
  (∀ v w H', Rel F M Tm S σ H' → RepW F M H' v w → Q3 w → Qv v H') → r vs H Qv
def x_cb (o : Cb3) (as : A3) : T3 := fun S Q X => as S (fun ws => o ws Q) X
theorem e3_cb {r : List V → Hp → VK → Prop} {o : Cb3} (ho : C3 F r o) (h : AR3 F EE tas as) : E3 F EE (tCB r tas) (x_cb o as) := ⟨fun M Tm S σ H Qv Q3 X R h0 k lx => h.run M Tm S σ H _ _ X R h0 (fun vs ws H1 R1 r1 q1 => ho M Tm S σ H1 vs ws _ Q3 R1 r1 q1 k) lx⟩
def FC3 (F : Fx) (r : List V → Hp → VK → Prop) (o : Cb3) : Prop := ∀ (M : Addr → Prop) (Tm : List (V × W)) (S : Env3) (σ : L2.St) (H : Hp) (vs : List V) (ws : List W) (Qv : VK) (Q3 : W → Prop), Rel F M Tm S σ H → RepWs F M H vs ws → o ws Q3 →
  (∀ l w H', Rel F M Tm S σ H' → Rel F (Add M l) Tm S σ H' → ¬ M l → owned w = true → RepW F (Add M l) H' (.ref l) w → Q3 w → Qv (.ref l) H') → r vs H Qv
theorem f3_cb {r : List V → Hp → VK → Prop} {o : Cb3} (ho : FC3 F r o) (h : AR3 F EE tas as) : FE3 F EE (tCB r tas) (x_cb o as) := ⟨fun M Tm S σ H Qv Q3 X R h0 k lx => h.run M Tm S σ H _ _ X R h0 (fun vs ws H1 R1 r1 q1 => ho M Tm S σ H1 vs ws _ Q3 R1 r1 q1 k) lx⟩
def FO3 (F : Fx) (r : R2) (o : Op3) : Prop := ∀ (M : Addr → Prop) (Tm : List (V × W)) (S : Env3) (σ : L2.St) (H : Hp) (x y : V) (wx wy : W) (Qv : VK) (Q3 : W → Prop), Rel F M Tm S σ H → RepW F M H x wx → RepW F M H y wy → o wx wy Q3 →
  (∀ l w H', Rel F M Tm S σ H' → Rel F (Add M l) Tm S σ H' → ¬ M l → owned w = true → RepW F (Add M l) H' (.ref l) w → Q3 w → Qv (.ref l) H') → r x y H Qv
/-- methods of built-in types by values: the object, the arguments -/
abbrev M3 := W → List W → (W → Prop) → Prop
def MB3 (F : Fx) (K : PySem.W.Frag) (T : String) (r : V → List V → Hp → VK → Prop) (o : M3) : Prop := ∀ (M : Addr → Prop) (Tm : List (V × W)) (S : Env3) (σ : L2.St) (H : Hp) (x : V) (wx : W) (vs : List V) (ws : List W) (Qv : VK) (Q3 : W → Prop), Rel F M Tm S σ H → RepW F M H x wx → RepWs F M H vs ws → o wx ws Q3 →
  (∀ v w H', Rel F M Tm S σ H' → RepW F M H' v w → Q3 w → Qv v H') → r x vs H Qv
end
end Q
/-! R3c: readings over data: statements, loops, comprehensions. -/
namespace Q
open PySem PySem.Spec PyProof.Rows L2
structure Ends3 where
  nx : Env3 → Prop
  rt : W → Prop
  bk : Env3 → Prop := fun _ => False
  ct : Env3 → Prop := fun _ => False
abbrev TS3 := Env3 → Ends3 → X3 → Prop
/-- the heap at the end of a def -/
structure Fin3 (F : Fx) (H : Hp) : Prop where
  dx : Dx F.A F.H0 H
  ok : Ok F.M0 H F.c
  tab : LamX.Tabs F.T H
inductive RetW (F : Fx) (H : Hp) : V → W → Prop
  | d {v : V} {x : D} (r : Rep F.K F.M0 F.c H v x) : RetW F H v (.d x)
  | ol {l : Addr} {vs : List V} {xs : List D} (n : F.H0 l = none) (ok : Ok (Add F.M0 l) H F.c) (h : H l = some (.lst vs)) (r : Reps F.K (Add F.M0 l) F.c H vs xs) : RetW F H (.ref l) (.ol xs)
  | od {l : Addr} {vs : List (Key × V)} {xs : List (Key × D)} (n : F.H0 l = none) (ok : Ok (Add F.M0 l) H F.c) (h : H l = some (.dK vs)) (r : RepK F.K (Add F.M0 l) F.c H vs xs) : RetW F H (.ref l) (.od xs)
structure LiftE (F : Fx) (Tm : List (V × W)) (E : Ends3) (D : Ends) : Prop where
  nx : ∀ M S σ H, Rel F M Tm S σ H → E.nx S → D.nx σ H
  rt : ∀ v w H, Fin3 F H → RetW F H v w → E.rt w → D.rt v H
  bk : ∀ M S σ H, Rel F M Tm S σ H → E.bk S → D.bk σ H
  ct : ∀ M S σ H, Rel F M Tm S σ H → E.ct S → D.ct σ H
def TmD (Tm : List (V × W)) : Prop := ∀ p ∈ Tm, owned p.2 = false
structure S3 (F : Fx) (EE : L2.St → XK) (ts : TS) (t : TS3) : Prop where
  run : ∀ (M : Addr → Prop) (Tm : List (V × W)) (S : Env3) (σ : L2.St) (H : Hp) (D : Ends) (E : Ends3) (X : X3), TmD Tm → Rel F M Tm S σ H → t S E X → LiftE F Tm E D → LiftX F Tm X EE → ts D σ H
section
variable {F : Fx} {M : Addr → Prop} {Tm : List (V × W)} {S : Env3} {σ : L2.St} {H H' : Hp} {v : V} {w w' : W} {x : D} {i : Nat} {l : Addr} {o : HO}
theorem Rel.fin (R : Rel F M Tm S σ H) : Fin3 F H := ⟨R.heq.dx, R.heq.ok.less R.heq.c0 R.heq.sub, R.heq.tab⟩
/-- what is returned: data, or a new object -/
theorem Rel.ret (R : Rel F M Tm S σ H) (r : RepW F M H v w) (hi : ∀ C fs, w ≠ .oi C fs) (hb : ∀ x, w ≠ .bw x) : RetW F H v w := by
  have sub : ∀ {l : Addr}, Own F M l → ∀ a, Add F.M0 l a → M a := fun {l} ow a z => by
    rcases z with z | z
    · rw [z]; exact ow.m
    · exact R.heq.sub a z
  cases r with
  | d r => exact .d (r.less R.heq.sub)
  | ol ow n h r => exact .ol n (R.heq.ok.less (.inr R.heq.c0) (sub ow)) h (r.less (sub ow))
  | od ow n h r => exact .od n (R.heq.ok.less (.inr R.heq.c0) (sub ow)) h (r.less (sub ow))
  | oi ow _ h r => exact absurd rfl (hi _ _)
  | bd _ => exact absurd rfl (hb _)
  | bl _ _ _ _ => exact absurd rfl (hb _)
  | bk _ _ _ _ => exact absurd rfl (hb _)
theorem set_get {α : Type} {S : List α} {i j : Nat} {a b : α} (h : (S.set i a)[j]? = some b) : (i = j ∧ b = a ∧ i < S.length) ∨ (i ≠ j ∧ S[j]? = some b) := by
  by_cases e : i = j
  · subst e
    by_cases hl : i < S.length
    · rw [List.getElem?_set_self hl] at h
      exact .inl ⟨rfl, (Option.some.inj h).symm, hl⟩
    · rw [List.getElem?_eq_none (by rw [List.length_set]; omega)] at h
      cases h
  · rw [List.getElem?_set_ne e] at h
    exact .inr ⟨e, h⟩
/-- a slot gets data -/
theorem Rel.set (R : Rel F M Tm S σ H) (r : Rep F.K M F.c H v x) : Rel F M Tm (S.set i (some (.d x))) (σ.set i (some v)) H := by
  refine ⟨R.heq, by rw [List.length_set, List.length_set]; exact R.len, fun j w h => ?_, fun j k l w w' h1 h2 o1 o2 s1 s2 => ?_, R.tm⟩
  · rcases set_get h with ⟨e, e2, hl⟩ | ⟨e, h⟩
    · subst e
      cases e2
      exact ⟨v, List.getElem?_set_self (by rw [← R.len]; exact hl), .d r⟩
    · obtain ⟨u, h1, h2⟩ := R.sl j w h
      exact ⟨u, by rw [List.getElem?_set_ne e]; exact h1, h2⟩
  · rcases set_get h1 with ⟨_, e2, _⟩ | ⟨e, h1⟩
    · cases e2
      cases o1
    · rcases set_get h2 with ⟨_, e2, _⟩ | ⟨e', h2⟩
      · cases e2
        cases o2
      · rw [List.getElem?_set_ne e] at s1
        rw [List.getElem?_set_ne e'] at s2
        exact R.inj j k l w w' h1 h2 o1 o2 s1 s2
theorem Rel.unset (R : Rel F M Tm S σ H) : Rel F M Tm (S.set i none) (σ.set i none) H := by
  refine ⟨R.heq, by rw [List.length_set, List.length_set]; exact R.len, fun j w h => ?_, fun j k l w w' h1 h2 o1 o2 s1 s2 => ?_, R.tm⟩
  · rcases set_get h with ⟨e, e2, hl⟩ | ⟨e, h⟩
    · cases e2
    · obtain ⟨u, h1, h2⟩ := R.sl j w h
      exact ⟨u, by rw [List.getElem?_set_ne e]; exact h1, h2⟩
  · rcases set_get h1 with ⟨_, e2, _⟩ | ⟨e, h1⟩
    · cases e2
    · rcases set_get h2 with ⟨_, e2, _⟩ | ⟨e', h2⟩
      · cases e2
      · rw [List.getElem?_set_ne e] at s1
        rw [List.getElem?_set_ne e'] at s2
        exact R.inj j k l w w' h1 h2 o1 o2 s1 s2
theorem RepW.own_m {l : Addr} (r : RepW F M H (.ref l) w) (o : owned w = true) : M l := by
  cases r with
  | d r => cases o
  | ol ow _ _ _ => exact ow.m
  | od ow _ _ _ => exact ow.m
  | oi ow _ _ _ => exact ow.m
  | bd _ => cases o
  | bl _ _ _ _ => cases o
  | bk _ _ _ _ => cases o
theorem RepW.own_at {l : Addr} (r : RepW F M H (.ref l) w) (o : owned w = true) : Own F M l ∧ ∃ u, H l = some u ∧ (∀ ps, u ≠ .tbl ps) ∧ ∀ c q, u ≠ LamX.CodeO c q := by
  cases r with
  | d r => cases o
  | ol ow _ h _ => exact ⟨ow, _, h, (fun _ z => nomatch z), fun c q z => by unfold LamX.CodeO at z; cases z⟩
  | od ow _ h _ => exact ⟨ow, _, h, (fun _ z => nomatch z), fun c q z => by unfold LamX.CodeO at z; cases z⟩
  | oi ow _ h _ => exact ⟨ow, _, h, (fun _ z => nomatch z), fun c q z => by unfold LamX.CodeO at z; cases z⟩
  | bd _ => cases o
  | bl _ _ _ _ => cases o
  | bk _ _ _ _ => cases o
/-- a slot gets a new object of its own -/
theorem Rel.setO (R0 : Rel F M Tm S σ H) (R : Rel F (Add M l) Tm S σ H) (n : ¬ M l) (o : owned w = true) (r : RepW F (Add M l) H (.ref l) w) : Rel F (Add M l) Tm (S.set i (some w)) (σ.set i (some (.ref l))) H := by
  have no : ∀ (j : Nat) (w' : W), S[j]? = some (some w') → owned w' = true → σ[j]? ≠ some (some (.ref l)) := fun j w' h1 h2 h3 => by
    obtain ⟨u, e1, e2⟩ := R0.sl j w' h1
    rw [h3] at e1
    cases e1
    exact n (e2.own_m h2)
  refine ⟨R.heq, by rw [List.length_set, List.length_set]; exact R.len, fun j w2 h => ?_, fun j k l2 w1 w2 h1 h2 o1 o2 s1 s2 => ?_, R.tm⟩
  · rcases set_get h with ⟨e, e2, hl⟩ | ⟨e, h⟩
    · subst e
      cases e2
      exact ⟨_, List.getElem?_set_self (by rw [← R.len]; exact hl), r⟩
    · obtain ⟨u, h1, h2⟩ := R.sl j w2 h
      exact ⟨u, by rw [List.getElem?_set_ne e]; exact h1, h2⟩
  · rcases set_get h1 with ⟨e, _, hl⟩ | ⟨e, h1⟩
    · rcases set_get h2 with ⟨e', _, _⟩ | ⟨e', h2⟩
      · exact e.symm.trans e'
      · subst e
        rw [List.getElem?_set_self (by rw [← R.len]; exact hl)] at s1
        cases s1
        rw [List.getElem?_set_ne e'] at s2
        exact absurd s2 (no k w2 h2 o2)
    · rcases set_get h2 with ⟨e', _, hl⟩ | ⟨e', h2⟩
      · subst e'
        rw [List.getElem?_set_self (by rw [← R.len]; exact hl)] at s2
        cases s2
        rw [List.getElem?_set_ne e] at s1
        exact absurd s1 (no j w1 h1 o1)
      · rw [List.getElem?_set_ne e] at s1
        rw [List.getElem?_set_ne e'] at s2
        exact R.inj j k l2 w1 w2 h1 h2 o1 o2 s1 s2
theorem tabs_mut {T : List (Addr × Str)} {u : HO} (t : LamX.Tabs T H) (hl : H l = some u) (n1 : ∀ ps, u ≠ .tbl ps) (n2 : ∀ c q, u ≠ LamX.CodeO c q) : LamX.Tabs T (upd H l o) := fun p hp => by
  obtain ⟨ps, h1, h2, h3⟩ := t p hp
  have e1 : p.1 ≠ l := fun e => by
    rw [e, hl] at h1
    exact n1 ps (Option.some.inj h1)
  refine ⟨ps, by rw [upd_ne e1]; exact h1, h2, fun pos cv hc => ?_⟩
  obtain ⟨c, e, h⟩ := h3 pos cv hc
  refine ⟨c, e, ?_⟩
  have e2 : c ≠ l := fun e => by
    rw [e, hl] at h
    exact n2 _ _ (Option.some.inj h)
  rw [upd_ne e2]
  exact h
theorem Heq.mut {u : HO} (e : Heq F M H) (ow : Own F M l) (hl : H l = some u) (n1 : ∀ ps, u ≠ .tbl ps) (n2 : ∀ c q, u ≠ LamX.CodeO c q) : Heq F M (upd H l o) :=
  ⟨e.ok.mut ow.m ow.c, e.sub, e.al0, e.new, e.cA, e.c0, e.tA, by
    rcases ow.a with z | z
    · exact e.dx.trans (Dx.mut z)
    · exact e.dx.own z, tabs_mut e.tab hl n1 n2⟩
theorem Rep.mut (r : Rep F.K M F.c H v x) (m : M l) : Rep F.K M F.c (upd H l o) v x := r.keep (Dx.mut m)
theorem RepW.mut (r : RepW F M H v w) (ow0 : Own F M l) (h : owned w = true → v ≠ .ref l) : RepW F M (upd H l o) v w := by
  have m := ow0.m
  have ne : ∀ {k : Addr} {u : HO}, ¬ F.A k → F.H0 k = some u → k ≠ l := fun {k u} n e z => by
    rcases ow0.a with q | q
    · exact n (by rw [z]; exact q)
    · rw [z, q] at e; cases e
  cases r with
  | d r => exact .d (r.mut m)
  | ol ow n e r => exact .ol ow n (by rw [upd_ne (fun z => h rfl (by rw [z]))]; exact e) (r.keep (Dx.mut m))
  | od ow n e r => exact .od ow n (by rw [upd_ne (fun z => h rfl (by rw [z]))]; exact e) (r.keep (Dx.mut m))
  | oi ow s e r => exact .oi ow s (by rw [upd_ne (fun z => h rfl (by rw [z]))]; exact e) (r.keep (Dx.mut m))
  | bd r => exact .bd (r.mut m)
  | bl n h0 e r => exact .bl n h0 (by rw [upd_ne (ne n h0)]; exact e) (r.keep (Dx.mut m))
  | bk n h0 e r => exact .bk n h0 (by rw [upd_ne (ne n h0)]; exact e) (r.keep (Dx.mut m))
/-- an object that no slot owns is written (a comprehension's list) -/
theorem Rel.mutX (R : Rel F M Tm S σ H) (r : RepW F M H (.ref l) w) (o1 : owned w = true) (ns : ∀ (j : Nat) (w' : W), S[j]? = some (some w') → owned w' = true → σ[j]? ≠ some (some (.ref l))) (nt : ∀ p ∈ Tm, owned p.2 = true → p.1 ≠ .ref l) : Rel F M Tm S σ (upd H l o) := by
  obtain ⟨ow, u, hl, n1, n2⟩ := r.own_at o1
  exact ⟨R.heq.mut ow hl n1 n2, R.len, fun j w' h => by
    obtain ⟨v, h1, h2⟩ := R.sl j w' h
    exact ⟨v, h1, h2.mut ow fun q z => ns j w' h q (by rw [← z]; exact h1)⟩, R.inj, fun p hp => (R.tm p hp).mut ow (nt p hp)⟩
/-- the object of slot i is written -/
theorem Rel.mut (R : Rel F M Tm S σ H) (td : TmD Tm) (hi : S[i]? = some (some w)) (o1 : owned w = true) (hs : σ[i]? = some (some (.ref l))) (o2 : owned w' = true) (r : RepW F M (upd H l o) (.ref l) w') : Rel F M Tm (S.set i (some w')) σ (upd H l o) := by
  obtain ⟨v, e1, r0⟩ := R.sl i w hi
  rw [hs] at e1
  cases e1
  obtain ⟨ow, u, hl, n1, n2⟩ := r0.own_at o1
  refine ⟨R.heq.mut ow hl n1 n2, by rw [List.length_set]; exact R.len, fun j w2 h => ?_, fun j k l2 w1 w2 h1 h2 p1 p2 s1 s2 => ?_, fun p hp => (R.tm p hp).mut ow fun q => by rw [td p hp] at q; cases q⟩
  · rcases set_get h with ⟨e, e2, _⟩ | ⟨e, h⟩
    · subst e
      cases e2
      exact ⟨_, hs, r⟩
    · obtain ⟨v, h1, h2⟩ := R.sl j w2 h
      exact ⟨v, h1, h2.mut ow fun q z => e (R.inj i j l w w2 hi h o1 q hs (by rw [← z]; exact h1))⟩
  · have old : ∀ {j : Nat} {w1 : W}, (S.set i (some w'))[j]? = some (some w1) → owned w1 = true → ∃ w0, S[j]? = some (some w0) ∧ owned w0 = true := fun {j w1} h q => by
      rcases set_get h with ⟨e, e2, _⟩ | ⟨e, h⟩
      · subst e
        exact ⟨w, hi, o1⟩
      · exact ⟨w1, h, q⟩
    obtain ⟨a, a1, a2⟩ := old h1 p1
    obtain ⟨b, b1, b2⟩ := old h2 p2
    exact R.inj j k l2 a b a1 b1 a2 b2 s1 s2
/-- back to a smaller M -/
theorem Rel.unadd (R : Rel F (Add M l) Tm S σ H) (R0 : Heq F M H) (ns : ∀ (j : Nat) (w' : W), S[j]? = some (some w') → owned w' = true → σ[j]? ≠ some (some (.ref l))) (nt : ∀ p ∈ Tm, owned p.2 = true → p.1 ≠ .ref l) : Rel F M Tm S σ H := by
  have dn : ∀ {v : V} {w : W}, RepW F (Add M l) H v w → (owned w = true → v ≠ .ref l) → RepW F M H v w := fun {v w} r h => by
    have lo : ∀ {k : Addr}, Own F (Add M l) k → k ≠ l → Own F M k := fun {k} o n => ⟨o.m.resolve_left n, o.c, o.a⟩
    cases r with
    | d r => exact .d (r.less fun a z => .inr z)
    | ol ow n e r => exact .ol (lo ow fun z => h rfl (by rw [z])) n e (r.less fun a z => .inr z)
    | od ow n e r => exact .od (lo ow fun z => h rfl (by rw [z])) n e (r.less fun a z => .inr z)
    | oi ow s e r => exact .oi (lo ow fun z => h rfl (by rw [z])) s e (r.less fun a z => .inr z)
    | bd r => exact .bd (r.less fun a z => .inr z)
    | bl n h0 e r => exact .bl n h0 e (r.less fun a z => .inr z)
    | bk n h0 e r => exact .bk n h0 e (r.less fun a z => .inr z)
  exact ⟨R0, R.len, fun j w' h => by
    obtain ⟨v, h1, h2⟩ := R.sl j w' h
    exact ⟨v, h1, dn h2 fun q z => ns j w' h q (by rw [← z]; exact h1)⟩, R.inj, fun p hp => dn (R.tm p hp) (nt p hp)⟩
/-- an owned thing is written no more -/
theorem Rel.frz (R : Rel F M Tm S σ H) (td : TmD Tm) (hi : S[i]? = some (some w)) (o1 : owned w = true) (ni : ∀ C fs, w ≠ .oi C fs) : ∃ M', Rel F M' Tm (S.set i (some (.d (frz w)))) σ H := by
  obtain ⟨v, hs, r0⟩ := R.sl i w hi
  have hv : ∃ l, v = .ref l ∧ F.H0 l = none := by
    cases r0 with
    | d r => cases o1
    | ol _ n _ _ => exact ⟨_, rfl, n⟩
    | od _ n _ _ => exact ⟨_, rfl, n⟩
    | oi _ _ _ _ => exact absurd rfl (ni _ _)
    | bd _ => cases o1
    | bl _ _ _ _ => cases o1
    | bk _ _ _ _ => cases o1
  obtain ⟨l, rfl, n0⟩ := hv
  obtain ⟨ow, u, hl, n1, n2⟩ := r0.own_at o1
  have nM0 : ¬ F.M0 l := fun z => R.heq.al0 l z n0
  have sub : ∀ a, (M a ∧ a ≠ l) → M a := fun a z => z.1
  have hq : Heq F (fun a => M a ∧ a ≠ l) H := ⟨R.heq.ok.less ⟨R.heq.ok.inM, Ne.symm ow.c⟩ sub, fun a z => ⟨R.heq.sub a z, fun e => nM0 (by rw [← e]; exact z)⟩, R.heq.al0, fun a z => R.heq.new a z.1, R.heq.cA, R.heq.c0, R.heq.tA, R.heq.dx, R.heq.tab⟩
  have dn : ∀ {v : V} {w : W}, RepW F M H v w → (owned w = true → v ≠ .ref l) → RepW F (fun a => M a ∧ a ≠ l) H v w := fun {v w} r h => by
    have lo : ∀ {k : Addr}, Own F M k → k ≠ l → Own F (fun a => M a ∧ a ≠ l) k := fun {k} o n => ⟨⟨o.m, n⟩, o.c, o.a⟩
    cases r with
    | d r => exact .d (r.less sub)
    | ol ow n e r => exact .ol (lo ow fun z => h rfl (by rw [z])) n e (r.less sub)
    | od ow n e r => exact .od (lo ow fun z => h rfl (by rw [z])) n e (r.less sub)
    | oi ow s e r => exact .oi (lo ow fun z => h rfl (by rw [z])) s e (r.less sub)
    | bd r => exact .bd (r.less sub)
    | bl n h0 e r => exact .bl n h0 e (r.less sub)
    | bk n h0 e r => exact .bk n h0 e (r.less sub)
  have rf : Rep F.K (fun a => M a ∧ a ≠ l) F.c H (.ref l) (Q.frz w) := by
    cases r0 with
    | d r => cases o1
    | ol ow n h r => exact .lst (fun z => z.2 rfl) h (r.less sub)
    | od ow n h r => exact .dic (fun z => z.2 rfl) h (r.less sub)
    | oi ow _ h r => exact absurd rfl (ni _ _)
    | bd _ => cases o1
    | bl _ _ _ _ => cases o1
    | bk _ _ _ _ => cases o1
  refine ⟨_, hq, by rw [List.length_set]; exact R.len, fun j w2 h => ?_, fun j k l2 w1 w2 h1 h2 p1 p2 s1 s2 => ?_, fun p hp => dn (R.tm p hp) fun q => by rw [td p hp] at q; cases q⟩
  · rcases set_get h with ⟨e, e2, _⟩ | ⟨e, h⟩
    · subst e
      cases e2
      exact ⟨_, hs, .d rf⟩
    · obtain ⟨v, h1, h2⟩ := R.sl j w2 h
      exact ⟨v, h1, dn h2 fun q z => e (R.inj i j l w w2 hi h o1 q hs (by rw [← z]; exact h1))⟩
  · rcases set_get h1 with ⟨_, e2, _⟩ | ⟨_, h1⟩
    · cases e2
      cases p1
    · rcases set_get h2 with ⟨_, e2, _⟩ | ⟨_, h2⟩
      · cases e2
        cases p2
      · exact R.inj j k l2 w1 w2 h1 h2 p1 p2 s1 s2
end
/-! ### statements -/
section
variable {F : Fx} {EE : L2.St → XK} {te ta : TE} {t a : T3} {tt : TT} {p : B3} {s1 s2 : TS} {u1 u2 : TS3} {i : Nat}
theorem LiftE.with {Tm : List (V × W)} {E : Ends3} {D : Ends} {n : Env3 → Prop} {nx : L2.St → Hp → Prop} (l : LiftE F Tm E D) (h : ∀ M S σ H, Rel F M Tm S σ H → n S → nx σ H) : LiftE F Tm { E with nx := n } { D with nx := nx } := ⟨h, l.rt, l.bk, l.ct⟩
def x_next : TS3 := fun S E _ => E.nx S
theorem s3_next : S3 F EE tNext x_next := ⟨fun M Tm S σ H D E X td R h l lx => l.nx M S σ H R h⟩
def x_seq (u1 u2 : TS3) : TS3 := fun S E X => u1 S { E with nx := fun S' => u2 S' E X } X
theorem s3_seq (h1 : S3 F EE s1 u1) (h2 : S3 F EE s2 u2) : S3 F EE (tSeq s1 s2) (x_seq u1 u2) := ⟨fun M Tm S σ H D E X td R h l lx => h1.run M Tm S σ H { D with nx := s2 D } { E with nx := fun S' => u2 S' E X } X td R h (l.with fun M' S' σ' H' R' h' => h2.run M' Tm S' σ' H' D E X td R' h' l lx) lx⟩
def x_ifS (p : B3) (u1 u2 : TS3) : TS3 := fun S E X => p S (fun k => (k = true → u1 S E X) ∧ (k = false → u2 S E X)) X
theorem s3_if (hp : TT3 F EE tt p) (h1 : S3 F EE s1 u1) (h2 : S3 F EE s2 u2) : S3 F EE (tIfS tt s1 s2) (x_ifS p u1 u2) := ⟨fun M Tm S σ H D E X td R h l lx => hp.run M Tm S σ H _ _ X R h (fun b H1 R1 q => by
  cases b with
  | true => exact go_t (h1.run M Tm S σ H1 D E X td R1 (q.1 rfl) l lx)
  | false => exact go_f (h2.run M Tm S σ H1 D E X td R1 (q.2 rfl) l lx)) lx⟩
/-- what must be data -/
def asD (w : W) (Q : D → Prop) : Prop := match w with
  | .d x => Q x
  | _ => False
theorem asD_get {M : Addr → Prop} {H : Hp} {v : V} {w : W} {Q : D → Prop} (r : RepW F M H v w) (h : asD w Q) : ∃ x, w = .d x ∧ Rep F.K M F.c H v x ∧ Q x := by
  cases r with
  | d r => exact ⟨_, rfl, r, h⟩
  | _ => exact h.elim
/-- targets -/
abbrev G3T := D → Env3 → (Env3 → Prop) → Prop
structure G3 (F : Fx) (g : TG) (t : G3T) : Prop where
  run : ∀ (M : Addr → Prop) (Tm : List (V × W)) (S : Env3) (σ : L2.St) (H : Hp) (v : V) (x : D) (R : L2.St → Hp → Prop) (R3 : Env3 → Prop), Rel F M Tm S σ H → Rep F.K M F.c H v x → t x S R3 → (∀ S' σ', Rel F M Tm S' σ' H → R3 S' → R σ' H) → g v σ H R
def x_gname (i : Nat) : G3T := fun x S R => R (S.set i (some (.d x)))
theorem g3_name : G3 F (gName i) (x_gname i) := ⟨fun M Tm S σ H v x R R3 r0 r h k => k _ _ (r0.set r) h⟩
abbrev G3Ts := List D → Env3 → (Env3 → Prop) → Prop
structure G3s (F : Fx) (g : TGs) (t : G3Ts) : Prop where
  run : ∀ (M : Addr → Prop) (Tm : List (V × W)) (S : Env3) (σ : L2.St) (H : Hp) (vs : List V) (xs : List D) (R : L2.St → Hp → Prop) (R3 : Env3 → Prop), Rel F M Tm S σ H → Reps F.K M F.c H vs xs → t xs S R3 → (∀ S' σ', Rel F M Tm S' σ' H → R3 S' → R σ' H) → g vs σ H R
def x_gnil : G3Ts := fun xs S R => xs = [] ∧ R S
def x_gcons (t : G3T) (u : G3Ts) : G3Ts := fun xs S R => match xs with
  | x :: r => t x S fun S' => u r S' R
  | [] => False
theorem g3_nil : G3s F gNil x_gnil := ⟨fun M Tm S σ H vs xs R R3 r0 r h k => by
  obtain ⟨e, h⟩ := h
  subst e
  cases r
  exact ⟨rfl, k _ _ r0 h⟩⟩
theorem g3_cons {g : TG} {gs : TGs} {t : G3T} {u : G3Ts} (h1 : G3 F g t) (h2 : G3s F gs u) : G3s F (gCons g gs) (x_gcons t u) := ⟨fun M Tm S σ H vs xs R R3 r0 r h k => by
  cases r with
  | nil => exact h.elim
  | cons hr ht => exact ⟨_, _, rfl, h1.run M Tm S σ H _ _ _ _ r0 hr h fun S' σ' R' q => h2.run M Tm S' σ' H _ _ R R3 R' ht q k⟩⟩
def x_gtup (n : Nat) (t : G3Ts) : G3T := fun x S R => match x with
  | .tup xs => xs.length = n ∧ t xs S R
  | _ => False
def x_set (t : T3) (g : G3T) : TS3 := fun S E X => t S (fun w => asD w fun x => g x S E.nx) X
theorem s3_set {g : TG} {g3 : G3T} (h : E3 F EE te t) (hg : G3 F g g3) : S3 F EE (tAsg te g) (x_set t g3) := ⟨fun M Tm S σ H D E X td R h0 l lx => h.run M Tm S σ H _ _ X R h0 (fun v w H1 R1 r1 q => by
  obtain ⟨x, e, r, q⟩ := asD_get r1 q
  exact hg.run M Tm S σ H1 v x _ _ R1 r q fun S' σ' R' q' => l.nx M S' σ' H1 R' q') lx⟩
/-- a new object of the def's own in slot i -/
def x_own (i : Nat) (t : T3) : TS3 := fun S E X => t S (fun w => E.nx (S.set i (some w))) X
theorem s3_own (h : FE3 F EE te t) : S3 F EE (tAsg te (gName i)) (x_own i t) := ⟨fun M Tm S σ H D E X td R h0 l lx => h.run M Tm S σ H _ _ X R h0 (fun a w H1 R0 R1 n o r q => l.nx _ _ _ H1 (R0.setO R1 n o r) q) lx⟩
/-- an owned thing is frozen (nothing happens) -/
def x_frzS (i : Nat) (u : TS3) : TS3 := fun S E X => match S[i]? with
  | some (some (.ol xs)) => u (S.set i (some (.d (.lst xs)))) E X
  | some (some (.od xs)) => u (S.set i (some (.d (.dic xs)))) E X
  | _ => u S E X
theorem s3_frz (h : S3 F EE s1 u1) : S3 F EE s1 (x_frzS i u1) := ⟨fun M Tm S σ H D E X td R h0 l lx => by
  unfold x_frzS at h0
  split at h0
  · rename_i xs e
    obtain ⟨M', R'⟩ := R.frz td e rfl fun _ _ z => nomatch z
    exact h.run M' Tm _ σ H D E X td R' h0 l lx
  · rename_i xs e
    obtain ⟨M', R'⟩ := R.frz td e rfl fun _ _ z => nomatch z
    exact h.run M' Tm _ σ H D E X td R' h0 l lx
  · exact h.run M Tm _ σ H D E X td R h0 l lx⟩
def notI (w : W) : Prop := match w with
  | .oi _ _ => False
  | .bw _ => False
  | _ => True
def x_ret (t : T3) : TS3 := fun S E X => t S (fun w => notI w ∧ E.rt w) X
theorem s3_ret (h : E3 F EE te t) : S3 F EE (tRet te) (x_ret t) := ⟨fun M Tm S σ H D E X td R h0 l lx => h.run M Tm S σ H _ _ X R h0 (fun v w H1 R1 r1 q => l.rt v w H1 R1.fin (R1.ret r1 (fun C fs z => by rw [z] at q; exact q.1) fun x z => by rw [z] at q; exact q.1) q.2) lx⟩
theorem s3_retF (h : FE3 F EE te t) : S3 F EE (tRet te) (x_ret t) := ⟨fun M Tm S σ H D E X td R h0 l lx => h.run M Tm S σ H _ _ X R h0 (fun a w H1 R0 R1 n o r q => l.rt _ w H1 R0.fin (R1.ret r (fun C fs z => by rw [z] at q; exact q.1) fun x z => by rw [z] at q; exact q.1) q.2) lx⟩
def x_retN : TS3 := fun _ E _ => E.rt (.d .non)
def x_drop (t : T3) : TS3 := fun S E X => t S (fun _ => E.nx S) X
theorem s3_drop (h : E3 F EE te t) : S3 F EE (tDrop te) (x_drop t) := ⟨fun M Tm S σ H D E X td R h0 l lx => h.run M Tm S σ H _ _ X R h0 (fun v w H1 R1 r1 q => l.nx M S σ H1 R1 q) lx⟩
def x_brk : TS3 := fun S E _ => E.bk S
def x_ct : TS3 := fun S E _ => E.ct S
def x_never : TS3 := fun _ _ _ => False
theorem s3_never : S3 F EE tNever x_never := ⟨fun M Tm S σ H D E X td R h l lx => h.elim⟩
/-- xs.append(e) -/
def x_app (i : Nat) (t : T3) : TS3 := fun S E X => match S[i]? with
  | some (some (.ol xs)) => t S (fun w => asD w fun x => xs.length < 100000 ∧ E.nx (S.set i (some (.ol (xs ++ [x]))))) X
  | _ => False
theorem s3_app (h : E3 F EE te t) : S3 F EE (tDrop (tBM F.K "list" rAppend (tVar i) (tCons te tNil))) (x_app i t) := ⟨fun M Tm S σ H D E X td R h0 l lx => by
  unfold x_app at h0
  split at h0
  · rename_i xs e
    obtain ⟨v, h1, r0⟩ := R.sl i _ e
    cases r0 with
    | @ol a vs _ ow n hl r =>
      refine ⟨_, h1, ty_lst (SqL.of hl), ?_⟩
      refine h.run M Tm S σ H _ _ X R h0 (fun y w H1 R1 r1 q => ?_) lx
      obtain ⟨x, ex, rx, q1, q2⟩ := asD_get r1 q
      obtain ⟨v', h1', r0'⟩ := R1.sl i _ e
      rw [h1] at h1'
      cases h1'
      cases r0' with
      | @ol a vs _ ow n hl r =>
        refine ⟨a, vs, y, rfl, rfl, hl, by rw [r.length]; exact size_lt q1, l.nx M _ σ _ (R1.mut td e rfl h1 rfl (.ol ow n upd_same ((r.snoc rx).keep (Dx.mut ow.m)))) q2⟩
  · exact h0.elim⟩
/-- x.clear() -/
def x_clear (i : Nat) : TS3 := fun S E _ => match S[i]? with
  | some (some (.ol _)) => E.nx (S.set i (some (.ol [])))
  | _ => False
def aI (w : W) (Q : Int → Prop) : Prop := match w with
  | .d (.int i) => Q i
  | _ => False
theorem aI_get {M : Addr → Prop} {H : Hp} {v : V} {w : W} {Q : Int → Prop} (r : RepW F M H v w) (h : aI w Q) : ∃ i, v = .int i ∧ Q i := by
  cases r with
  | d r =>
    cases r with
    | int i => exact ⟨i, rfl, h⟩
    | _ => exact h.elim
  | _ => exact h.elim
/-- xs[k] = e -/
def x_setL (i : Nat) (te ti : T3) : TS3 := fun S E X => te S (fun w => asD w fun x => match S[i]? with
  | some (some (.ol xs)) => ti S (fun wi => aI wi fun k => ∃ j, ixN xs.length k = some j ∧ E.nx (S.set i (some (.ol (xs.set j x))))) X
  | _ => False) X
theorem s3_setL {ti : TE} {t2 : T3} (h : E3 F EE te t) (h2 : E3 F EE ti t2) : S3 F EE (tAsg te (gSub (tVar i) ti rSetL)) (x_setL i t t2) := ⟨fun M Tm S σ H D E X td R h0 l lx => h.run M Tm S σ H _ _ X R h0 (fun y w H1 R1 r1 q => by
  obtain ⟨x, ex, rx, q⟩ := asD_get r1 q
  subst ex
  split at q
  · rename_i xs e
    obtain ⟨v, h1, r0⟩ := R1.sl i _ e
    cases r0 with
    | @ol a vs _ ow n hl r =>
      refine ⟨_, h1, h2.run M ((y, .d x) :: Tm) S σ H1 _ _ X (R1.push r1) q (fun u wi H2 R2 r2 q2 => ?_) (lx.push _)⟩
      obtain ⟨k, ek, j, hj, q3⟩ := aI_get r2 q2
      subst ek
      obtain ⟨R3, rx3⟩ := R2.pop
      obtain ⟨v', h1', r0'⟩ := R3.sl i _ e
      rw [h1] at h1'
      cases h1'
      cases rx3 with
      | d rx3 =>
      cases r0' with
      | @ol a vs _ ow n hl r =>
        exact ⟨a, vs, k, j, rfl, rfl, hl, by rw [r.length]; exact hj, l.nx M _ σ _ (R3.mut td e rfl h1 rfl (.ol ow n upd_same ((r.set rx3 j).keep (Dx.mut ow.m)))) q3⟩
  · exact q.elim) lx⟩
end
end Q
/-! R3d: readings over data: loops, comprehensions, stores. -/
namespace Q
open PySem PySem.Spec PyProof.Rows L2
/-- J walks the data ds, which p holds -/
structure It3 (F : Fx) (J : It) (p : V × W) (ds : List D) : Prop where
  go : ∀ (M : Addr → Prop) (H : Hp) (i : Nat) (d : D), RepW F M H p.1 p.2 → ds[i]? = some d → J.go i H ∧ ∀ x H', J.yld i H x H' → H' = H ∧ Rep F.K M F.c H x d
  stop : ∀ (M : Addr → Prop) (H : Hp) (i : Nat), RepW F M H p.1 p.2 → ds.length ≤ i → J.stop i H
abbrev I3T := Env3 → (List D → Prop) → X3 → Prop
structure I3 (F : Fx) (EE : L2.St → XK) (wi : TI) (t : I3T) : Prop where
  run : ∀ (M : Addr → Prop) (Tm : List (V × W)) (S : Env3) (σ : L2.St) (H : Hp) (R : It → Hp → Prop) (Q3 : List D → Prop) (X : X3), Rel F M Tm S σ H → t S Q3 X → (∀ J p ds H', Rel F M (p :: Tm) S σ H' → It3 F J p ds → owned p.2 = false → Q3 ds → R J H') → LiftX F Tm X EE → wi σ H R
section
variable {F : Fx} {EE : L2.St → XK} {te : TE} {t : T3}
theorem it_list {a : Addr} {ds : List D} : It3 F (Itl F.K a) (.ref a, .d (.lst ds)) ds := ⟨fun M H i d r e => by
  cases r with
  | d r =>
    cases r with
    | lst m h r =>
      obtain ⟨v, h1, h2⟩ := r.get e
      exact ⟨⟨_, v, SqL.of h, h1⟩, fun x H' ⟨e1, y⟩ => ⟨e1, by
        have := y _ (SqL.of h)
        rw [h1] at this
        cases this
        exact h2⟩⟩, fun M H i r e => by
  cases r with
  | d r =>
    cases r with
    | lst m h r => exact ⟨_, SqL.of h, by rw [r.length]; exact e⟩⟩
theorem it_tup {a : Addr} {ds : List D} : It3 F (Itt F.K a) (.ref a, .d (.tup ds)) ds := ⟨fun M H i d r e => by
  have key : ∀ vs, SqT F.K H a vs → Reps F.K M F.c H vs ds → (Itt F.K a).go i H ∧ ∀ x H', (Itt F.K a).yld i H x H' → H' = H ∧ Rep F.K M F.c H x d := fun vs h r => by
    obtain ⟨v, h1, h2⟩ := r.get e
    exact ⟨⟨_, v, h, h1⟩, fun x H' ⟨e1, y⟩ => ⟨e1, by
      have := y _ h
      rw [h1] at this
      cases this
      exact h2⟩⟩
  cases r with
  | d r =>
    cases r with
    | tup m h r => exact key _ (SqT.of h) r
    | kt h r => exact key _ (.inr h) r, fun M H i r e => by
  cases r with
  | d r =>
    cases r with
    | tup m h r => exact ⟨_, SqT.of h, by rw [r.length]; exact e⟩
    | kt h r => exact ⟨_, .inr h, by rw [r.length]; exact e⟩⟩
/-- a list of data that is walked -/
def asL (w : W) (Q : List D → Prop) : Prop := match w with
  | .d (.lst ds) => Q ds
  | _ => False
def x_iL (t : T3) : I3T := fun S Q X => t S (fun w => asL w Q) X
theorem it_listB {a : Addr} {ds : List D} : It3 F (Itl F.K a) (.ref a, .bw (.lst ds)) ds := ⟨fun M H i d r e => by
  have key : ∀ {vs : List V}, H a = some (.lst vs) → Reps F.K M F.c H vs ds → (Itl F.K a).go i H ∧ ∀ x H', (Itl F.K a).yld i H x H' → H' = H ∧ Rep F.K M F.c H x d := fun {vs} h r => by
    obtain ⟨v, h1, h2⟩ := r.get e
    exact ⟨⟨_, v, SqL.of h, h1⟩, fun x H' ⟨e1, y⟩ => ⟨e1, by
      have := y _ (SqL.of h)
      rw [h1] at this
      cases this
      exact h2⟩⟩
  cases r with
  | bd r =>
    cases r with
    | lst m h r => exact key h r
  | bl n h0 h r => exact key h r, fun M H i r e => by
  cases r with
  | bd r =>
    cases r with
    | lst m h r => exact ⟨_, SqL.of h, by rw [r.length]; exact e⟩
  | bl n h0 h r => exact ⟨_, SqL.of h, by rw [r.length]; exact e⟩⟩
theorem it_tupB {a : Addr} {ds : List D} : It3 F (Itt F.K a) (.ref a, .bw (.tup ds)) ds := ⟨fun M H i d r e => by
  cases r with
  | bd r => exact it_tup.go M H i d (.d r) e, fun M H i r e => by
  cases r with
  | bd r => exact it_tup.stop M H i (.d r) e⟩
def asQ (w : W) (Q : List D → Prop) : Prop := match w with
  | .d (.lst ds) => Q ds
  | .d (.tup ds) => Q ds
  | .bw (.lst ds) => Q ds
  | .bw (.tup ds) => Q ds
  | _ => False
def x_iQ (t : T3) : I3T := fun S Q X => t S (fun w => asQ w Q) X
theorem i3_seq (h : E3 F EE te t) : I3 F EE (iSeq F.K te) (x_iQ t) := ⟨fun M Tm S σ H R Q3 X R0 h0 k lx => h.run M Tm S σ H _ _ X R0 h0 (fun v w H1 R1 r q => by
  cases r with
  | d r =>
    cases r with
    | lst m hl r => exact ⟨_, rfl, .inl ⟨⟨_, SqL.of hl⟩, k _ _ _ H1 (R1.push (.d (.lst m hl r))) it_list rfl q⟩⟩
    | tup m hl r => exact ⟨_, rfl, .inr ⟨⟨_, SqT.of hl⟩, k _ _ _ H1 (R1.push (.d (.tup m hl r))) it_tup rfl q⟩⟩
    | kt hl r => exact ⟨_, rfl, .inr ⟨⟨_, .inr hl⟩, k _ _ _ H1 (R1.push (.d (.kt hl r))) it_tup rfl q⟩⟩
    | _ => exact q.elim
  | bd r =>
    cases r with
    | lst m hl r => exact ⟨_, rfl, .inl ⟨⟨_, SqL.of hl⟩, k _ _ _ H1 (R1.push (.bd (.lst m hl r))) it_listB rfl q⟩⟩
    | tup m hl r => exact ⟨_, rfl, .inr ⟨⟨_, SqT.of hl⟩, k _ _ _ H1 (R1.push (.bd (.tup m hl r))) it_tupB rfl q⟩⟩
    | kt hl r => exact ⟨_, rfl, .inr ⟨⟨_, .inr hl⟩, k _ _ _ H1 (R1.push (.bd (.kt hl r))) it_tupB rfl q⟩⟩
    | _ => exact q.elim
  | bl n h0 hl r => exact ⟨_, rfl, .inl ⟨⟨_, SqL.of hl⟩, k _ _ _ H1 (R1.push (.bl n h0 hl r)) it_listB rfl q⟩⟩
  | _ => exact q.elim) lx⟩
/-- the numbers lo, lo + 1, .. -/
def rgD (lo : Int) (n : Nat) : List D := (List.range n).map fun k : Nat => .int (lo + (k : Int))
theorem it_rng {lo : Int} {n : Nat} : It3 F (Itr lo n) (.non, .d .non) (rgD lo n) := ⟨fun M H i d r e => by
  unfold rgD at e
  rw [List.getElem?_map] at e
  obtain ⟨k, hk, rfl⟩ := Option.map_eq_some_iff.mp e
  obtain ⟨h1, h2⟩ := List.getElem?_eq_some_iff.mp hk
  rw [List.length_range] at h1
  rw [List.getElem_range] at h2
  subst h2
  exact ⟨h1, fun x H' ⟨e1, e2⟩ => ⟨e1, by rw [e2]; exact .int _⟩⟩, fun M H i r e => by
  have e' : n ≤ i := by
    unfold rgD at e
    rwa [List.length_map, List.length_range] at e
  exact e'⟩
variable {tas : TA} {as : A3}
def x_iR1 (as : A3) : I3T := fun S Q X => as S (fun ws => match ws with
  | [.d (.int j)] => -(2 ^ 62) ≤ j ∧ j < 2 ^ 62 ∧ Q (rgD 0 j.toNat)
  | _ => False) X
theorem reps1 {M : Addr → Prop} {H : Hp} {vs : List V} {w : W} (r : RepWs F M H vs [w]) : ∃ v, vs = [v] ∧ RepW F M H v w := by
  cases r with
  | cons h t =>
    cases t
    exact ⟨_, rfl, h⟩
theorem reps2 {M : Addr → Prop} {H : Hp} {vs : List V} {w u : W} (r : RepWs F M H vs [w, u]) : ∃ v v', vs = [v, v'] ∧ RepW F M H v w ∧ RepW F M H v' u := by
  cases r with
  | cons h t =>
    cases t with
    | cons h2 t =>
      cases t
      exact ⟨_, _, rfl, h, h2⟩
theorem rep_int {M : Addr → Prop} {H : Hp} {v : V} {i : Int} (r : RepW F M H v (.d (.int i))) : v = .int i := by
  cases r with
  | d r => cases r; rfl
theorem i3_r1 (h : AR3 F EE tas as) : I3 F EE (iRng1 tas) (x_iR1 as) := ⟨fun M Tm S σ H R Q3 X R0 h0 k lx => h.run M Tm S σ H _ _ X R0 h0 (fun vs ws H1 R1 r q => by
  split at q
  · rename_i j
    obtain ⟨v, e, r'⟩ := reps1 r
    subst e
    rw [rep_int r']
    exact ⟨j, rfl, q.1, q.2.1, k _ _ _ H1 (R1.push (.d .non)) it_rng rfl q.2.2⟩
  · exact q.elim) lx⟩
def x_iR2 (as : A3) : I3T := fun S Q X => as S (fun ws => match ws with
  | [.d (.int i), .d (.int j)] => (-(2 ^ 62) ≤ i ∧ i < 2 ^ 62 ∧ -(2 ^ 62) ≤ j ∧ j < 2 ^ 62) ∧ Q (rgD i (j - i).toNat)
  | _ => False) X
/-- the signs of a text -/
def chD (x : Str) : List D := x.cps.toList.map fun c => .str ⟨#[c]⟩
def asS (w : W) (Q : Str → Prop) : Prop := match w with
  | .d (.str x) => Q x
  | _ => False
theorem asS_get {M : Addr → Prop} {H : Hp} {v : V} {w : W} {Q : Str → Prop} (r : RepW F M H v w) (h : asS w Q) : ∃ i, v = .str i ∧ Q i := by
  cases r with
  | d r =>
    cases r with
    | str i => exact ⟨i, rfl, h⟩
    | _ => exact h.elim
  | _ => exact h.elim
def x_iS (t : T3) : I3T := fun S Q X => t S (fun w => asS w fun x => Q (chD x)) X
end
/-! ### for -/
def for3 (g : G3T) (u : TS3) : List D → Env3 → Ends3 → X3 → Prop
  | [], S, E, _ => E.nx S
  | d :: ds, S, E, X => g d S fun S' => u S' ⟨fun S2 => for3 g u ds S2 E X, E.rt, E.nx, fun S2 => for3 g u ds S2 E X⟩ X
def x_for (ti : I3T) (g : G3T) (u : TS3) : TS3 := fun S E X => ti S (fun ds => for3 g u ds S E X) X
section
variable {F : Fx} {EE : L2.St → XK} {te : TE} {t : T3} {wi : TI} {ti : I3T} {g : TG} {g3 : G3T} {tb : TS} {u : TS3} {tt : TT} {p : B3}
theorem s3_for (hi : I3 F EE wi ti) (hg : G3 F g g3) (hb : S3 F EE tb u) : S3 F EE (tFor wi g tb) (x_for ti g3 u) := ⟨fun M Tm S σ H D E X td R h0 l lx => by
  refine hi.run M Tm S σ H _ _ X R h0 (fun J p ds H1 R1 it op q => ?_) lx
  have td' : TmD (p :: Tm) := fun z hz => by
    rcases List.mem_cons.mp hz with e | e
    · rw [e]; exact op
    · exact td z e
  refine ⟨fun i m σ H => m = ds.length - i ∧ i ≤ ds.length ∧ ∃ M S, Rel F M (p :: Tm) S σ H ∧ for3 g3 u (ds.drop i) S E X, ⟨ds.length, by simp, Nat.zero_le _, M, S, R1, q⟩, ?_⟩
  rintro i m σ H ⟨rfl, hi, M, S, R, h⟩
  obtain ⟨R', rp⟩ := R.pop
  by_cases hlt : i < ds.length
  · obtain ⟨gn, yl⟩ := it.go M H i ds[i] rp (List.getElem?_eq_getElem hlt)
    refine .inr ⟨gn, fun σ' H' => ∃ M S, Rel F M (p :: Tm) S σ' H' ∧ for3 g3 u (ds.drop (i + 1)) S E X, fun σ' H' h => ⟨ds.length - (i + 1), by omega, rfl, hlt, h⟩, fun x H' y => ?_⟩
    obtain ⟨e, rx⟩ := yl x H' y
    subst e
    rw [List.drop_eq_getElem_cons hlt] at h
    exact hg.run M (p :: Tm) S σ _ x _ _ _ R rx h fun S' σ' R2 h2 => hb.run M (p :: Tm) S' σ' _ _ _ X td' R2 h2 ⟨fun M2 S2 σ2 H2 R2 h2 => ⟨M2, S2, R2, h2⟩, l.rt, fun M2 S2 σ2 H2 R2 h2 => l.nx M2 S2 σ2 H2 R2.pop.1 h2, fun M2 S2 σ2 H2 R2 h2 => ⟨M2, S2, R2, h2⟩⟩ (lx.push p)
  · have e : i = ds.length := by omega
    subst e
    rw [List.drop_eq_nil_of_le (Nat.le_refl _)] at h
    exact .inl ⟨it.stop M H _ rp (Nat.le_refl _), l.nx M S σ H R' h⟩⟩
/-! ### while -/
def while3 (p : B3) (u : TS3) : Nat → Env3 → Ends3 → X3 → Prop
  | 0, _, _, _ => False
  | n + 1, S, E, X => p S (fun k => (k = true → u S ⟨fun S2 => while3 p u n S2 E X, E.rt, E.nx, fun S2 => while3 p u n S2 E X⟩ X) ∧ (k = false → E.nx S)) X
def x_while (p : B3) (u : TS3) : TS3 := fun S E X => ∃ n, while3 p u n S E X
/-! ### comprehensions -/
def wipe3 (S : Env3) : List Nat → Env3
  | [] => S
  | v :: vs => (wipe3 S vs).set v none
theorem Rel.wipe {M : Addr → Prop} {Tm : List (V × W)} {S : Env3} {σ : L2.St} {H : Hp} (R : Rel F M Tm S σ H) : ∀ vs, Rel F M Tm (wipe3 S vs) (L2.wipe σ vs) H
  | [] => R
  | v :: vs => (R.wipe vs).unset
theorem wipe_get {σ : L2.St} {i : Nat} : ∀ {vs : List Nat}, (L2.wipe σ vs)[i]? = if i ∈ vs ∧ i < σ.length then some none else σ[i]?
  | [] => by simp [L2.wipe]
  | v :: vs => by
    unfold L2.wipe
    by_cases e : v = i
    · subst e
      by_cases hl : v < σ.length
      · rw [List.getElem?_set_self (by rw [wipe_length]; exact hl), if_pos ⟨List.mem_cons_self, hl⟩]
      · rw [if_neg fun z => hl z.2, List.getElem?_eq_none (by rw [List.length_set, wipe_length]; omega), List.getElem?_eq_none (by omega)]
    · rw [List.getElem?_set_ne e, wipe_get]
      by_cases hm : i ∈ vs ∧ i < σ.length
      · rw [if_pos hm, if_pos ⟨List.mem_cons_of_mem _ hm.1, hm.2⟩]
      · rw [if_neg hm, if_neg fun z => hm ⟨(List.mem_cons.mp z.1).resolve_left (Ne.symm e), z.2⟩]
theorem wipe_idem {σ : L2.St} {vs : List Nat} : L2.wipe (L2.wipe σ vs) vs = L2.wipe σ vs := by
  refine List.ext_getElem? fun i => ?_
  rw [wipe_get, wipe_length, wipe_get]
  by_cases hm : i ∈ vs ∧ i < σ.length
  · rw [if_pos hm, if_pos hm]
  · rw [if_neg hm, if_neg hm]
theorem wipe_set {σ : L2.St} {i : Nat} {x : Option V} {vs : List Nat} (h : i ∈ vs) : L2.wipe (σ.set i x) vs = L2.wipe σ vs := by
  refine List.ext_getElem? fun j => ?_
  rw [wipe_get, wipe_get, List.length_set]
  by_cases hm : j ∈ vs ∧ j < σ.length
  · rw [if_pos hm, if_pos hm]
  · rw [if_neg hm, if_neg hm]
    by_cases e : i = j
    · subst e
      have : ¬ i < σ.length := fun z => hm ⟨h, z⟩
      rw [List.getElem?_eq_none (by rw [List.length_set]; omega), List.getElem?_eq_none (by omega)]
    · rw [List.getElem?_set_ne e]
/-- the target writes names of vs alone -/
def GIn (g : TG) (vs : List Nat) : Prop := ∀ (σ0 : L2.St) (v : V) (σ : L2.St) (H : Hp) (R : L2.St → Hp → Prop), L2.wipe σ vs = L2.wipe σ0 vs → g v σ H R → g v σ H fun σ' H' => L2.wipe σ' vs = L2.wipe σ0 vs ∧ R σ' H'
theorem gin_name {i : Nat} {vs : List Nat} (h : i ∈ vs) : GIn (gName i) vs := fun σ0 v σ H R e r => ⟨(wipe_set h).trans e, r⟩
def GIns (g : TGs) (vs : List Nat) : Prop := ∀ (σ0 : L2.St) (v : List V) (σ : L2.St) (H : Hp) (R : L2.St → Hp → Prop), L2.wipe σ vs = L2.wipe σ0 vs → g v σ H R → g v σ H fun σ' H' => L2.wipe σ' vs = L2.wipe σ0 vs ∧ R σ' H'
/-- nothing of the frame owns l -/
structure Apart (Tm : List (V × W)) (S : Env3) (σ : L2.St) (l : Addr) : Prop where
  ns : ∀ (j : Nat) (w' : W), S[j]? = some (some w') → owned w' = true → σ[j]? ≠ some (some (.ref l))
  nt : ∀ p ∈ Tm, owned p.2 = true → p.1 ≠ .ref l
theorem Rel.apart {M : Addr → Prop} {Tm : List (V × W)} {S : Env3} {σ : L2.St} {H : Hp} {l : Addr} (R : Rel F M Tm S σ H) (h : H l = none) : Apart Tm S σ l := by
  refine ⟨fun j w' h1 h2 h3 => ?_, fun p hp h1 h2 => ?_⟩
  · obtain ⟨v, e1, e2⟩ := R.sl j w' h1
    rw [h3] at e1
    cases e1
    obtain ⟨_, u, hu, _⟩ := e2.own_at h2
    rw [h] at hu
    cases hu
  · have r := R.tm p hp
    rw [h2] at r
    obtain ⟨_, u, hu, _⟩ := r.own_at h1
    rw [h] at hu
    cases hu
/-- the slots' contents, as temporaries -/
def envT (S : Env3) (σ : L2.St) : List (V × W) := (σ.zip S).filterMap fun p => match p with
  | (some v, some w) => some (v, w)
  | _ => none
theorem envT_mem {S : Env3} {σ : L2.St} {i : Nat} {v : V} {w : W} (h1 : S[i]? = some (some w)) (h2 : σ[i]? = some (some v)) : (v, w) ∈ envT S σ :=
  List.mem_filterMap.mpr ⟨(some v, some w), List.mem_of_getElem? (i := i) (by rw [List.getElem?_zip_eq_some]; exact ⟨h2, h1⟩), rfl⟩
theorem envT_at {S : Env3} {σ : L2.St} {p : V × W} (h : p ∈ envT S σ) : ∃ i : Nat, S[i]? = some (some p.2) ∧ σ[i]? = some (some p.1) := by
  obtain ⟨q, hq, e⟩ := List.mem_filterMap.mp h
  obtain ⟨i, hi⟩ := List.mem_iff_getElem?.mp hq
  rw [List.getElem?_zip_eq_some] at hi
  match q, e, hi with
  | (some v, some w), e, hi =>
    cases e
    exact ⟨i, hi.2, hi.1⟩
theorem Rel.env {M : Addr → Prop} {Tm : List (V × W)} {S : Env3} {σ : L2.St} {H : Hp} (R : Rel F M Tm S σ H) : ∀ p ∈ envT S σ, RepW F M H p.1 p.2 := fun p hp => by
  obtain ⟨i, h1, h2⟩ := envT_at hp
  obtain ⟨v, e, r⟩ := R.sl i _ h1
  rw [h2] at e
  cases e
  exact r
theorem Rel.back {M : Addr → Prop} {Tm Tm' Tm2 : List (V × W)} {S S2 : Env3} {σ σ2 : L2.St} {H H2 : Hp} (R : Rel F M Tm S σ H) (R2 : Rel F M Tm2 S2 σ2 H2) (he : ∀ p ∈ envT S σ, p ∈ Tm2) (ht : ∀ p ∈ Tm', p ∈ Tm2) : Rel F M Tm' S σ H2 :=
  ⟨R2.heq, R.len, fun i w h => by
    obtain ⟨v, h1, _⟩ := R.sl i w h
    exact ⟨v, h1, R2.tm (v, w) (he _ (envT_mem h h1))⟩, R.inj, fun p hp => R2.tm p (ht p hp)⟩
theorem LiftX.more {Tm Tm2 : List (V × W)} {X : X3} (l : LiftX F Tm X EE) (h : ∀ p ∈ Tm, p ∈ Tm2) : LiftX F Tm2 X EE := fun M Tm' S σ H C d fs ds hs => l M Tm' S σ H C d fs ds fun p hp => hs p (h p hp)
theorem Heq.unadd {M : Addr → Prop} {l : Addr} {H H' : Hp} (e : Heq F (Add M l) H') (e0 : Heq F M H) : Heq F M H' := ⟨e.ok.less e0.ok.inM fun a z => .inr z, e0.sub, e0.al0, e0.new, e0.cA, e0.c0, e0.tA, e.dx, e.tab⟩
def lc3 (g : G3T) (p : B3) (e : T3) (S : Env3) (X : X3) : List D → List D → (List D → Prop) → Prop
  | [], acc, Q => Q acc
  | d :: ds, acc, Q => g d S fun S2 => p S2 (fun k => (k = true → e S2 (fun w => asD w fun x => acc.length < 100000 ∧ lc3 g p e S X ds (acc ++ [x]) Q) X) ∧ (k = false → lc3 g p e S X ds acc Q)) X
def x_lc (ti : I3T) (g : G3T) (p : B3) (e : T3) (vs : List Nat) : T3 := fun S Q X => ti S (fun ds => lc3 g p e (wipe3 S vs) X ds [] fun r => Q (.ol r)) X
theorem f3_lc {vs : List Nat} (hi : I3 F EE wi ti) (hg : G3 F g g3) (gi : GIn g vs) (hp : TT3 F EE tt p) (he : E3 F EE te t) : FE3 F EE (tLc wi g tt te vs) (x_lc ti g3 p t vs) := ⟨fun M Tm S σ H Qv Q3 X R h0 k lx => by
  refine hi.run M Tm S σ H _ _ X R h0 (fun J q ds H1 R1 it oq q1 => fun l hl => ?_) lx
  have hlM : ¬ M l := R1.heq.ok.notM hl
  have hlc : l ≠ F.c := R1.heq.ok.ne_new hl
  have h0l : F.H0 l = none := R1.heq.dx.dm l hl
  have ap : Apart (q :: Tm) S σ l := R1.apart hl
  refine ⟨fun i m H => m = ds.length - i ∧ i ≤ ds.length ∧ ∃ (ys : List V) (acc : List D), Heq F M H ∧ Rel F (Add M l) (q :: Tm) S σ H ∧ H l = some (.lst ys) ∧ Reps F.K (Add M l) F.c H ys acc ∧ lc3 g3 p t (wipe3 S vs) X (ds.drop i) acc fun r => Q3 (.ol r),
    ⟨ds.length, by simp, Nat.zero_le _, [], [], (R1.new hl).heq, R1.add hl, upd_same, .nil, q1⟩, ?_⟩
  rintro i m H ⟨rfl, hi, ys, acc, HM, R, hy, ry, h⟩
  have rp := R.pop.2
  have own : Own F (Add M l) l := ⟨.inl rfl, hlc, .inr h0l⟩
  by_cases hlt : i < ds.length
  · obtain ⟨gn, yl⟩ := it.go (Add M l) H i ds[i] rp (List.getElem?_eq_getElem hlt)
    refine .inr ⟨gn, fun H' => ∃ (ys : List V) (acc : List D), Heq F M H' ∧ Rel F (Add M l) (q :: Tm) S σ H' ∧ H' l = some (.lst ys) ∧ Reps F.K (Add M l) F.c H' ys acc ∧ lc3 g3 p t (wipe3 S vs) X (ds.drop (i + 1)) acc fun r => Q3 (.ol r), fun H' h => ⟨ds.length - (i + 1), by omega, rfl, hlt, h⟩, fun x H' y => ?_⟩
    obtain ⟨e, rx⟩ := yl x H' y
    subst e
    rw [List.drop_eq_getElem_cons hlt] at h
    -- the accumulator and the slots travel as temporaries
    obtain ⟨Tm2, eT⟩ : ∃ Tm2, Tm2 = (V.ref l, W.ol acc) :: (envT S σ ++ q :: Tm) := ⟨_, rfl⟩
    have hm1 : ∀ p ∈ envT S σ, p ∈ Tm2 := fun p hp => by rw [eT]; exact List.mem_cons_of_mem _ (List.mem_append_left _ hp)
    have hm2 : ∀ p ∈ q :: Tm, p ∈ Tm2 := fun p hp => by rw [eT]; exact List.mem_cons_of_mem _ (List.mem_append_right _ hp)
    have hm3 : (V.ref l, W.ol acc) ∈ Tm2 := by rw [eT]; exact List.mem_cons_self
    have Rt : Rel F (Add M l) Tm2 S σ H' := R.with Tm2 fun p hp => by
      rw [eT] at hp
      rcases List.mem_cons.mp hp with e | hp
      · rw [e]; exact .ol own h0l hy ry
      · rcases List.mem_append.mp hp with hp | hp
        · exact R.env p hp
        · exact R.tm p hp
    have lx2 : LiftX F Tm2 X EE := lx.more fun p hp => hm2 p (List.mem_cons_of_mem _ hp)
    refine gi σ x (L2.wipe σ vs) H' _ wipe_idem (hg.run (Add M l) Tm2 (wipe3 S vs) (L2.wipe σ vs) H' x _ _ _ (Rt.wipe vs) rx h fun S2 σ2 R2 h2 => ?_)
    refine hp.run (Add M l) Tm2 S2 σ2 H' _ _ X R2 h2 (fun b H2 R3 q3 => ?_) lx2
    cases b with
    | true =>
      refine go_t (he.run (Add M l) Tm2 S2 σ2 H2 _ _ X R3 (q3.1 rfl) (fun y w H4 R4 r4 q4 => ?_) lx2)
      obtain ⟨z, ez, rz, hlen, q5⟩ := asD_get r4 q4
      have R5 : Rel F (Add M l) (q :: Tm) S σ H4 := R.back R4 hm1 hm2
      have racc := R4.tm _ hm3
      have racc0 := racc
      cases racc with
      | @ol _ ys' _ ow n hy' ry' =>
        refine ⟨ys', hy', by rw [ry'.length]; exact size_lt hlen, ys' ++ [y], acc ++ [z], ?_, R5.mutX racc0 rfl ap.ns ap.nt, upd_same, (ry'.snoc rz).keep (Dx.mut (.inl rfl)), q5⟩
        have h5 := (R5.mutX (o := .lst (ys' ++ [y])) racc0 rfl ap.ns ap.nt).heq
        exact h5.unadd HM
    | false =>
      refine go_f ?_
      have R5 : Rel F (Add M l) (q :: Tm) S σ H2 := R.back R3 hm1 hm2
      have racc := R3.tm _ hm3
      cases racc with
      | @ol _ ys' _ ow n hy' ry' => exact ⟨ys', acc, R5.heq.unadd HM, R5, hy', ry', q3.2 rfl⟩
  · have e : i = ds.length := by omega
    subst e
    rw [List.drop_eq_nil_of_le (Nat.le_refl _)] at h
    exact .inl ⟨it.stop (Add M l) H _ rp (Nat.le_refl _), k l (.ol acc) H (R.pop.1.unadd HM ap.ns fun p hp => ap.nt p (List.mem_cons_of_mem _ hp)) R.pop.1 hlM rfl (.ol own h0l hy ry) h⟩⟩
/-! dict comprehensions -/
def putD (kvs : List (Key × D)) (k : Key) (v : D) : List (Key × D) :=
  if (kvs.any fun kv => decide (kv.1 = k)) = true then kvs.map (fun kv => if kv.1 = k then (kv.1, v) else kv) else kvs ++ [(k, v)]
theorem RepK.any {K : PySem.W.Frag} {M : Addr → Prop} {c : Addr} {H : Hp} (k : Key) : ∀ {vs : List (Key × V)} {ds : List (Key × D)}, RepK K M c H vs ds → (vs.any fun kv => decide (kv.1 = k)) = (ds.any fun kv => decide (kv.1 = k))
  | _, _, .nil => rfl
  | _, _, .cons h t => by rw [List.any_cons, List.any_cons, t.any k]
theorem RepK.length {K : PySem.W.Frag} {M : Addr → Prop} {c : Addr} {H : Hp} : ∀ {vs : List (Key × V)} {ds : List (Key × D)}, RepK K M c H vs ds → vs.length = ds.length
  | _, _, .nil => rfl
  | _, _, .cons h t => by rw [List.length_cons, List.length_cons, t.length]
theorem RepK.append {K : PySem.W.Frag} {M : Addr → Prop} {c : Addr} {H : Hp} : ∀ {vs ws : List (Key × V)} {ds es : List (Key × D)}, RepK K M c H vs ds → RepK K M c H ws es → RepK K M c H (vs ++ ws) (ds ++ es)
  | _, _, _, _, .nil, s => s
  | _, _, _, _, .cons h t, s => .cons h (t.append s)
theorem RepK.upd {K : PySem.W.Frag} {M : Addr → Prop} {c : Addr} {H : Hp} {k : Key} {v : V} {d : D} (h : Rep K M c H v d) : ∀ {vs : List (Key × V)} {ds : List (Key × D)}, RepK K M c H vs ds → RepK K M c H (vs.map fun kv => if kv.1 = k then (kv.1, v) else kv) (ds.map fun kv => if kv.1 = k then (kv.1, d) else kv)
  | _, _, .nil => .nil
  | _, _, .cons (k := k') h' t => by
    rw [List.map_cons, List.map_cons]
    by_cases e : k' = k
    · rw [if_pos e, if_pos e]
      exact .cons h (t.upd h)
    · rw [if_neg e, if_neg e]
      exact .cons h' (t.upd h)
theorem RepK.put {K : PySem.W.Frag} {M : Addr → Prop} {c : Addr} {H : Hp} {k : Key} {v : V} {d : D} {vs : List (Key × V)} {ds : List (Key × D)} (r : RepK K M c H vs ds) (h : Rep K M c H v d) : RepK K M c H (putK vs k v) (putD ds k d) := by
  unfold putK putD
  rw [r.any k]
  split
  · exact r.upd h
  · exact r.append (.cons h .nil)
def valD (kvs : List (Key × D)) (k : Key) : Option D := (kvs.find? fun kv => decide (kv.1 = k)).map (·.2)
theorem RepK.val {K : PySem.W.Frag} {M : Addr → Prop} {c : Addr} {H : Hp} {k : Key} : ∀ {vs : List (Key × V)} {ds : List (Key × D)}, RepK K M c H vs ds → (valV vs k).isSome = (valD ds k).isSome ∧ ∀ d, valD ds k = some d → ∃ v, valV vs k = some v ∧ Rep K M c H v d
  | _, _, .nil => ⟨rfl, fun d h => nomatch h⟩
  | _, _, .cons (k := k') h t => by
    unfold valV valD
    rw [List.find?_cons, List.find?_cons]
    by_cases e : k' = k
    · rw [decide_eq_true e]
      exact ⟨rfl, fun d hd => by cases hd; exact ⟨_, rfl, h⟩⟩
    · rw [decide_eq_false e]
      exact t.val
/-- a key -/
def asK (w : W) (Q : Key → Prop) : Prop := match w with
  | .d (.int i) => Q (.inl i)
  | .d (.str x) => Q (.inr x)
  | _ => False
theorem asK_get {M : Addr → Prop} {H : Hp} {v : V} {w : W} {Q : Key → Prop} (r : RepW F M H v w) (h : asK w Q) : ∃ k, v = kV k ∧ Q k := by
  cases r with
  | d r =>
    cases r with
    | str i => exact ⟨.inr i, rfl, h⟩
    | int i => exact ⟨.inl i, rfl, h⟩
    | _ => exact h.elim
  | _ => exact h.elim
def dc3 (g : G3T) (p : B3) (ek ev : T3) (S : Env3) (X : X3) : List D → List (Key × D) → (List (Key × D) → Prop) → Prop
  | [], acc, Q => Q acc
  | d :: ds, acc, Q => g d S fun S2 => p S2 (fun k => (k = true → ek S2 (fun wk => asK wk fun key => ev S2 (fun w => asD w fun x => acc.length < 100000 ∧ dc3 g p ek ev S X ds (putD acc key x) Q) X) X) ∧ (k = false → dc3 g p ek ev S X ds acc Q)) X
def x_dc (ti : I3T) (g : G3T) (p : B3) (ek ev : T3) (vs : List Nat) : T3 := fun S Q X => ti S (fun ds => dc3 g p ek ev (wipe3 S vs) X ds [] fun r => Q (.od r)) X
theorem f3_dc {vs : List Nat} {tk tv : TE} {ek ev : T3} (hi : I3 F EE wi ti) (hg : G3 F g g3) (gi : GIn g vs) (hp : TT3 F EE tt p) (hk : E3 F EE tk ek) (hv : E3 F EE tv ev) : FE3 F EE (tDc wi g tt tk tv vs) (x_dc ti g3 p ek ev vs) := ⟨fun M Tm S σ H Qv Q3 X R h0 k lx => by
  refine hi.run M Tm S σ H _ _ X R h0 (fun J q ds H1 R1 it oq q1 => fun l hl => ?_) lx
  have hlM : ¬ M l := R1.heq.ok.notM hl
  have hlc : l ≠ F.c := R1.heq.ok.ne_new hl
  have h0l : F.H0 l = none := R1.heq.dx.dm l hl
  have ap : Apart (q :: Tm) S σ l := R1.apart hl
  refine ⟨fun i m H => m = ds.length - i ∧ i ≤ ds.length ∧ ∃ (ys : List (Key × V)) (acc : List (Key × D)), Heq F M H ∧ Rel F (Add M l) (q :: Tm) S σ H ∧ H l = some (.dK ys) ∧ RepK F.K (Add M l) F.c H ys acc ∧ dc3 g3 p ek ev (wipe3 S vs) X (ds.drop i) acc fun r => Q3 (.od r),
    ⟨ds.length, by simp, Nat.zero_le _, [], [], (R1.new hl).heq, R1.add hl, upd_same, .nil, q1⟩, ?_⟩
  rintro i m H ⟨rfl, hi, ys, acc, HM, R, hy, ry, h⟩
  have rp := R.pop.2
  have own : Own F (Add M l) l := ⟨.inl rfl, hlc, .inr h0l⟩
  by_cases hlt : i < ds.length
  · obtain ⟨gn, yl⟩ := it.go (Add M l) H i ds[i] rp (List.getElem?_eq_getElem hlt)
    refine .inr ⟨gn, fun H' => ∃ (ys : List (Key × V)) (acc : List (Key × D)), Heq F M H' ∧ Rel F (Add M l) (q :: Tm) S σ H' ∧ H' l = some (.dK ys) ∧ RepK F.K (Add M l) F.c H' ys acc ∧ dc3 g3 p ek ev (wipe3 S vs) X (ds.drop (i + 1)) acc fun r => Q3 (.od r), fun H' h => ⟨ds.length - (i + 1), by omega, rfl, hlt, h⟩, fun x H' y => ?_⟩
    obtain ⟨e, rx⟩ := yl x H' y
    subst e
    rw [List.drop_eq_getElem_cons hlt] at h
    obtain ⟨Tm2, eT⟩ : ∃ Tm2, Tm2 = (V.ref l, W.od acc) :: (envT S σ ++ q :: Tm) := ⟨_, rfl⟩
    have hm1 : ∀ p ∈ envT S σ, p ∈ Tm2 := fun p hp => by rw [eT]; exact List.mem_cons_of_mem _ (List.mem_append_left _ hp)
    have hm2 : ∀ p ∈ q :: Tm, p ∈ Tm2 := fun p hp => by rw [eT]; exact List.mem_cons_of_mem _ (List.mem_append_right _ hp)
    have hm3 : (V.ref l, W.od acc) ∈ Tm2 := by rw [eT]; exact List.mem_cons_self
    have Rt : Rel F (Add M l) Tm2 S σ H' := R.with Tm2 fun p hp => by
      rw [eT] at hp
      rcases List.mem_cons.mp hp with e | hp
      · rw [e]; exact .od own h0l hy ry
      · rcases List.mem_append.mp hp with hp | hp
        · exact R.env p hp
        · exact R.tm p hp
    have lx2 : LiftX F Tm2 X EE := lx.more fun p hp => hm2 p (List.mem_cons_of_mem _ hp)
    refine gi σ x (L2.wipe σ vs) H' _ wipe_idem (hg.run (Add M l) Tm2 (wipe3 S vs) (L2.wipe σ vs) H' x _ _ _ (Rt.wipe vs) rx h fun S2 σ2 R2 h2 => ?_)
    refine hp.run (Add M l) Tm2 S2 σ2 H' _ _ X R2 h2 (fun b H2 R3 q3 => ?_) lx2
    cases b with
    | true =>
      refine go_t (hk.run (Add M l) Tm2 S2 σ2 H2 _ _ X R3 (q3.1 rfl) (fun u wk H3 Rk rk qk => ?_) lx2)
      obtain ⟨key, eu, qk⟩ := asK_get rk qk
      subst eu
      refine hv.run (Add M l) Tm2 S2 σ2 H3 _ _ X Rk qk (fun y w H4 R4 r4 q4 => ?_) lx2
      obtain ⟨z, ez, rz, hlen, q5⟩ := asD_get r4 q4
      have R5 : Rel F (Add M l) (q :: Tm) S σ H4 := R.back R4 hm1 hm2
      have racc := R4.tm _ hm3
      have racc0 := racc
      cases racc with
      | @od _ ys' _ ow n hy' ry' =>
        refine ⟨ys', key, rfl, hy', by rw [ry'.length]; exact size_lt hlen, putK ys' key y, putD acc key z, ?_, R5.mutX racc0 rfl ap.ns ap.nt, upd_same, (ry'.put rz).keep (Dx.mut (.inl rfl)), q5⟩
        have h5 := (R5.mutX (o := .dK (putK ys' key y)) racc0 rfl ap.ns ap.nt).heq
        exact h5.unadd HM
    | false =>
      refine go_f ?_
      have R5 : Rel F (Add M l) (q :: Tm) S σ H2 := R.back R3 hm1 hm2
      have racc := R3.tm _ hm3
      cases racc with
      | @od _ ys' _ ow n hy' ry' => exact ⟨ys', acc, R5.heq.unadd HM, R5, hy', ry', q3.2 rfl⟩
  · have e : i = ds.length := by omega
    subst e
    rw [List.drop_eq_nil_of_le (Nat.le_refl _)] at h
    exact .inl ⟨it.stop (Add M l) H _ rp (Nat.le_refl _), k l (.od acc) H (R.pop.1.unadd HM ap.ns fun p hp => ap.nt p (List.mem_cons_of_mem _ hp)) R.pop.1 hlM rfl (.od own h0l hy ry) h⟩⟩
end
end Q
/-! R3e: readings over data: calls, instances, exceptions; the entry of a def. -/
namespace Q
open PySem PySem.Spec PyProof.Rows L2
/-- a promise over data: the arguments, what is wanted of the answer, of an exception -/
abbrev P3v := List D → (W → Prop) → XP → Prop
/-- the frame of a call -/
abbrev fxCall (K : PySem.W.Frag) (M : Addr → Prop) (c : Addr) (H : Hp) (T : List (Addr × Str)) : Fx := ⟨K, M, c, fun a => a = c ∨ ∃ p ∈ T, p.1 = a, H, T⟩
/-- .. as a promise -/
def Lift3 (K : PySem.W.Frag) (T : List (Addr × Str)) (n : Nat) (p : P3v) : Sp := fun vs H Q E => ∃ (M : Addr → Prop) (c : Addr) (ds : List D) (Q3 : W → Prop) (X : XP), Ok M H c ∧ (∀ q ∈ T, M q.1) ∧ LamX.Tabs T H ∧ Reps K M c H vs ds ∧ ds.length = n ∧ p ds Q3 X ∧
  (∀ v w H', Fin3 (fxCall K M c H T) H' → RetW (fxCall K M c H T) H' v w → Q3 w → Q v H') ∧
  (∀ C d fs es H', Fin3 (fxCall K M c H T) H' → ¬ M d → H' d = some (.xd fs) → RepF K M c H' fs es → X C es → E (.ref C) (some d) H')
theorem lift_len {K : PySem.W.Frag} {T : List (Addr × Str)} {n : Nat} {p : P3v} : ∀ vs H Q E, Lift3 K T n p vs H Q E → vs.length = n := by
  rintro vs H Q E ⟨M, c, ds, Q3, X, _, _, _, h, hn, _⟩
  rw [h.length, hn]
section
variable {F : Fx} {EE : L2.St → XK} {M : Addr → Prop} {Tm : List (V × W)} {S : Env3} {σ : L2.St} {H H' : Hp} {n : Nat} {p : P3v} {vs : List V} {ds : List D} {Qv : VK} {Q3 : W → Prop} {XC : XP} {E : XK} {v : V} {w : W} {l : Addr}
theorem Rel.call (R : Rel F M Tm S σ H) (f : Fin3 (fxCall F.K M F.c H F.T) H') : Rel F M Tm S σ H' := R.next f.dx f.ok f.tab
theorem RepW.grow (e : Heq F M H) (r : RepW F M H v w) (hl : H l = none) (dx : Dx (Ch F) H H') : RepW F (Add M l) H' v w := by
  have st : ∀ a o, ¬ Add M l a → H a = some o → H' a = some o ∧ ¬ Add M l a := fun a o m h => ⟨dx.st a o (fun z => m (.inr (e.sub_ch a z))) h, m⟩
  have own : ∀ {k : Addr} {o : HO}, Own F M k → H k = some o → (∀ ps, o ≠ .tbl ps) → H' k = some o := fun {k o} ow h n => dx.st _ _ (fun z => by
    rcases z with z | ⟨p, hp, z⟩
    · exact ow.c z
    · exact ne_tab e.tab h n p hp z) h
  cases r with
  | d r => exact .d ((r.add hl).to st)
  | ol o n h r => exact .ol o.add n (own o h fun _ z => nomatch z) ((r.add hl).to st)
  | od o n h r => exact .od o.add n (own o h fun _ z => nomatch z) ((r.add hl).to st)
  | oi o s h r => exact .oi o.add s (own o h fun _ z => nomatch z) ((r.add hl).to st)
  | bd r => exact .bd ((r.add hl).to st)
  | bl n h0 h r => exact .bl n h0 (dx.st _ _ (fun z => n (e.ch_A _ z)) h) ((r.add hl).to st)
  | bk n h0 h r => exact .bk n h0 (dx.st _ _ (fun z => n (e.ch_A _ z)) h) ((r.add hl).to st)
theorem Rel.grow (R : Rel F M Tm S σ H) (f : Fin3 (fxCall F.K M F.c H F.T) H') (hl : H l = none) (ok : Ok (Add M l) H' F.c) : Rel F (Add M l) Tm S σ H' := by
  have R' := R.call f
  exact ⟨⟨ok, fun a z => .inr (R.heq.sub a z), R.heq.al0, fun a z => by
    rcases z with z | z
    · rw [z]; exact .inr (R.heq.dx.dm l hl)
    · exact R.heq.new a z, R.heq.cA, R.heq.c0, R.heq.tA, R'.heq.dx, R'.heq.tab⟩, R.len, fun i w h => by
    obtain ⟨v, h1, h2⟩ := R.sl i w h
    exact ⟨v, h1, h2.grow R.heq hl f.dx⟩, R.inj, fun q hq => (R.tm q hq).grow R.heq hl f.dx⟩
theorem RetW.to (R : Rel F M Tm S σ H) (r : RetW (fxCall F.K M F.c H F.T) H' v w) : RepW F M H' v (.d (frz w)) := by
  cases r with
  | d r => exact .d r
  | ol n ok h r => exact .d (.lst (R.heq.ok.notM n) h (r.less fun a z => .inr z))
  | od n ok h r => exact .d (.dic (R.heq.ok.notM n) h (r.less fun a z => .inr z))
/-- a call by values -/
theorem lift_call (R : Rel F M Tm S σ H) (r : Reps F.K M F.c H vs ds) (hn : ds.length = n) (h : p ds Q3 XC) (k : ∀ v w H', Fin3 (fxCall F.K M F.c H F.T) H' → RetW (fxCall F.K M F.c H F.T) H' v w → Q3 w → Qv v H')
    (kx : ∀ C d fs es H', Fin3 (fxCall F.K M F.c H F.T) H' → ¬ M d → H' d = some (.xd fs) → RepF F.K M F.c H' fs es → XC C es → E (.ref C) (some d) H') : Lift3 F.K F.T n p vs H Qv E :=
  ⟨M, F.c, ds, Q3, XC, R.heq.ok, fun q hq => R.heq.sub _ (R.heq.tA q hq).2, R.heq.tab, r, hn, h, k, kx⟩
def noX : XP := fun _ _ => False
def x_call (n : Nat) (p : P3v) (as : A3) (dvs : List D) : T3 := fun S Q X => as S (fun ws => allD ws fun ds => (ds ++ dvs).length = n ∧ p (ds ++ dvs) (fun w => Q (.d (frz w))) (X S)) X
def x_call0 (n : Nat) (p : P3v) (as : A3) (dvs : List D) : T3 := fun S Q X => as S (fun ws => allD ws fun ds => (ds ++ dvs).length = n ∧ p (ds ++ dvs) (fun w => Q (.d (frz w))) noX) X
/-- .. where the answer is a new object -/
def x_callF (n : Nat) (p : P3v) (as : A3) (dvs : List D) : T3 := fun S Q X => as S (fun ws => allD ws fun ds => (ds ++ dvs).length = n ∧ p (ds ++ dvs) (fun w => owned w = true ∧ Q w) (X S)) X
variable {tas : TA} {as : A3} {te ta : TE} {t a : T3}
/-- constants behind the arguments -/
def Defs3 (K : PySem.W.Frag) (dvs : List V) (xs : List D) : Prop := ∀ (M : Addr → Prop) (c : Addr) (H : Hp), Reps K M c H dvs xs
theorem defs_nil {K : PySem.W.Frag} : Defs3 K [] [] := fun _ _ _ => .nil
theorem lift_go (h : AR3 F EE tas as) {dvs : List V} {xs : List D} (hd : Defs3 F.K dvs xs) {X : X3} (R : Rel F M Tm S σ H) (h0 : x_call n p as xs S Q3 X) (k : ∀ v w H', Rel F M Tm S σ H' → RepW F M H' v w → Q3 w → Qv v H') (lx : LiftX F Tm X EE) :
    tas σ H fun vs H1 => Lift3 F.K F.T n p (vs ++ dvs) H1 Qv (EE σ) :=
  h.run M Tm S σ H _ _ X R h0 (fun vs ws H1 R1 r1 q1 => by
    obtain ⟨ds, rd, hn, q⟩ := allD_get r1 q1
    exact lift_call R1 (rd.append (hd M F.c H1)) hn q (fun v w H' f r q => k v _ H' (R1.call f) (r.to R1) q) fun C d fs es H' f m hd r hx => lx M Tm S σ H' C d fs es (fun _ z => z) (R1.call f) m hd r hx) lx
theorem lift_go0 (h : AR3 F EE tas as) {dvs : List V} {xs : List D} (hd : Defs3 F.K dvs xs) {X : X3} (R : Rel F M Tm S σ H) (h0 : x_call0 n p as xs S Q3 X) (k : ∀ v w H', Rel F M Tm S σ H' → RepW F M H' v w → Q3 w → Qv v H') (lx : LiftX F Tm X EE) :
    tas σ H fun vs H1 => Lift3 F.K F.T n p (vs ++ dvs) H1 Qv E :=
  h.run M Tm S σ H _ _ X R h0 (fun vs ws H1 R1 r1 q1 => by
    obtain ⟨ds, rd, hn, q⟩ := allD_get r1 q1
    exact lift_call R1 (rd.append (hd M F.c H1)) hn q (fun v w H' f r q => k v _ H' (R1.call f) (r.to R1) q) fun C d fs es H' f m hd r hx => hx.elim) lx
theorem e3_call {dvs : List V} {xs : List D} (h : AR3 F (fun _ => E) tas as) (hd : Defs3 F.K dvs xs) : E3 F (fun _ => E) (tCall (Lift3 F.K F.T n p) dvs E tas) (x_call n p as xs) := ⟨fun M Tm S σ H Qv Q3 X R h0 k lx => lift_go h hd R h0 k lx⟩
theorem e3_call0 {dvs : List V} {xs : List D} (h : AR3 F EE tas as) (hd : Defs3 F.K dvs xs) : E3 F EE (tCall (Lift3 F.K F.T n p) dvs E tas) (x_call0 n p as xs) := ⟨fun M Tm S σ H Qv Q3 X R h0 k lx => lift_go0 h hd R h0 k lx⟩
/-- methods -/
def asO (C : Addr) (w : W) (Q : D → Prop) : Prop := match w with
  | .d (.obj C' fs) => C' = C ∧ Q (.obj C' fs)
  | _ => False
theorem asO_get {C : Addr} {Q : D → Prop} (r : RepW F M H v w) (h : asO C w Q) : ∃ x a dx fs fd, w = .d x ∧ x = .obj C fd ∧ v = .ref a ∧ H a = some (.ins C dx fs) ∧ RepF F.K M F.c H fs fd ∧ Rep F.K M F.c H v x ∧ Q x := by
  cases r with
  | d r =>
    cases r with
    | obj m e rf =>
      obtain ⟨rfl, q⟩ := h
      exact ⟨_, _, _, _, _, rfl, rfl, rfl, e, rf, .obj m e rf, q⟩
    | _ => exact h.elim
  | _ => exact h.elim
def noM (m : Str) (x : D) : Prop := match x with
  | .obj _ fs => fs.lookup m = none
  | _ => False
def x_meth (C : Addr) (m : Str) (n : Nat) (p : P3v) (t : T3) (as : A3) (dvs : List D) : T3 := fun S Q X => t S (fun w => asO C w fun x => noM m x ∧ as S (fun ws => allD ws fun ds => (x :: (ds ++ dvs)).length = n ∧ p (x :: (ds ++ dvs)) (fun w => Q (.d (frz w))) (X S)) X) X
def x_meth0 (C : Addr) (m : Str) (n : Nat) (p : P3v) (t : T3) (as : A3) (dvs : List D) : T3 := fun S Q X => t S (fun w => asO C w fun x => noM m x ∧ as S (fun ws => allD ws fun ds => (x :: (ds ++ dvs)).length = n ∧ p (x :: (ds ++ dvs)) (fun w => Q (.d (frz w))) noX) X) X
/-- a property -/
def x_prop (C : Addr) (p : P3v) (t : T3) : T3 := fun S Q X => t S (fun w => asO C w fun x => p [x] (fun w => Q (.d (frz w))) noX) X
theorem e3_prop {C : Addr} (ho : E3 F EE te t) : E3 F EE (tProp C (Lift3 F.K F.T 1 p) [] E te) (x_prop C p t) := ⟨fun M Tm S σ H Qv Q3 X R h0 k lx => ho.run M Tm S σ H _ _ X R h0 (fun v w H1 R1 r1 q1 => by
  obtain ⟨x, a, dx, fs, fd, rfl, ex, rfl, hl, rf, rx, q2⟩ := asO_get r1 q1
  exact ⟨a, dx, fs, rfl, hl, lift_call R1 (.cons rx .nil) rfl q2 (fun v w H' f r q => k v _ H' (R1.call f) (r.to R1) q) fun C d fs es H' f m hd r hx => hx.elim⟩) lx⟩
/-- a property whose answer is new -/
def x_propF (C : Addr) (p : P3v) (t : T3) : T3 := fun S Q X => t S (fun w => asO C w fun x => p [x] (fun w => owned w = true ∧ Q w) noX) X
/-! fields -/
/-- the attribute f of an instance: of data, or of one's own that is being made -/
def fldD (K : PySem.W.Frag) (f : Str) (w : W) (Q : D → Prop) : Prop := match w with
  | .d (.obj C fs) => Cls K C ∧ NoAttr K C f ∧ ∃ x, fs.lookup f = some x ∧ Q x
  | .oi C fs => Cls K C ∧ NoAttr K C f ∧ ∃ x, fs.lookup f = some x ∧ Q x
  | _ => False
def x_fld (K : PySem.W.Frag) (f : Str) (t : T3) : T3 := fun S Q X => t S (fun w => fldD K f w fun x => Q (.d x)) X
theorem e3_fld {f : Str} (ho : E3 F EE te t) : E3 F EE (tFld F.K te f) (x_fld F.K f t) := ⟨fun M Tm S σ H Qv Q3 X R h0 k lx => ho.run M Tm S σ H _ _ X R h0 (fun v w H1 R1 r1 q1 => by
  cases r1 with
  | d r =>
    cases r with
    | obj m e rf =>
      obtain ⟨h1, h2, x, h3, q⟩ := q1
      obtain ⟨y, h4, h5⟩ := rf.lookup h3
      exact ⟨_, _, _, _, y, rfl, e, h1, h2, h4, k _ _ _ R1 (.d h5) q⟩
    | _ => exact q1.elim
  | oi o _ e rf =>
    obtain ⟨h1, h2, x, h3, q⟩ := q1
    obtain ⟨y, h4, h5⟩ := rf.lookup h3
    exact ⟨_, _, _, _, y, rfl, e, h1, h2, h4, k _ _ _ R1 (.d h5) q⟩
  | _ => exact q1.elim) lx⟩
def putF3 (f : Str) (v : D) : List (Str × D) → List (Str × D)
  | [] => [(f, v)]
  | (g, u) :: r => if g = f then (f, v) :: r else (g, u) :: putF3 f v r
end
end Q
/-! R3f: readings over data: raise and try, instances being made, dicts, isinstance, the entry of a def. -/
namespace Q
open PySem PySem.Spec PyProof.Rows L2
section
variable {F : Fx} {EE : L2.St → XK} {M : Addr → Prop} {Tm : List (V × W)} {S : Env3} {σ : L2.St} {H H' : Hp} {tas : TA} {as : A3} {te ta td ty tv : TE} {t a ek ev : T3} {tb : WX → TS} {u : TS3} {Wx : WX} {C : Addr} {f g k : Str} {i n : Nat} {p : P3v} {v : V} {w : W}
/-! ### raise -/
def x_raise1 (C : Addr) (f : Str) (as : A3) : TS3 := fun S _ X => as S (fun ws => allD ws fun ds => match ds with
  | [a] => X S C [(f, a)]
  | _ => False) X
def x_raise2 (C : Addr) (f g : Str) (as : A3) : TS3 := fun S _ X => as S (fun ws => allD ws fun ds => match ds with
  | [a, b] => X S C [(g, b), (f, a)]
  | _ => False) X
def x_raise3 (C : Addr) (f g k : Str) (as : A3) : TS3 := fun S _ X => as S (fun ws => allD ws fun ds => match ds with
  | [a, b, c] => X S C [(k, c), (g, b), (f, a)]
  | _ => False) X
theorem raise_at {X : X3} {fs : List (Str × V)} {ds : List (Str × D)} (R : Rel F M Tm S σ H) (lx : LiftX F Tm X EE) (r : RepF F.K M F.c H fs ds) (h : X S C ds) : ∀ d, H d = none → EE σ (.ref C) (some d) (upd H d (.xd fs)) := fun d hd =>
  lx M Tm S σ _ C d fs ds (fun _ z => z) (R.new hd) (R.heq.ok.notM hd) upd_same (r.keep (Dx.new hd)) h
theorem s3_raise1 (h : AR3 F (fun σ cls d H => Wx cls d σ H) tas as) : S3 F (fun σ cls d H => Wx cls d σ H) (fun _ σ H => tMkO C (Sp2 (pInit1 F.K C f)) [] tas σ H fun cls d H' => Wx cls d σ H') (x_raise1 C f as) := ⟨fun M Tm S σ H D E X td R h0 l lx => go_mkO (h.run M Tm S σ H _ _ X R h0 (fun vs ws H1 R1 r1 q1 => by
  obtain ⟨ds, rd, q⟩ := allD_get r1 q1
  split at q
  · cases rd with
    | cons ra rt =>
      cases rt
      exact mk1 (raise_at R1 lx (.cons ra .nil) q)
  · exact q.elim) lx)⟩
theorem s3_raise2 (h : AR3 F (fun σ cls d H => Wx cls d σ H) tas as) : S3 F (fun σ cls d H => Wx cls d σ H) (fun _ σ H => tMkO C (Sp3 (pInit2 F.K C f g)) [] tas σ H fun cls d H' => Wx cls d σ H') (x_raise2 C f g as) := ⟨fun M Tm S σ H D E X td R h0 l lx => go_mkO (h.run M Tm S σ H _ _ X R h0 (fun vs ws H1 R1 r1 q1 => by
  obtain ⟨ds, rd, q⟩ := allD_get r1 q1
  split at q
  · cases rd with
    | cons ra rt =>
      cases rt with
      | cons rb rt =>
        cases rt
        exact mk2 (raise_at R1 lx (.cons rb (.cons ra .nil)) q)
  · exact q.elim) lx)⟩
theorem s3_raise3 (h : AR3 F (fun σ cls d H => Wx cls d σ H) tas as) : S3 F (fun σ cls d H => Wx cls d σ H) (fun _ σ H => tMkO C (Sp4 (pInit3 F.K C f g k)) [] tas σ H fun cls d H' => Wx cls d σ H') (x_raise3 C f g k as) := ⟨fun M Tm S σ H D E X td R h0 l lx => go_mkO (h.run M Tm S σ H _ _ X R h0 (fun vs ws H1 R1 r1 q1 => by
  obtain ⟨ds, rd, q⟩ := allD_get r1 q1
  split at q
  · cases rd with
    | cons ra rt =>
      cases rt with
      | cons rb rt =>
        cases rt with
        | cons rc rt =>
          cases rt
          exact mk3 (raise_at R1 lx (.cons rc (.cons rb (.cons ra .nil))) q)
  · exact q.elim) lx)⟩
/-! ### try -/
abbrev Cl3 := Value × Nat × (Addr → Value → Option Addr → TS3)
inductive Clauses3 (F : Fx) (EE : L2.St → XK) : List Clause → List Cl3 → Prop
  | nil : Clauses3 F EE [] []
  | cons {c : Value} {i : Nat} {ts : Addr → Value → Option Addr → TS} {us : Addr → Value → Option Addr → TS3} {l : List Clause} {r : List Cl3} (h : ∀ a cls d, S3 F EE (ts a cls d) (us a cls d)) (t : Clauses3 F EE l r) : Clauses3 F EE ((c, i, ts) :: l) ((c, i, us) :: r)
abbrev gone3 (i : Nat) (E : Ends3) : Ends3 := ⟨fun S => E.nx (S.set i none), E.rt, fun S => E.bk (S.set i none), fun S => E.ct (S.set i none)⟩
def hand3 (K : PySem.W.Frag) (E : Ends3) (X : X3) : List Cl3 → Env3 → Addr → List (Str × D) → Prop
  | [], _, _, _ => False
  | (c, i, us) :: r, S, C, fs => ∃ b, PySem.W.exmOne K (.ref C) c = some b ∧ (b = true → ∀ a dd, us a (.ref C) (some dd) (S.set i (some (.d (.exc a dd C fs)))) (gone3 i E) X) ∧ (b = false → hand3 K E X r S C fs)
def x_try (K : PySem.W.Frag) (u : TS3) (l : List Cl3) : TS3 := fun S E X => u S E fun S' C fs => hand3 K E X l S' C fs
theorem hand_ok {l : List Clause} {r : List Cl3} (c : Clauses3 F EE l r) {Dn : Ends} {E : Ends3} {X : X3} (td : TmD Tm) (le : LiftE F Tm E Dn) (lx : LiftX F Tm X EE) {Wo : WX} {d : Addr} {fs : List (Str × V)} {ds : List (Str × D)} (R : Rel F M Tm S σ H) (m : ¬ M d) (hd : H d = some (.xd fs)) (rf : RepF F.K M F.c H fs ds)
    (h : hand3 F.K E X r S C ds) : wNamed F.K Wo Dn l (.ref C) (some d) σ H := by
  induction c with
  | nil => exact h.elim
  | @cons c i ts us l r hs t ih =>
    obtain ⟨b, e, h1, h2⟩ := h
    refine ⟨b, e, fun hb x hx => ?_, fun hb => ih (h2 hb)⟩
    exact (hs x (.ref C) (some d)).run M Tm _ _ H _ (gone3 i E) X td (R.set (.exc m hd rf)) (h1 hb x d) ⟨fun M S σ H R h => le.nx M _ _ H R.unset h, le.rt, fun M S σ H R h => le.bk M _ _ H R.unset h, fun M S σ H R h => le.ct M _ _ H R.unset h⟩ lx
theorem s3_try {l : List Clause} {r : List Cl3} {Wo : WX} (hb : ∀ W : WX, S3 F (fun σ cls d H => W cls d σ H) (tb W) u) (c : Clauses3 F EE l r) : S3 F EE (fun D σ H => tb (wNamed F.K Wo D l) D σ H) (x_try F.K u r) := ⟨fun M Tm S σ H D E X td R h0 le lx =>
  (hb _).run M Tm S σ H D E _ td R h0 le fun M' Tm' S' σ' H' C d fs ds hs R' m hd rf h => hand_ok c td le lx (R'.with Tm fun p hp => R'.tm p (hs p hp)) m hd rf h⟩
def x_tryO (K : PySem.W.Frag) (u : TS3) (c : Value) (us : Addr → Value → Option Addr → TS3) : TS3 := fun S E X => u S E fun S' C fs => ∃ b, PySem.W.exmOne K (.ref C) c = some b ∧ b = true ∧ ∀ a dd, us a (.ref C) (some dd) S' E X
/-- an attribute of the caught exception -/
def excD (a : Addr) (cls : Value) (d : Option Addr) (C : Addr) (f : Str) (w : W) (Q : D → Prop) : Prop := match w with
  | .d (.exc a' dd C' fs) => a' = a ∧ cls = .ref C ∧ d = some dd ∧ ∃ x, fs.lookup f = some x ∧ Q x
  | _ => False
def x_xf (a : Addr) (cls : Value) (d : Option Addr) (C : Addr) (f : Str) (t : T3) : T3 := fun S Q X => t S (fun w => excD a cls d C f w fun x => Q (.d x)) X
theorem e3_xf {a : Addr} {cls : Value} {d : Option Addr} (ho : E3 F EE te t) : E3 F EE (tXf a cls d C f te) (x_xf a cls d C f t) := ⟨fun M Tm S σ H Qv Q3 X R h0 k lx => ho.run M Tm S σ H _ _ X R h0 (fun v w H1 R1 r1 q1 => by
  cases r1 with
  | d r =>
    cases r with
    | exc m e rf =>
      obtain ⟨h1, h2, h3, x, h4, q⟩ := q1
      obtain ⟨y, h5, h6⟩ := rf.lookup h4
      exact ⟨by rw [h1], h2, _, _, y, h3, e, h5, k _ _ _ R1 (.d h6) q⟩
    | _ => exact q1.elim
  | _ => exact q1.elim) lx⟩
/-! ### isinstance -/
/-- the type of a thing -/
def tyW (K : PySem.W.Frag) (w : W) (Q : Value → Prop) : Prop := match w with
  | .d .non => Q (.type "NoneType")
  | .d (.bl _) => Q (.type "bool")
  | .d (.int _) => Q (.type "int")
  | .d (.str _) => Q (.type "str")
  | .d (.lst _) => Q (.type "list")
  | .d (.tup _) => Q (.type "tuple")
  | .d (.dic _) => Q (.type "dict")
  | .d (.obj C _) => Cls K C ∧ TyC K C ∧ Q (.ref C)
  | _ => False
theorem tyW_get {Q : Value → Prop} (r : RepW F M H v w) (h : tyW F.K w Q) : ∃ t, TyX F.K H v t ∧ Q t := by
  cases r with
  | d r =>
    cases r with
    | non => exact ⟨_, Bt.non.tyX, h⟩
    | bl b => exact ⟨_, (Bt.bl b).tyX, h⟩
    | int b => exact ⟨_, (Bt.int b).tyX, h⟩
    | str b => exact ⟨_, (Bt.str b).tyX, h⟩
    | lst m e r => exact ⟨_, (Bt.lst (SqL.of e)).tyX, h⟩
    | tup m e r => exact ⟨_, (Bt.tup (SqT.of e)).tyX, h⟩
    | kt e r => exact ⟨_, (Bt.tup (.inr e)).tyX, h⟩
    | dic m e r => exact ⟨_, (Bt.dic e).tyX, h⟩
    | obj m e r =>
      obtain ⟨c, ty, q⟩ := h
      exact ⟨_, .base (.ins e c ty.at_ ty.get ty.tak ty.mro), q⟩
    | _ => exact h.elim
  | _ => exact h.elim
def clsD (x : D) (Q : Value → Prop) : Prop := match x with
  | .val (.ty n) => Q (.type n)
  | .val (.ref C) => Q (.ref C)
  | _ => False
theorem clsD_get {x : D} {Q : Value → Prop} (r : Rep F.K M F.c H v x) (h : clsD x Q) : ∃ u, ClsV v u ∧ Q u := by
  cases r with
  | val v =>
    cases v with
    | ty n => exact ⟨_, .ty n, h⟩
    | ref C => exact ⟨_, .own C, h⟩
    | _ => exact h.elim
  | _ => exact h.elim
def o_isi (K : PySem.W.Frag) : Cb3 := fun ws Q => match ws with
  | [w, .d x] => tyW K w fun t => clsD x fun u => ∃ b, PySem.W.kitOne K t u = some b ∧ Q (.d (.bl b))
  | _ => False
theorem c3_isi : C3 F (rIsi F.K) (o_isi F.K) := fun M Tm S σ H vs ws Qv Q3 R r h k => by
  unfold o_isi at h
  split at h
  · obtain ⟨v, v', e, r1, r2⟩ := reps2 r
    obtain ⟨t, h1, h⟩ := tyW_get r1 h
    cases r2 with
    | d r2 =>
    obtain ⟨u, h2, b, h3, q⟩ := clsD_get r2 h
    exact ⟨v, v', t, u, b, e, h2, h1, h3, k _ _ _ R (.d (.bl b)) q⟩
  · exact h.elim
def clsDs : List D → (List Value → Prop) → Prop
  | [], Q => Q []
  | x :: xs, Q => clsD x fun u => clsDs xs fun us => Q (u :: us)
theorem clsDs_get : ∀ {xs : List D} {vs : List V} {Q : List Value → Prop}, Reps F.K M F.c H vs xs → clsDs xs Q → ∃ us, Paired ClsV vs us ∧ Q us
  | _, _, _, .nil, h => ⟨[], .nil, h⟩
  | _, _, Q, .cons r t, h => by
    obtain ⟨u, h1, h2⟩ := clsD_get r h
    obtain ⟨us, h3, h4⟩ := clsDs_get (Q := fun us => Q (u :: us)) t h2
    exact ⟨u :: us, .cons h1 h3, h4⟩
/-- isinstance(x, (c, ..)) -/
def x_isiT (K : PySem.W.Frag) (t : T3) (cs : A3) : T3 := fun S Q X => t S (fun w => cs S (fun ws => allD ws fun xs => xs.length ≤ 100000 ∧ tyW K w fun t => clsDs xs fun us => ∃ b, PySem.W.kitAny K t us = some b ∧ Q (.d (.bl b))) X) X
theorem e3_isiT (ho : E3 F EE te t) (h : AR3 F EE tas as) : E3 F EE (tCB (rIsiT F.K) (tCons te (tCons (tTup tas) tNil))) (x_isiT F.K t as) := ⟨fun M Tm S σ H Qv Q3 X R h0 k lx => ho.run M Tm S σ H _ _ X R h0 (fun v w H1 R1 r1 q1 => h.run M ((v, w) :: Tm) S σ H1 _ _ X (R1.push r1) q1 (fun vs ws H2 R2 r2 q2 => by
  obtain ⟨ds, rd, hl, q⟩ := allD_get r2 q2
  refine ⟨by rw [rd.length]; exact size_ok hl, fun p hp => ?_⟩
  have R3 := R2.new (o := .tup vs) hp
  obtain ⟨R4, rw4⟩ := R3.pop
  obtain ⟨t, h1, q⟩ := tyW_get rw4 q
  obtain ⟨us, h2, b, h3, q⟩ := clsDs_get rd q
  exact ⟨v, p, vs, t, us, b, rfl, upd_same, h2, h1, h3, k _ _ _ R4 (.d (.bl b)) q⟩) (lx.push _)) lx⟩
/-- of a caught exception -/
def isX (K : PySem.W.Frag) (a : Addr) (cls : Value) (d : Option Addr) (w : W) (Q : Value → Prop) : Prop := match w with
  | .d (.exc a' dd C fs) => a' = a ∧ cls = .ref C ∧ d = some dd ∧ ExcC K C ∧ Q (.ref C)
  | _ => False
theorem isX_get {a : Addr} {cls : Value} {d : Option Addr} {Q : Value → Prop} (r : RepW F M H v w) (h : isX F.K a cls d w Q) : v = .ref a ∧ ∃ C dd fs, cls = .ref C ∧ d = some dd ∧ H dd = some (.xd fs) ∧ ExcC F.K C ∧ Q (.ref C) := by
  cases r with
  | d r =>
    cases r with
    | exc m e rf =>
      obtain ⟨h1, h2, h3, hx, q⟩ := h
      exact ⟨by rw [h1], _, _, _, h2, h3, e, hx, q⟩
    | _ => exact h.elim
  | _ => exact h.elim
def x_isX (K : PySem.W.Frag) (a : Addr) (cls : Value) (d : Option Addr) (t c : T3) : T3 := fun S Q X => t S (fun w => isX K a cls d w fun tv => c S (fun w2 => asD w2 fun x => clsD x fun u => ∃ b, PySem.W.kitOne K tv u = some b ∧ Q (.d (.bl b))) X) X
theorem e3_isX {a : Addr} {cls : Value} {d : Option Addr} {tc : TE} {c : T3} (ho : E3 F EE te t) (hc : E3 F EE tc c) : E3 F EE (tCB (rIsX F.K a cls d) (tCons te (tCons tc tNil))) (x_isX F.K a cls d t c) := ⟨fun M Tm S σ H Qv Q3 X R h0 k lx => ho.run M Tm S σ H _ _ X R h0 (fun v w H1 R1 r1 q1 => by
  have e1 := isX_get r1 q1
  have hw : ∃ a' dd C fs, w = .d (.exc a' dd C fs) := by
    cases w with
    | d x =>
      cases x with
      | exc a' dd C fs => exact ⟨_, _, _, _, rfl⟩
      | _ => exact q1.elim
    | _ => exact q1.elim
  obtain ⟨a', dd, C, fs, rfl⟩ := hw
  obtain ⟨ea, ec, ed, hx, q1⟩ := q1
  subst ea ec ed
  refine hc.run M ((v, .d (.exc a' dd C fs)) :: Tm) S σ H1 _ _ X (R1.push r1) q1 (fun u w2 H2 R2 r2 q2 => ?_) (lx.push _)
  obtain ⟨R3, rw3⟩ := R2.pop
  obtain ⟨x, ex, rx, q2⟩ := asD_get r2 q2
  obtain ⟨uv, h2, b, h3, q⟩ := clsD_get rx q2
  cases rw3 with
  | d rw3 =>
  cases rw3 with
  | exc m e rf => exact ⟨C, hx, ⟨rfl, dd, _, rfl, e⟩, .inl ⟨u, uv, b, rfl, h2, h3, k _ _ _ R3 (.d (.bl b)) q⟩⟩) lx⟩
def x_isXT (K : PySem.W.Frag) (a : Addr) (cls : Value) (d : Option Addr) (t : T3) (cs : A3) : T3 := fun S Q X => t S (fun w => isX K a cls d w fun tv => cs S (fun ws => allD ws fun xs => xs.length ≤ 100000 ∧ clsDs xs fun us => ∃ b, PySem.W.kitAny K tv us = some b ∧ Q (.d (.bl b))) X) X
theorem e3_isXT {a : Addr} {cls : Value} {d : Option Addr} (ho : E3 F EE te t) (h : AR3 F EE tas as) : E3 F EE (tCB (rIsX F.K a cls d) (tCons te (tCons (tTup tas) tNil))) (x_isXT F.K a cls d t as) := ⟨fun M Tm S σ H Qv Q3 X R h0 k lx => ho.run M Tm S σ H _ _ X R h0 (fun v w H1 R1 r1 q1 => by
  have hw : ∃ a' dd C fs, w = .d (.exc a' dd C fs) := by
    cases w with
    | d x =>
      cases x with
      | exc a' dd C fs => exact ⟨_, _, _, _, rfl⟩
      | _ => exact q1.elim
    | _ => exact q1.elim
  obtain ⟨a', dd, C, fs, rfl⟩ := hw
  obtain ⟨ea, ec, ed, hx, q1⟩ := q1
  subst ea ec ed
  refine h.run M ((v, .d (.exc a' dd C fs)) :: Tm) S σ H1 _ _ X (R1.push r1) q1 (fun vs ws H2 R2 r2 q2 => ?_) (lx.push _)
  obtain ⟨ds, rd, hl, q⟩ := allD_get r2 q2
  refine ⟨by rw [rd.length]; exact size_ok hl, fun p hp => ?_⟩
  have R3 := R2.new (o := .tup vs) hp
  obtain ⟨R4, rw4⟩ := R3.pop
  obtain ⟨us, h2, b, h3, q⟩ := clsDs_get rd q
  cases rw4 with
  | d rw4 =>
  cases rw4 with
  | exc m e rf => exact ⟨C, hx, ⟨rfl, dd, _, rfl, e⟩, .inr ⟨p, vs, us, b, rfl, upd_same, h2, h3, k _ _ _ R4 (.d (.bl b)) q⟩⟩) lx⟩
/-! ### dicts -/
def asKv (w : W) (Q : List (Key × D) → Prop) : Prop := match w with
  | .d (.dic kvs) => Q kvs
  | .od kvs => Q kvs
  | .bw (.dic kvs) => Q kvs
  | _ => False
theorem asKv_get {Q : List (Key × D) → Prop} (r : RepW F M H v w) (h : asKv w Q) : ∃ a kvs ds, v = .ref a ∧ H a = some (.dK kvs) ∧ RepK F.K M F.c H kvs ds ∧ Q ds := by
  cases r with
  | d r =>
    cases r with
    | dic m e r => exact ⟨_, _, _, rfl, e, r, h⟩
    | _ => exact h.elim
  | od o n e r => exact ⟨_, _, _, rfl, e, r, h⟩
  | bd r =>
    cases r with
    | dic m e r => exact ⟨_, _, _, rfl, e, r, h⟩
    | _ => exact h.elim
  | bk n h0 e r => exact ⟨_, _, _, rfl, e, r, h⟩
  | _ => exact h.elim
def x_din (ek d : T3) : T3 := fun S Q X => ek S (fun wk => asK wk fun key => d S (fun w => asKv w fun kvs => Q (.d (.bl (valD kvs key).isSome))) X) X
def x_dni (ek d : T3) : T3 := fun S Q X => ek S (fun wk => asK wk fun key => d S (fun w => asKv w fun kvs => Q (.d (.bl (!(valD kvs key).isSome)))) X) X
theorem e3_din (hk : E3 F EE ty ek) (hd : E3 F EE td t) : E3 F EE (tDIn ty td) (x_din ek t) := ⟨fun M Tm S σ H Qv Q3 X R h0 k lx => hk.run M Tm S σ H _ _ X R h0 (fun y wk H1 R1 r1 q1 => by
  obtain ⟨key, e, q1⟩ := asK_get r1 q1
  subst e
  refine hd.run M Tm S σ H1 _ _ X R1 q1 (fun v w H2 R2 r2 q2 => ?_) lx
  obtain ⟨a, kvs, ds, rfl, hl, rk, q⟩ := asKv_get r2 q2
  refine ⟨a, _, rfl, DGet.k hl, ?_⟩
  rw [rk.val.1]
  exact k _ _ _ R2 (.d (.bl _)) q) lx⟩
theorem e3_dni (hk : E3 F EE ty ek) (hd : E3 F EE td t) : E3 F EE (tDNotIn ty td) (x_dni ek t) := ⟨fun M Tm S σ H Qv Q3 X R h0 k lx => hk.run M Tm S σ H _ _ X R h0 (fun y wk H1 R1 r1 q1 => by
  obtain ⟨key, e, q1⟩ := asK_get r1 q1
  subst e
  refine hd.run M Tm S σ H1 _ _ X R1 q1 (fun v w H2 R2 r2 q2 => ?_) lx
  obtain ⟨a, kvs, ds, rfl, hl, rk, q⟩ := asKv_get r2 q2
  refine ⟨a, _, rfl, DGet.k hl, ?_⟩
  rw [rk.val.1]
  exact k _ _ _ R2 (.d (.bl _)) q) lx⟩
def x_dget (d ek : T3) : T3 := fun S Q X => d S (fun w => ek S (fun wk => asK wk fun key => asKv w fun kvs => ∃ x, valD kvs key = some x ∧ Q (.d x)) X) X
theorem e3_dget (hd : E3 F EE td t) (hk : E3 F EE ty ek) : E3 F EE (tDGet td ty) (x_dget t ek) := ⟨fun M Tm S σ H Qv Q3 X R h0 k lx => hd.run M Tm S σ H _ _ X R h0 (fun v w H1 R1 r1 q1 => hk.run M ((v, w) :: Tm) S σ H1 _ _ X (R1.push r1) q1 (fun y wk H2 R2 r2 q2 => by
  obtain ⟨key, e, q2⟩ := asK_get r2 q2
  subst e
  obtain ⟨R3, r3⟩ := R2.pop
  obtain ⟨a, kvs, ds, rfl, hl, rk, x, hx, q⟩ := asKv_get r3 q2
  obtain ⟨z, hz, rz⟩ := rk.val.2 x hx
  exact ⟨a, z, rfl, by rw [← hz]; exact DGet.k hl, k _ _ _ R3 (.d rz) q⟩) (lx.push _)) lx⟩
/-- d[k] = e, d a local of one's own -/
def x_dput (i : Nat) (ek ev : T3) : TS3 := fun S E X => ev S (fun w => asD w fun x => match S[i]? with
  | some (some (.od kvs)) => ek S (fun wk => asK wk fun key => kvs.length < 100000 ∧ E.nx (S.set i (some (.od (putD kvs key x))))) X
  | _ => False) X
theorem s3_dput (hk : E3 F EE ty ek) (hv : E3 F EE tv ev) : S3 F EE (sDPut (tVar i) ty tv) (x_dput i ek ev) := ⟨fun M Tm S σ H D E X td R h0 l lx => hv.run M Tm S σ H _ _ X R h0 (fun y w H1 R1 r1 q => by
  obtain ⟨x, ex, rx, q⟩ := asD_get r1 q
  subst ex
  split at q
  · rename_i kvs e
    obtain ⟨v, h1, r0⟩ := R1.sl i _ e
    refine ⟨v, h1, hk.run M ((y, .d x) :: Tm) S σ H1 _ _ X (R1.push r1) q (fun u wk H2 R2 r2 q2 => ?_) (lx.push _)⟩
    obtain ⟨key, ek, q2, q3⟩ := asK_get r2 q2
    subst ek
    obtain ⟨R3, rx3⟩ := R2.pop
    obtain ⟨v', h1', r0'⟩ := R3.sl i _ e
    rw [h1] at h1'
    cases h1'
    cases rx3 with
    | d rx3 =>
    cases r0' with
    | @od a vs _ ow n hl r => exact ⟨a, _, rfl, DPut.k hl (by rw [r.length]; exact size_lt q2), l.nx M _ σ _ (R3.mut td e rfl h1 rfl (.od ow n upd_same ((r.put rx3).keep (Dx.mut ow.m)))) q3⟩
  · exact q.elim) lx⟩
/-! ### instances that are made -/
theorem RepF.put {K : PySem.W.Frag} {c : Addr} {f : Str} {v : V} {x : D} (h : Rep K M c H v x) : ∀ {fs : List (Str × V)} {ds : List (Str × D)}, RepF K M c H fs ds → RepF K M c H (L2.putF f v fs) (putF3 f x ds)
  | _, _, .nil => .cons h .nil
  | _, _, .cons (k := g) h' t => by
    show RepF K M c H (if g = f then _ else _) (if g = f then _ else _)
    by_cases e : g = f
    · rw [if_pos e, if_pos e, e]
      exact .cons h t
    · rw [if_neg e, if_neg e]
      exact .cons h' (t.put h)
theorem RepF.length {K : PySem.W.Frag} {c : Addr} : ∀ {fs : List (Str × V)} {ds : List (Str × D)}, RepF K M c H fs ds → fs.length = ds.length
  | _, _, .nil => rfl
  | _, _, .cons h t => by rw [List.length_cons, List.length_cons, t.length]
/-- self.f = e -/
def x_sfld (K : PySem.W.Frag) (i : Nat) (f : Str) (t : T3) : TS3 := fun S E X => t S (fun w => asD w fun x => match S[i]? with
  | some (some (.oi C fs)) => Cls K C ∧ NoAttr K C f ∧ fs.length < 1000 ∧ E.nx (S.set i (some (.oi C (putF3 f x fs))))
  | _ => False) X
theorem s3_sfld (hv : E3 F EE tv t) : S3 F EE (sFld F.K (tVar i) tv f) (x_sfld F.K i f t) := ⟨fun M Tm S σ H D E X td R h0 l lx => hv.run M Tm S σ H _ _ X R h0 (fun y w H1 R1 r1 q => by
  obtain ⟨x, ex, rx, q⟩ := asD_get r1 q
  subst ex
  split at q
  · rename_i C fs e
    obtain ⟨v, h1, r0⟩ := R1.sl i _ e
    cases r0 with
    | @oi a C dx vs _ ow sA hl r => exact ⟨_, h1, a, C, dx, vs, rfl, hl, q.1, q.2.1, by rw [r.length]; exact q.2.2.1, l.nx M _ σ _ (R1.mut td e rfl h1 rfl (.oi ow sA upd_same ((r.put rx).keep (Dx.mut ow.m)))) q.2.2.2⟩
  · exact q.elim) lx⟩
/-- the promise of an __init__: the arguments behind self, what is wanted of the attributes -/
abbrev PI3 := List D → (List (Str × D) → Prop) → XP → Prop
def LiftI (K : PySem.W.Frag) (T : List (Addr × Str)) (C : Addr) (n : Nat) (p : PI3) : Sp := fun vs H Q E => ∃ (M : Addr → Prop) (c a dx : Addr) (us : List V) (ds : List D) (Q3 : List (Str × D) → Prop) (X : XP), vs = .ref a :: us ∧ H a = some (.ins C dx []) ∧ ¬ M a ∧ Ok M H c ∧ (∀ q ∈ T, M q.1) ∧ LamX.Tabs T H ∧ Reps K (Add M a) c H us ds ∧ ds.length = n ∧ p ds Q3 X ∧
  (∀ dx' fs es H', Fin3 ⟨K, Add M a, c, fun b => b = a ∨ (b = c ∨ ∃ p ∈ T, p.1 = b), H, T⟩ H' → H' a = some (.ins C dx' fs) → RepF K (Add M a) c H' fs es → Q3 es → Q .non H') ∧
  (∀ C' d fs es H', Fin3 ⟨K, Add M a, c, fun b => b = a ∨ (b = c ∨ ∃ p ∈ T, p.1 = b), H, T⟩ H' → ¬ Add M a d → H' d = some (.xd fs) → RepF K (Add M a) c H' fs es → X C' es → E (.ref C') (some d) H')
abbrev fxInit (K : PySem.W.Frag) (M : Addr → Prop) (c a : Addr) (H : Hp) (T : List (Addr × Str)) : Fx := ⟨K, Add M a, c, fun b => b = a ∨ (b = c ∨ ∃ p ∈ T, p.1 = b), H, T⟩
theorem init_len {K : PySem.W.Frag} {T : List (Addr × Str)} {C : Addr} {n : Nat} {p : PI3} : ∀ vs H Q E, LiftI K T C n p vs H Q E → vs.length = n + 1 := by
  rintro vs H Q E ⟨M, c, a, dx, us, ds, Q3, X, rfl, _, _, _, _, _, h, hn, _⟩
  rw [List.length_cons, h.length, hn]
/-- a new instance by its __init__ -/
theorem make_go {n : Nat} {p : PI3} {vs : List V} {ds : List D} {Qv : VK} {Q3 : W → Prop} {XC : XP} {E : XK} (R : Rel F M Tm S σ H) (r : Reps F.K M F.c H vs ds) (hn : ds.length = n) (h : p ds (fun fs => Q3 (.d (.obj C fs))) XC)
    (k : ∀ v w H', Rel F M Tm S σ H' → RepW F M H' v w → Q3 w → Qv v H') (kx : ∀ C d fs es H', Rel F M Tm S σ H' → ¬ M d → H' d = some (.xd fs) → RepF F.K M F.c H' fs es → XC C es → E (.ref C) (some d) H') :
    ∀ x dx, H x = none → H dx = none → dx ≠ x → LiftI F.K F.T C n p (.ref x :: vs) (upd (upd H dx (.own x)) x (.ins C dx [])) (fun v H2 => v = .non ∧ Qv (.ref x) H2) E := fun x dx hx hdx ne => by
  have hx1 : upd H dx (.own x) x = none := by rw [upd_ne (Ne.symm ne)]; exact hx
  have R1 := R.new (o := .own x) hdx
  have R2 := R1.new (o := .ins C dx []) hx1
  have nM : ¬ M x := R.heq.ok.notM hx
  have dA : Dx (fun _ => False) H (upd (upd H dx (.own x)) x (.ins C dx [])) := (Dx.new hdx).trans (Dx.new hx1)
  have dR : ∀ {H' : Hp}, Fin3 (fxInit F.K M F.c x (upd (upd H dx (.own x)) x (.ins C dx [])) F.T) H' → Rel F M Tm S σ H' := fun {H'} f => by
    have d : Dx (Ch F) H H' := ((dA.mono (N := fun b => b = x ∨ (b = F.c ∨ ∃ p ∈ F.T, p.1 = b)) fun _ z => z.elim).trans f.dx).loc fun b hb => by
      rcases hb with z | z
      · exact .inr (by rw [z]; exact hx)
      · exact .inl z
    exact R.next d (f.ok.less R.heq.ok.inM fun a z => .inr z) f.tab
  refine ⟨M, F.c, x, dx, vs, ds, _, XC, rfl, upd_same, nM, R2.heq.ok, fun q hq => R.heq.sub _ (R.heq.tA q hq).2, R2.heq.tab, (r.add hx).to (fun a o m e => ⟨dA.st a o id e, m⟩), hn, h, fun dx' fs es H' f e rf q => ⟨rfl, k _ _ _ (dR f) (.d (.obj nM e (rf.less fun a z => .inr z))) q⟩, fun C' d fs es H' f m e rf q => kx C' d fs es H' (dR f) (fun z => m (.inr z)) e (rf.less fun a z => .inr z) q⟩
def x_make (C : Addr) (n : Nat) (p : PI3) (as : A3) (dvs : List D) : T3 := fun S Q X => as S (fun ws => allD ws fun ds => (ds ++ dvs).length = n ∧ p (ds ++ dvs) (fun fs => Q (.d (.obj C fs))) (X S)) X
def x_make0 (C : Addr) (n : Nat) (p : PI3) (as : A3) (dvs : List D) : T3 := fun S Q X => as S (fun ws => allD ws fun ds => (ds ++ dvs).length = n ∧ p (ds ++ dvs) (fun fs => Q (.d (.obj C fs))) noX) X
theorem e3_make {n : Nat} {p : PI3} {E : XK} {dvs : List V} {xs : List D} (h : AR3 F (fun _ => E) tas as) (hd : Defs3 F.K dvs xs) : E3 F (fun _ => E) (tMake C (LiftI F.K F.T C n p) dvs E tas) (x_make C n p as xs) := ⟨fun M Tm S σ H Qv Q3 X R h0 k lx => h.run M Tm S σ H _ _ X R h0 (fun vs ws H1 R1 r1 q1 => by
  obtain ⟨ds, rd, hn, q⟩ := allD_get r1 q1
  exact make_go R1 (rd.append (hd M F.c H1)) hn q k fun C d fs es H' R' m hd r hx => lx M Tm S σ H' C d fs es (fun _ z => z) R' m hd r hx) lx⟩
theorem e3_make0 {n : Nat} {p : PI3} {E : XK} {dvs : List V} {xs : List D} (h : AR3 F EE tas as) (hd : Defs3 F.K dvs xs) : E3 F EE (tMake C (LiftI F.K F.T C n p) dvs E tas) (x_make0 C n p as xs) := ⟨fun M Tm S σ H Qv Q3 X R h0 k lx => h.run M Tm S σ H _ _ X R h0 (fun vs ws H1 R1 r1 q1 => by
  obtain ⟨ds, rd, hn, q⟩ := allD_get r1 q1
  exact make_go R1 (rd.append (hd M F.c H1)) hn q k fun C d fs es H' R' m hd r hx => hx.elim) lx⟩
/-! ### the entry of a def -/
def env0 (ds : List D) (m : Nat) : Env3 := ds.map (fun x => some (.d x)) ++ List.replicate m none
theorem env_at {K : PySem.W.Frag} {c : Addr} {vs : List V} {ds : List D} {m i : Nat} {w : W} (r : Reps K M c H vs ds) (h : (env0 ds m)[i]? = some (some w)) : ∃ x v, w = .d x ∧ vs[i]? = some v ∧ ds[i]? = some x ∧ Rep K M c H v x := by
  unfold env0 at h
  by_cases hi : i < ds.length
  · rw [List.getElem?_append_left (by rw [List.length_map]; exact hi), List.getElem?_map, List.getElem?_eq_getElem hi] at h
    obtain ⟨v, h1, h2⟩ := r.get (List.getElem?_eq_getElem hi)
    cases h
    exact ⟨_, v, rfl, h1, List.getElem?_eq_getElem hi, h2⟩
  · rw [List.getElem?_append_right (by rw [List.length_map]; omega)] at h
    have := List.mem_of_getElem? h
    have := List.eq_of_mem_replicate this
    cases this
theorem start_at {N : List Str} {vs : List V} {i : Nat} {v : V} (h : vs[i]? = some v) : (L2.start N vs)[i]? = some (some v) := by
  unfold L2.start
  have hi := (List.getElem?_eq_some_iff.mp h).1
  rw [List.getElem?_append_left (by rw [List.length_map]; exact hi), List.getElem?_map, h]
  rfl
theorem rel_start {K : PySem.W.Frag} {T : List (Addr × Str)} {c : Addr} {N : List Str} {vs : List V} {ds : List D} (ok : Ok M H c) (hT : ∀ q ∈ T, M q.1) (tab : LamX.Tabs T H) (r : Reps K M c H vs ds) (hl : vs.length ≤ N.length) :
    Rel (fxCall K M c H T) M [] (env0 ds (N.length - vs.length)) (L2.start N vs) H := by
  refine ⟨⟨ok, fun _ z => z, fun a z => ok.al a z, fun a z => .inl z, .inl rfl, ok.inM, fun p hp => ⟨.inr ⟨p, hp, rfl⟩, hT p hp⟩, Dx.refl, tab⟩, ?_, fun i w h => ?_, fun i j l w w' h1 _ o1 => ?_, fun p hp => absurd hp (by simp)⟩
  · unfold env0 L2.start
    rw [List.length_append, List.length_map, List.length_append, List.length_map, List.length_replicate, List.length_replicate, r.length]
  · obtain ⟨x, v, rfl, h1, _, h2⟩ := env_at r h
    exact ⟨v, start_at h1, .d h2⟩
  · obtain ⟨x, v, rfl, _⟩ := env_at r h1
    cases o1
theorem enter3 {K : PySem.W.Frag} {T : List (Addr × Str)} {n m : Nat} {p : P3v} {N : List Str} {vs : List V} {Qv : VK} {E : XK} {ts : TS} {u : TS3} (h : Lift3 K T n p vs H Qv E) (hN : N.length = n + m)
    (hs : ∀ (M : Addr → Prop) (c : Addr) (A : Addr → Prop) (H0 : Hp), S3 ⟨K, M, c, A, H0, T⟩ (fun _ => E) ts u)
    (hu : ∀ ds Q3 X, ds.length = n → p ds Q3 X → u (env0 ds m) ⟨fun _ => Q3 (.d .non), Q3, fun _ => False, fun _ => False⟩ (fun _ => X)) : ts { nx := fun _ H' => Qv .non H', rt := Qv } (L2.start N vs) H := by
  obtain ⟨M, c, ds, Q3, X, ok, hT, tab, r, hn, hp, k, kx⟩ := h
  have e : N.length - vs.length = m := by rw [r.length, hn, hN]; omega
  have R := rel_start (N := N) ok hT tab r (by rw [r.length, hn, hN]; omega)
  rw [e] at R
  refine (hs M c _ H).run M [] _ _ H _ _ (fun _ => X) (fun p hp => absurd hp (by simp)) R (hu ds Q3 X hn hp) ⟨fun M' S' σ' H' R' q => k _ _ _ R'.fin (.d .non) q, fun v w H' f r q => k v w H' f r q, fun _ _ _ _ _ z => z.elim, fun _ _ _ _ _ z => z.elim⟩ fun M' Tm' S' σ' H' C d fs ds' hs' R' md hd rf hx => ?_
  have f := R'.fin
  exact kx C d fs ds' H' f (fun z => md (R'.heq.sub d z)) hd (rf.less R'.heq.sub) hx
/-- the entry of an __init__ -/
theorem enterI {K : PySem.W.Frag} {T : List (Addr × Str)} {C : Addr} {n m : Nat} {p : PI3} {N : List Str} {vs : List V} {Qv : VK} {E : XK} {ts : TS} {u : TS3} (h : LiftI K T C n p vs H Qv E) (hN : N.length = n + 1 + m)
    (hs : ∀ (M : Addr → Prop) (c : Addr) (A : Addr → Prop) (H0 : Hp), S3 ⟨K, M, c, A, H0, T⟩ (fun _ => E) ts u)
    (hu : ∀ ds Q3 X, ds.length = n → p ds Q3 X → u (some (.oi C []) :: env0 ds m) ⟨fun S => ∃ fs, S[0]? = some (some (.oi C fs)) ∧ Q3 fs, fun _ => False, fun _ => False, fun _ => False⟩ (fun _ => X)) : ts { nx := fun _ H' => Qv .non H', rt := Qv } (L2.start N vs) H := by
  obtain ⟨M, c, a, dx, us, ds, Q3, X, rfl, ha, nM, ok, hT, tab, r, hn, hp, k, kx⟩ := h
  have e : N.length - (V.ref a :: us).length = m := by rw [List.length_cons, r.length, hn, hN]; omega
  have okA : Ok (Add M a) H c := by
    obtain ⟨p, i, rest, left, n', x, y, cells, h1, h2, h3, h4⟩ := ok.st.ex
    refine ⟨.inr ok.inM, fun b z => ?_, ⟨p, i, rest, left, n', x, y, cells, h1, h2, fun z => ?_, h4⟩⟩
    · rcases z with z | z
      · rw [z, ha]; exact fun q => nomatch q
      · exact ok.al b z
    · rcases z with z | z
      · rw [z, ha] at h2; cases h2
      · exact h3 z
  have ca : a ≠ c := fun z => nM (by rw [z]; exact ok.inM)
  have R : Rel (fxInit K M c a H T) (Add M a) [] (some (.oi C []) :: env0 ds m) (L2.start N (V.ref a :: us)) H := by
    refine ⟨⟨okA, fun _ z => z, fun b z => okA.al b z, fun b z => .inl z, .inr (.inl rfl), .inr ok.inM, fun p hp => ⟨.inr (.inr ⟨p, hp, rfl⟩), .inr (hT p hp)⟩, Dx.refl, tab⟩, ?_, fun i w h => ?_, fun i j l w w' h1 h2 o1 o2 _ _ => ?_, fun p hp => absurd hp (by simp)⟩
    · unfold env0 L2.start
      rw [e]
      simp only [List.length_cons, List.length_append, List.length_map, List.length_replicate, r.length]
      omega
    · cases i with
      | zero =>
        cases h
        exact ⟨.ref a, start_at rfl, (.oi ⟨.inl rfl, ca, .inl (.inl rfl)⟩ (.inl rfl) ha .nil)⟩
      | succ i =>
        obtain ⟨x, v, rfl, h1, _, h2⟩ := env_at r (show (env0 ds m)[i]? = _ from h)
        exact ⟨v, start_at h1, .d h2⟩
    · have z0 : ∀ {i : Nat} {w : W}, (some (W.oi C []) :: env0 ds m)[i]? = some (some w) → owned w = true → i = 0 := fun {i w} h o => by
        cases i with
        | zero => rfl
        | succ i =>
          obtain ⟨x, v, rfl, _⟩ := env_at r (show (env0 ds m)[i]? = _ from h)
          cases o
      rw [z0 h1 o1, z0 h2 o2]
  refine (hs _ c _ H).run _ [] _ _ H _ _ (fun _ => X) (fun p hp => absurd hp (by simp)) R (hu ds Q3 X hn hp) ⟨fun M' S' σ' H' R' ⟨fs, q1, q2⟩ => ?_, fun v w H' f r q => q.elim, fun _ _ _ _ _ z => z.elim, fun _ _ _ _ _ z => z.elim⟩ fun M' Tm' S' σ' H' C d fs ds' hs' R' md hd rf hx => ?_
  · obtain ⟨v, h1, r'⟩ := R'.sl 0 _ q1
    cases r' with
    | @oi l _ dx' vs' _ ow sA hl rf =>
      have e : l = a := by
        rcases sA with z | z
        · exact z
        · rcases z with z | ⟨p, hp, z⟩
          · exact absurd z ow.c
          · exact absurd z (ne_tab R'.heq.tab hl (fun _ y => nomatch y) p hp)
      subst e
      exact k dx' vs' fs H' R'.fin hl (rf.less R'.heq.sub) q2
  · exact kx C d fs ds' H' R'.fin (fun z => md (R'.heq.sub d z)) hd (rf.less R'.heq.sub) hx
end
end Q
/-! R3i: arguments that are borrowed: lists and dicts that the caller may write later. -/
namespace Q
open PySem PySem.Spec PyProof.Rows L2
inductive RepB (K : PySem.W.Frag) (M : Addr → Prop) (T : List (Addr × Str)) (c : Addr) (H : Hp) : Bool → V → D → Prop
  | d {b : Bool} {v : V} {x : D} (r : Rep K M c H v x) : RepB K M T c H b v x
  | bl {l : Addr} {vs : List V} {xs : List D} (nc : l ≠ c) (nt : ∀ p ∈ T, p.1 ≠ l) (h : H l = some (.lst vs)) (r : Reps K M c H vs xs) : RepB K M T c H true (.ref l) (.lst xs)
  | bk {l : Addr} {vs : List (Key × V)} {xs : List (Key × D)} (nc : l ≠ c) (nt : ∀ p ∈ T, p.1 ≠ l) (h : H l = some (.dK vs)) (r : RepK K M c H vs xs) : RepB K M T c H true (.ref l) (.dic xs)
inductive RepBs (K : PySem.W.Frag) (M : Addr → Prop) (T : List (Addr × Str)) (c : Addr) (H : Hp) : List Bool → List V → List D → Prop
  | nil : RepBs K M T c H [] [] []
  | cons {b : Bool} {bs : List Bool} {v : V} {vs : List V} {d : D} {ds : List D} (h : RepB K M T c H b v d) (t : RepBs K M T c H bs vs ds) : RepBs K M T c H (b :: bs) (v :: vs) (d :: ds)
section
variable {K : PySem.W.Frag} {M N : Addr → Prop} {T : List (Addr × Str)} {c : Addr} {H H' : Hp}
theorem RepBs.length : ∀ {bs : List Bool} {vs : List V} {ds : List D}, RepBs K M T c H bs vs ds → vs.length = ds.length ∧ bs.length = ds.length
  | _, _, _, .nil => ⟨rfl, rfl⟩
  | _, _, _, .cons _ t => by
    rw [List.length_cons, List.length_cons, List.length_cons, t.length.1, t.length.2]
    exact ⟨rfl, rfl⟩
theorem RepBs.get : ∀ {bs : List Bool} {vs : List V} {ds : List D} {i : Nat} {b : Bool} {d : D}, RepBs K M T c H bs vs ds → bs[i]? = some b → ds[i]? = some d → ∃ v, vs[i]? = some v ∧ RepB K M T c H b v d
  | _, _, _, _, _, _, .nil, _, e => by simp at e
  | _, _, _, 0, _, _, .cons h _, eb, e => by
    simp at e eb
    subst e eb
    exact ⟨_, rfl, h⟩
  | _, _, _, i + 1, b, d, .cons _ t, eb, e => by
    obtain ⟨u, h1, h2⟩ := t.get (i := i) (b := b) (d := d) (by simpa using eb) (by simpa using e)
    exact ⟨u, by simpa using h1, h2⟩
theorem RepBs.of : ∀ {bs : List Bool} {vs : List V} {ds : List D}, bs.length = ds.length → Reps K M c H vs ds → RepBs K M T c H bs vs ds
  | [], _, _, _, .nil => .nil
  | _ :: _, _, _, l, .nil => by cases l
  | [], _, _, l, .cons _ _ => by cases l
  | _ :: _, _, _, l, .cons h t => .cons (.d h) (RepBs.of (by simpa using l) t)
/-- to another heap that has the lists and dicts, too -/
theorem RepBs.to (st : ∀ a o, ¬ M a → H a = some o → H' a = some o ∧ ¬ N a) (sl : ∀ a vs, H a = some (.lst vs) → H' a = some (.lst vs)) (sk : ∀ a vs, H a = some (.dK vs) → H' a = some (.dK vs)) : ∀ {bs : List Bool} {vs : List V} {ds : List D}, RepBs K M T c H bs vs ds → RepBs K N T c H' bs vs ds
  | _, _, _, .nil => .nil
  | _, _, _, .cons (.d r) t => .cons (.d (r.to st)) (RepBs.to st sl sk t)
  | _, _, _, .cons (.bl nc nt h r) t => .cons (.bl nc nt (sl _ _ h) (r.to st)) (RepBs.to st sl sk t)
  | _, _, _, .cons (.bk nc nt h r) t => .cons (.bk nc nt (sk _ _ h) (r.to st)) (RepBs.to st sl sk t)
end
def Lift3B (K : PySem.W.Frag) (T : List (Addr × Str)) (n : Nat) (bs : List Bool) (p : P3v) : Sp := fun vs H Q E => ∃ (M : Addr → Prop) (c : Addr) (ds : List D) (Q3 : W → Prop) (X : XP), Ok M H c ∧ (∀ q ∈ T, M q.1) ∧ LamX.Tabs T H ∧ RepBs K M T c H bs vs ds ∧ ds.length = n ∧ p ds Q3 X ∧
  (∀ v w H', Fin3 (fxCall K M c H T) H' → RetW (fxCall K M c H T) H' v w → Q3 w → Q v H') ∧
  (∀ C d fs es H', Fin3 (fxCall K M c H T) H' → ¬ M d → H' d = some (.xd fs) → RepF K M c H' fs es → X C es → E (.ref C) (some d) H')
theorem lift_lenB {K : PySem.W.Frag} {T : List (Addr × Str)} {n : Nat} {bs : List Bool} {p : P3v} : ∀ vs H Q E, Lift3B K T n bs p vs H Q E → vs.length = n := by
  rintro vs H Q E ⟨M, c, ds, Q3, X, _, _, _, h, hn, _⟩
  rw [h.length.1, hn]
/-! ### the entry -/
def env0B : List Bool → List D → Nat → Env3
  | true :: bs, d :: ds, m => some (.bw d) :: env0B bs ds m
  | false :: bs, d :: ds, m => some (.d d) :: env0B bs ds m
  | _, _, m => List.replicate m none
theorem env0B_t {bs : List Bool} {d : D} {ds : List D} {m : Nat} : env0B (true :: bs) (d :: ds) m = some (.bw d) :: env0B bs ds m := rfl
theorem env0B_f {bs : List Bool} {d : D} {ds : List D} {m : Nat} : env0B (false :: bs) (d :: ds) m = some (.d d) :: env0B bs ds m := rfl
theorem env0B_nil {m : Nat} : env0B [] [] m = List.replicate m none := rfl
theorem frz_bw {x : D} : frz (.bw x) = x := rfl
theorem env_lenB : ∀ {bs : List Bool} {ds : List D} {m : Nat}, bs.length = ds.length → (env0B bs ds m).length = ds.length + m
  | [], [], m, _ => by unfold env0B; rw [List.length_replicate]; simp
  | [], _ :: _, _, l => by cases l
  | _ :: _, [], _, l => by cases l
  | true :: bs, d :: ds, m, l => by rw [env0B_t, List.length_cons, List.length_cons, env_lenB (by simpa using l)]; omega
  | false :: bs, d :: ds, m, l => by rw [env0B_f, List.length_cons, List.length_cons, env_lenB (by simpa using l)]; omega
theorem env_getB : ∀ {bs : List Bool} {ds : List D} {m i : Nat} {w : W}, (env0B bs ds m)[i]? = some (some w) → ∃ b d, bs[i]? = some b ∧ ds[i]? = some d ∧ w = if b = true then .bw d else .d d
  | [], [], m, i, w, h => by
    unfold env0B at h
    exact absurd (List.eq_of_mem_replicate (List.mem_of_getElem? h)) (fun z => nomatch z)
  | [], _ :: _, m, i, w, h => by
    unfold env0B at h
    exact absurd (List.eq_of_mem_replicate (List.mem_of_getElem? h)) (fun z => nomatch z)
  | b :: _, [], m, i, w, h => by
    cases b with
    | true => exact absurd (List.eq_of_mem_replicate (List.mem_of_getElem? (show (List.replicate m none)[i]? = _ from h))) (fun z => nomatch z)
    | false => exact absurd (List.eq_of_mem_replicate (List.mem_of_getElem? (show (List.replicate m none)[i]? = _ from h))) (fun z => nomatch z)
  | true :: bs, d :: ds, m, 0, w, h => by
    cases h
    exact ⟨true, d, rfl, rfl, rfl⟩
  | false :: bs, d :: ds, m, 0, w, h => by
    cases h
    exact ⟨false, d, rfl, rfl, rfl⟩
  | true :: bs, d :: ds, m, i + 1, w, h => env_getB (bs := bs) (ds := ds) (i := i) h
  | false :: bs, d :: ds, m, i + 1, w, h => env_getB (bs := bs) (ds := ds) (i := i) h
section
variable {M : Addr → Prop} {H : Hp} {Qv : VK} {E : XK}
theorem repB_W {F : Fx} {b : Bool} {v : V} {d : D} (hA : ∀ a, F.A a → a = F.c ∨ (∃ p ∈ F.T, p.1 = a) ∨ ∃ C dx fs, H a = some (.ins C dx fs)) (h0 : F.H0 = H) (r : RepB F.K M F.T F.c H b v d) : RepW F M H v (if b = true then .bw d else .d d) := by
  have nA : ∀ {l : Addr} {u : HO}, l ≠ F.c → (∀ p ∈ F.T, p.1 ≠ l) → H l = some u → (∀ C dx fs, u ≠ .ins C dx fs) → ¬ F.A l := fun {l u} nc nt h ni z => by
    rcases hA l z with z | ⟨p, hp, z⟩ | ⟨C, dx, fs, z⟩
    · exact nc z
    · exact nt p hp z
    · rw [h] at z; exact ni _ _ _ (Option.some.inj z)
  cases r with
  | d r =>
    cases b with
    | true => exact .bd r
    | false => exact .d r
  | bl nc nt h r => exact .bl (nA nc nt h fun _ _ _ z => nomatch z) (by rw [h0]; exact h) h r
  | bk nc nt h r => exact .bk (nA nc nt h fun _ _ _ z => nomatch z) (by rw [h0]; exact h) h r
theorem enter3B {K : PySem.W.Frag} {T : List (Addr × Str)} {n m : Nat} {bs : List Bool} {p : P3v} {N : List Str} {vs : List V} {ts : TS} {u : TS3} (h : Lift3B K T n bs p vs H Qv E) (hN : N.length = n + m)
    (hs : ∀ (M : Addr → Prop) (c : Addr) (A : Addr → Prop) (H0 : Hp), S3 ⟨K, M, c, A, H0, T⟩ (fun _ => E) ts u)
    (hu : ∀ ds Q3 X, ds.length = n → p ds Q3 X → u (env0B bs ds m) ⟨fun _ => Q3 (.d .non), Q3, fun _ => False, fun _ => False⟩ (fun _ => X)) : ts { nx := fun _ H' => Qv .non H', rt := Qv } (L2.start N vs) H := by
  obtain ⟨M, c, ds, Q3, X, ok, hT, tab, r, hn, hp, k, kx⟩ := h
  have e : N.length - vs.length = m := by rw [r.length.1, hn, hN]; omega
  have R : Rel (fxCall K M c H T) M [] (env0B bs ds m) (L2.start N vs) H := by
    refine ⟨⟨ok, fun _ z => z, fun a z => ok.al a z, fun a z => .inl z, .inl rfl, ok.inM, fun p hp => ⟨.inr ⟨p, hp, rfl⟩, hT p hp⟩, Dx.refl, tab⟩, ?_, fun i w h => ?_, fun i j l w w' h1 _ o1 => ?_, fun p hp => absurd hp (by simp)⟩
    · rw [env_lenB r.length.2]
      unfold L2.start
      rw [List.length_append, List.length_map, List.length_replicate, r.length.1, hn, hN]
      omega
    · obtain ⟨b, d, hb, hd, rfl⟩ := env_getB h
      obtain ⟨v, h1, h2⟩ := r.get hb hd
      exact ⟨v, start_at h1, repB_W (F := fxCall K M c H T) (fun a z => by
        rcases z with z | z
        · exact .inl z
        · exact .inr (.inl z)) rfl h2⟩
    · obtain ⟨b, d, hb, hd, rfl⟩ := env_getB h1
      cases b <;> cases o1
  refine (hs M c _ H).run M [] _ _ H _ _ (fun _ => X) (fun p hp => absurd hp (by simp)) R (hu ds Q3 X hn hp) ⟨fun M' S' σ' H' R' q => k _ _ _ R'.fin (.d .non) q, fun v w H' f r q => k v w H' f r q, fun _ _ _ _ _ z => z.elim, fun _ _ _ _ _ z => z.elim⟩ fun M' Tm' S' σ' H' C d fs ds' hs' R' md hd rf hx => ?_
  have f := R'.fin
  exact kx C d fs ds' H' f (fun z => md (R'.heq.sub d z)) hd (rf.less R'.heq.sub) hx
def LiftIB (K : PySem.W.Frag) (T : List (Addr × Str)) (C : Addr) (n : Nat) (bs : List Bool) (p : PI3) : Sp := fun vs H Q E => ∃ (M : Addr → Prop) (c a dx : Addr) (us : List V) (ds : List D) (Q3 : List (Str × D) → Prop) (X : XP), vs = .ref a :: us ∧ H a = some (.ins C dx []) ∧ ¬ M a ∧ Ok M H c ∧ (∀ q ∈ T, M q.1) ∧ LamX.Tabs T H ∧ RepBs K (Add M a) T c H bs us ds ∧ ds.length = n ∧ p ds Q3 X ∧
  (∀ dx' fs es H', Fin3 ⟨K, Add M a, c, fun b => b = a ∨ (b = c ∨ ∃ p ∈ T, p.1 = b), H, T⟩ H' → H' a = some (.ins C dx' fs) → RepF K (Add M a) c H' fs es → Q3 es → Q .non H') ∧
  (∀ C' d fs es H', Fin3 ⟨K, Add M a, c, fun b => b = a ∨ (b = c ∨ ∃ p ∈ T, p.1 = b), H, T⟩ H' → ¬ Add M a d → H' d = some (.xd fs) → RepF K (Add M a) c H' fs es → X C' es → E (.ref C') (some d) H')
theorem init_lenB {K : PySem.W.Frag} {T : List (Addr × Str)} {C : Addr} {n : Nat} {bs : List Bool} {p : PI3} : ∀ vs H Q E, LiftIB K T C n bs p vs H Q E → vs.length = n + 1 := by
  rintro vs H Q E ⟨M, c, a, dx, us, ds, Q3, X, rfl, _, _, _, _, _, h, hn, _⟩
  rw [List.length_cons, h.length.1, hn]
theorem enterIB {K : PySem.W.Frag} {T : List (Addr × Str)} {C : Addr} {n m : Nat} {bs : List Bool} {p : PI3} {N : List Str} {vs : List V} {ts : TS} {u : TS3} (h : LiftIB K T C n bs p vs H Qv E) (hN : N.length = n + 1 + m)
    (hs : ∀ (M : Addr → Prop) (c : Addr) (A : Addr → Prop) (H0 : Hp), S3 ⟨K, M, c, A, H0, T⟩ (fun _ => E) ts u)
    (hu : ∀ ds Q3 X, ds.length = n → p ds Q3 X → u (some (.oi C []) :: env0B bs ds m) ⟨fun S => ∃ fs, S[0]? = some (some (.oi C fs)) ∧ Q3 fs, fun _ => False, fun _ => False, fun _ => False⟩ (fun _ => X)) : ts { nx := fun _ H' => Qv .non H', rt := Qv } (L2.start N vs) H := by
  obtain ⟨M, c, a, dx, us, ds, Q3, X, rfl, ha, nM, ok, hT, tab, r, hn, hp, k, kx⟩ := h
  have e : N.length - (V.ref a :: us).length = m := by rw [List.length_cons, r.length.1, hn, hN]; omega
  have okA : Ok (Add M a) H c := by
    obtain ⟨p, i, rest, left, n', x, y, cells, h1, h2, h3, h4⟩ := ok.st.ex
    refine ⟨.inr ok.inM, fun b z => ?_, ⟨p, i, rest, left, n', x, y, cells, h1, h2, fun z => ?_, h4⟩⟩
    · rcases z with z | z
      · rw [z, ha]; exact fun q => nomatch q
      · exact ok.al b z
    · rcases z with z | z
      · rw [z, ha] at h2; cases h2
      · exact h3 z
  have ca : a ≠ c := fun z => nM (by rw [z]; exact ok.inM)
  have R : Rel (fxInit K M c a H T) (Add M a) [] (some (.oi C []) :: env0B bs ds m) (L2.start N (V.ref a :: us)) H := by
    refine ⟨⟨okA, fun _ z => z, fun b z => okA.al b z, fun b z => .inl z, .inr (.inl rfl), .inr ok.inM, fun p hp => ⟨.inr (.inr ⟨p, hp, rfl⟩), .inr (hT p hp)⟩, Dx.refl, tab⟩, ?_, fun i w h => ?_, fun i j l w w' h1 h2 o1 o2 _ _ => ?_, fun p hp => absurd hp (by simp)⟩
    · unfold L2.start
      rw [e, List.length_cons, env_lenB r.length.2]
      simp only [List.length_cons, List.length_append, List.length_map, List.length_replicate, r.length.1]
      omega
    · cases i with
      | zero =>
        cases h
        exact ⟨.ref a, start_at rfl, (.oi ⟨.inl rfl, ca, .inl (.inl rfl)⟩ (.inl rfl) ha .nil)⟩
      | succ i =>
        obtain ⟨b, d, hb, hd, rfl⟩ := env_getB (show (env0B bs ds m)[i]? = _ from h)
        obtain ⟨v, h1, h2⟩ := r.get hb hd
        exact ⟨v, start_at h1, repB_W (F := fxInit K M c a H T) (fun b z => by
          rcases z with z | z | z
          · rw [z]; exact .inr (.inr ⟨_, _, _, ha⟩)
          · exact .inl z
          · exact .inr (.inl z)) rfl h2⟩
    · have z0 : ∀ {i : Nat} {w : W}, (some (W.oi C []) :: env0B bs ds m)[i]? = some (some w) → owned w = true → i = 0 := fun {i w} h o => by
        cases i with
        | zero => rfl
        | succ i =>
          obtain ⟨b, d, hb, hd, rfl⟩ := env_getB (show (env0B bs ds m)[i]? = _ from h)
          cases b <;> cases o
      rw [z0 h1 o1, z0 h2 o2]
  refine (hs _ c _ H).run _ [] _ _ H _ _ (fun _ => X) (fun p hp => absurd hp (by simp)) R (hu ds Q3 X hn hp) ⟨fun M' S' σ' H' R' ⟨fs, q1, q2⟩ => ?_, fun v w H' f r q => q.elim, fun _ _ _ _ _ z => z.elim, fun _ _ _ _ _ z => z.elim⟩ fun M' Tm' S' σ' H' C d fs ds' hs' R' md hd rf hx => ?_
  · obtain ⟨v, h1, r'⟩ := R'.sl 0 _ q1
    cases r' with
    | @oi l _ dx' vs' _ ow sA hl rf =>
      have e : l = a := by
        rcases sA with z | z
        · exact z
        · rcases z with z | ⟨p, hp, z⟩
          · exact absurd z ow.c
          · exact absurd z (ne_tab R'.heq.tab hl (fun _ y => nomatch y) p hp)
      subst e
      exact k dx' vs' fs H' R'.fin hl (rf.less R'.heq.sub) q2
  · exact kx C d fs ds' H' R'.fin (fun z => md (R'.heq.sub d z)) hd (rf.less R'.heq.sub) hx
end
/-! ### calls -/
def okB : List Bool → List W → Bool
  | [], [] => true
  | true :: _, .oi _ _ :: _ => false
  | true :: bs, _ :: ws => okB bs ws
  | false :: bs, .d _ :: ws => okB bs ws
  | _, _ => false
def borD (bs : List Bool) (ws : List W) (Q : List D → Prop) : Prop := okB bs ws = true ∧ Q (ws.map frz)
section
variable {F : Fx} {EE : L2.St → XK} {E : XK} {M : Addr → Prop} {Tm : List (V × W)} {S : Env3} {σ : L2.St} {H : Hp} {tas : TA} {as : A3} {C : Addr} {n : Nat} {p : P3v} {pi : PI3} {bs : List Bool}
theorem okB_get (e : Heq F M H) : ∀ {bs : List Bool} {vs : List V} {ws : List W}, RepWs F M H vs ws → okB bs ws = true → RepBs F.K M F.T F.c H bs vs (ws.map frz)
  | [], _, _, .nil, _ => .nil
  | _ :: _, _, _, .nil, h => by
    rename_i b bs
    cases b <;> cases h
  | [], _, _, .cons _ _, h => by cases h
  | true :: bs, _, _, .cons (.d r) t, h => .cons (.d r) (okB_get e t h)
  | true :: bs, _, _, .cons (.ol o n hl r) t, h => .cons (.bl o.c (ne_tab e.tab hl fun _ z => nomatch z) hl r) (okB_get e t h)
  | true :: bs, _, _, .cons (.od o n hl r) t, h => .cons (.bk o.c (ne_tab e.tab hl fun _ z => nomatch z) hl r) (okB_get e t h)
  | true :: bs, _, _, .cons (.oi o n hl r) t, h => by cases h
  | true :: bs, _, _, .cons (.bd r) t, h => .cons (.d r) (okB_get e t h)
  | true :: bs, _, _, .cons (.bl n h0 hl r) t, h => .cons (.bl (fun z => n (by rw [z]; exact e.cA)) (ne_tab e.tab hl fun _ z => nomatch z) hl r) (okB_get e t h)
  | true :: bs, _, _, .cons (.bk n h0 hl r) t, h => .cons (.bk (fun z => n (by rw [z]; exact e.cA)) (ne_tab e.tab hl fun _ z => nomatch z) hl r) (okB_get e t h)
  | false :: bs, _, _, .cons (.d r) t, h => .cons (.d r) (okB_get e t h)
  | false :: bs, _, _, .cons (.ol o n hl r) t, h => by cases h
  | false :: bs, _, _, .cons (.od o n hl r) t, h => by cases h
  | false :: bs, _, _, .cons (.oi o n hl r) t, h => by cases h
  | false :: bs, _, _, .cons (.bd r) t, h => by cases h
  | false :: bs, _, _, .cons (.bl n h0 hl r) t, h => by cases h
  | false :: bs, _, _, .cons (.bk n h0 hl r) t, h => by cases h
theorem repws_d : ∀ {vs : List V} {ds : List D}, Reps F.K M F.c H vs ds → RepWs F M H vs (ds.map W.d)
  | _, _, .nil => .nil
  | _, _, .cons h t => .cons (.d h) (repws_d t)
theorem repws_app : ∀ {vs us : List V} {ws zs : List W}, RepWs F M H vs ws → RepWs F M H us zs → RepWs F M H (vs ++ us) (ws ++ zs)
  | _, _, _, _, .nil, s => s
  | _, _, _, _, .cons h t, s => .cons h (repws_app t s)
def x_callB (n : Nat) (bs : List Bool) (p : P3v) (as : A3) (xs : List D) : T3 := fun S Q X => as S (fun ws => borD bs (ws ++ xs.map W.d) fun ds => ds.length = n ∧ p ds (fun w => Q (.d (frz w))) (X S)) X
def x_callB0 (n : Nat) (bs : List Bool) (p : P3v) (as : A3) (xs : List D) : T3 := fun S Q X => as S (fun ws => borD bs (ws ++ xs.map W.d) fun ds => ds.length = n ∧ p ds (fun w => Q (.d (frz w))) noX) X
theorem e3_callB {dvs : List V} {xs : List D} (h : AR3 F (fun _ => E) tas as) (hd : Defs3 F.K dvs xs) : E3 F (fun _ => E) (tCall (Lift3B F.K F.T n bs p) dvs E tas) (x_callB n bs p as xs) := ⟨fun M Tm S σ H Qv Q3 X R h0 k lx => h.run M Tm S σ H _ _ X R h0 (fun vs ws H1 R1 r1 q1 => by
  obtain ⟨q1, hn, q2⟩ := q1
  exact ⟨M, F.c, _, _, X S, R1.heq.ok, fun q hq => R1.heq.sub _ (R1.heq.tA q hq).2, R1.heq.tab, okB_get R1.heq (repws_app r1 (repws_d (hd M F.c H1))) q1, hn, q2, fun v w H' f r q => k v _ H' (R1.call f) (r.to R1) q, fun C d fs es H' f m hd r hx => lx M Tm S σ H' C d fs es (fun _ z => z) (R1.call f) m hd r hx⟩) lx⟩
theorem make_goB {vs : List V} {ds : List D} {Qv : VK} {Q3 : W → Prop} {XC : XP} (R : Rel F M Tm S σ H) (r : RepBs F.K M F.T F.c H bs vs ds) (hn : ds.length = n) (h : pi ds (fun fs => Q3 (.d (.obj C fs))) XC)
    (k : ∀ v w H', Rel F M Tm S σ H' → RepW F M H' v w → Q3 w → Qv v H') (kx : ∀ C d fs es H', Rel F M Tm S σ H' → ¬ M d → H' d = some (.xd fs) → RepF F.K M F.c H' fs es → XC C es → E (.ref C) (some d) H') :
    ∀ x dx, H x = none → H dx = none → dx ≠ x → LiftIB F.K F.T C n bs pi (.ref x :: vs) (upd (upd H dx (.own x)) x (.ins C dx [])) (fun v H2 => v = .non ∧ Qv (.ref x) H2) E := fun x dx hx hdx ne => by
  have hx1 : upd H dx (.own x) x = none := by rw [upd_ne (Ne.symm ne)]; exact hx
  have R1 := R.new (o := .own x) hdx
  have R2 := R1.new (o := .ins C dx []) hx1
  have nM : ¬ M x := R.heq.ok.notM hx
  have dA : Dx (fun _ => False) H (upd (upd H dx (.own x)) x (.ins C dx [])) := (Dx.new hdx).trans (Dx.new hx1)
  have dR : ∀ {H' : Hp}, Fin3 (fxInit F.K M F.c x (upd (upd H dx (.own x)) x (.ins C dx [])) F.T) H' → Rel F M Tm S σ H' := fun {H'} f => by
    have d : Dx (Ch F) H H' := ((dA.mono (N := fun b => b = x ∨ (b = F.c ∨ ∃ p ∈ F.T, p.1 = b)) fun _ z => z.elim).trans f.dx).loc fun b hb => by
      rcases hb with z | z
      · exact .inr (by rw [z]; exact hx)
      · exact .inl z
    exact R.next d (f.ok.less R.heq.ok.inM fun a z => .inr z) f.tab
  refine ⟨M, F.c, x, dx, vs, ds, _, XC, rfl, upd_same, nM, R2.heq.ok, fun q hq => R.heq.sub _ (R.heq.tA q hq).2, R2.heq.tab, r.to (fun a o m e => ⟨dA.st a o id e, fun z => by
    rcases z with z | z
    · rw [z, hx] at e; cases e
    · exact m z⟩) (fun a vs e => dA.st a _ id e) (fun a vs e => dA.st a _ id e), hn, h, fun dx' fs es H' f e rf q => ⟨rfl, k _ _ _ (dR f) (.d (.obj nM e (rf.less fun a z => .inr z))) q⟩, fun C' d fs es H' f m e rf q => kx C' d fs es H' (dR f) (fun z => m (.inr z)) e (rf.less fun a z => .inr z) q⟩
def x_makeB (C : Addr) (n : Nat) (bs : List Bool) (p : PI3) (as : A3) (xs : List D) : T3 := fun S Q X => as S (fun ws => borD bs (ws ++ xs.map W.d) fun ds => ds.length = n ∧ p ds (fun fs => Q (.d (.obj C fs))) (X S)) X
def x_makeB0 (C : Addr) (n : Nat) (bs : List Bool) (p : PI3) (as : A3) (xs : List D) : T3 := fun S Q X => as S (fun ws => borD bs (ws ++ xs.map W.d) fun ds => ds.length = n ∧ p ds (fun fs => Q (.d (.obj C fs))) noX) X
theorem e3_makeB {dvs : List V} {xs : List D} (h : AR3 F (fun _ => E) tas as) (hd : Defs3 F.K dvs xs) : E3 F (fun _ => E) (tMake C (LiftIB F.K F.T C n bs pi) dvs E tas) (x_makeB C n bs pi as xs) := ⟨fun M Tm S σ H Qv Q3 X R h0 k lx => h.run M Tm S σ H _ _ X R h0 (fun vs ws H1 R1 r1 q1 => by
  obtain ⟨q1, hn, q2⟩ := q1
  exact make_goB R1 (okB_get R1.heq (repws_app r1 (repws_d (hd M F.c H1))) q1) hn q2 k fun C d fs es H' R' m hd r hx => lx M Tm S σ H' C d fs es (fun _ z => z) R' m hd r hx) lx⟩
theorem e3_makeBS {dvs : List V} {xs : List D} (h : AR3 F EE tas as) (hd : Defs3 F.K dvs xs) : E3 F EE (tMakeS C (LiftIB F.K F.T C n bs pi) dvs EE tas) (x_makeB C n bs pi as xs) := ⟨fun M Tm S σ H Qv Q3 X R h0 k lx => h.run M Tm S σ H _ _ X R h0 (fun vs ws H1 R1 r1 q1 => by
  obtain ⟨q1, hn, q2⟩ := q1
  exact make_goB R1 (okB_get R1.heq (repws_app r1 (repws_d (hd M F.c H1))) q1) hn q2 k fun C d fs es H' R' m hd r hx => lx M Tm S σ H' C d fs es (fun _ z => z) R' m hd r hx) lx⟩
end
end Q
/-! R3g: operators and built-in calls over data. -/
namespace Q
open PySem PySem.Spec PyProof.Rows L2
/-! ### plain data -/
mutual
def py : D → PyData
  | .bl b => .bool b
  | .int i => .int i
  | .str x => .str x
  | .lst xs => .list (pys xs)
  | .tup xs => .tuple (pys xs)
  | _ => .none
def pys : List D → List PyData
  | [] => []
  | x :: xs => py x :: pys xs
end
mutual
def plainD : D → Bool
  | .non => true
  | .bl _ => true
  | .int _ => true
  | .str _ => true
  | .lst xs => plainDs xs
  | .tup xs => plainDs xs
  | _ => false
def plainDs : List D → Bool
  | [] => true
  | x :: xs => plainD x && plainDs xs
end
mutual
def depD : D → Nat
  | .lst xs => depDs xs + 1
  | .tup xs => depDs xs + 1
  | _ => 0
def depDs : List D → Nat
  | [] => 0
  | x :: xs => max (depD x) (depDs xs)
end
mutual
theorem py_plain : ∀ x : D, plainD x = true → PyData.plain (py x) = true
  | .non, _ => rfl
  | .bl _, _ => rfl
  | .int _, _ => rfl
  | .str _, _ => rfl
  | .lst xs, h => pys_plain xs h
  | .tup xs, h => pys_plain xs h
  | .dic _, h => nomatch h
  | .obj _ _, h => nomatch h
  | .val _, h => nomatch h
  | .store, h => nomatch h
  | .exc _ _ _ _, h => nomatch h
theorem pys_plain : ∀ xs : List D, plainDs xs = true → PyData.plainAll (pys xs) = true
  | [], _ => rfl
  | x :: xs, h => by
    obtain ⟨h1, h2⟩ := Bool.and_eq_true_iff.mp (show (plainD x && plainDs xs) = true from h)
    show (PyData.plain (py x) && PyData.plainAll (pys xs)) = true
    rw [py_plain x h1, pys_plain xs h2]
    rfl
end
mutual
theorem py_dep : ∀ x : D, (py x).depth = depD x
  | .non => rfl
  | .bl _ => rfl
  | .int _ => rfl
  | .str _ => rfl
  | .lst xs => by
    show PyData.depthAll (pys xs) + 1 = depDs xs + 1
    rw [pys_dep xs]
  | .tup xs => by
    show PyData.depthAll (pys xs) + 1 = depDs xs + 1
    rw [pys_dep xs]
  | .dic _ => rfl
  | .obj _ _ => rfl
  | .val _ => rfl
  | .store => rfl
  | .exc _ _ _ _ => rfl
theorem pys_dep : ∀ xs : List D, PyData.depthAll (pys xs) = depDs xs
  | [] => rfl
  | x :: xs => by
    show max (py x).depth (PyData.depthAll (pys xs)) = max (depD x) (depDs xs)
    rw [py_dep x, pys_dep xs]
end
def eqD (x y : D) : Bool := PyData.eqv (py x) (py y)
section
variable {K : PySem.W.Frag} {M : Addr → Prop} {c : Addr} {H : Hp}
mutual
theorem Rep.dp : ∀ {v : V} {x : D}, Rep K M c H v x → plainD x = true → Dp K H v (py x)
  | _, _, .non, _ => .non
  | _, _, .bl b, _ => .bl b
  | _, _, .int i, _ => .int i
  | _, _, .str x, _ => .str x
  | _, _, .lst m h r, p => .lst (SqL.of h) (Reps.dp r p)
  | _, _, .tup m h r, p => .tup (SqT.of h) (Reps.dp r p)
  | _, _, .kt h r, p => .tup (.inr h) (Reps.dp r p)
theorem Reps.dp : ∀ {v : List V} {x : List D}, Reps K M c H v x → plainDs x = true → DpAll K H v (pys x)
  | _, _, .nil, _ => .nil
  | _, x :: xs, .cons h t, p => .cons (Rep.dp h (Bool.and_eq_true_iff.mp (show (plainD x && plainDs xs) = true from p)).1) (Reps.dp t (Bool.and_eq_true_iff.mp (show (plainD x && plainDs xs) = true from p)).2)
end
end
section
variable {F : Fx} {M : Addr → Prop} {Tm : List (V × W)} {S : Env3} {σ : L2.St} {H H' : Hp} {v : V} {w : W}
/-- a thing as plain data: what is owned reads as what it would be -/
theorem RepW.dp (r : RepW F M H v w) (p : plainD (Q.frz w) = true) : Dp F.K H v (py (Q.frz w)) := by
  cases r with
  | d r => exact r.dp p
  | ol o n h r => exact .lst (SqL.of h) (r.dp p)
  | od o n h r => exact nomatch p
  | oi o s h r => exact nomatch p
  | bd r => exact r.dp p
  | bl n h0 h r => exact .lst (SqL.of h) (r.dp p)
  | bk n h0 h r => exact nomatch p
/-! ### operators -/
def seqW : W → Option (List D)
  | .d (.lst xs) => some xs
  | .d (.tup xs) => some xs
  | .ol xs => some xs
  | .bw (.lst xs) => some xs
  | .bw (.tup xs) => some xs
  | _ => none
theorem seqW_get {xs : List D} (r : RepW F M H v w) (h : seqW w = some xs) : ∃ a vs, v = .ref a ∧ (SqL F.K H a vs ∨ SqT F.K H a vs) ∧ Reps F.K M F.c H vs xs := by
  cases r with
  | d r =>
    cases r with
    | lst m e r => cases h; exact ⟨_, _, rfl, .inl (SqL.of e), r⟩
    | tup m e r => cases h; exact ⟨_, _, rfl, .inr (SqT.of e), r⟩
    | kt e r => cases h; exact ⟨_, _, rfl, .inr (.inr e), r⟩
    | _ => cases h
  | ol o n e r => cases h; exact ⟨_, _, rfl, .inl (SqL.of e), r⟩
  | bd r =>
    cases r with
    | lst m e r => cases h; exact ⟨_, _, rfl, .inl (SqL.of e), r⟩
    | tup m e r => cases h; exact ⟨_, _, rfl, .inr (SqT.of e), r⟩
    | kt e r => cases h; exact ⟨_, _, rfl, .inr (.inr e), r⟩
    | _ => cases h
  | bl n h0 e r => cases h; exact ⟨_, _, rfl, .inl (SqL.of e), r⟩
  | _ => cases h
def lstW : W → Option (List D)
  | .d (.lst xs) => some xs
  | .ol xs => some xs
  | .bw (.lst xs) => some xs
  | _ => none
theorem lstW_get {xs : List D} (r : RepW F M H v w) (h : lstW w = some xs) : ∃ a vs, v = .ref a ∧ H a = some (.lst vs) ∧ Reps F.K M F.c H vs xs := by
  cases r with
  | d r =>
    cases r with
    | lst m e r => cases h; exact ⟨_, _, rfl, e, r⟩
    | _ => cases h
  | ol o n e r => cases h; exact ⟨_, _, rfl, e, r⟩
  | bd r =>
    cases r with
    | lst m e r => cases h; exact ⟨_, _, rfl, e, r⟩
    | _ => cases h
  | bl n h0 e r => cases h; exact ⟨_, _, rfl, e, r⟩
  | _ => cases h
def ii (f : Int → Int → D) : Op3 := fun w w' Q => match w, w' with
  | .d (.int i), .d (.int j) => Q (.d (f i j))
  | _, _ => False
def ss (f : Str → Str → D) : Op3 := fun w w' Q => match w, w' with
  | .d (.str i), .d (.str j) => Q (.d (f i j))
  | _, _ => False
theorem ii_get {f : Int → Int → D} {w w' : W} {Q : W → Prop} {v u : V} (r : RepW F M H v w) (r' : RepW F M H u w') (h : ii f w w' Q) : ∃ i j, v = .int i ∧ u = .int j ∧ Q (.d (f i j)) := by
  unfold ii at h
  split at h
  · exact ⟨_, _, rep_int r, rep_int r', h⟩
  · exact h.elim
theorem rep_str {x : Str} (r : RepW F M H v (.d (.str x))) : v = .str x := by
  cases r with
  | d r => cases r; rfl
/-- + of ints, texts, lists, tuples -/
def o_add : Op3 := fun w w' Q => match w, w' with
  | .d (.int i), .d (.int j) => Q (.d (.int (i + j)))
  | .d (.str a), .d (.str b) => a.length + b.length ≤ 100000 ∧ Q (.d (.str (a ++ b)))
  | .d (.tup xs), .d (.tup ys) => xs ≠ [] ∧ xs.length + ys.length ≤ 100000 ∧ Q (.d (.tup (xs ++ ys)))
  | _, _ => ∃ xs ys, lstW w = some xs ∧ lstW w' = some ys ∧ xs.length + ys.length ≤ 100000 ∧ Q (.d (.lst (xs ++ ys)))
theorem tupW_get {xs : List D} (r : RepW F M H v (.d (.tup xs))) : ∃ a vs, v = .ref a ∧ SqT F.K H a vs ∧ Reps F.K M F.c H vs xs := by
  cases r with
  | d r =>
    cases r with
    | tup m e r => exact ⟨_, _, rfl, SqT.of e, r⟩
    | kt e r => exact ⟨_, _, rfl, .inr e, r⟩
theorem O3_add : O3 F (rAddU F.K) o_add := fun M Tm S σ H x y wx wy Qv Q3 R r r' h k => by
  unfold o_add at h
  split at h
  · exact .inl ⟨_, _, rep_int r, rep_int r', k _ _ _ R (.d (.int _)) h⟩
  · exact .inr (.inl ⟨_, _, rep_str r, rep_str r', size_ok h.1, k _ _ _ R (.d (.str _)) h.2⟩)
  · obtain ⟨a, vs, rfl, h1, r1⟩ := tupW_get r
    obtain ⟨b, us, rfl, h2, r2⟩ := tupW_get r'
    refine .inr (.inr (.inr ⟨a, b, vs, us, rfl, rfl, h1, h2, fun z => h.1 ?_, ?_, fun e => ?_, fun _ p hp => k _ _ _ (R.new hp) (.d (.tup (R.heq.ok.notM hp) upd_same ((r1.append r2).keep (Dx.new hp)))) h.2.2⟩))
    · have e := r1.length
      rw [z] at e
      exact List.eq_nil_of_length_eq_zero e.symm
    · rw [r1.length, r2.length]
      exact size_ok h.2.1
    · have e2 := r2.length
      rw [e] at e2
      have e3 := List.eq_nil_of_length_eq_zero e2.symm
      subst e3
      have q := h.2.2
      rw [List.append_nil] at q
      exact k _ _ _ R r q
  · obtain ⟨xs, ys, h1, h2, hl, q⟩ := h
    obtain ⟨a, vs, rfl, e1, r1⟩ := lstW_get r h1
    obtain ⟨b, us, rfl, e2, r2⟩ := lstW_get r' h2
    exact .inr (.inr (.inl ⟨a, b, vs, us, rfl, rfl, e1, e2, by rw [r1.length, r2.length]; exact size_ok hl, fun p hp => k _ _ _ (R.new hp) (.d (.lst (R.heq.ok.notM hp) upd_same ((r1.append r2).keep (Dx.new hp)))) q⟩))
/-- + of lists, the answer one's own -/
def o_addF : Op3 := fun w w' Q => ∃ xs ys, lstW w = some xs ∧ lstW w' = some ys ∧ xs.length + ys.length ≤ 100000 ∧ Q (.ol (xs ++ ys))
def o_sub : Op3 := ii fun i j => .int (i - j)
theorem O3_sub : O3 F rSub0 o_sub := fun M Tm S σ H x y wx wy Qv Q3 R r r' h k => by
  obtain ⟨i, j, e1, e2, q⟩ := ii_get r r' h
  exact ⟨i, j, e1, e2, k _ _ _ R (.d (.int _)) q⟩
def ic (c : Int → Int → Prop) (f : Int → Int → Int) : Op3 := fun w w' Q => match w, w' with
  | .d (.int i), .d (.int j) => c i j ∧ Q (.d (.int (f i j)))
  | _, _ => False
theorem O3_ic {C c : Int → Int → Prop} {f : Int → Int → Int} (hc : ∀ i j, c i j → C i j) : O3 F (rI C fun i j => .int (f i j)) (ic c f) := fun M Tm S σ H x y wx wy Qv Q3 R r r' h k => by
  unfold ic at h
  split at h
  · exact ⟨_, _, rep_int r, rep_int r', hc _ _ h.1, k _ _ _ R (.d (.int _)) h.2⟩
  · exact h.elim
def o_mul : Op3 := ic CMul (· * ·)
def o_mod : Op3 := ic (fun _ j => 0 < j) (· % ·)
theorem O3_mod : O3 F rMod0 o_mod := O3_ic fun _ _ h => h
def o_div : Op3 := ic (fun _ j => 0 < j ∧ j ≤ 1000000000000000000) (· / ·)
theorem O3_div : O3 F rDiv0 o_div := O3_ic fun _ _ h => div_ok h.1 h.2
def o_pow : Op3 := ic (fun i j => 0 ≤ j ∧ j ≤ 1000 ∧ i.natAbs < 2 ^ 64) (fun i j => i ^ j.toNat)
theorem O3_pow : O3 F rPow0 o_pow := O3_ic fun i j h => ⟨h.1, by omega, h.2.2⟩
def o_neg : W → (W → Prop) → Prop := fun w Q => match w with
  | .d (.int i) => Q (.d (.int (-i)))
  | _ => False
theorem U3_neg : U3 F uNeg0 o_neg := fun M Tm S σ H x wx Qv Q3 R r h k => by
  unfold o_neg at h
  split at h
  · exact ⟨_, rep_int r, k _ _ _ R (.d (.int _)) h⟩
  · exact h.elim
/-- comparisons of ints, of texts -/
def cmpIS (f : Int → Int → Bool) (g : Str → Str → Bool) : Op3 := fun w w' Q => match w, w' with
  | .d (.int i), .d (.int j) => Q (.d (.bl (f i j)))
  | .d (.str i), .d (.str j) => Q (.d (.bl (g i j)))
  | _, _ => False
def o_lt : Op3 := cmpIS (fun i j => decide (i < j)) (fun a b => decide (a.cps.toList < b.cps.toList))
theorem O3_lt : O3 F rLtU o_lt := fun M Tm S σ H x y wx wy Qv Q3 R r r' h k => by
  unfold o_lt cmpIS at h
  split at h
  · exact .inl ⟨_, _, rep_int r, rep_int r', k _ _ _ R (.d (.bl _)) h⟩
  · exact .inr ⟨_, _, rep_str r, rep_str r', k _ _ _ R (.d (.bl _)) h⟩
  · exact h.elim
def o_le : Op3 := cmpIS (fun i j => decide (i ≤ j)) (fun a b => !decide (b.cps.toList < a.cps.toList))
theorem O3_le : O3 F rLeS o_le := fun M Tm S σ H x y wx wy Qv Q3 R r r' h k => by
  unfold o_le cmpIS at h
  split at h
  · exact .inl ⟨_, _, rep_int r, rep_int r', k _ _ _ R (.d (.bl _)) h⟩
  · exact .inr ⟨_, _, rep_str r, rep_str r', k _ _ _ R (.d (.bl _)) h⟩
  · exact h.elim
def rGtS : R2 := fun x y H Q => rGt0 x y H Q ∨ ∃ i j, x = .str i ∧ y = .str j ∧ Q (.bl (decide (j.cps.toList < i.cps.toList))) H
theorem op_gtU {X : Cx} : OpR X (compareOp .Gt) rGtS := op_gt0.or op_gt_str
def o_gt : Op3 := cmpIS (fun i j => decide (j < i)) (fun a b => decide (b.cps.toList < a.cps.toList))
theorem O3_gt : O3 F rGtS o_gt := fun M Tm S σ H x y wx wy Qv Q3 R r r' h k => by
  unfold o_gt cmpIS at h
  split at h
  · exact .inl ⟨_, _, rep_int r, rep_int r', k _ _ _ R (.d (.bl _)) h⟩
  · exact .inr ⟨_, _, rep_str r, rep_str r', k _ _ _ R (.d (.bl _)) h⟩
  · exact h.elim
def rGeS : R2 := fun x y H Q => rGe0 x y H Q ∨ ∃ i j, x = .str i ∧ y = .str j ∧ Q (.bl (!decide (i.cps.toList < j.cps.toList))) H
def o_ge : Op3 := cmpIS (fun i j => decide (j ≤ i)) (fun a b => !decide (a.cps.toList < b.cps.toList))
/-- == and != of plain data -/
def o_eq : Op3 := fun w w' Q => plainD (frz w) = true ∧ plainD (frz w') = true ∧ min (depD (frz w)) (depD (frz w')) ≤ 60 ∧ Q (.d (.bl (eqD (frz w) (frz w'))))
theorem O3_eq : O3 F (rEqP F.K) o_eq := fun M Tm S σ H x y wx wy Qv Q3 R r r' ⟨h1, h2, h3, q⟩ k =>
  ⟨_, _, r.dp h1, r'.dp h2, py_plain _ h1, py_plain _ h2, by rw [py_dep, py_dep]; exact h3, k _ _ _ R (.d (.bl _)) q⟩
def o_ne : Op3 := fun w w' Q => plainD (frz w) = true ∧ plainD (frz w') = true ∧ min (depD (frz w)) (depD (frz w')) ≤ 60 ∧ Q (.d (.bl (!eqD (frz w) (frz w'))))
theorem O3_ne : O3 F (rNeP F.K) o_ne := fun M Tm S σ H x y wx wy Qv Q3 R r r' ⟨h1, h2, h3, q⟩ k =>
  ⟨_, _, r.dp h1, r'.dp h2, py_plain _ h1, py_plain _ h2, by rw [py_dep, py_dep]; exact h3, k _ _ _ R (.d (.bl _)) q⟩
/-- is None -/
def isN (w : W) : Bool := match w with
  | .d .non => true
  | _ => false
def okN (w : W) : Prop := match w with
  | .d (.val _) => False
  | .d (.exc _ _ _ _) => False
  | .bw _ => False
  | _ => True
theorem isN_iff (r : RepW F M H v w) (h : okN w) : decide (v = .non) = isN w := by
  cases r with
  | d r => cases r <;> first | rfl | exact h.elim
  | bd r => exact h.elim
  | bl _ _ _ _ => exact h.elim
  | bk _ _ _ _ => exact h.elim
  | _ => rfl
def o_is : Op3 := fun w w' Q => w' = .d .non ∧ okN w ∧ Q (.d (.bl (isN w)))
theorem O3_is : O3 F rIs0 o_is := fun M Tm S σ H x y wx wy Qv Q3 R r r' ⟨h1, h2, q⟩ k => by
  subst h1
  cases r' with
  | d r' =>
    cases r'
    refine ⟨rfl, ?_⟩
    rw [isN_iff r h2]
    exact k _ _ _ R (.d (.bl _)) q
def o_isnot : Op3 := fun w w' Q => w' = .d .non ∧ okN w ∧ Q (.d (.bl (!isN w)))
theorem O3_isnot : O3 F rIsNot0 o_isnot := fun M Tm S σ H x y wx wy Qv Q3 R r r' ⟨h1, h2, q⟩ k => by
  subst h1
  cases r' with
  | d r' =>
    cases r'
    refine ⟨rfl, ?_⟩
    rw [isN_iff r h2]
    exact k _ _ _ R (.d (.bl _)) q
/-- in, of flat things -/
def flatD : D → Bool
  | .non => true
  | .bl _ => true
  | .int _ => true
  | .str _ => true
  | _ => false
def toV : D → V
  | .non => .non
  | .bl b => .bl b
  | .int i => .int i
  | .str x => .str x
  | _ => .non
theorem flat_v {x : D} (r : Rep F.K M F.c H v x) (h : flatD x = true) : v = toV x ∧ L2.flatV v = true := by
  cases r <;> first | exact ⟨rfl, rfl⟩ | exact nomatch h
theorem flat_vs : ∀ {xs : List D} {vs : List V}, Reps F.K M F.c H vs xs → xs.all flatD = true → vs = xs.map toV ∧ vs.all L2.flatV = true
  | _, _, .nil, _ => ⟨rfl, rfl⟩
  | x :: xs, v :: vs, .cons r t, h => by
    obtain ⟨h1, h2⟩ := Bool.and_eq_true_iff.mp (show (flatD x && xs.all flatD) = true from h)
    obtain ⟨e1, f1⟩ := flat_v r h1
    obtain ⟨e2, f2⟩ := flat_vs t h2
    refine ⟨by rw [List.map_cons, ← e1, ← e2], ?_⟩
    show (L2.flatV v && vs.all L2.flatV) = true
    rw [f1, f2]
    rfl
def inD (x : D) (xs : List D) : Bool := L2.inV (toV x) (xs.map toV)
def inG (neg : Bool) : Op3 := fun w w' Q => match w, w' with
  | .d (.str x), .d (.str z) => ∃ c, x = ⟨#[c]⟩ ∧ Q (.d (.bl (if neg then !decide (c ∈ z.cps.toList) else decide (c ∈ z.cps.toList))))
  | .d x, _ => flatD x = true ∧ ∃ xs, seqW w' = some xs ∧ xs.all flatD = true ∧ Q (.d (.bl (if neg then !inD x xs else inD x xs)))
  | _, _ => False
def o_in : Op3 := inG false
def o_ni : Op3 := inG true
theorem O3_in : O3 F (rInU F.K) o_in := fun M Tm S σ H x y wx wy Qv Q3 R r r' h k => by
  unfold o_in inG at h
  split at h
  · obtain ⟨c, e, q⟩ := h
    subst e
    exact .inl ⟨c, _, rep_str r, rep_str r', k _ _ _ R (.d (.bl _)) q⟩
  · rename_i d _ _
    obtain ⟨hf, xs, hs, hx, q⟩ := h
    cases r with
    | d r =>
    obtain ⟨e1, f1⟩ := flat_v r hf
    obtain ⟨a, vs, rfl, hq, rr⟩ := seqW_get r' hs
    obtain ⟨e2, f2⟩ := flat_vs rr hx
    refine .inr ⟨a, vs, rfl, hq, f1, f2, ?_⟩
    rw [e1, e2]
    exact k _ _ _ R (.d (.bl _)) q
  · exact h.elim
theorem O3_ni : O3 F (rNiU F.K) o_ni := fun M Tm S σ H x y wx wy Qv Q3 R r r' h k => by
  unfold o_ni inG at h
  split at h
  · obtain ⟨c, e, q⟩ := h
    subst e
    exact .inl ⟨c, _, rep_str r, rep_str r', k _ _ _ R (.d (.bl _)) q⟩
  · rename_i d _ _
    obtain ⟨hf, xs, hs, hx, q⟩ := h
    cases r with
    | d r =>
    obtain ⟨e1, f1⟩ := flat_v r hf
    obtain ⟨a, vs, rfl, hq, rr⟩ := seqW_get r' hs
    obtain ⟨e2, f2⟩ := flat_vs rr hx
    refine .inr ⟨a, vs, rfl, hq, f1, f2, ?_⟩
    rw [e1, e2]
    exact k _ _ _ R (.d (.bl _)) q
  · exact h.elim
/-- a[i] -/
def o_ix : Op3 := fun w w' Q => match w, w' with
  | .d (.str z), .d (.int i) => z.length ≤ 100000 ∧ ∃ c, atI z.cps.toList i = some c ∧ Q (.d (.str ⟨#[c]⟩))
  | _, .d (.int i) => ∃ xs x, seqW w = some xs ∧ atI xs i = some x ∧ Q (.d x)
  | _, _ => False
theorem atI_get {K : PySem.W.Frag} {c : Addr} {vs : List V} {xs : List D} {i : Int} {x : D} (r : Reps K M c H vs xs) (h : atI xs i = some x) : ∃ v, atI vs i = some v ∧ Rep K M c H v x := by
  unfold atI at h ⊢
  rw [r.length]
  cases e : ixN xs.length i with
  | none => rw [e] at h; cases h
  | some j =>
    rw [e] at h
    exact r.get h
theorem O3_ix : O3 F (rIx F.K) o_ix := fun M Tm S σ H x y wx wy Qv Q3 R r r' h k => by
  unfold o_ix at h
  split at h
  · obtain ⟨hl, c, e, q⟩ := h
    exact .inr (.inr ⟨_, _, c, rep_str r, rep_int r', size_ok hl, e, k _ _ _ R (.d (.str _)) q⟩)
  · obtain ⟨xs, z, hs, e, q⟩ := h
    obtain ⟨a, vs, rfl, hq, rr⟩ := seqW_get r hs
    obtain ⟨u, h1, h2⟩ := atI_get rr e
    rcases hq with hq | hq
    · exact .inl ⟨a, vs, _, u, rfl, rep_int r', hq, h1, k _ _ _ R (.d h2) q⟩
    · exact .inr (.inl ⟨a, vs, _, u, rfl, rep_int r', hq, h1, k _ _ _ R (.d h2) q⟩)
  · exact h.elim
/-! slices -/
abbrev PO3T := Env3 → (Option Int → Prop) → X3 → Prop
structure PO3 (F : Fx) (EE : L2.St → XK) (to : TO) (t : PO3T) : Prop where
  run : ∀ (M : Addr → Prop) (Tm : List (V × W)) (S : Env3) (σ : L2.St) (H : Hp) (Qv : Option Int → Hp → Prop) (Q3 : Option Int → Prop) (X : X3), Rel F M Tm S σ H → t S Q3 X → (∀ o H', Rel F M Tm S σ H' → Q3 o → Qv o H') → LiftX F Tm X EE → to σ H Qv
def x_none : PO3T := fun _ Q _ => Q none
def x_part (t : T3) : PO3T := fun S Q X => t S (fun w => aI w fun i => Q (some i)) X
variable {EE : L2.St → XK} {te : TE} {t : T3} {tl th : TO} {l u : PO3T} {tas : TA} {as : A3}
theorem p3_none : PO3 F EE tNoPart x_none := ⟨fun M Tm S σ H Qv Q3 X R h k lx => k _ _ R h⟩
theorem p3_part (h : E3 F EE te t) : PO3 F EE (tPart te) (x_part t) := ⟨fun M Tm S σ H Qv Q3 X R h0 k lx => h.run M Tm S σ H _ _ X R h0 (fun v w H1 R1 r1 q1 => by
  obtain ⟨i, e, q⟩ := aI_get r1 q1
  exact ⟨i, e, k _ _ R1 q⟩) lx⟩
abbrev Sl3 := W → Option Int → Option Int → (W → Prop) → Prop
def SLO3 (F : Fx) (r : V → Option Int → Option Int → Hp → VK → Prop) (o : Sl3) : Prop := ∀ (M : Addr → Prop) (Tm : List (V × W)) (S : Env3) (σ : L2.St) (H : Hp) (x : V) (wx : W) (lo hi : Option Int) (Qv : VK) (Q3 : W → Prop), Rel F M Tm S σ H → RepW F M H x wx → o wx lo hi Q3 →
  (∀ v w H', Rel F M Tm S σ H' → RepW F M H' v w → Q3 w → Qv v H') → r x lo hi H Qv
def SLF3 (F : Fx) (r : V → Option Int → Option Int → Hp → VK → Prop) (o : Sl3) : Prop := ∀ (M : Addr → Prop) (Tm : List (V × W)) (S : Env3) (σ : L2.St) (H : Hp) (x : V) (wx : W) (lo hi : Option Int) (Qv : VK) (Q3 : W → Prop), Rel F M Tm S σ H → RepW F M H x wx → o wx lo hi Q3 →
  (∀ l w H', Rel F M Tm S σ H' → Rel F (Add M l) Tm S σ H' → ¬ M l → owned w = true → RepW F (Add M l) H' (.ref l) w → Q3 w → Qv (.ref l) H') → r x lo hi H Qv
def x_sl (o : Sl3) (t : T3) (l u : PO3T) : T3 := fun S Q X => t S (fun w => l S (fun a => u S (fun b => o w a b Q) X) X) X
theorem e3_sl {r : V → Option Int → Option Int → Hp → VK → Prop} {o : Sl3} (ho : SLO3 F r o) (h : E3 F EE te t) (hl : PO3 F EE tl l) (hu : PO3 F EE th u) : E3 F EE (tSl r te tl th) (x_sl o t l u) := ⟨fun M Tm S σ H Qv Q3 X R h0 k lx => h.run M Tm S σ H _ _ X R h0 (fun v w H1 R1 r1 q1 =>
  hl.run M ((v, w) :: Tm) S σ H1 _ _ X (R1.push r1) q1 (fun a H2 R2 q2 => hu.run M ((v, w) :: Tm) S σ H2 _ _ X R2 q2 (fun b H3 R3 q3 => by
    obtain ⟨R4, r4⟩ := R3.pop
    exact ho M Tm S σ H3 v w a b _ Q3 R4 r4 q3 k) (lx.push _)) (lx.push _)) lx⟩
theorem f3_sl {r : V → Option Int → Option Int → Hp → VK → Prop} {o : Sl3} (ho : SLF3 F r o) (h : E3 F EE te t) (hl : PO3 F EE tl l) (hu : PO3 F EE th u) : FE3 F EE (tSl r te tl th) (x_sl o t l u) := ⟨fun M Tm S σ H Qv Q3 X R h0 k lx => h.run M Tm S σ H _ _ X R h0 (fun v w H1 R1 r1 q1 =>
  hl.run M ((v, w) :: Tm) S σ H1 _ _ X (R1.push r1) q1 (fun a H2 R2 q2 => hu.run M ((v, w) :: Tm) S σ H2 _ _ X R2 q2 (fun b H3 R3 q3 => by
    obtain ⟨R4, r4⟩ := R3.pop
    exact ho M Tm S σ H3 v w a b _ Q3 R4 r4 q3 k) (lx.push _)) (lx.push _)) lx⟩
def cutD (xs : List D) (lo hi : Option Int) : List D := (xs.drop (HT.sIx xs.length 0 lo)).take (HT.sIx xs.length xs.length hi - HT.sIx xs.length 0 lo)
theorem Reps.cut {K : PySem.W.Frag} {c : Addr} {vs : List V} {xs : List D} (r : Reps K M c H vs xs) (lo hi : Option Int) : Reps K M c H (cutV vs lo hi) (cutD xs lo hi) := by
  unfold cutV cutD
  rw [r.length]
  exact (r.drop _).take _
def o_slL : Sl3 := fun w lo hi Q => ∃ xs, lstW w = some xs ∧ Q (.ol (cutD xs lo hi))
theorem SLF_L : SLF3 F (rSlL F.K) o_slL := fun M Tm S σ H x wx lo hi Qv Q3 R r ⟨xs, h, q⟩ k => by
  obtain ⟨a, vs, rfl, e, rr⟩ := lstW_get r h
  exact ⟨a, vs, rfl, SqL.of e, new_ol R (rr.cut lo hi) q k⟩
def o_slS : Sl3 := fun w lo hi Q => asS w fun z => z.length ≤ 100000 ∧ Q (.d (.str (cutS z lo hi)))
theorem SLO_S : SLO3 F rSlS o_slS := fun M Tm S σ H x wx lo hi Qv Q3 R r h k => by
  obtain ⟨z, rfl, hl, q⟩ := asS_get r h
  exact ⟨z, rfl, size_ok hl, k _ _ _ R (.d (.str _)) q⟩
/-! ### built-in calls -/
def o_len : Cb3 := fun ws Q => match ws with
  | [.d (.str z)] => z.length ≤ 100000 ∧ Q (.d (.int z.length))
  | [w] => ∃ xs, seqW w = some xs ∧ Q (.d (.int xs.length))
  | _ => False
theorem C3_len : C3 F (rLenU F.K) o_len := fun M Tm S σ H vs ws Qv Q3 R r h k => by
  unfold o_len at h
  split at h
  · obtain ⟨v, rfl, r1⟩ := reps1 r
    exact .inr ⟨_, by rw [rep_str r1], size_ok h.1, k _ _ _ R (.d (.int _)) h.2⟩
  · obtain ⟨v, rfl, r1⟩ := reps1 r
    obtain ⟨xs, hs, q⟩ := h
    obtain ⟨a, us, rfl, hq, rr⟩ := seqW_get r1 hs
    refine .inl ⟨a, us, rfl, hq, ?_⟩
    rw [rr.length]
    exact k _ _ _ R (.d (.int _)) q
  · exact h.elim
def o_int : Cb3 := fun ws Q => match ws with
  | [.d (.int i)] => Q (.d (.int i))
  | [.d (.bl b)] => Q (.d (.int (if b then 1 else 0)))
  | _ => False
theorem rep_bl {b : Bool} (r : RepW F M H v (.d (.bl b))) : v = .bl b := by
  cases r with
  | d r => cases r; rfl
theorem C3_int : C3 F rInt0 o_int := fun M Tm S σ H vs ws Qv Q3 R r h k => by
  unfold o_int at h
  split at h
  · obtain ⟨v, rfl, r1⟩ := reps1 r
    exact .inl ⟨_, by rw [rep_int r1], k _ _ _ R (.d (.int _)) h⟩
  · obtain ⟨v, rfl, r1⟩ := reps1 r
    exact .inr ⟨_, by rw [rep_bl r1], k _ _ _ R (.d (.int _)) h⟩
  · exact h.elim
def o_str : Cb3 := fun ws Q => match ws with
  | [.d (.int i)] => i.natAbs < 2 ^ 200 ∧ Q (.d (.str (Str.ofString (toString i))))
  | _ => False
theorem log_ok3 {i : Int} (h : i.natAbs < 2 ^ 200) : i.natAbs.log2 < 1920 := by
  by_cases z : i.natAbs = 0
  · rw [z]; decide
  · exact (Nat.log2_lt z).mpr (Nat.lt_of_lt_of_le h (Nat.pow_le_pow_right (by decide) (by decide)))
theorem C3_str : C3 F rStrI o_str := fun M Tm S σ H vs ws Qv Q3 R r h k => by
  unfold o_str at h
  split at h
  · obtain ⟨v, rfl, r1⟩ := reps1 r
    exact ⟨_, by rw [rep_int r1], log_ok3 h.1, k _ _ _ R (.d (.str _)) h.2⟩
  · exact h.elim
/-- list(x) -/
def o_list : Cb3 := fun ws Q => match ws with
  | [w] => ∃ xs, seqW w = some xs ∧ Q (.ol xs)
  | _ => False
theorem FC3_list : FC3 F (rList0 F.K) o_list := fun M Tm S σ H vs ws Qv Q3 R r h k => by
  unfold o_list at h
  split at h
  · obtain ⟨v, rfl, r1⟩ := reps1 r
    obtain ⟨xs, hs, q⟩ := h
    obtain ⟨a, us, rfl, hq, rr⟩ := seqW_get r1 hs
    exact ⟨a, us, rfl, hq, new_ol R rr q k⟩
  · exact h.elim
def rTupleU (K : PySem.W.Frag) : List V → Hp → VK → Prop := fun xs H Q => ∃ p ys, xs = [.ref p] ∧ ((SqL K H p ys ∧ ∀ l, H l = none → Q (.ref l) (upd H l (.tup ys))) ∨ (SqT K H p ys ∧ Q (.ref p) H))
theorem call_tupleU {X : Cx} : CallR X (.type "tuple") (rTupleU X.K) := call_tuple_of
def o_tuple : Cb3 := fun ws Q => match ws with
  | [w] => ∃ xs, seqW w = some xs ∧ Q (.d (.tup xs))
  | _ => False
theorem C3_tuple : C3 F (rTupleU F.K) o_tuple := fun M Tm S σ H vs ws Qv Q3 R r h k => by
  unfold o_tuple at h
  split at h
  · obtain ⟨v, rfl, r1⟩ := reps1 r
    obtain ⟨xs, hs, q⟩ := h
    cases r1 with
    | d r2 =>
      cases r2 with
      | lst m e rr => cases hs; exact ⟨_, _, rfl, .inl ⟨SqL.of e, fun p hp => k _ _ _ (R.new hp) (.d (.tup (R.heq.ok.notM hp) upd_same (rr.keep (Dx.new hp)))) q⟩⟩
      | tup m e rr => cases hs; exact ⟨_, _, rfl, .inr ⟨SqT.of e, k _ _ _ R (.d (.tup m e rr)) q⟩⟩
      | kt e rr => cases hs; exact ⟨_, _, rfl, .inr ⟨.inr e, k _ _ _ R (.d (.kt e rr)) q⟩⟩
      | _ => cases hs
    | ol o n e rr => cases hs; exact ⟨_, _, rfl, .inl ⟨SqL.of e, fun p hp => k _ _ _ (R.new hp) (.d (.tup (R.heq.ok.notM hp) upd_same (rr.keep (Dx.new hp)))) q⟩⟩
    | bd r2 =>
      cases r2 with
      | lst m e rr => cases hs; exact ⟨_, _, rfl, .inl ⟨SqL.of e, fun p hp => k _ _ _ (R.new hp) (.d (.tup (R.heq.ok.notM hp) upd_same (rr.keep (Dx.new hp)))) q⟩⟩
      | tup m e rr => cases hs; exact ⟨_, _, rfl, .inr ⟨SqT.of e, k _ _ _ R (.d (.tup m e rr)) q⟩⟩
      | kt e rr => cases hs; exact ⟨_, _, rfl, .inr ⟨.inr e, k _ _ _ R (.d (.kt e rr)) q⟩⟩
      | _ => cases hs
    | bl n h0 e rr => cases hs; exact ⟨_, _, rfl, .inl ⟨SqL.of e, fun p hp => k _ _ _ (R.new hp) (.d (.tup (R.heq.ok.notM hp) upd_same (rr.keep (Dx.new hp)))) q⟩⟩
    | _ => cases hs
  · exact h.elim
def o_max2 : Cb3 := fun ws Q => match ws with
  | [.d (.int i), .d (.int j)] => Q (.d (.int (if j > i then j else i)))
  | _ => False
def o_min2 : Cb3 := fun ws Q => match ws with
  | [.d (.int i), .d (.int j)] => Q (.d (.int (if j < i then j else i)))
  | _ => False
theorem strs_rep : ∀ {ss : List Str} {vs : List V}, Reps F.K M F.c H vs (ss.map D.str) → vs = ss.map V.str
  | [], _, .nil => rfl
  | s :: ss, _, .cons r t => by
    cases r
    rw [strs_rep t]
    rfl
theorem reps_strs : ∀ ss : List Str, Reps F.K M F.c H (ss.map V.str) (ss.map D.str)
  | [] => .nil
  | s :: ss => .cons (.str s) (reps_strs ss)
theorem ints_rep : ∀ {ss : List Int} {vs : List V}, Reps F.K M F.c H vs (ss.map D.int) → vs = ss.map V.int
  | [], _, .nil => rfl
  | s :: ss, _, .cons r t => by
    cases r
    rw [ints_rep t]
    rfl
theorem reps_ints : ∀ ss : List Int, Reps F.K M F.c H (ss.map V.int) (ss.map D.int)
  | [] => .nil
  | s :: ss => .cons (.int s) (reps_ints ss)
/-- sorted(x): texts, or ints -/
def rSortedSI (K : PySem.W.Frag) : List V → Hp → VK → Prop := fun vs H Q => rSortedQ K vs H Q ∨ rSortedI K vs H Q
theorem CallR.or' {X : Cx} {f : Value} {r r' : List V → Hp → VK → Prop} (h : CallR X f r) (h' : CallR X f r') : CallR X f (fun vs H Q => r vs H Q ∨ r' vs H Q) := fun pins s σ H vs us Qv I rv q => q.elim (fun z => h pins s σ H vs us Qv I rv z) (fun z => h' pins s σ H vs us Qv I rv z)
theorem cr_sortedSI {X : Cx} : CallR X (.builtin "sorted") (rSortedSI X.K) := CallR.or' cr_sortedQ cr_sortedI
def o_sorted : Cb3 := fun ws Q => match ws with
  | [w] => (∃ ss : List Str, seqW w = some (ss.map D.str) ∧ ∀ ys : List Str, ys.Perm ss → sortedS ys = true → Q (.ol (ys.map D.str))) ∨
    (∃ ns : List Int, lstW w = some (ns.map D.int) ∧ ∀ ys : List Int, ys.Perm ns → ys.Pairwise (· ≤ ·) → Q (.ol (ys.map D.int)))
  | _ => False
theorem FC3_sorted : FC3 F (rSortedSI F.K) o_sorted := fun M Tm S σ H vs ws Qv Q3 R r h k => by
  unfold o_sorted at h
  split at h
  · obtain ⟨v, rfl, r1⟩ := reps1 r
    rcases h with ⟨ss, hs, q⟩ | ⟨ns, hs, q⟩
    · obtain ⟨a, us, rfl, hq, rr⟩ := seqW_get r1 hs
      rw [strs_rep rr] at hq
      exact .inl ⟨a, ss, rfl, hq, fun ys p hp hs hn => new_ol R (reps_strs ys) (q ys hp hs) k p hn⟩
    · obtain ⟨a, us, rfl, e, rr⟩ := lstW_get r1 hs
      rw [ints_rep rr] at e
      exact .inr ⟨a, ns, rfl, SqL.of e, fun ys p hp hs hn => new_ol R (reps_ints ys) (q ys hp hs) k p hn⟩
  · exact h.elim
def o_maxL : Cb3 := fun ws Q => match ws with
  | [w] => ∃ ns : List Int, lstW w = some (ns.map D.int) ∧ 0 < ns.length ∧ ∀ m, m ∈ ns → (∀ y, y ∈ ns → y ≤ m) → Q (.d (.int m))
  | _ => False
def o_minL : Cb3 := fun ws Q => match ws with
  | [w] => ∃ ns : List Int, lstW w = some (ns.map D.int) ∧ 0 < ns.length ∧ ∀ m, m ∈ ns → (∀ y, y ∈ ns → m ≤ y) → Q (.d (.int m))
  | _ => False
end
end Q
/-! R3h: readings over data: own operators, augmented assignments, f-strings; promises carried over. -/
namespace Q
open PySem PySem.Spec PyProof.Rows L2
section
variable {F : Fx} {EE : L2.St → XK} {M : Addr → Prop} {Tm : List (V × W)} {S : Env3} {σ : L2.St} {H H' : Hp} {v : V} {w : W} {te ta : TE} {t a : T3} {tas : TA} {as : A3} {C : Addr} {p : P3v} {E : XK} {n : Nat}
/-! ### x += e -/
def rAug : TIp := fun x y H Q => (∃ i j, x = .int i ∧ y = .int j ∧ Q (.int (i + j)) H) ∨ (∃ i j, x = .str i ∧ y = .str j ∧ i.length + j.length ≤ sizeLine ∧ Q (.str (i ++ j)) H)
def augD (w w' : W) (Q : D → Prop) : Prop := match w, w' with
  | .d (.int i), .d (.int j) => Q (.int (i + j))
  | .d (.str a), .d (.str b) => a.length + b.length ≤ 100000 ∧ Q (.str (a ++ b))
  | _, _ => False
def x_aug (i : Nat) (t : T3) : TS3 := fun S E X => match S[i]? with
  | some (some (.d x)) => t S (fun w => augD (.d x) w fun y => E.nx (S.set i (some (.d y)))) X
  | _ => False
/-! ### f-strings -/
inductive FS3 (F : Fx) (EE : L2.St → XK) : List TE → List T3 → Prop
  | nil : FS3 F EE [] []
  | cons {te : TE} {t : T3} {ts : List TE} {us : List T3} (h : E3 F EE te t) (r : FS3 F EE ts us) : FS3 F EE (te :: ts) (t :: us)
def fs3 : List T3 → Str → Env3 → (W → Prop) → X3 → Prop
  | [], acc, _, Q, _ => Q (.d (.str acc))
  | t :: ts, acc, S, Q, X => t S (fun w => asS w fun y => (acc ++ y).length ≤ 100000 ∧ fs3 ts (acc ++ y) S Q X) X
def x_fs (ts : List T3) : T3 := fun S Q X => fs3 ts Str.empty S Q X
def fmtW (w : W) (Q : W → Prop) : Prop := match w with
  | .d (.str y) => y.length ≤ 100000 ∧ Q (.d (.str y))
  | .d (.int i) => i.natAbs < 2 ^ 200 ∧ Q (.d (.str (Str.ofString (toString i))))
  | _ => False
def x_fmt (t : T3) : T3 := fun S Q X => t S (fun w => fmtW w Q) X
/-! ### own operators -/
/-- the type of the other operand of an own == -/
def tyO3 (K : PySem.W.Frag) (w : W) (Q : Value → Prop) : Prop := match w with
  | .d .non => Q (.type "NoneType")
  | .d (.bl _) => Q (.type "bool")
  | .d (.int _) => Q (.type "int")
  | .d (.str _) => Q (.type "str")
  | .d (.lst _) => Q (.type "list")
  | .d (.tup xs) => xs ≠ [] ∧ Q (.type "tuple")
  | .d (.dic _) => Q (.type "dict")
  | .d (.obj C _) => Q (.ref C)
  | _ => False
def o_own (K : PySem.W.Frag) (C : Addr) (p : P3v) : Op3 := fun w w' Q => asO C w fun x => tyO3 K w' fun t => PySem.W.notFirst K C t = true ∧ asD w' fun y => p [x, y] (fun w => Q (.d (frz w))) noX
/-- x in y, y an instance -/
def o_ownIn (C : Addr) (p : P3v) : Op3 := fun w w' Q => asO C w' fun y => asD w fun x => p [y, x] (fun w => asB w fun b => Q (.d (.bl b))) noX
/-! ### text * int -/
def repS (i : Str) (n : Nat) : Str := ⟨((List.replicate n i.cps.toList).flatten).toArray⟩
theorem rep_fold (a : Array Nat) : ∀ (n : Nat) (acc : Array Nat), ((List.replicate n a).foldl (· ++ ·) acc).toList = acc.toList ++ (List.replicate n a.toList).flatten
  | 0, acc => by simp
  | n + 1, acc => by
    rw [List.replicate_succ, List.foldl_cons, rep_fold a n, List.replicate_succ, List.flatten_cons, Array.toList_append, List.append_assoc]
def rMulE : R2 := fun x y H Q => ∃ (i : Str) (n : Int), x = .str i ∧ y = .int n ∧ 1 ≤ n ∧ n ≤ 1000 ∧ i.length ≤ 1000 ∧ Q (.str (repS i n.toNat)) H
theorem op_mulE {X : Cx} : OpR X (binaryOp .Mult) rMulE := by
  intro pins s σ H x y v u Q I rx ry h
  obtain ⟨i, n, rfl, rfl, h1, h2, h3, q⟩ := h
  obtain ⟨t, rfl⟩ := rx
  obtain ⟨t', rfl⟩ := ry
  have hn : n.toNat ≤ 1000 := by omega
  have hp : i.length * n.toNat ≤ 1000 * 1000 := Nat.mul_le_mul h3 hn
  refine PySem.P.mul_str (by rw [decide_eq_false (by omega), decide_eq_false (by omega)]; rfl) (fun _ _ z => ?_) (fun _ _ => ?_) ?_
  · have hd : (9000000000000000 : Int) ≤ (2 ^ 63 - 1) / n := (Int.le_ediv_iff_mul_le (by omega)).mpr (by omega)
    omega
  · unfold Builtin.Str.tooLong
    exact decide_eq_false (by rw [sizeLine_eq]; omega)
  rw [if_neg (by omega)]
  have el : i.cps.toList.length = i.length := by simp [Str.length]
  split
  · rename_i e
    have hz : repS i n.toNat = i := by
      have ext : ∀ {a b : Str}, a.cps.toList = b.cps.toList → a = b := fun {a b} h => by
        obtain ⟨a⟩ := a
        obtain ⟨b⟩ := b
        have : a = b := Array.toList_inj.mp h
        rw [this]
      refine ext ?_
      show ((List.replicate n.toNat i.cps.toList).flatten).toArray.toList = _
      rw [List.toList_toArray]
      rcases Bool.or_eq_true_iff.mp e with e | e
      · have e' : n = 1 := by simpa using e
        rw [e']
        simp
      · have e' : i.length = 0 := by simpa using e
        have e2 : i.cps.toList = [] := List.eq_nil_of_length_eq_zero (by rw [el, e'])
        rw [e2]
        simp
    rw [hz] at q
    exact ⟨.str i, H, I, ⟨_, rfl⟩, q⟩
  · have hs : (⟨(List.replicate n.toNat i.cps).foldl (· ++ ·) #[]⟩ : Str) = repS i n.toNat := by
      unfold repS
      rw [← Array.toArray_toList (xs := (List.replicate n.toNat i.cps).foldl (· ++ ·) #[]), rep_fold]
      simp
    have hl : (⟨(List.replicate n.toNat i.cps).foldl (· ++ ·) #[]⟩ : Str).length = i.length * n.toNat := by
      show ((List.replicate n.toNat i.cps).foldl (· ++ ·) #[]).size = _
      rw [rep_size]
      exact Nat.zero_add _
    refine ⟨Nat.le_trans (Nat.le_of_eq hl) (by rw [sizeLine_eq]; omega), ?_⟩
    rw [hs]
    exact ⟨.str _, H, I.tok _, ⟨_, rfl⟩, q⟩
def rMulU : R2 := fun x y H Q => rMul0 x y H Q ∨ rMulE x y H Q
theorem op_mulU {X : Cx} : OpR X (binaryOp .Mult) rMulU := op_mul0.or op_mulE
def o_mulU : Op3 := fun w w' Q => match w, w' with
  | .d (.int i), .d (.int j) => CMul i j ∧ Q (.d (.int (i * j)))
  | .d (.str i), .d (.int n) => 1 ≤ n ∧ n ≤ 1000 ∧ i.length ≤ 1000 ∧ Q (.d (.str (repS i n.toNat)))
  | _, _ => False
theorem O3_mulU : O3 F rMulU o_mulU := fun M Tm S σ H x y wx wy Qv Q3 R r r' h k => by
  unfold o_mulU at h
  split at h
  · exact .inl ⟨_, _, rep_int r, rep_int r', h.1, k _ _ _ R (.d (.int _)) h.2⟩
  · exact .inr ⟨_, _, rep_str r, rep_int r', h.1, h.2.1, h.2.2.1, k _ _ _ R (.d (.str _)) h.2.2.2⟩
  · exact h.elim
end
/-! ### promises carried over -/
theorem Def.imp {P : Program} {w : World} {K : PySem.W.Frag} {mg : Str → Option Value} {base : Heap} {CX : CXT} {k : Nat} {x : Str} {st : Stmt} {ps : List Str} {sp sp' : Sp} (A : Def P w K mg base CX k x st ps sp) (h : ∀ vs H Q E, sp' vs H Q E → sp vs H Q E) : Def P w K mg base CX k x st ps sp' := by
  obtain ⟨f, fd, m, kp, b, G, F⟩ := A.ex
  exact ⟨f, fd, m, kp, b, G.imp h, F⟩
section
variable {K : PySem.W.Frag} {T : List (Addr × Str)} {M : Addr → Prop} {c : Addr} {H H' : Hp}
theorem tabs_dx1 (t : LamX.Tabs T H) (ok : Ok M H c) (d : Dx (Only1 c) H H') : LamX.Tabs T H' := fun p hp => by
  obtain ⟨q, i, rest, left, n, a, b, cells, h1, _⟩ := ok.st.ex
  obtain ⟨ps, g1, g2, g3⟩ := t p hp
  refine ⟨ps, d.st _ _ (fun z => ?_) g1, g2, fun pos cv hc => ?_⟩
  · rw [show p.1 = c from z, h1] at g1
    cases g1
  · obtain ⟨e, e1, e2⟩ := g3 pos cv hc
    refine ⟨e, e1, d.st _ _ (fun z => ?_) e2⟩
    rw [show e = c from z, h1] at e2
    unfold LamX.CodeO at e2
    cases e2
theorem fin_dx1 (t : LamX.Tabs T H) (ok : Ok M H c) (d : Dx (Only1 c) H H') (ok' : Ok M H' c) : Fin3 (fxCall K M c H T) H' := ⟨d.mono fun _ z => .inl z, ok', tabs_dx1 t ok d⟩
theorem fin_no (t : LamX.Tabs T H) (ok : Ok M H c) (d : Dx No H H') : Fin3 (fxCall K M c H T) H' := ⟨d.mono fun _ z => z.elim, ok.no d, tabs_dx1 t ok (d.mono fun _ z => z.elim)⟩
theorem fin_id (t : LamX.Tabs T H) (ok : Ok M H c) : Fin3 (fxCall K M c H T) H := fin_no t ok Dx.refl
theorem rep_store {v : V} (r : Rep K M c H v .store) : v = .ref c := by
  cases r
  rfl
theorem rep_intD {v : V} {i : Int} (r : Rep K M c H v (.int i)) : v = .int i := by
  cases r
  rfl
theorem rep_strD {v : V} {i : Str} (r : Rep K M c H v (.str i)) : v = .str i := by
  cases r
  rfl
theorem reps_1 {vs : List V} {x : D} (r : Reps K M c H vs [x]) : ∃ v, vs = [v] ∧ Rep K M c H v x := by
  cases r with
  | cons h t =>
    cases t
    exact ⟨_, rfl, h⟩
theorem reps_2 {vs : List V} {x y : D} (r : Reps K M c H vs [x, y]) : ∃ v u, vs = [v, u] ∧ Rep K M c H v x ∧ Rep K M c H u y := by
  cases r with
  | cons h t =>
    obtain ⟨u, rfl, h2⟩ := reps_1 t
    exact ⟨_, _, rfl, h, h2⟩
/-! the draws -/
def qTake : P3v := fun ds Q _ => ∃ n : Int, ds = [.store, .int n] ∧ -1000000000000000000 ≤ n ∧ n ≤ 1000000000000000000 ∧ ∀ r : Int, 0 ≤ r → r < (if n > 1 then n else 1) → Q (.d (.int r))
theorem br_take : ∀ vs H Q E, Lift3 K T 2 qTake vs H Q E → Sp2 pTake vs H Q E := by
  rintro vs H Q E ⟨M, c, ds, Q3, X, ok, hT, tab, r, hn, ⟨n, rfl, h1, h2, q⟩, k, kx⟩
  obtain ⟨v, u, rfl, r1, r2⟩ := reps_2 r
  rw [rep_store r1, rep_intD r2]
  exact ⟨_, _, rfl, c, M, n, rfl, rfl, h1, h2, ok, fun r H' g0 g1 d ok' => k _ _ H' (fin_dx1 tab ok d ok') (.d (.int r)) (q r g0 g1)⟩
/-- an item of a text, of a list, of a tuple -/
def qPick : P3v := fun ds Q _ => (∃ z : Str, ds = [.store, .str z] ∧ 0 < z.length ∧ z.length ≤ 100000 ∧ ∀ ch, ch ∈ z.cps.toList → Q (.d (.str ⟨#[ch]⟩))) ∨
  (∃ xs : List D, ds = [.store, .lst xs] ∧ 0 < xs.length ∧ xs.length ≤ 100000 ∧ ∀ x, x ∈ xs → Q (.d x))
theorem mem_rep : ∀ {vs : List V} {ds : List D} {v : V}, Reps K M c H vs ds → v ∈ vs → ∃ d, d ∈ ds ∧ Rep K M c H v d := fun {vs ds v} r h => by
  obtain ⟨i, hi⟩ := List.mem_iff_getElem?.mp h
  obtain ⟨d, h1, h2⟩ := r.get' hi
  exact ⟨d, List.mem_of_getElem? h1, h2⟩
theorem br_pick : ∀ vs H Q E, Lift3 K T 2 qPick vs H Q E → Sp2 (pPick K) vs H Q E := by
  rintro vs H Q E ⟨M, c, ds, Q3, X, ok, hT, tab, r, hn, h, k, kx⟩
  rcases h with ⟨z, rfl, h1, h2, q⟩ | ⟨xs, rfl, h1, h2, q⟩
  · obtain ⟨v, u, rfl, r1, r2⟩ := reps_2 r
    rw [rep_store r1, rep_strD r2]
    refine ⟨_, _, rfl, c, M, rfl, ok, .inl ⟨z, rfl, h1, h2, fun r H' hr d ok' => ?_⟩⟩
    obtain ⟨ch, hc, rfl⟩ := hr
    exact k _ _ H' (fin_dx1 tab ok d ok') (.d (.str _)) (q ch hc)
  · obtain ⟨v, u, rfl, r1, r2⟩ := reps_2 r
    rw [rep_store r1]
    cases r2 with
    | @lst a us _ m e rr =>
      refine ⟨_, _, rfl, c, M, rfl, ok, .inr ⟨a, us, rfl, SqL.of e, m, by rw [rr.length]; exact h1, by rw [rr.length]; exact h2, fun r H' hr d ok' => ?_⟩⟩
      obtain ⟨x, hx, rx⟩ := mem_rep rr hr
      have f : Fin3 (fxCall K M c H T) H' := fin_dx1 tab ok d ok'
      exact k _ _ H' f (.d (rx.keep (ok.sub d))) (q x hx)
def qShuf : P3v := fun ds Q _ => ∃ xs : List D, ds = [.store, .lst xs] ∧ xs.length ≤ 100000 ∧ ∀ ys, ys.Perm xs → Q (.ol ys)
theorem perm_rep {vs us : List V} (p : us.Perm vs) : ∀ {ds : List D}, Reps K M c H vs ds → ∃ es, es.Perm ds ∧ Reps K M c H us es := by
  induction p with
  | nil => exact fun {ds} r => ⟨ds, List.Perm.refl _, r⟩
  | cons x p ih =>
    intro ds r
    cases r with
    | cons h t =>
      obtain ⟨es, h1, h2⟩ := ih t
      exact ⟨_ :: es, h1.cons _, .cons h h2⟩
  | swap x y l =>
    intro ds r
    cases r with
    | cons h t =>
      cases t with
      | cons h2 t => exact ⟨_, List.Perm.swap _ _ _, .cons h2 (.cons h t)⟩
  | trans p q ih1 ih2 =>
    intro ds r
    obtain ⟨es, h1, h2⟩ := ih2 r
    obtain ⟨fs, h3, h4⟩ := ih1 h2
    exact ⟨fs, h3.trans h1, h4⟩
theorem ret_new {l : Addr} {vs : List V} {ds : List D} (hl : H l = none) (ok : Ok (Add M l) H' c) (h : H' l = some (.lst vs)) (r : Reps K (Add M l) c H' vs ds) : RetW (fxCall K M c H T) H' (.ref l) (.ol ds) := .ol hl ok h r
theorem br_shuf : ∀ vs H Q E, Lift3 K T 2 qShuf vs H Q E → Sp2 (pShuf K) vs H Q E := by
  rintro vs H Q E ⟨M, c, ds, Q3, X, ok, hT, tab, r, hn, ⟨xs, rfl, h1, q⟩, k, kx⟩
  obtain ⟨v, u, rfl, r1, r2⟩ := reps_2 r
  rw [rep_store r1]
  cases r2 with
  | @lst a us _ m e rr =>
    refine ⟨_, _, rfl, c, M, a, us, rfl, rfl, ok, SqL.of e, by rw [rr.length]; exact h1, fun l zs H' hl h hp d ok' => ?_⟩
    obtain ⟨es, p1, p2⟩ := perm_rep hp rr
    have okM : Ok M H' c := ok'.less ok.inM fun a z => .inr z
    exact k _ _ H' (fin_dx1 tab ok d okM) (ret_new hl ok' h ((p2.add hl).to fun a o m e => ⟨(ok.sub d).st a o (fun z => m (.inr z)) e, m⟩)) (q es p1)
def qClamp : P3v := fun ds Q _ => ∃ i : Int, ds = [.int i] ∧ ∀ r, InR r → (InR i → r = i) → Q (.d (.int r))
theorem br_clamp : ∀ vs H Q E, Lift3 K T 1 qClamp vs H Q E → Sp1 pClamp vs H Q E := by
  rintro vs H Q E ⟨M, c, ds, Q3, X, ok, hT, tab, r, hn, ⟨i, rfl, q⟩, k, kx⟩
  obtain ⟨v, rfl, r1⟩ := reps_1 r
  rw [rep_intD r1]
  exact ⟨_, rfl, i, rfl, fun r h1 h2 => k _ _ H (fin_id tab ok) (.d (.int r)) (q r h1 h2)⟩
theorem ints_repK : ∀ {ss : List Int} {vs : List V}, Reps K M c H vs (ss.map D.int) → vs = ss.map V.int
  | [], _, .nil => rfl
  | s :: ss, _, .cons r t => by
    cases r
    rw [ints_repK t]
    rfl
/-- a number in or beside the pool -/
def qNear : P3v := fun ds Q _ => ∃ ns : List Int, ds = [.store, .lst (ns.map D.int)] ∧ 0 < ns.length ∧ ns.length ≤ 100000 ∧ (∀ n ∈ ns, InR n) ∧ ∀ i, InR i → Q (.d (.int i))
theorem br_near : ∀ vs H Q E, Lift3 K T 2 qNear vs H Q E → Sp2 (pNear K) vs H Q E := by
  rintro vs H Q E ⟨M, c, ds, Q3, X, ok, hT, tab, r, hn, ⟨ns, rfl, h1, h2, h3, q⟩, k, kx⟩
  obtain ⟨v, u, rfl, r1, r2⟩ := reps_2 r
  rw [rep_store r1]
  cases r2 with
  | @lst a us _ m e rr =>
    rw [ints_repK rr] at e
    refine ⟨_, _, rfl, c, M, a, ns, rfl, rfl, ok, SqL.of e, m, h1, h2, h3, fun r H' hr d ok' => ?_⟩
    obtain ⟨i, rfl, hi⟩ := hr
    exact k _ _ H' (fin_dx1 tab ok d ok') (.d (.int i)) (q i hi)
def qPool : P3v := fun ds Q _ => ds = [.store] ∧ ∀ ns : List Int, (∀ n ∈ ns, InR n) → 2 ≤ ns.length → ns.length ≤ 6 → Q (.ol (ns.map D.int))
end
end Q
namespace Q
open PySem PySem.Spec PyProof.Rows L2
/-! ### try, its body's reading kept apart -/
def tTryN (tb : WX → TS) (K : PySem.W.Frag) (Wo : WX) (l : List Clause) : TS := fun D σ H => tb (wNamed K Wo D l) D σ H
def tTryA (tb : WX → TS) (K : PySem.W.Frag) (c : Value) (i : Nat) (ts : Addr → Value → Option Addr → TS) (Wo : WX) : TS := fun D σ H => tb (wAs K c i ts Wo D) D σ H
def tTryO (tb : WX → TS) (K : PySem.W.Frag) (c : Value) (ts : Addr → Value → Option Addr → TS) (Wo : WX) : TS := fun D σ H => tb (wOnly K c ts Wo D) D σ H
section
variable {X : Cx} {body : List Stmt} {hd b0 : ExceptHandler} {hs : List ExceptHandler} {l : List Clause} {pos pos' np : Pos} {tb : WX → TS} {Wo : WX} {x n : Str} {c : Value} {i : Nat} {suite : List Stmt} {bs : Stmt} {ts : Addr → Value → Option Addr → TS}
theorem ps_tryN (hst : X.stack = X.env :: X.outer) (hfr : X.env.frame = some X.env.locals) (nd : X.N.Nodup) (out : Takes X Wo)
    (inner : ∀ (W : WX) (pn : List (Addr × Obj)) (xe : Value → Shared → Prop), Takes (X.tr pn xe) W → PassesOwn (model X.prog X.w) X.A X.env xe → PSs (X.tr pn xe) body (tb W)) (cl : Named X (hd :: hs) l) :
    PS X (.Try body (hd :: hs) [] [] pos) (tTryN tb X.K Wo l) := ps_try_named hst hfr nd out inner cl
end
section
variable {F : Fx} {EE : L2.St → XK} {tb : WX → TS} {u : TS3}
theorem s3_tryN' {l : List Clause} {r : List Cl3} {Wo : WX} (hb : ∀ W : WX, S3 F (fun σ cls d H => W cls d σ H) (tb W) u) (c : Clauses3 F EE l r) : S3 F EE (tTryN tb F.K Wo l) (x_try F.K u r) := s3_try hb c
end
end Q
/-! R3s: steps of readings over data. -/
namespace Q
open PySem PySem.Spec PyProof.Rows L2
section
variable {S : Env3} {Q : W → Prop} {QB : Bool → Prop} {QA : List W → Prop} {QD : D → Prop} {QL : List D → Prop} {QI : Int → Prop} {QS : Str → Prop} {QK : Key → Prop} {QO : Option Int → Prop} {QV : Value → Prop} {QF : List (Str × D) → Prop} {R : Env3 → Prop} {X : X3} {XC : XP} {E : Ends3} {t a b c ek ev : T3} {p q : B3} {as cs : A3} {u u1 u2 : TS3} {w w' : W} {x y z d : D} {xs ys ds dvs : List D} {i j : Int} {n m : Nat} {ti : I3T} {g : G3T} {gs : G3Ts} {ps pt : PO3T} {A B : Prop} {bo : Bool} {s s' : Str} {C : Addr} {K : PySem.W.Frag} {f k : Str} {pv : P3v} {pi : PI3} {fs : List (Str × D)} {kvs : List (Key × D)} {vs : List Nat} {ws : List W} {bl : List Bool}
theorem env0_cons : env0 (d :: ds) m = some (.d d) :: env0 ds m := rfl
theorem frz_d : frz (.d x) = x := rfl
theorem frz_ol : frz (.ol xs) = .lst xs := rfl
theorem frz_od : frz (.od kvs) = .dic kvs := rfl
theorem frz_oi : frz (.oi C fs) = .obj C fs := rfl
theorem env0_nil : env0 [] m = List.replicate m none := rfl
theorem k_frz (h : t S (fun w => Q (.d (frz w))) X) : x_frz t S Q X := h
theorem k_fl (h : Q (.d (.lst xs))) : Q (.d (frz (.ol xs))) := h
theorem k_fd (h : Q (.d (.dic kvs))) : Q (.d (frz (.od kvs))) := h
theorem k_fx (h : Q (.d x)) : Q (.d (frz (.d x))) := h
theorem k_var {i : Nat} (e : S[i]? = some (some w)) (h : Q w) : x_var i S Q X := by
  unfold x_var
  rw [e]
  exact h
theorem k_cI (h : Q (.d (.int i))) : x_c (.int i) S Q X := h
theorem k_cS (h : Q (.d (.str s))) : x_c (.str s) S Q X := h
theorem k_cB (h : Q (.d (.bl bo))) : x_c (.bl bo) S Q X := h
theorem k_cN (h : Q (.d .non)) : x_c .non S Q X := h
theorem k_cR {l : Addr} (h : Q (.d (.val (.ref l)))) : x_c (.ref l) S Q X := h
theorem k_cT {n : String} (h : Q (.d (.val (.ty n)))) : x_c (.ty n) S Q X := h
theorem k_op {o : Op3} (h : a S (fun w => b S (fun w' => o w w' Q) X) X) : x_op o a b S Q X := h
theorem k_un {o : W → (W → Prop) → Prop} (h : a S (fun w => o w Q) X) : x_un o a S Q X := h
theorem k_b (h : t S (fun w => asB w QB) X) : x_b t S QB X := h
theorem k_asB (h : QB bo) : asB (.d (.bl bo)) QB := h
theorem k_asD (h : QD x) : asD (.d x) QD := h
theorem k_asI (h : QI i) : aI (.d (.int i)) QI := h
theorem k_asS (h : QS s) : asS (.d (.str s)) QS := h
theorem k_asL (h : QL xs) : asL (.d (.lst xs)) QL := h
theorem k_asQbl (h : QL xs) : asQ (.bw (.lst xs)) QL := h
theorem k_asQbt (h : QL xs) : asQ (.bw (.tup xs)) QL := h
theorem k_asQl (h : QL xs) : asQ (.d (.lst xs)) QL := h
theorem k_asQt (h : QL xs) : asQ (.d (.tup xs)) QL := h
theorem k_asKi (h : QK (.inl i)) : asK (.d (.int i)) QK := h
theorem k_asKs (h : QK (.inr s)) : asK (.d (.str s)) QK := h
theorem k_asV {QKv : List (Key × D) → Prop} (h : QKv kvs) : asKv (.d (.dic kvs)) QKv := h
theorem k_asVo {QKv : List (Key × D) → Prop} (h : QKv kvs) : asKv (.od kvs) QKv := h
theorem k_asO (h : QD (.obj C fs)) : asO C (.d (.obj C fs)) QD := ⟨rfl, h⟩
theorem k_and (h : p S (fun b => (b = true → q S QB X) ∧ (b = false → QB false)) X) : x_and p q S QB X := h
theorem k_or (h : p S (fun b => (b = true → QB true) ∧ (b = false → q S QB X)) X) : x_or p q S QB X := h
theorem k_not (h : p S (fun b => QB (!b)) X) : x_not p S QB X := h
theorem k_yes (h : QB true) : x_yes S QB X := h
theorem k_if (h : p S (fun k => (k = true → a S Q X) ∧ (k = false → b S Q X)) X) : x_if p a b S Q X := h
theorem k_andV (h : a S (fun w => asB w fun k => (k = true → b S Q X) ∧ (k = false → Q (.d (.bl false)))) X) : x_andV a b S Q X := h
theorem k_orV (h : a S (fun w => asB w fun k => (k = true → Q (.d (.bl true))) ∧ (k = false → b S Q X)) X) : x_orV a b S Q X := h
theorem k_notV (h : a S (fun w => asB w fun k => Q (.d (.bl (!k)))) X) : x_notV a S Q X := h
theorem k_chain {o o' : Op3} (h : a S (fun w => b S (fun w' => o w w' fun z => asB z fun k => (k = true → c S (fun w2 => o' w' w2 Q) X) ∧ (k = false → Q (.d (.bl false)))) X) X) : x_chain o o' a b c S Q X := h
theorem k_nil (h : QA []) : x_nil S QA X := h
theorem k_cons (h : a S (fun w => as S (fun ws => QA (w :: ws)) X) X) : x_cons a as S QA X := h
theorem k_all0 (h : QL []) : allD [] QL := h
theorem k_all1 (h : allD ws fun ds => QL (x :: ds)) : allD (.d x :: ws) QL := h
theorem k_ln0 (h : A) : ([] : List D).length ≤ 100000 ∧ A := ⟨Nat.le_of_ble_eq_true rfl, h⟩
theorem k_ln1 {x1 : D} (h : A) : ([x1] : List D).length ≤ 100000 ∧ A := ⟨Nat.le_of_ble_eq_true rfl, h⟩
theorem k_ln2 {x1 x2 : D} (h : A) : ([x1, x2] : List D).length ≤ 100000 ∧ A := ⟨Nat.le_of_ble_eq_true rfl, h⟩
theorem k_ln3 {x1 x2 x3 : D} (h : A) : ([x1, x2, x3] : List D).length ≤ 100000 ∧ A := ⟨Nat.le_of_ble_eq_true rfl, h⟩
theorem k_ln4 {x1 x2 x3 x4 : D} (h : A) : ([x1, x2, x3, x4] : List D).length ≤ 100000 ∧ A := ⟨Nat.le_of_ble_eq_true rfl, h⟩
theorem k_ln5 {x1 x2 x3 x4 x5 : D} (h : A) : ([x1, x2, x3, x4, x5] : List D).length ≤ 100000 ∧ A := ⟨Nat.le_of_ble_eq_true rfl, h⟩
theorem k_ln6 {x1 x2 x3 x4 x5 x6 : D} (h : A) : ([x1, x2, x3, x4, x5, x6] : List D).length ≤ 100000 ∧ A := ⟨Nat.le_of_ble_eq_true rfl, h⟩
theorem k_ln7 {x1 x2 x3 x4 x5 x6 x7 : D} (h : A) : ([x1, x2, x3, x4, x5, x6, x7] : List D).length ≤ 100000 ∧ A := ⟨Nat.le_of_ble_eq_true rfl, h⟩
theorem k_tup (h : as S (fun ws => allD ws fun ds => ds.length ≤ 100000 ∧ Q (.d (.tup ds))) X) : x_tup as S Q X := h
theorem k_lst (h : as S (fun ws => allD ws fun ds => ds.length ≤ 100000 ∧ Q (.ol ds)) X) : x_lst as S Q X := h
theorem k_dnew (h : Q (.od [])) : x_dnew S Q X := h
theorem k_cb {o : Cb3} (h : as S (fun ws => o ws Q) X) : x_cb o as S Q X := h
theorem k_next (h : E.nx S) : x_next S E X := h
theorem k_nx {nx bk ct : Env3 → Prop} {rt : W → Prop} (h : nx S) : Ends3.nx ⟨nx, rt, bk, ct⟩ S := h
theorem k_rt {nx bk ct : Env3 → Prop} {rt : W → Prop} (h : rt w) : Ends3.rt ⟨nx, rt, bk, ct⟩ w := h
theorem k_bk {nx bk ct : Env3 → Prop} {rt : W → Prop} (h : bk S) : Ends3.bk ⟨nx, rt, bk, ct⟩ S := h
theorem k_ct {nx bk ct : Env3 → Prop} {rt : W → Prop} (h : ct S) : Ends3.ct ⟨nx, rt, bk, ct⟩ S := h
theorem k_seq (h : u1 S ⟨fun S' => u2 S' E X, E.rt, E.bk, E.ct⟩ X) : x_seq u1 u2 S E X := h
theorem k_ifS (h : p S (fun k => (k = true → u1 S E X) ∧ (k = false → u2 S E X)) X) : x_ifS p u1 u2 S E X := h
theorem k_t (h : A) : (true = true → A) ∧ (true = false → B) := ⟨fun _ => h, fun z => nomatch z⟩
theorem k_f (h : B) : (false = true → A) ∧ (false = false → B) := ⟨(fun z => nomatch z), fun _ => h⟩
theorem k_nt (h : B) : ((!true) = true → A) ∧ ((!true) = false → B) := ⟨(fun z => nomatch z), fun _ => h⟩
theorem k_nf (h : A) : ((!false) = true → A) ∧ ((!false) = false → B) := ⟨fun _ => h, fun z => nomatch z⟩
theorem k_dec {P : Prop} [Decidable P] (h1 : P → A) (h2 : ¬ P → B) : (decide P = true → A) ∧ (decide P = false → B) := ⟨fun z => h1 (of_decide_eq_true z), fun z => h2 (of_decide_eq_false z)⟩
theorem k_ndec {P : Prop} [Decidable P] (h1 : ¬ P → A) (h2 : P → B) : ((!decide P) = true → A) ∧ ((!decide P) = false → B) := ⟨fun z => h1 (by simpa using z), fun z => h2 (by simpa using z)⟩
theorem k_nbool (h1 : bo = false → A) (h2 : bo = true → B) : ((!bo) = true → A) ∧ ((!bo) = false → B) := ⟨fun z => h1 (by simpa using z), fun z => h2 (by simpa using z)⟩
theorem k_gname {i : Nat} (h : R (S.set i (some (.d x)))) : x_gname i x S R := h
theorem k_gtup (l : xs.length = n) (h : gs xs S R) : x_gtup n gs (.tup xs) S R := ⟨l, h⟩
theorem k_gcons (h : g x S fun S' => gs xs S' R) : x_gcons g gs (x :: xs) S R := h
theorem k_gnil (h : R S) : x_gnil [] S R := ⟨rfl, h⟩
theorem k_set (h : t S (fun w => asD w fun x => g x S E.nx) X) : x_set t g S E X := h
theorem k_own {i : Nat} (h : t S (fun w => E.nx (S.set i (some w))) X) : x_own i t S E X := h
theorem k_frzL {i : Nat} (e : S[i]? = some (some (.ol xs))) (h : u (S.set i (some (.d (.lst xs)))) E X) : x_frzS i u S E X := by
  unfold x_frzS
  rw [e]
  exact h
theorem k_frzK {i : Nat} (e : S[i]? = some (some (.od kvs))) (h : u (S.set i (some (.d (.dic kvs)))) E X) : x_frzS i u S E X := by
  unfold x_frzS
  rw [e]
  exact h
theorem k_frzD {i : Nat} (e : S[i]? = some (some (.d x))) (h : u S E X) : x_frzS i u S E X := by
  unfold x_frzS
  rw [e]
  exact h
theorem k_ret (h : t S (fun w => notI w ∧ E.rt w) X) : x_ret t S E X := h
theorem k_niD (h : A) : notI (.d x) ∧ A := ⟨True.intro, h⟩
theorem k_niO (h : A) : notI (.ol xs) ∧ A := ⟨True.intro, h⟩
theorem k_niK (h : A) : notI (.od kvs) ∧ A := ⟨True.intro, h⟩
theorem k_retN (h : E.rt (.d .non)) : x_retN S E X := h
theorem k_drop (h : t S (fun _ => E.nx S) X) : x_drop t S E X := h
theorem k_brk (h : E.bk S) : x_brk S E X := h
theorem k_cont (h : E.ct S) : x_ct S E X := h
theorem k_app {i : Nat} (e : S[i]? = some (some (.ol xs))) (h : t S (fun w => asD w fun x => xs.length < 100000 ∧ E.nx (S.set i (some (.ol (xs ++ [x]))))) X) : x_app i t S E X := by
  unfold x_app
  rw [e]
  exact h
theorem k_clear {i : Nat} (e : S[i]? = some (some (.ol xs))) (h : E.nx (S.set i (some (.ol [])))) : x_clear i S E X := by
  unfold x_clear
  rw [e]
  exact h
theorem k_iL (h : t S (fun w => asL w QL) X) : x_iL t S QL X := h
theorem k_iQ (h : t S (fun w => asQ w QL) X) : x_iQ t S QL X := h
theorem k_iS (h : t S (fun w => asS w fun x => QL (chD x)) X) : x_iS t S QL X := h
def r1Q (QL : List D → Prop) (ws : List W) : Prop := match ws with
  | [.d (.int j)] => -(2 ^ 62) ≤ j ∧ j < 2 ^ 62 ∧ QL (rgD 0 j.toNat)
  | _ => False
theorem k_iR1 (h : as S (r1Q QL) X) : x_iR1 as S QL X := h
theorem k_r1 (h1 : -4611686018427387904 ≤ j ∧ j < 4611686018427387904) (h : QL (rgD 0 j.toNat)) : r1Q QL [.d (.int j)] := ⟨h1.1, h1.2, h⟩
def r2Q (QL : List D → Prop) (ws : List W) : Prop := match ws with
  | [.d (.int i), .d (.int j)] => (-(2 ^ 62) ≤ i ∧ i < 2 ^ 62 ∧ -(2 ^ 62) ≤ j ∧ j < 2 ^ 62) ∧ QL (rgD i (j - i).toNat)
  | _ => False
theorem k_iR2 (h : as S (r2Q QL) X) : x_iR2 as S QL X := h
theorem k_r2 (h1 : -4611686018427387904 ≤ i ∧ i < 4611686018427387904 ∧ -4611686018427387904 ≤ j ∧ j < 4611686018427387904) (h : QL (rgD i (j - i).toNat)) : r2Q QL [.d (.int i), .d (.int j)] := ⟨h1, h⟩
theorem k_for (h : ti S (fun ds => for3 g u ds S E X) X) : x_for ti g u S E X := h
theorem k_lc {e : T3} (h : ti S (fun ds => lc3 g p e (wipe3 S vs) X ds [] fun r => Q (.ol r)) X) : x_lc ti g p e vs S Q X := h
theorem k_dc (h : ti S (fun ds => dc3 g p ek ev (wipe3 S vs) X ds [] fun r => Q (.od r)) X) : x_dc ti g p ek ev vs S Q X := h
/-! calls -/
def cQ (n : Nat) (p : P3v) (dvs : List D) (Q : W → Prop) (XC : XP) (ws : List W) : Prop := allD ws fun ds => (ds ++ dvs).length = n ∧ p (ds ++ dvs) (fun w => Q (.d (frz w))) XC
theorem k_call (h : as S (cQ n pv dvs Q (X S)) X) : x_call n pv as dvs S Q X := h
theorem k_call0 (h : as S (cQ n pv dvs Q noX) X) : x_call0 n pv as dvs S Q X := h
def cF (n : Nat) (p : P3v) (dvs : List D) (Q : W → Prop) (XC : XP) (ws : List W) : Prop := allD ws fun ds => (ds ++ dvs).length = n ∧ p (ds ++ dvs) (fun w => owned w = true ∧ Q w) XC
theorem k_callF (h : as S (cF n pv dvs Q (X S)) X) : x_callF n pv as dvs S Q X := h
def cB (n : Nat) (bl : List Bool) (p : P3v) (dvs : List D) (Q : W → Prop) (XC : XP) (ws : List W) : Prop := borD bl (ws ++ dvs.map W.d) fun ds => ds.length = n ∧ p ds (fun w => Q (.d (frz w))) XC
theorem k_callB (h : as S (cB n bl pv dvs Q (X S)) X) : x_callB n bl pv as dvs S Q X := h
theorem k_callB0 (h : as S (cB n bl pv dvs Q noX) X) : x_callB0 n bl pv as dvs S Q X := h
theorem k_cB1 (e : okB bl [w] = true) (h : pv [frz w] (fun w => Q (.d (frz w))) XC) : cB 1 bl pv [] Q XC [w] := ⟨e, rfl, h⟩
theorem k_cB2 (e : okB bl [w, w'] = true) (h : pv [frz w, frz w'] (fun w => Q (.d (frz w))) XC) : cB 2 bl pv [] Q XC [w, w'] := ⟨e, rfl, h⟩
theorem k_cBd (e : okB bl [w, .d x] = true) (h : pv [frz w, x] (fun w => Q (.d (frz w))) XC) : cB 2 bl pv [x] Q XC [w] := ⟨e, rfl, h⟩
def mkB3 (n : Nat) (bl : List Bool) (p : PI3) (dvs : List D) (C : Addr) (Q : W → Prop) (XC : XP) (ws : List W) : Prop := borD bl (ws ++ dvs.map W.d) fun ds => ds.length = n ∧ p ds (fun fs => Q (.d (.obj C fs))) XC
theorem k_makeB (h : as S (mkB3 n bl pi dvs C Q (X S)) X) : x_makeB C n bl pi as dvs S Q X := h
theorem k_makeB0 (h : as S (mkB3 n bl pi dvs C Q noX) X) : x_makeB0 C n bl pi as dvs S Q X := h
theorem k_mB1 (e : okB bl [w] = true) (h : pi [frz w] (fun fs => Q (.d (.obj C fs))) XC) : mkB3 1 bl pi [] C Q XC [w] := ⟨e, rfl, h⟩
theorem k_mB2 (e : okB bl [w, w'] = true) (h : pi [frz w, frz w'] (fun fs => Q (.d (.obj C fs))) XC) : mkB3 2 bl pi [] C Q XC [w, w'] := ⟨e, rfl, h⟩
theorem k_mBd (e : okB bl [w, .d x] = true) (h : pi [frz w, x] (fun fs => Q (.d (.obj C fs))) XC) : mkB3 2 bl pi [x] C Q XC [w] := ⟨e, rfl, h⟩
theorem k_c1 (h : pv [x] (fun w => Q (.d (frz w))) XC) : cQ 1 pv [] Q XC [.d x] := ⟨rfl, h⟩
theorem k_c2 (h : pv [x, y] (fun w => Q (.d (frz w))) XC) : cQ 2 pv [] Q XC [.d x, .d y] := ⟨rfl, h⟩
theorem k_c3 (h : pv [x, y, z] (fun w => Q (.d (frz w))) XC) : cQ 3 pv [] Q XC [.d x, .d y, .d z] := ⟨rfl, h⟩
theorem k_c4 {x1 x2 x3 x4 : D} (h : pv [x1, x2, x3, x4] (fun w => Q (.d (frz w))) XC) : cQ 4 pv [] Q XC [.d x1, .d x2, .d x3, .d x4] := ⟨rfl, h⟩
theorem k_c5 {x1 x2 x3 x4 x5 : D} (h : pv [x1, x2, x3, x4, x5] (fun w => Q (.d (frz w))) XC) : cQ 5 pv [] Q XC [.d x1, .d x2, .d x3, .d x4, .d x5] := ⟨rfl, h⟩
theorem k_c6 {x1 x2 x3 x4 x5 x6 : D} (h : pv [x1, x2, x3, x4, x5, x6] (fun w => Q (.d (frz w))) XC) : cQ 6 pv [] Q XC [.d x1, .d x2, .d x3, .d x4, .d x5, .d x6] := ⟨rfl, h⟩
theorem k_cd11 {v : D} (h : pv [x, v] (fun w => Q (.d (frz w))) XC) : cQ 2 pv [v] Q XC [.d x] := ⟨rfl, h⟩
def mQ (m : Str) (n : Nat) (p : P3v) (as : A3) (dvs : List D) (S : Env3) (Q : W → Prop) (XC : XP) (X : X3) (x : D) : Prop := noM m x ∧ as S (fun ws => allD ws fun ds => (x :: (ds ++ dvs)).length = n ∧ p (x :: (ds ++ dvs)) (fun w => Q (.d (frz w))) XC) X
theorem k_meth {mm : Str} (h : t S (fun w => asO C w (mQ mm n pv as dvs S Q (X S) X)) X) : x_meth C mm n pv t as dvs S Q X := h
theorem k_meth0 {mm : Str} (h : t S (fun w => asO C w (mQ mm n pv as dvs S Q noX X)) X) : x_meth0 C mm n pv t as dvs S Q X := h
def maQ (n : Nat) (p : P3v) (dvs : List D) (Q : W → Prop) (XC : XP) (x : D) (ws : List W) : Prop := allD ws fun ds => (x :: (ds ++ dvs)).length = n ∧ p (x :: (ds ++ dvs)) (fun w => Q (.d (frz w))) XC
theorem k_mQ {mm : Str} (e : fs.lookup mm = none) (h : as S (maQ n pv dvs Q XC (.obj C fs)) X) : mQ mm n pv as dvs S Q XC X (.obj C fs) := ⟨e, h⟩
theorem k_m0 (h : pv [x] (fun w => Q (.d (frz w))) XC) : maQ 1 pv [] Q XC x [] := ⟨rfl, h⟩
theorem k_m1 (h : pv [x, y] (fun w => Q (.d (frz w))) XC) : maQ 2 pv [] Q XC x [.d y] := ⟨rfl, h⟩
theorem k_m2 (h : pv [x, y, z] (fun w => Q (.d (frz w))) XC) : maQ 3 pv [] Q XC x [.d y, .d z] := ⟨rfl, h⟩
theorem k_m3 {x1 x2 x3 : D} (h : pv [x, x1, x2, x3] (fun w => Q (.d (frz w))) XC) : maQ 4 pv [] Q XC x [.d x1, .d x2, .d x3] := ⟨rfl, h⟩
theorem k_prop (h : t S (fun w => asO C w fun x => pv [x] (fun w => Q (.d (frz w))) noX) X) : x_prop C pv t S Q X := h
theorem k_propF (h : t S (fun w => asO C w fun x => pv [x] (fun w => owned w = true ∧ Q w) noX) X) : x_propF C pv t S Q X := h
theorem k_ow (h : Q (.ol xs)) : owned (.ol xs) = true ∧ Q (.ol xs) := ⟨rfl, h⟩
theorem k_fld (h : t S (fun w => fldD K f w fun x => Q (.d x)) X) : x_fld K f t S Q X := h
theorem k_fldO (c : Cls K C) (n : NoAttr K C f) (e : fs.lookup f = some x) (h : QD x) : fldD K f (.d (.obj C fs)) QD := ⟨c, n, x, e, h⟩
theorem k_fldI (c : Cls K C) (n : NoAttr K C f) (e : fs.lookup f = some x) (h : QD x) : fldD K f (.oi C fs) QD := ⟨c, n, x, e, h⟩
def mkQ3 (n : Nat) (p : PI3) (dvs : List D) (C : Addr) (Q : W → Prop) (XC : XP) (ws : List W) : Prop := allD ws fun ds => (ds ++ dvs).length = n ∧ p (ds ++ dvs) (fun fs => Q (.d (.obj C fs))) XC
theorem k_make (h : as S (mkQ3 n pi dvs C Q (X S)) X) : x_make C n pi as dvs S Q X := h
theorem k_make0 (h : as S (mkQ3 n pi dvs C Q noX) X) : x_make0 C n pi as dvs S Q X := h
theorem k_mk2 (h : pi [x, y] (fun fs => Q (.d (.obj C fs))) XC) : mkQ3 2 pi [] C Q XC [.d x, .d y] := ⟨rfl, h⟩
theorem k_mk1 (h : pi [x] (fun fs => Q (.d (.obj C fs))) XC) : mkQ3 1 pi [] C Q XC [.d x] := ⟨rfl, h⟩
theorem k_mkd1 (h : pi [x, y] (fun fs => Q (.d (.obj C fs))) XC) : mkQ3 2 pi [y] C Q XC [.d x] := ⟨rfl, h⟩
/-! raise, try -/
def r1X (C : Addr) (f : Str) (XC : XP) (ws : List W) : Prop := allD ws fun ds => match ds with
  | [a] => XC C [(f, a)]
  | _ => False
theorem k_raise1 (h : as S (r1X C f (X S)) X) : x_raise1 C f as S E X := h
theorem k_r1X (h : XC C [(f, x)]) : r1X C f XC [.d x] := h
def r2X (C : Addr) (f g : Str) (XC : XP) (ws : List W) : Prop := allD ws fun ds => match ds with
  | [a, b] => XC C [(g, b), (f, a)]
  | _ => False
theorem k_raise2 {g : Str} (h : as S (r2X C f g (X S)) X) : x_raise2 C f g as S E X := h
theorem k_r2X {g : Str} (h : XC C [(g, y), (f, x)]) : r2X C f g XC [.d x, .d y] := h
def r3X (C : Addr) (f g k : Str) (XC : XP) (ws : List W) : Prop := allD ws fun ds => match ds with
  | [a, b, c] => XC C [(k, c), (g, b), (f, a)]
  | _ => False
theorem k_raise3 {g k : Str} (h : as S (r3X C f g k (X S)) X) : x_raise3 C f g k as S E X := h
theorem k_r3X {g k : Str} (h : XC C [(k, z), (g, y), (f, x)]) : r3X C f g k XC [.d x, .d y, .d z] := h
theorem k_try {l : List Cl3} (h : u S E fun S' C fs => hand3 K E X l S' C fs) : x_try K u l S E X := h
theorem k_tryO {c : Value} {us : Addr → Value → Option Addr → TS3} (h : u S E fun S' C fs => ∃ b, PySem.W.exmOne K (.ref C) c = some b ∧ b = true ∧ ∀ a dd, us a (.ref C) (some dd) S' E X) : x_tryO K u c us S E X := h
theorem k_hY {c : Value} {n : Nat} {us : Addr → Value → Option Addr → TS3} {l : List Cl3} (e : PySem.W.exmOne K (.ref C) c = some true) (h : ∀ a dd, us a (.ref C) (some dd) (S.set n (some (.d (.exc a dd C fs)))) (gone3 n E) X) : hand3 K E X ((c, n, us) :: l) S C fs := ⟨true, e, fun _ => h, fun z => nomatch z⟩
theorem k_hN {c : Value} {n : Nat} {us : Addr → Value → Option Addr → TS3} {l : List Cl3} (e : PySem.W.exmOne K (.ref C) c = some false) (h : hand3 K E X l S C fs) : hand3 K E X ((c, n, us) :: l) S C fs := ⟨false, e, (fun z => nomatch z), fun _ => h⟩
theorem k_xf {a dd : Addr} {cls : Value} {d : Option Addr} (h : t S (fun w => excD a cls d C f w fun x => Q (.d x)) X) : x_xf a cls d C f t S Q X := h
theorem k_xd {a dd : Addr} (e : fs.lookup f = some x) (h : QD x) : excD a (.ref C) (some dd) C f (.d (.exc a dd C fs)) QD := ⟨rfl, rfl, rfl, x, e, h⟩
/-! isinstance -/
def kitQ (K : PySem.W.Frag) (t u : Value) (Q : W → Prop) : Prop := ∃ b, PySem.W.kitOne K t u = some b ∧ Q (.d (.bl b))
def kitAQ (K : PySem.W.Frag) (t : Value) (us : List Value) (Q : W → Prop) : Prop := ∃ b, PySem.W.kitAny K t us = some b ∧ Q (.d (.bl b))
theorem k_isT (h : t S (fun w => cs S (fun ws => allD ws fun xs => xs.length ≤ 100000 ∧ tyW K w fun t => clsDs xs fun us => kitAQ K t us Q) X) X) : x_isiT K t cs S Q X := h
theorem k_isi (h : tyW K w fun t => clsD x fun u => kitQ K t u Q) : o_isi K [w, .d x] Q := h
theorem k_tyN (h : QV (.type "NoneType")) : tyW K (.d .non) QV := h
theorem k_tyB (h : QV (.type "bool")) : tyW K (.d (.bl bo)) QV := h
theorem k_tyI (h : QV (.type "int")) : tyW K (.d (.int i)) QV := h
theorem k_tyS (h : QV (.type "str")) : tyW K (.d (.str s)) QV := h
theorem k_tyL (h : QV (.type "list")) : tyW K (.d (.lst xs)) QV := h
theorem k_tyT (h : QV (.type "tuple")) : tyW K (.d (.tup xs)) QV := h
theorem k_tyD (h : QV (.type "dict")) : tyW K (.d (.dic kvs)) QV := h
theorem k_tyO (c : Cls K C) (ty : TyC K C) (h : QV (.ref C)) : tyW K (.d (.obj C fs)) QV := ⟨c, ty, h⟩
theorem k_clT {n : String} (h : QV (.type n)) : clsD (.val (.ty n)) QV := h
theorem k_clR {l : Addr} (h : QV (.ref l)) : clsD (.val (.ref l)) QV := h
theorem k_cls0 {QVs : List Value → Prop} (h : QVs []) : clsDs [] QVs := h
theorem k_cls1 {QVs : List Value → Prop} (h : clsD x fun u => clsDs xs fun us => QVs (u :: us)) : clsDs (x :: xs) QVs := h
theorem k_kit {a b : String} {r : Bool} (e : kitB a b = some r) (h : Q (.d (.bl r))) : kitQ K (.type a) (.type b) Q := ⟨r, kit_ty e, h⟩
theorem k_kitK {t u : Value} {r : Bool} (e : PySem.W.kitOne K t u = some r) (h : Q (.d (.bl r))) : kitQ K t u Q := ⟨r, e, h⟩
theorem k_kitA {t : Value} {us : List Value} {r : Bool} (e : PySem.W.kitAny K t us = some r) (h : Q (.d (.bl r))) : kitAQ K t us Q := ⟨r, e, h⟩
theorem kit_any2 {a b c : String} {r r' k : Bool} (e : kitB a b = some r) (e' : kitB a c = some r') (ek : (r || r') = k) : PySem.W.kitAny K (.type a) [.type b, .type c] = some k := by
  subst ek
  refine kitAny_cons (kit_ty e) (fun hb => ?_) (fun hb => by rw [hb]; rfl)
  refine kitAny_cons (kit_ty e') (fun hb' => ?_) (fun hb' => by rw [hb']; cases r <;> rfl)
  rw [hb, hb']
  exact kitAny_nil
theorem k_kit2 {a b c : String} {r r' k : Bool} (e : kitB a b = some r) (e' : kitB a c = some r') (ek : (r || r') = k) (h : Q (.d (.bl k))) : kitAQ K (.type a) [.type b, .type c] Q := ⟨k, kit_any2 e e' ek, h⟩
theorem k_isX {a : Addr} {cls : Value} {d : Option Addr} (h : t S (fun w => isX K a cls d w fun tv => c S (fun w2 => asD w2 fun x => clsD x fun u => kitQ K tv u Q) X) X) : x_isX K a cls d t c S Q X := h
theorem k_isXT {a : Addr} {cls : Value} {d : Option Addr} (h : t S (fun w => isX K a cls d w fun tv => cs S (fun ws => allD ws fun xs => xs.length ≤ 100000 ∧ clsDs xs fun us => kitAQ K tv us Q) X) X) : x_isXT K a cls d t cs S Q X := h
theorem k_xC {a dd : Addr} (e : ExcC K C) (h : QV (.ref C)) : isX K a (.ref C) (some dd) (.d (.exc a dd C fs)) QV := ⟨rfl, rfl, rfl, e, h⟩
/-! dicts -/
theorem k_din (h : ek S (fun wk => asK wk fun key => t S (fun w => asKv w fun kvs => Q (.d (.bl (valD kvs key).isSome))) X) X) : x_din ek t S Q X := h
theorem k_dni (h : ek S (fun wk => asK wk fun key => t S (fun w => asKv w fun kvs => Q (.d (.bl (!(valD kvs key).isSome)))) X) X) : x_dni ek t S Q X := h
theorem k_dget (h : t S (fun w => ek S (fun wk => asK wk fun key => asKv w fun kvs => ∃ x, valD kvs key = some x ∧ Q (.d x)) X) X) : x_dget t ek S Q X := h
def dpQ (i : Nat) (ek : T3) (S : Env3) (E : Ends3) (X : X3) (x : D) : Prop := match S[i]? with
  | some (some (.od kvs)) => ek S (fun wk => asK wk fun key => kvs.length < 100000 ∧ E.nx (S.set i (some (.od (putD kvs key x))))) X
  | _ => False
theorem k_dput {i : Nat} (h : ev S (fun w => asD w (dpQ i ek S E X)) X) : x_dput i ek ev S E X := h
theorem k_dp {i : Nat} (e : S[i]? = some (some (.od kvs))) (h : ek S (fun wk => asK wk fun key => kvs.length < 100000 ∧ E.nx (S.set i (some (.od (putD kvs key x))))) X) : dpQ i ek S E X x := by
  unfold dpQ
  rw [e]
  exact h
def sfQ3 (K : PySem.W.Frag) (i : Nat) (f : Str) (S : Env3) (E : Ends3) (x : D) : Prop := match S[i]? with
  | some (some (.oi C fs)) => Cls K C ∧ NoAttr K C f ∧ fs.length < 1000 ∧ E.nx (S.set i (some (.oi C (putF3 f x fs))))
  | _ => False
theorem k_sfld {i : Nat} (h : t S (fun w => asD w (sfQ3 K i f S E)) X) : x_sfld K i f t S E X := h
theorem k_sf {i : Nat} (e : S[i]? = some (some (.oi C fs))) (c : Cls K C) (n : NoAttr K C f) (l : fs.length < 1000) (h : E.nx (S.set i (some (.oi C (putF3 f x fs))))) : sfQ3 K i f S E x := by
  unfold sfQ3
  rw [e]
  exact ⟨c, n, l, h⟩
/-! operators -/
theorem k_addI (h : Q (.d (.int (i + j)))) : o_add (.d (.int i)) (.d (.int j)) Q := h
theorem k_addS (l : s.length + s'.length ≤ 100000) (h : Q (.d (.str (s ++ s')))) : o_add (.d (.str s)) (.d (.str s')) Q := ⟨l, h⟩
theorem k_addT (n : xs ≠ []) (l : xs.length + ys.length ≤ 100000) (h : Q (.d (.tup (xs ++ ys)))) : o_add (.d (.tup xs)) (.d (.tup ys)) Q := ⟨n, l, h⟩
theorem k_addLL (l : xs.length + ys.length ≤ 100000) (h : Q (.d (.lst (xs ++ ys)))) : o_add (.d (.lst xs)) (.d (.lst ys)) Q := ⟨xs, ys, rfl, rfl, l, h⟩
theorem k_addOO (l : xs.length + ys.length ≤ 100000) (h : Q (.d (.lst (xs ++ ys)))) : o_add (.ol xs) (.ol ys) Q := ⟨xs, ys, rfl, rfl, l, h⟩
theorem k_addLO (l : xs.length + ys.length ≤ 100000) (h : Q (.d (.lst (xs ++ ys)))) : o_add (.d (.lst xs)) (.ol ys) Q := ⟨xs, ys, rfl, rfl, l, h⟩
theorem k_addOL (l : xs.length + ys.length ≤ 100000) (h : Q (.d (.lst (xs ++ ys)))) : o_add (.ol xs) (.d (.lst ys)) Q := ⟨xs, ys, rfl, rfl, l, h⟩
theorem k_sub (h : Q (.d (.int (i - j)))) : o_sub (.d (.int i)) (.d (.int j)) Q := h
theorem k_mul (l : CMul i j) (h : Q (.d (.int (i * j)))) : o_mulU (.d (.int i)) (.d (.int j)) Q := ⟨l, h⟩
theorem k_mulS (h1 : 1 ≤ j) (h2 : j ≤ 1000) (h3 : s.length ≤ 1000) (h : Q (.d (.str (repS s j.toNat)))) : o_mulU (.d (.str s)) (.d (.int j)) Q := ⟨h1, h2, h3, h⟩
theorem k_mod (l : 0 < j) (h : Q (.d (.int (i % j)))) : o_mod (.d (.int i)) (.d (.int j)) Q := ⟨l, h⟩
theorem k_div (l : 0 < j ∧ j ≤ 1000000000000000000) (h : Q (.d (.int (i / j)))) : o_div (.d (.int i)) (.d (.int j)) Q := ⟨l, h⟩
theorem k_pow (l : 0 ≤ j ∧ j ≤ 1000 ∧ i.natAbs < 2 ^ 64) (h : Q (.d (.int (i ^ j.toNat)))) : o_pow (.d (.int i)) (.d (.int j)) Q := ⟨l, h⟩
theorem p10_ok {k : Nat} (l : k ≤ 1000) : (0 : Int) ≤ (k : Int) ∧ (k : Int) ≤ 1000 ∧ (10 : Int).natAbs < 2 ^ 64 := ⟨by omega, by omega, by decide⟩
theorem k_p12 (h : Q (.d (.int 1000000000000))) : o_pow (.d (.int 10)) (.d (.int 12)) Q := k_pow (p10_ok (k := 12) (by decide)) h
theorem k_p30 (h : Q (.d (.int 1000000000000000000000000000000))) : o_pow (.d (.int 10)) (.d (.int 30)) Q := k_pow (p10_ok (k := 30) (by decide)) h
theorem k_p11 (h : Q (.d (.int 100000000000))) : o_pow (.d (.int 10)) (.d (.int 11)) Q := k_pow (p10_ok (k := 11) (by decide)) h
theorem k_neg (h : Q (.d (.int (-i)))) : o_neg (.d (.int i)) Q := h
theorem k_ltI (h : Q (.d (.bl (decide (i < j))))) : o_lt (.d (.int i)) (.d (.int j)) Q := h
theorem k_ltS (h : Q (.d (.bl (decide (s.cps.toList < s'.cps.toList))))) : o_lt (.d (.str s)) (.d (.str s')) Q := h
theorem k_leI (h : Q (.d (.bl (decide (i ≤ j))))) : o_le (.d (.int i)) (.d (.int j)) Q := h
theorem k_leS (h : Q (.d (.bl (!decide (s'.cps.toList < s.cps.toList))))) : o_le (.d (.str s)) (.d (.str s')) Q := h
theorem k_gtI (h : Q (.d (.bl (decide (j < i))))) : o_gt (.d (.int i)) (.d (.int j)) Q := h
theorem k_gtS (h : Q (.d (.bl (decide (s'.cps.toList < s.cps.toList))))) : o_gt (.d (.str s)) (.d (.str s')) Q := h
theorem k_geI (h : Q (.d (.bl (decide (j ≤ i))))) : o_ge (.d (.int i)) (.d (.int j)) Q := h
theorem k_eqI (h : Q (.d (.bl (decide (i = j))))) : o_eq (.d (.int i)) (.d (.int j)) Q := ⟨rfl, rfl, by show 0 ≤ 60; decide, by
  have e : eqD (.int i) (.int j) = decide (i = j) := by
    show (i == j) = decide (i = j)
    rw [Bool.beq_eq_decide_eq]
  show Q (.d (.bl (eqD (.int i) (.int j))))
  rw [e]
  exact h⟩
theorem k_eqS (h : Q (.d (.bl (decide (s = s'))))) : o_eq (.d (.str s)) (.d (.str s')) Q := ⟨rfl, rfl, by show 0 ≤ 60; decide, by
  have e : eqD (.str s) (.str s') = decide (s = s') := by
    show (s == s') = decide (s = s')
    rw [Bool.beq_eq_decide_eq]
  show Q (.d (.bl (eqD (.str s) (.str s'))))
  rw [e]
  exact h⟩
theorem k_neI (h : Q (.d (.bl (!decide (i = j))))) : o_ne (.d (.int i)) (.d (.int j)) Q := ⟨rfl, rfl, by show 0 ≤ 60; decide, by
  have e : eqD (.int i) (.int j) = decide (i = j) := by
    show (i == j) = decide (i = j)
    rw [Bool.beq_eq_decide_eq]
  show Q (.d (.bl (!eqD (.int i) (.int j))))
  rw [e]
  exact h⟩
theorem k_neS (h : Q (.d (.bl (!decide (s = s'))))) : o_ne (.d (.str s)) (.d (.str s')) Q := ⟨rfl, rfl, by show 0 ≤ 60; decide, by
  have e : eqD (.str s) (.str s') = decide (s = s') := by
    show (s == s') = decide (s = s')
    rw [Bool.beq_eq_decide_eq]
  show Q (.d (.bl (!eqD (.str s) (.str s'))))
  rw [e]
  exact h⟩
theorem k_eqB {b c : Bool} (h : Q (.d (.bl (decide (b = c))))) : o_eq (.d (.bl b)) (.d (.bl c)) Q := ⟨rfl, rfl, by show 0 ≤ 60; decide, by
  have e : eqD (.bl b) (.bl c) = decide (b = c) := by
    show (b == c) = decide (b = c)
    rw [Bool.beq_eq_decide_eq]
  show Q (.d (.bl (eqD (.bl b) (.bl c))))
  rw [e]
  exact h⟩
theorem k_neB {b c : Bool} (h : Q (.d (.bl (!decide (b = c))))) : o_ne (.d (.bl b)) (.d (.bl c)) Q := ⟨rfl, rfl, by show 0 ≤ 60; decide, by
  have e : eqD (.bl b) (.bl c) = decide (b = c) := by
    show (b == c) = decide (b = c)
    rw [Bool.beq_eq_decide_eq]
  show Q (.d (.bl (!eqD (.bl b) (.bl c))))
  rw [e]
  exact h⟩
theorem k_isNN (h : Q (.d (.bl true))) : o_is (.d .non) (.d .non) Q := ⟨rfl, True.intro, h⟩
theorem k_isNI (h : Q (.d (.bl false))) : o_is (.d (.int i)) (.d .non) Q := ⟨rfl, True.intro, h⟩
theorem k_isNB (h : Q (.d (.bl false))) : o_is (.d (.bl bo)) (.d .non) Q := ⟨rfl, True.intro, h⟩
theorem k_isNS (h : Q (.d (.bl false))) : o_is (.d (.str s)) (.d .non) Q := ⟨rfl, True.intro, h⟩
theorem k_isNT (h : Q (.d (.bl false))) : o_is (.d (.tup xs)) (.d .non) Q := ⟨rfl, True.intro, h⟩
theorem k_isNL (h : Q (.d (.bl false))) : o_is (.d (.lst xs)) (.d .non) Q := ⟨rfl, True.intro, h⟩
theorem k_isNO (h : Q (.d (.bl false))) : o_is (.d (.obj C fs)) (.d .non) Q := ⟨rfl, True.intro, h⟩
theorem k_inNN (h : Q (.d (.bl false))) : o_isnot (.d .non) (.d .non) Q := ⟨rfl, True.intro, h⟩
theorem k_inNI (h : Q (.d (.bl true))) : o_isnot (.d (.int i)) (.d .non) Q := ⟨rfl, True.intro, h⟩
theorem k_inNB (h : Q (.d (.bl true))) : o_isnot (.d (.bl bo)) (.d .non) Q := ⟨rfl, True.intro, h⟩
theorem k_inNS (h : Q (.d (.bl true))) : o_isnot (.d (.str s)) (.d .non) Q := ⟨rfl, True.intro, h⟩
theorem k_inNO (h : Q (.d (.bl true))) : o_isnot (.d (.obj C fs)) (.d .non) Q := ⟨rfl, True.intro, h⟩
theorem k_inNT (h : Q (.d (.bl true))) : o_isnot (.d (.tup xs)) (.d .non) Q := ⟨rfl, True.intro, h⟩
theorem k_ixT (e : atI xs i = some x) (h : Q (.d x)) : o_ix (.d (.tup xs)) (.d (.int i)) Q := ⟨xs, x, rfl, e, h⟩
theorem k_ixL (e : atI xs i = some x) (h : Q (.d x)) : o_ix (.d (.lst xs)) (.d (.int i)) Q := ⟨xs, x, rfl, e, h⟩
theorem k_ixO (e : atI xs i = some x) (h : Q (.d x)) : o_ix (.ol xs) (.d (.int i)) Q := ⟨xs, x, rfl, e, h⟩
theorem k_ixS {c : Nat} (l : s.length ≤ 100000) (e : atI s.cps.toList i = some c) (h : Q (.d (.str ⟨#[c]⟩))) : o_ix (.d (.str s)) (.d (.int i)) Q := ⟨l, c, e, h⟩
theorem k_sl {o : Sl3} (h : t S (fun w => ps S (fun a => pt S (fun b => o w a b Q) X) X) X) : x_sl o t ps pt S Q X := h
theorem k_none (h : QO none) : x_none S QO X := h
theorem k_part (h : t S (fun w => aI w fun i => QO (some i)) X) : x_part t S QO X := h
theorem k_slL {lo hi : Option Int} (h : Q (.ol (cutD xs lo hi))) : o_slL (.d (.lst xs)) lo hi Q := ⟨xs, rfl, h⟩
theorem k_slO {lo hi : Option Int} (h : Q (.ol (cutD xs lo hi))) : o_slL (.ol xs) lo hi Q := ⟨xs, rfl, h⟩
theorem k_slS {lo hi : Option Int} (l : s.length ≤ 100000) (h : Q (.d (.str (cutS s lo hi)))) : o_slS (.d (.str s)) lo hi Q := ⟨l, h⟩
theorem k_lenS (l : s.length ≤ 100000) (h : Q (.d (.int s.length))) : o_len [.d (.str s)] Q := ⟨l, h⟩
theorem k_lenL (h : Q (.d (.int xs.length))) : o_len [.d (.lst xs)] Q := ⟨xs, rfl, h⟩
theorem k_lenT (h : Q (.d (.int xs.length))) : o_len [.d (.tup xs)] Q := ⟨xs, rfl, h⟩
theorem k_lenO (h : Q (.d (.int xs.length))) : o_len [.ol xs] Q := ⟨xs, rfl, h⟩
theorem k_int (h : Q (.d (.int i))) : o_int [.d (.int i)] Q := h
theorem k_intB (h : Q (.d (.int (if bo then 1 else 0)))) : o_int [.d (.bl bo)] Q := h
theorem k_str (l : i.natAbs < 2 ^ 200) (h : Q (.d (.str (Str.ofString (toString i))))) : o_str [.d (.int i)] Q := ⟨l, h⟩
theorem k_listL (h : Q (.ol xs)) : o_list [.d (.lst xs)] Q := ⟨xs, rfl, h⟩
theorem k_listT (h : Q (.ol xs)) : o_list [.d (.tup xs)] Q := ⟨xs, rfl, h⟩
theorem k_listO (h : Q (.ol xs)) : o_list [.ol xs] Q := ⟨xs, rfl, h⟩
theorem k_tupleL (h : Q (.d (.tup xs))) : o_tuple [.d (.lst xs)] Q := ⟨xs, rfl, h⟩
theorem k_tupleT (h : Q (.d (.tup xs))) : o_tuple [.d (.tup xs)] Q := ⟨xs, rfl, h⟩
theorem k_tupleO (h : Q (.d (.tup xs))) : o_tuple [.ol xs] Q := ⟨xs, rfl, h⟩
theorem k_max2 (h : Q (.d (.int (if j > i then j else i)))) : o_max2 [.d (.int i), .d (.int j)] Q := h
theorem k_min2 (h : Q (.d (.int (if j < i then j else i)))) : o_min2 [.d (.int i), .d (.int j)] Q := h
def augQ (i : Nat) (S : Env3) (E : Ends3) (x : D) (w : W) : Prop := augD (.d x) w fun y => E.nx (S.set i (some (.d y)))
theorem k_aug {i : Nat} (e : S[i]? = some (some (.d x))) (h : t S (augQ i S E x) X) : x_aug i t S E X := by
  unfold x_aug
  rw [e]
  exact h
theorem k_augI {k : Nat} (h : E.nx (S.set k (some (.d (.int (i + j)))))) : augQ k S E (.int i) (.d (.int j)) := h
theorem k_augS {k : Nat} (l : s.length + s'.length ≤ 100000) (h : E.nx (S.set k (some (.d (.str (s ++ s')))))) : augQ k S E (.str s) (.d (.str s')) := ⟨l, h⟩
theorem k_fs {ts : List T3} (h : fs3 ts Str.empty S Q X) : x_fs ts S Q X := h
theorem k_fs0 (h : Q (.d (.str s))) : fs3 [] s S Q X := h
def fsQ (ts : List T3) (acc : Str) (S : Env3) (Q : W → Prop) (X : X3) (y : Str) : Prop := (acc ++ y).length ≤ 100000 ∧ fs3 ts (acc ++ y) S Q X
theorem k_fs1 {ts : List T3} (h : t S (fun w => asS w (fsQ ts s S Q X)) X) : fs3 (t :: ts) s S Q X := h
theorem k_fsQ {ts : List T3} (l : (s ++ s').length ≤ 100000) (h : fs3 ts (s ++ s') S Q X) : fsQ ts s S Q X s' := ⟨l, h⟩
theorem k_fmt (h : t S (fun w => fmtW w Q) X) : x_fmt t S Q X := h
theorem k_fmtS (l : s.length ≤ 100000) (h : Q (.d (.str s))) : fmtW (.d (.str s)) Q := ⟨l, h⟩
theorem k_fmtI (l : i.natAbs < 2 ^ 200) (h : Q (.d (.str (Str.ofString (toString i))))) : fmtW (.d (.int i)) Q := ⟨l, h⟩
end
end Q
/-! R3m: ends, lamps, bonds as data. -/
namespace Q
open PySem PySem.Spec PyProof.Rows L2
/-- an end: a number or None -/
abbrev dEnd3 : Option Int → D
  | none => .non
  | some i => .int i
def loO (lo : Option Int) (i : Int) : Bool := match lo with
  | none => true
  | some l => decide (l ≤ i)
def hiO (hi : Option Int) (i : Int) : Bool := match hi with
  | none => true
  | some h => decide (i ≤ h)
def inO (lo hi : Option Int) (i : Int) : Bool := loO lo i && hiO hi i
theorem k_take {n : Int} {Q : W → Prop} {X : XP} (h0 : 0 < n) (h1 : n ≤ 1000000000000000000) (k : ∀ r : Int, 0 ≤ r → r < n → Q (.d (.int r))) : qTake [.store, .int n] Q X :=
  ⟨n, rfl, by omega, h1, fun r g0 g1 => k r g0 (by split at g1 <;> omega)⟩
end Q
/-! R3l: sorted(e, key=lambda row: row[0]) over rows whose first item is a text. -/
namespace Q
open PySem PySem.Spec PyProof.Rows L2
section
variable {prog : Program} {w : World} {A : Around} {s : Shared}
/-- the body row[0] -/
abbrev rowE (x : Str) (p1 p2 p3 : Pos) (j : Nat) : Expr := .Subscript (.Name x p1) (.Constant (.int 0) j p2) p3
/-- the lambda's call on a row -/
theorem lam_row {f a c' : Addr} {x k qual : Str} {params : Arguments} {p1 p2 p3 : Pos} {j : Nat} {pm ctv : Value} {scope : Scope} {clos : List (Str × Addr)} {its : Array Value} {t0 : Tok} (hroom : A.depth < recursionLimit)
    (ho : s.heap.get? f = some (PySem.W.kla_obj "<lambda>" qual params (rowE x p1 p2 p3 j) scope clos pm c' ctv)) (hc : ∃ (oc : Obj) (vs : Array Value) (t : Tok), s.heap.get? c' = some oc ∧ oc.data = .fields vs ∧ vs[1]? = some (.str qual t)) (lim : s.heap.NoLimit)
    (hk : scope.kind = .function) (hco : scope.isCoroutine = false) (hgen : scope.isGenerator = false) (hcell : ∀ y ∈ scope.names, y.2 ≠ .cell) (hx : scope.names.lookup x = some .local) (hd : (x == ("__debug__" : Str)) = false)
    (hb : bindArgs (PySem.W.kla_fn "<lambda>" qual params (rowE x p1 p2 p3 j) scope clos pm (.ref c') ctv) ⟨[.ref a], []⟩ = pure [(x, .ref a)]) (ht : IsTup s.heap a its) (h0 : its[0]? = some (.str k t0)) :
    wpAny (model prog w) A (call (.ref f) [.ref a]) (PySem.W.KeyPure (.str k) s) (fun _ _ => False) s := by
  obtain ⟨oc, vs, t, hoc, hdc, hvc⟩ := hc
  refine wpAny_call (PySem.W.kla_callFunE hroom ho rfl hco hgen rfl ⟨c', oc, vs, t, rfl, hoc, hdc, hvc⟩ ?_)
  rw [hb]
  refine wpAny_pure (wpAny_newFunctionEnv hcell (fun y hy => by
    rw [List.mem_singleton.mp hy]
    exact hx) (fun h₁ hns hsb => ⟨lim.fresh _ hsb, ?_⟩) hk)
  show codeAny _ _ (.expr (rowE x p1 p2 p3 j) (PySem.W.envX qual scope s.heap.objs.size f (.ref c') clos)) _ _
  have kp : ∀ b o, s.heap.get? b = some o → h₁.get? b = some o := fun b o e => hsb.extBut b o (Nat.ne_of_lt (Heap.lt_size e)) (Heap.get?_push_of_some _ e)
  have ht1 : IsTup h₁ a its := by
    obtain ⟨o, e, r⟩ := ht
    exact ⟨o, kp _ _ e, r⟩
  refine PySem.W.kla_codeExpr ?_
  refine Subscript_Constant ?_
  refine wpAny_Name (wpAny_loadName_local (m := fun y => [(x, Value.ref a)].reverse.lookup y) (v := .ref a) hk hx hns (by simp) ?_) hd
  refine wpAny_Constant_int ?_
  refine ⟨"tuple", "tuple.__getitem__", slot_tuple_getitem.lookup, ht1.typeIs, PyProof.Rows.getItem_tuple (j := 0) (x := .str k t0) ht1 (by decide) (by decide) ?_ h0 ?_⟩
  · have hl : 0 < its.size := (Array.getElem?_eq_some_iff.mp h0).1
    have h1 : ixN its.size 0 = some 0 := by
      unfold ixN
      rw [if_pos (by decide), if_pos (by omega)]
      rfl
    exact (ixN_seq h1).1
  · exact ⟨h₁, _, rfl, kp, PySem.Reads.str k t0⟩
end
/-! ### the rule -/
def leS (a b : Str) : Bool := decide (a.cps.toList ≤ b.cps.toList)
theorem relV_ref {u : Value} {a : Addr} (h : RelV (.ref a) u) : u = .ref a := h
theorem each_rel : ∀ {zs : List (V × Str)} {its : List Value}, Vals (zs.map (·.1)) its → PySem.W.EachIs (fun u z => RelV z.1 u) its zs
  | [], _, r => by cases r; exact .nil
  | z :: zs, _, r => by
    cases r with
    | cons h t => exact .cons h (each_rel t)
theorem vals_each : ∀ {its : List Value} {zs : List (V × Str)}, PySem.W.EachIs (fun u z => RelV z.1 u) its zs → Vals (zs.map (·.1)) its
  | _, _, .nil => .nil
  | _, _, .cons h t => .cons h (vals_each t)
/-! ### a lambda is made: what is tracked stays tracked -/
section
variable {X : Cx} {pins : List (Addr × Obj)} {σ : L2.St} {H : Hp} {s : Shared}
/-- the two heaps: the same but for the table, which may have grown by a code object's row -/
structure LamGo (T : List (Addr × Str)) (H H1 : Hp) : Prop where
  ext : LamX.ExtN H H1
  dm : ∀ b, H1 b = none → H b = none
  tab : LamX.Tabs T H1
  st : ∀ b o, H b = some o → (∀ p ∈ T, p.1 ≠ b) → H1 b = some o
theorem lamGo_new {T : List (Addr × Str)} {P c' : Addr} {q : Str} {ps : Array Value} {pos : Pos} (hT : LamX.Tabs T H) (hu : ∀ p ∈ T, p.1 = P → p.2 = q) (hP : H P = some (.tbl ps)) (nC : H c' = none) (ht : TriplesOk ps.toList) (ha : ∀ (z : Pos) (cv : Value), codeAmong z ps.toList = some cv → ∃ c, cv = .ref c ∧ H c = some (LamX.CodeO c q)) (mem : (P, q) ∈ T) :
    LamGo T H (upd (upd H P (.tbl (ps ++ #[rawInt pos.line, rawInt pos.col, .ref c']))) c' (LamX.CodeO c' q)) := by
  have nPc : P ≠ c' := ne_of_none hP nC
  have ext : LamX.ExtN H (upd (upd H P (.tbl (ps ++ #[rawInt pos.line, rawInt pos.col, .ref c']))) c' (LamX.CodeO c' q)) := fun b o e n => by
    have n1 : b ≠ P := fun z => by
      rw [z, hP] at e
      exact n ps (Option.some.inj e).symm
    rw [upd_ne (ne_of_none e nC), upd_ne n1]
    exact e
  refine ⟨ext, fun b hb => ?_, fun p hp => ?_, fun b o e n => by rw [upd_ne (ne_of_none e nC), upd_ne (Ne.symm (n _ mem))]; exact e⟩
  · by_cases h1 : b = c'
    · rw [h1, upd_same] at hb
      cases hb
    · rw [upd_ne h1] at hb
      by_cases h2 : b = P
      · rw [h2, upd_same] at hb
        cases hb
      · rwa [upd_ne h2] at hb
  · by_cases hpP : p.1 = P
    · have eL : (ps ++ #[rawInt pos.line, rawInt pos.col, .ref c']).toList = ps.toList ++ [rawInt pos.line, rawInt pos.col, .ref c'] := by simp
      rw [hpP, hu p hp hpP]
      refine ⟨ps ++ #[rawInt pos.line, rawInt pos.col, .ref c'], by rw [upd_ne nPc, upd_same], by rw [eL]; exact PySem.TriplesOk_snoc _ _ _ _ ht, fun z cv hcv => ?_⟩
      rw [eL] at hcv
      rcases LamX.among_app _ ht hcv with y | y
      · obtain ⟨c0, f1, f2⟩ := ha z cv y
        exact ⟨c0, f1, ext _ _ f2 LamX.codeO_ne⟩
      · exact ⟨c', y, upd_same⟩
    · obtain ⟨ps2, g1, g2, g3⟩ := hT p hp
      have g1' : upd (upd H P (.tbl (ps ++ #[rawInt pos.line, rawInt pos.col, .ref c']))) c' (LamX.CodeO c' q) p.1 = some (.tbl ps2) := by
        rw [upd_ne (ne_of_none g1 nC), upd_ne hpP]
        exact g1
      exact ⟨ps2, g1', g2, fun z cv hcv => by
        obtain ⟨c0, f1, f2⟩ := g3 z cv hcv
        exact ⟨c0, f1, ext _ _ f2 LamX.codeO_ne⟩⟩
theorem lam_made {T : List (Addr × Str)} {c P : Addr} {params : Arguments} {body : Expr} {scope : Scope} {pos : Pos} {E Q : Value → Shared → Prop} (I : Inv X pins σ H s) (B : LamX.TabB X.base X.mg c P) (code : X.env.code = .ref c)
    (mem : (P, X.env.qual ++ "<lambda>") ∈ T) (uq : ∀ p ∈ T, p.1 = P → p.2 = X.env.qual ++ "<lambda>") (tabs : LamX.Tabs T H) (dflt : defaultsOf params X.env = ([], [])) (nofree : ∀ y ∈ scope.names, y.2 ≠ .free)
    (k : ∀ (f c' : Addr) (pm ctv : Value) (H1 : Hp) (s' : Shared), Inv X pins σ H1 s' → LamGo T H H1 →
      s'.heap.get? f = some (PySem.W.kla_obj "<lambda>" (X.env.qual ++ "<lambda>") params body scope (cloFrom X.env.cells scope.names []) pm c' ctv) → H1 c' = some (LamX.CodeO c' (X.env.qual ++ "<lambda>")) → Q (.ref f) s') :
    wpAny (model X.prog X.w) X.A (eval (.Lambda params body scope pos) X.env) Q E s := by
  obtain ⟨ps, tbl, trip, names⟩ := tabs _ mem
  have bm := B.bm.keeps I.bk
  have at_P : s.heap.get? P = some { cls := .none, data := .fields ps } := I.hok P _ tbl
  have clo := closure_ok (env := X.env) (scope := scope) fun y hy z => absurd z (nofree y hy)
  refine PySem.W.kla_eval dflt ?_
  rcases found : codeAmong pos ps.toList with _ | cv
  · refine PySem.W.kla_makeFunction clo I.ok.glob (I.mod.glob.keeps I.bk) code (B.code.keeps I.bk) at_P trip found B.gP bm fun c' ctv g tk keep new lt rec tb => ?_
    obtain ⟨c2, oc, us, t, e, oat, od, ov⟩ := rec
    cases e
    have fresh : H c' = none := I.hok.fresh new
    exact k g.objs.size c' _ ctv _ _ (LamX.inv_table (t' := tk) (more := #[rawInt pos.line, rawInt pos.col, .ref c']) I tbl (fun b o n e => Heap.get?_push_of_some _ (keep b o n e)) (Heap.get?_push_of_some _ tb) new ⟨oc, us, t, Heap.get?_push_of_some _ oat, od, ov⟩)
      (lamGo_new tabs uq tbl fresh trip names mem) (Heap.get?_push_size _ rfl) upd_same
  · obtain ⟨c', e, at_c⟩ := names pos cv found
    subst e
    refine PySem.W.kla_makeFunctionHit clo I.ok.glob (I.mod.glob.keeps I.bk) code (B.code.keeps I.bk) at_P trip found bm fun ctv g tk keep size => ?_
    exact k g.objs.size c' _ ctv H _ (I.kept fun b o e => Heap.get?_push_of_some _ (keep b o e)) ⟨LamX.ExtN.refl H, fun _ z => z, tabs, fun _ _ e _ => e⟩ (Heap.get?_push_size _ rfl) at_c
end
def tSortRow (K : PySem.W.Frag) (T : List (Addr × Str)) (ta : TA) : TE := fun σ H Q => ta σ H fun vs H1 => ∃ (a : Addr) (zs : List (V × Str)), vs = [.ref a] ∧ H1 a = some (.lst (zs.map (·.1))) ∧ (∀ p ∈ zs, ∃ (t : Addr) (rest : List V), p.1 = .ref t ∧ SqT K H1 t (.str p.2 :: rest)) ∧ LamX.Tabs T H1 ∧
  ∀ (H2 : Hp) (p : Addr), LamGo T H1 H2 → H2 p = none → Q (.ref p) (upd H2 p (.lst ((zs.mergeSort fun u v => leS u.2 v.2).map (·.1))))
section
variable {X : Cx}
theorem pe_sortRow {T : List (Addr × Str)} {c P : Addr} {kr : Nat} {e : Expr} {ta : TA} {x : Str} {params : Arguments} {scope : Scope} {p1 p2 p3 p lpos kpos pos : Pos} {j : Nat} (hg : Gl X "sorted") (hm : X.mg "sorted" = none) (hv : bootBuiltins "sorted" = some (.builtin "sorted"))
    (ha : PA X (e :: []) ta) (TB : LamX.TabB X.base X.mg c P) (hcode : X.env.code = .ref c) (hmT : (P, X.env.qual ++ "<lambda>") ∈ T) (hu : ∀ p ∈ T, p.1 = P → p.2 = X.env.qual ++ "<lambda>") (hr : Room (kr + 2) X.A) (hdef : defaultsOf params X.env = ([], []))
    (hk : scope.kind = .function) (hco : scope.isCoroutine = false) (hgen : scope.isGenerator = false) (hcell : ∀ y ∈ scope.names, y.2 ≠ .cell) (hfree : ∀ y ∈ scope.names, y.2 ≠ .free) (hx : scope.names.lookup x = some .local)
    (hb : ∀ (q : Str) (cl : List (Str × Addr)) (pm cv ctv : Value) (a : Addr), bindArgs (PySem.W.kla_fn "<lambda>" q params (rowE x p1 p2 p3 j) scope cl pm cv ctv) ⟨[.ref a], []⟩ = pure [(x, .ref a)]) (hd : (x == ("__debug__" : Str)) = false := by decide)
    (h1 : backTo pos (starEach (e :: []) X.env) = (false, eval e X.env) :: backTo pos (starEach [] X.env) := by rfl) (hpl : (backTo pos (starEach (e :: []) X.env)).any (·.1) = false := by rfl) :
    PE X (.Call (.Name "sorted" p) (e :: []) [⟨some "key", .Lambda params (rowE x p1 p2 p3 j) scope lpos, kpos⟩] pos) (tSortRow X.K T ta) := by
  refine ⟨fun pins s σ H Q I h => ?_⟩
  refine wpAny_Call_Name_kw (ld_blt I hg hm hv ?_)
  refine PyProof.Rows.callWith_kw (thn (ha.run pos pins s σ H _ I h) fun us s1 ⟨vs, H1, I1, r1, a, zs, ev, ha, hx1, hT, q⟩ => ?_) h1 hpl (by rfl) (by rfl)
  subst ev
  obtain rfl := Vals.ref1 r1
  show wpAny _ _ (evalAll ((do let v ← eval (.Lambda params (rowE x p1 p2 p3 j) scope lpos) X.env; standAt pos; pure v) :: [])) _ _ s1
  refine wpAny_evalAll_cons (wpAny_bind (lam_made I1 TB hcode hmT hu hT hdef hfree fun f c' pm ctv H2 s2 I2 lg hf hc' => wpAny_bind (wpAny_standAt (wpAny_pure ?_))))
  refine wpAny_evalAll_nil ?_
  show wpAny _ _ (call (.builtin "sorted") [.ref a] [(Str.ofString "key", .ref f)]) _ _ s2
  have eN := lg.ext
  have ha2 : H2 a = some (.lst (zs.map (·.1))) := eN a _ ha fun _ z => nomatch z
  have hx2 : ∀ v ∈ zs, ∃ (t : Addr) (rest : List V), v.1 = .ref t ∧ SqT X.K H2 t (.str v.2 :: rest) := fun v hv => by
    obtain ⟨t, rest, e1, e2⟩ := hx1 v hv
    refine ⟨t, rest, e1, ?_⟩
    rcases e2 with (z | ⟨o, z⟩) | z
    · exact .inl (.inl (eN t _ z fun _ z => nomatch z))
    · exact .inl (.inr ⟨o, eN t _ z fun _ z => nomatch z⟩)
    · exact .inr z
  obtain ⟨its, rv, pl, hz⟩ := I2.list (SqL.of ha2)
  obtain ⟨⟨oc, vs', t', hoc, hdc, hvc⟩, _, _⟩ := I2.hok c' _ hc'
  have hdp := hr.dp
  have hun := hr.un
  have hz' : zs.length ≤ sizeLine := by rw [← List.length_map (f := (·.1))]; exact hz
  refine PySem.W.sorted_key_data (R := fun u z => RelV z.1 u) (bs := zs) (fun v => PyData.str v.2) pl.isList (each_rel rv) (fun d hd d' hd' => ?_) (.inr fun d hd => ?_) hz' (fun y _ => by show X.A.units + 2 + 0 < cLine; omega) (PyProof.Rows.ksk_s1 _ _) (fun z => PyProof.Rows.ksk_l1 _ _) (fun z => PyProof.Rows.ksk_t1 f z)
    (fun u v hR hv h tk kp => ?_) (fun out cc h' tk kp hn hnew hlen hout => ?_)
  · obtain ⟨y, _, rfl⟩ := List.mem_map.mp hd
    obtain ⟨y', _, rfl⟩ := List.mem_map.mp hd'
    simp [PySem.W.alike]
  · obtain ⟨y, _, rfl⟩ := List.mem_map.mp hd
    exact ⟨(fun z => nomatch z), fun _ z => nomatch z⟩
  · obtain ⟨t, rest, ev, ht⟩ := hx2 v hv
    rw [ev] at hR
    obtain rfl := relV_ref hR
    obtain ⟨its2, rv2, tup2, _⟩ := I2.tuple ht
    have tup3 : IsTup h t its2.toArray := by
      obtain ⟨o, e, r⟩ := tup2
      exact ⟨o, kp _ _ e, r⟩
    cases rv2 with
    | cons r0 rt =>
      obtain ⟨t0, rfl⟩ := r0
      exact lam_row (s := { s2 with heap := h, toks := tk }) (t0 := t0) (by show X.A.depth < recursionLimit; omega) (kp _ _ hf) ⟨oc, vs', t', kp _ _ hoc, hdc, hvc⟩ (I2.nolimit.keeps kp) hk hco hgen hcell hx hd (hb _ _ _ _ _ t) tup3 (by simp)
  · have ro : Vals ((zs.mergeSort fun u v => leS u.2 v.2).map (·.1)) out := by
      have := vals_each hout
      rw [PySem.W.dataLe_str] at this
      exact this
    exact ⟨.ref _, upd H2 (s2.heap.objs.size + 1) (.lst ((zs.mergeSort fun u v => leS u.2 v.2).map (·.1))), I2.laid (t' := tk) kp (Nat.le_succ _) ⟨by rw [List.length_map, List.length_mergeSort]; exact hz', out, cc, ro, hnew⟩, rfl, q H2 _ lg (I2.hok.fresh (Nat.le_succ _))⟩
end
/-! ### over data -/
/-- the text a row begins with -/
def keyD : D → Option Str
  | .tup (.str s :: _) => some s
  | _ => none
def leK (a b : D) : Bool := match keyD a, keyD b with
  | some x, some y => leS x y
  | _, _ => false
section
variable {F : Fx} {EE : L2.St → XK} {tas : TA} {as : A3} {M : Addr → Prop} {Tm : List (V × W)} {S : Env3} {σ : L2.St} {H H1 H2 : Hp}
theorem Rel.lam (R : Rel F M Tm S σ H1) (g : LamGo F.T H1 H2) : Rel F M Tm S σ H2 := by
  have dx : Dx (Ch F) H1 H2 := ⟨fun a o n h => g.st a o h fun p hp e => n (.inr ⟨p, hp, e⟩), g.dm⟩
  refine R.next dx ?_ g.tab
  obtain ⟨p, i, rest, left, n', x, y, cells, h1, h2, h3, h4⟩ := R.heq.ok.st.ex
  refine ⟨R.heq.ok.inM, fun b z e => R.heq.ok.al b z (g.dm b e), ⟨p, i, rest, left, n', x, y, cells, g.ext _ _ h1 (fun _ z => nomatch z), g.ext _ _ h2 (fun _ z => nomatch z), h3, h4⟩⟩
theorem reps_pairs {K : PySem.W.Frag} {M : Addr → Prop} {c : Addr} {H : Hp} : ∀ {vs : List V} {xs : List D}, Reps K M c H vs xs → ∃ L : List (V × D), vs = L.map (·.1) ∧ xs = L.map (·.2) ∧ ∀ p ∈ L, Rep K M c H p.1 p.2
  | _, _, .nil => ⟨[], rfl, rfl, fun p hp => absurd hp (by simp)⟩
  | _, _, .cons h t => by
    obtain ⟨L, h1, h2, h3⟩ := reps_pairs t
    refine ⟨(_, _) :: L, by rw [List.map_cons, h1], by rw [List.map_cons, h2], fun p hp => ?_⟩
    rcases List.mem_cons.mp hp with e | e
    · rw [e]; exact h
    · exact h3 p e
theorem pairs_reps {K : PySem.W.Frag} {M : Addr → Prop} {c : Addr} {H : Hp} : ∀ {L : List (V × D)}, (∀ p ∈ L, Rep K M c H p.1 p.2) → Reps K M c H (L.map (·.1)) (L.map (·.2))
  | [], _ => .nil
  | p :: L, h => .cons (h p List.mem_cons_self) (pairs_reps fun q hq => h q (List.mem_cons_of_mem _ hq))
def o_srow : Cb3 := fun ws Q => match ws with
  | [.d (.lst xs)] => (∀ x ∈ xs, (keyD x).isSome = true) ∧ Q (.ol (xs.mergeSort leK))
  | _ => False
theorem f3_sortRow (h : AR3 F EE tas as) : FE3 F EE (tSortRow F.K F.T tas) (x_cb o_srow as) := ⟨fun M Tm S σ H Qv Q3 X R h0 k lx => h.run M Tm S σ H _ _ X R h0 (fun vs ws H1 R1 r1 q1 => by
  unfold o_srow at q1
  split at q1
  · rename_i xs
    obtain ⟨v, rfl, r⟩ := reps1 r1
    cases r with
    | d r =>
    cases r with
    | @lst a us _ m ha rr =>
    obtain ⟨q1, q2⟩ := q1
    obtain ⟨L, e1, e2, hL⟩ := reps_pairs rr
    subst e1
    subst e2
    have hk : ∀ p ∈ L, ∃ s ds, p.2 = .tup (.str s :: ds) ∧ (keyD p.2).getD Str.empty = s := fun p hp => by
      have z := q1 p.2 (List.mem_map.mpr ⟨p, hp, rfl⟩)
      unfold keyD at z
      split at z
      · rename_i s ds e
        exact ⟨s, ds, e, by rw [e]; rfl⟩
      · cases z
    let f : V × D → V × Str := fun p => (p.1, (keyD p.2).getD Str.empty)
    have em : (L.map f).map (·.1) = L.map (·.1) := by rw [List.map_map]; rfl
    have s1 : (L.map f).mergeSort (fun u v => leS u.2 v.2) = (L.mergeSort fun p q => leK p.2 q.2).map f := by
      refine (List.map_mergeSort fun p hp q hq => ?_).symm
      obtain ⟨s, ds, e, e'⟩ := hk p hp
      obtain ⟨s', ds', g, g'⟩ := hk q hq
      show leK p.2 q.2 = leS ((keyD p.2).getD Str.empty) ((keyD q.2).getD Str.empty)
      rw [e', g', e, g]
      rfl
    have s2 : (L.map (·.2)).mergeSort leK = (L.mergeSort fun p q => leK p.2 q.2).map (·.2) := (List.map_mergeSort (f := fun p : V × D => p.2) (r := fun p q => leK p.2 q.2) (s := leK) fun p hp q hq => rfl).symm
    refine ⟨a, L.map f, rfl, by rw [em]; exact ha, fun p hp => ?_, R1.heq.tab, fun H2 p lg hp => ?_⟩
    · obtain ⟨q, hq, rfl⟩ := List.mem_map.mp hp
      obtain ⟨s, ds, e, e'⟩ := hk q hq
      have rq := hL q hq
      rw [e] at rq
      generalize eq : q.1 = v at rq
      cases rq with
      | tup m h r =>
        cases r with
        | cons h0 t =>
          cases h0
          exact ⟨_, _, rfl, by show SqT F.K H1 _ (.str ((keyD q.2).getD Str.empty) :: _); rw [e']; exact SqT.of h⟩
      | kt h r =>
        cases r with
        | cons h0 t =>
          cases h0
          exact ⟨_, _, rfl, by show SqT F.K H1 _ (.str ((keyD q.2).getD Str.empty) :: _); rw [e']; exact .inr h⟩
    · have R2 := R1.lam lg
      rw [s1, List.map_map]
      rw [s2] at q2
      have rr2 : Reps F.K M F.c H2 ((L.mergeSort fun p q => leK p.2 q.2).map (·.1)) ((L.mergeSort fun p q => leK p.2 q.2).map (·.2)) := (pairs_reps fun p hp => hL p (List.mem_mergeSort.mp hp)).to fun a o m h => ⟨by
        by_cases z : ∃ p ∈ F.T, p.1 = a
        · obtain ⟨p, hp, z⟩ := z
          exact absurd (R1.heq.sub _ (R1.heq.tA p hp).2) (by rw [z]; exact m)
        · exact lg.st a o h fun p hp e => z ⟨p, hp, e⟩, m⟩
      exact new_ol R2 rr2 q2 k p hp
  · exact q1.elim) lx⟩
end
end Q
/-! R3n: sorted(rows): tuples whose first items are unlike texts. -/
namespace QSrt
open PySem PySem.W PySem.Calls PyProof.Rows
/-- v is a tuple of h that begins with the text k -/
def RowK (h : Heap) (v : Value) (k : Str) : Prop := ∃ (a : Addr) (o : Obj) (xs : Array Value) (n : Nat) (t : Tok), v = .ref a ∧ h.get? a = some o ∧ o.cls = .type "tuple" ∧ o.data = .seq xs n ∧ xs[0]? = some (.str k t)
theorem RowK.det {h : Heap} {v : Value} {k k' : Str} (a : RowK h v k) (b : RowK h v k') : k = k' := by
  obtain ⟨a, o, xs, n, t, rfl, h1, _, h2, h3⟩ := a
  obtain ⟨a', o', xs', n', t', e, g1, _, g2, g3⟩ := b
  cases e
  rw [h1] at g1
  cases g1
  rw [h2] at g2
  cases g2
  rw [h3] at g3
  cases g3
  rfl
open Classical in
@[reducible] noncomputable def rowKind (h : Heap) (vs : List Value) : KeyKind where
  toKeyOrd := strKind.toKeyOrd
  keyOf v := if q : v ∈ vs ∧ ∃ k, RowK h v k then some q.2.choose.cps.toList else none
  dflt := []
section
variable {prog : Program} {w : World} {A : Around} {E : Value → Shared → Prop} {s : Shared} {h : Heap} {vs : List Value}
open Classical in
theorem rowKind_at {v : Value} {k : Str} (m : v ∈ vs) (r : RowK h v k) : (rowKind h vs).keyOf v = some k.cps.toList := by
  have q : v ∈ vs ∧ ∃ k, RowK h v k := ⟨m, k, r⟩
  show (if q : v ∈ vs ∧ ∃ k, RowK h v k then some q.2.choose.cps.toList else none) = _
  rw [dif_pos q, q.2.choose_spec.det r]
open Classical in
theorem rowKind_some {v : Value} {l : List Nat} (e : (rowKind h vs).keyOf v = some l) : v ∈ vs ∧ ∃ k, RowK h v k ∧ l = k.cps.toList := by
  have e' : (if q : v ∈ vs ∧ ∃ k, RowK h v k then some q.2.choose.cps.toList else none) = some l := e
  by_cases q : v ∈ vs ∧ ∃ k, RowK h v k
  · rw [dif_pos q] at e'
    exact ⟨q.1, _, q.2.choose_spec, (Option.some.inj e').symm⟩
  · rw [dif_neg q] at e'
    cases e'
theorem str_ext {a b : Str} (h : a.cps.toList = b.cps.toList) : a = b := by
  obtain ⟨a⟩ := a
  obtain ⟨b⟩ := b
  have : a = b := Array.toList_inj.mp h
  rw [this]
theorem eqBool_same {v : Value} {Q : Bool → Shared → Prop} (h : Q true s) : wpAny (model prog w) A (eqBool v v) Q E s := by
  unfold eqBool
  refine wpAny_holding ?_
  rw [if_pos (beq_self_eq_true v)]
  exact wpAny_bind (wpAny_rule (wpAny_pure h))
theorem lex_same {b fin : Bool} {Q : Bool → Shared → Prop} (hq : Q fin s) : ∀ (l : List Value) (i : Nat), KatLex prog w A b fin Q (l.zip l) i s
  | [], _ => kat_nil hq
  | v :: l, i => by
    rw [List.zip_cons_cons]
    exact kat_cons (eqBool_same (kat_yes (lex_same hq l (i + 1))))
/-- the rows' texts tell them apart -/
def Unlike (h : Heap) (vs : List Value) : Prop := ∀ u v k, u ∈ vs → v ∈ vs → RowK h u k → RowK h v k → u = v
theorem row_ltAt (kp : G.KeepsTups h s.heap) (un : Unlike h vs) : G.LtAt prog w s (rowKind h vs) (tuples' true) := by
  intro A E x y as bs Q hx hy hq
  obtain ⟨mx, k, rx, rfl⟩ := rowKind_some hx
  obtain ⟨my, k', ry, rfl⟩ := rowKind_some hy
  have hxy := fun e : k = k' => un x y k mx my rx (by rw [e]; exact ry)
  obtain ⟨a, o, xs, n, t, rfl, h1, c1, d1, f1⟩ := rx
  obtain ⟨a', o', ys, n', t', rfl, h2, c2, d2, f2⟩ := ry
  refine kat_lt (kp a o h1 c1) d1 (kp a' o' h2 c2) d2 ?_
  obtain ⟨xs⟩ := xs
  obtain ⟨ys⟩ := ys
  cases xs with
  | nil => cases f1
  | cons x1 xr =>
  cases ys with
  | nil => cases f2
  | cons y1 yr =>
  cases f1
  cases f2
  show KatLex prog w A true _ Q ((Value.str k t, Value.str k' t') :: xr.zip yr) 0 s
  refine kat_cons (eqBool_str ?_)
  by_cases e : k = k'
  · have e2 := hxy e
    cases e2
    rw [h1] at h2
    cases h2
    rw [d1] at d2
    cases d2
    rw [e, beq_self_eq_true]
    refine kat_yes (lex_same ?_ _ _)
    have hq' : Q (decide (k.cps.toList < k.cps.toList)) s := hq
    rw [decide_eq_false (List.lt_irrefl _)] at hq'
    rw [decide_eq_false (Nat.lt_irrefl _)]
    exact hq'
  · have e3 : (k == k') = false := by simpa using e
    rw [e3]
    refine kat_no ?_
    exact oneLt_str hq
/-- the first items, as the model reads them -/
theorem row_tups : ∀ {vs : List Value}, (∀ v ∈ vs, ∃ k, RowK h v k) → ∃ fs, KatTups h vs fs ∧ fs.length = vs.length ∧ ∀ f ∈ fs, ∃ x t, f = .str x t
  | [], _ => ⟨[], KatTups.nil, rfl, fun _ hf => absurd hf (by simp)⟩
  | v :: vs, hv => by
    obtain ⟨fs, h1, h2, h3⟩ := row_tups (vs := vs) fun u hu => hv u (List.mem_cons_of_mem _ hu)
    obtain ⟨k, a, o, xs, n, t, rfl, g1, g2, g3, g4⟩ := hv v List.mem_cons_self
    refine ⟨.str k t :: fs, KatTups.cons g1 g2 g3 g4 h1, by rw [List.length_cons, List.length_cons, h2], fun f hf => ?_⟩
    rcases List.mem_cons.mp hf with e | hf
    · exact ⟨k, t, e⟩
    · exact h3 f hf
theorem RowK.keep {h' : Heap} (kp : G.KeepsTups h h') {v : Value} {k : Str} (r : RowK h v k) : RowK h' v k := by
  obtain ⟨a, o, xs, n, t, e, h1, c1, d1, f1⟩ := r
  exact ⟨a, o, xs, n, t, e, kp a o h1 c1, c1, d1, f1⟩
theorem sorted_rows {l : Addr} {Q : Value → Shared → Prop} (hl : s.heap.IsList l vs.toArray) (hv : ∀ v ∈ vs, ∃ k, RowK s.heap v k) (un : Unlike s.heap vs) (hL : vs.length ≤ sizeLine)
    (hq : Q (.ref (s.heap.objs.size + 1)) { s with heap := sortedAll s.heap vs (sortVals (rowKind s.heap vs) false vs vs).toArray }) :
    wpAny (model prog w) A (call (.builtin "sorted") [.ref l]) Q E s := by
  have hk : KeysOf (rowKind s.heap vs) (pairsOf vs) := fun p hp => by
    rw [pairsOf_toList] at hp
    obtain ⟨e, hm⟩ := mem_zip_self hp
    obtain ⟨k, r⟩ := hv p.1 hm
    exact ⟨_, rowKind_at hm r⟩
  refine G.sortedG (κ := rowKind s.heap vs) (kd := tuples' true) hl hk (fun s₂ kp => row_ltAt kp un) (fun h2 A E s₂ Q kp hq => ?_) hL fun st' h1 h2 h3 => ?_
  · obtain ⟨fs, f1, f2, f3⟩ := row_tups (h := s₂.heap) (vs := vs) fun v hm => by
      obtain ⟨k, r⟩ := hv v hm
      exact ⟨k, r.keep kp⟩
    have e : (Value.type "str" != Value.type "tuple") = true := by first | rfl | decide
    refine kat_kind (T := Value.type "str") f1 (by omega) (fun v hm => ?_) rfl (by rw [e]; exact hq)
    obtain ⟨x, t, rfl⟩ := f3 v hm
    exact Looks.of_pure rfl
  · have e := sort_arr hk h1 h2 h3
    have e2 : (PyProof.Rows.arrOf st').map (·.2) = (sortVals (rowKind s.heap vs) false vs vs).toArray := by
      unfold sortVals
      rw [pairsOf_toList] at e
      rw [← e]
      exact Array.toList_inj.mp (by rw [Array.toList_map])
    rw [e2]
    exact hq
end
end QSrt
namespace Q
open PySem PySem.Spec PyProof.Rows L2
/-- sorted(rows) -/
def rSortRows (K : PySem.W.Frag) : List V → Hp → VK → Prop := fun vs H Q => ∃ (a : Addr) (zs : List (V × Str)), vs = [.ref a] ∧ SqL K H a (zs.map (·.1)) ∧ (∀ p ∈ zs, ∃ (t : Addr) (rest : List V), p.1 = .ref t ∧ SqT K H t (.str p.2 :: rest)) ∧ (zs.map (·.2)).Nodup ∧
  ∀ p : Addr, H p = none → Q (.ref p) (upd H p (.lst ((zs.mergeSort fun u v => leS u.2 v.2).map (·.1))))
theorem nodup_key {zs : List (V × Str)} (nd : (zs.map (·.2)).Nodup) {p q : V × Str} (hp : p ∈ zs) (hq : q ∈ zs) (e : p.2 = q.2) : p = q := by
  obtain ⟨i, hi⟩ := List.mem_iff_getElem?.mp hp
  obtain ⟨j, hj⟩ := List.mem_iff_getElem?.mp hq
  have h1 : (zs.map (·.2))[i]? = some p.2 := by rw [List.getElem?_map, hi]; rfl
  have h2 : (zs.map (·.2))[j]? = some p.2 := by rw [List.getElem?_map, hj, e]; rfl
  obtain ⟨l1, g1⟩ := List.getElem?_eq_some_iff.mp h1
  obtain ⟨l2, g2⟩ := List.getElem?_eq_some_iff.mp h2
  have : i = j := (List.getElem_inj nd).mp (g1.trans g2.symm)
  subst this
  rw [hi] at hj
  exact Option.some.inj hj
theorem each_mem' {R : Value → V × Str → Prop} : ∀ {us : List Value} {zs : List (V × Str)}, PySem.W.EachIs R us zs → ∀ u ∈ us, ∃ z ∈ zs, R u z
  | _, _, .nil, _, hu => absurd hu (by simp)
  | _, _, .cons h t, u, hu => by
    rcases List.mem_cons.mp hu with e | hu
    · exact ⟨_, List.mem_cons_self, by rw [e]; exact h⟩
    · obtain ⟨z, hz, r⟩ := each_mem' t u hu
      exact ⟨z, List.mem_cons_of_mem _ hz, r⟩
theorem each_weak {R R' : Value → V × Str → Prop} : ∀ {us : List Value} {zs : List (V × Str)}, PySem.W.EachIs R us zs → (∀ u z, u ∈ us → z ∈ zs → R u z → R' u z) → PySem.W.EachIs R' us zs
  | _, _, .nil, _ => .nil
  | _, _, .cons h t, k => .cons (k _ _ List.mem_cons_self List.mem_cons_self h) (each_weak t fun u z hu hz => k u z (List.mem_cons_of_mem _ hu) (List.mem_cons_of_mem _ hz))
section
variable {X : Cx}
theorem cr_sortRows : CallR X (.builtin "sorted") (rSortRows X.K) := by
  intro pins s σ H vs us Q I r h
  obtain ⟨a, zs, rfl, hs, ht, nd, q⟩ := h
  obtain ⟨its, rv, hl, hz⟩ := I.list hs
  rw [Vals.ref1 r]
  have ez := each_rel rv
  have row : ∀ u z, z ∈ zs → RelV z.1 u → QSrt.RowK s.heap u z.2 := fun u z hz rz => by
    obtain ⟨t, rest, e, st⟩ := ht z hz
    rw [e] at rz
    obtain rfl := relV_ref rz
    obtain ⟨its2, rv2, tup2, _⟩ := I.tuple st
    obtain ⟨o, ho, hc, n, hd⟩ := tup2
    cases rv2 with
    | cons r0 rt =>
      obtain ⟨t0, rfl⟩ := r0
      exact ⟨t, o, _, n, t0, rfl, ho, hc, hd, by simp⟩
  have hv : ∀ v ∈ its, ∃ k, QSrt.RowK s.heap v k := fun v hv => by
    obtain ⟨z, hz, rz⟩ := each_mem' ez v hv
    exact ⟨_, row v z hz rz⟩
  have un : QSrt.Unlike s.heap its := fun u v k hu hv ru rv' => by
    obtain ⟨z, hz, rz⟩ := each_mem' ez u hu
    obtain ⟨y, hy, ry⟩ := each_mem' ez v hv
    have e1 := (row u z hz rz).det ru
    have e2 := (row v y hy ry).det rv'
    have e := nodup_key nd hz hy (e1.trans e2.symm)
    subst e
    obtain ⟨t, rest, e, st⟩ := ht z hz
    rw [e] at rz ry
    rw [relV_ref rz, relV_ref ry]
  have lenI : its.length = zs.length := ez.length
  have hz' : zs.length ≤ sizeLine := by rw [← List.length_map (f := (·.1))]; exact hz
  refine QSrt.sorted_rows hl.isList hv un (by rw [lenI]; exact hz') ?_
  have each := PySem.W.sortVals_each (κ := QSrt.rowKind s.heap its) (rev := false) (R := fun u z => RelV z.1 u) (ks := its) (vs := its) (bs := zs) (fun z => z.2.cps.toList) ez (each_weak ez fun u z hu hz rz => QSrt.rowKind_at hu (row u z hz rz))
  have ef : PySem.W.sortLe (QSrt.rowKind s.heap its).toKeyOrd false (fun z : V × Str => z.2.cps.toList) = fun u v => leS u.2 v.2 := by
    funext u v
    show (!decide (v.2.cps.toList < u.2.cps.toList)) = decide (u.2.cps.toList ≤ v.2.cps.toList)
    by_cases e : v.2.cps.toList < u.2.cps.toList
    · rw [decide_eq_true e, decide_eq_false (fun z => absurd e (List.not_lt.mpr z))]
      rfl
    · rw [decide_eq_false e, decide_eq_true (List.not_lt.mp e)]
      rfl
  rw [ef] at each
  have ro := vals_each each
  obtain ⟨ep, he'⟩ := PyProof.Rows.sortedAll_at s.heap its (PySem.W.sortVals (QSrt.rowKind s.heap its) false its its).toArray
  exact ⟨.ref _, upd H (s.heap.objs.size + 1) (.lst ((zs.mergeSort fun u v => leS u.2 v.2).map (·.1))), I.laid (t' := s.toks) (fun _ _ => PyProof.Rows.sortedAll_old) (Nat.le_succ _) ⟨by rw [List.length_map, List.length_mergeSort]; exact hz', _, ep, ro, he'⟩, rfl, q _ (I.hok.fresh (Nat.le_succ _))⟩
def rSortedA (K : PySem.W.Frag) : List V → Hp → VK → Prop := fun vs H Q => rSortedSI K vs H Q ∨ rSortRows K vs H Q
theorem cr_sortedA : CallR X (.builtin "sorted") (rSortedA X.K) := CallR.or' cr_sortedSI cr_sortRows
end
section
variable {F : Fx} {M : Addr → Prop} {H : Hp}
def o_srows : Cb3 := fun ws Q => match ws with
  | [w] => ∃ xs, lstW w = some xs ∧ (∀ x ∈ xs, (keyD x).isSome = true) ∧ (xs.map keyD).Nodup ∧ Q (.ol (xs.mergeSort leK))
  | _ => False
/-- rows over data and their tuples -/
theorem rows_split {vs : List V} {xs : List D} (rr : Reps F.K M F.c H vs xs) (hx : ∀ x ∈ xs, (keyD x).isSome = true) :
    ∃ L : List (V × D), vs = L.map (·.1) ∧ xs = L.map (·.2) ∧ (∀ p ∈ L, Rep F.K M F.c H p.1 p.2) ∧ (∀ p ∈ L, ∃ (t : Addr) (rest : List V), p.1 = .ref t ∧ SqT F.K H t (.str ((keyD p.2).getD Str.empty) :: rest)) ∧ (∀ p ∈ L, keyD p.2 = some ((keyD p.2).getD Str.empty)) := by
  obtain ⟨L, e1, e2, hL⟩ := reps_pairs rr
  subst e1
  subst e2
  have hk : ∀ p ∈ L, ∃ s ds, p.2 = .tup (.str s :: ds) ∧ (keyD p.2).getD Str.empty = s := fun p hp => by
    have z := hx p.2 (List.mem_map.mpr ⟨p, hp, rfl⟩)
    unfold keyD at z
    split at z
    · rename_i s ds e
      exact ⟨s, ds, e, by rw [e]; rfl⟩
    · cases z
  refine ⟨L, rfl, rfl, hL, fun q hq => ?_, fun q hq => ?_⟩
  · obtain ⟨s, ds, e, e'⟩ := hk q hq
    have rq := hL q hq
    rw [e] at rq
    generalize eq : q.1 = v at rq
    cases rq with
    | tup m h r =>
      cases r with
      | cons h0 t =>
        cases h0
        exact ⟨_, _, rfl, by rw [e']; exact SqT.of h⟩
    | kt h r =>
      cases r with
      | cons h0 t =>
        cases h0
        exact ⟨_, _, rfl, by rw [e']; exact .inr h⟩
  · obtain ⟨s, ds, e, e'⟩ := hk q hq
    rw [e', e]
    rfl
theorem FC3_srows : FC3 F (rSortRows F.K) o_srows := fun M Tm S σ H vs ws Qv Q3 R r h k => by
  unfold o_srows at h
  split at h
  · rename_i w
    obtain ⟨xs, hw, hx, nd, q⟩ := h
    obtain ⟨v, rfl, rw'⟩ := reps1 r
    obtain ⟨a, us, rfl, ha, rr⟩ := lstW_get rw' hw
    obtain ⟨L, e1, e2, hL, hT, hK⟩ := rows_split rr hx
    subst e1
    subst e2
    let f : V × D → V × Str := fun p => (p.1, (keyD p.2).getD Str.empty)
    have em : (L.map f).map (·.1) = L.map (·.1) := by rw [List.map_map]; rfl
    have s1 : (L.map f).mergeSort (fun u v => leS u.2 v.2) = (L.mergeSort fun p q => leK p.2 q.2).map f := by
      refine (List.map_mergeSort fun p hp q hq => ?_).symm
      show leK p.2 q.2 = leS ((keyD p.2).getD Str.empty) ((keyD q.2).getD Str.empty)
      unfold leK
      rw [hK p hp, hK q hq]
      rfl
    have s2 : (L.map (·.2)).mergeSort leK = (L.mergeSort fun p q => leK p.2 q.2).map (·.2) := (List.map_mergeSort (f := fun p : V × D => p.2) (r := fun p q => leK p.2 q.2) (s := leK) fun p hp q hq => rfl).symm
    have en : ((L.map f).map (·.2)).map some = (L.map (·.2)).map keyD := by
      rw [List.map_map, List.map_map, List.map_map]
      exact List.map_congr_left fun p hp => (hK p hp).symm
    refine ⟨a, L.map f, rfl, by rw [em]; exact SqL.of ha, fun p hp => ?_, ?_, fun p hp => ?_⟩
    · obtain ⟨q, hq, rfl⟩ := List.mem_map.mp hp
      exact hT q hq
    · rw [← en] at nd
      exact (List.pairwise_map.mp nd).imp fun h e => h (by rw [e])
    · rw [s1, List.map_map]
      rw [s2] at q
      exact new_ol R (pairs_reps fun p hp => hL p (List.mem_mergeSort.mp hp)) q k p hp
  · exact h.elim
def o_sortedA : Cb3 := fun ws Q => o_sorted ws Q ∨ o_srows ws Q
theorem FC3_sortedA : FC3 F (rSortedA F.K) o_sortedA := fun M Tm S σ H vs ws Qv Q3 R r h k => h.elim (fun z => .inl (FC3_sorted M Tm S σ H vs ws Qv Q3 R r z k)) (fun z => .inr (FC3_srows M Tm S σ H vs ws Qv Q3 R r z k))
end
/-! ### the sorted list -/
def srtS (ss : List Str) : List Str := ss.mergeSort leS
theorem leS_trans (a b c : Str) (h1 : leS a b = true) (h2 : leS b c = true) : leS a c = true := decide_eq_true (List.le_trans (of_decide_eq_true h1) (of_decide_eq_true h2))
theorem leS_total (a b : Str) : (leS a b || leS b a) = true := by
  rcases List.le_total a.cps.toList b.cps.toList with h | h
  · rw [show leS a b = true from decide_eq_true h]; rfl
  · rw [show leS b a = true from decide_eq_true h]; exact Bool.or_true _
theorem leS_anti {a b : Str} (h1 : leS a b = true) (h2 : leS b a = true) : a = b := QSrt.str_ext (List.le_antisymm (of_decide_eq_true h1) (of_decide_eq_true h2))
theorem srtS_perm (ss : List Str) : (srtS ss).Perm ss := List.mergeSort_perm _ _
theorem srtS_pw (ss : List Str) : (srtS ss).Pairwise fun a b => leS a b = true := List.pairwise_mergeSort leS_trans leS_total ss
theorem srtS_uniq {ys ss : List Str} (h : ys.Perm ss) (p : ys.Pairwise fun a b => leS a b = true) : ys = srtS ss := (h.trans (srtS_perm ss).symm).eq_of_pairwise (fun x y _ _ h1 h2 => leS_anti h1 h2) p (srtS_pw ss)
section
variable {Q : W → Prop}
theorem k_sortS {w : W} {ss : List Str} (e : seqW w = some (ss.map D.str)) (h : Q (.ol ((srtS ss).map D.str))) : o_sortedA [w] Q := .inl (.inl ⟨ss, e, fun ys hp hs => by
  have : ys = srtS ss := srtS_uniq hp ((sorted_pw hs).imp fun {a b} z => by
    first
    | exact z
    | exact decide_eq_true z
    | exact decide_eq_true (List.not_lt.mp z))
  rw [this]
  exact h⟩)
theorem k_sortT {w : W} {xs : List D} (e : lstW w = some xs) (h1 : ∀ x ∈ xs, (keyD x).isSome = true) (h2 : (xs.map keyD).Nodup) (h : Q (.ol (xs.mergeSort leK))) : o_sortedA [w] Q := .inr ⟨xs, e, h1, h2, h⟩
theorem k_srow {xs : List D} (h1 : ∀ x ∈ xs, (keyD x).isSome = true) (h : Q (.ol (xs.mergeSort leK))) : o_srow [.d (.lst xs)] Q := ⟨h1, h⟩
end
end Q
/-! R3w: unpacking of lists; errors in order; loops by items. -/
namespace Q
open PySem PySem.Spec PyProof.Rows L2
/-! ### (a, b, ..) = a tuple or a list -/
section
variable {X : Cx} {pos : Pos}
def gSeq (K : PySem.W.Frag) (n : Nat) (t : TGs) : TG := fun v σ H Q => ∃ a xs, v = .ref a ∧ Sq K H a xs ∧ xs.length = n ∧ t xs σ H Q
theorem pg_seq {es : List Expr} {k : Nat} {t : TGs} {n : Nat} (hc : X.calm = true) (h : PGs X es t)
    (hn : (assignEach es X.env).length = n := by rfl) (hst : (assignEach es X.env).findIdx? (·.1) = none := by rfl) : PG X (.Tuple es k pos) (gSeq X.K n t) := by
  refine ⟨fun pins s σ H v u Q I r hw => ?_⟩
  obtain ⟨a, xs, e1, hq, hl, hw⟩ := hw
  subst e1
  cases r
  rcases hq with hq | hq
  · obtain ⟨its, rv, ht, hz⟩ := I.list hq
    rw [assign_Tuple]
    refine wpAny_bind (wpAny_standAt ?_)
    unfold unpack
    rw [show (assignEach es X.env).length = its.toArray.size by simp [hn, ← hl, rv.length], hst]
    refine wpAny_bind (wpAny_holding (PySem.W.kun_itemsOf (I.ok.hd hc) ht.isList fun h' hx => ?_))
    have I1 : Inv X pins σ H { s with heap := h' } := I.kept (t' := s.toks) fun b o e => hx b o (Nat.ne_of_lt (Heap.lt_size e)) e
    exact h.run pins _ σ H xs _ Q I1 (by simpa using rv) hw
  · obtain ⟨its, rv, ht, hz⟩ := I.tuple hq
    refine assign_Tuple_tuple (I.ok.hd hc) ht (by simp [hn, ← hl, rv.length]) hst fun h' hx => ?_
    have I1 : Inv X pins σ H { s with heap := h' } := I.kept (t' := s.toks) fun b o e => hx b o (Nat.ne_of_lt (Heap.lt_size e)) e
    exact h.run pins _ σ H xs _ Q I1 (by simpa using rv) hw
end
/-- the items of a list or a tuple -/
def seqD : D → Option (List D)
  | .lst xs => some xs
  | .tup xs => some xs
  | _ => none
def x_gseq (n : Nat) (t : G3Ts) : G3T := fun x S R => ∃ xs, seqD x = some xs ∧ xs.length = n ∧ t xs S R
section
variable {F : Fx} {S : Env3} {R : Env3 → Prop} {QL : List D → Prop} {Q : W → Prop} {gs : G3Ts} {n : Nat} {xs : List D} {x : D}
theorem g3_seq {gs : TGs} {u : G3Ts} {n : Nat} (h : G3s F gs u) : G3 F (gSeq F.K n gs) (x_gseq n u) := ⟨fun M Tm S σ H v x R R3 r0 r q k => by
  obtain ⟨xs, e, hn, q⟩ := q
  cases r with
  | lst m ha r => cases e; exact ⟨_, _, rfl, .inl (SqL.of ha), by rw [r.length]; exact hn, h.run M Tm S σ H _ _ R R3 r0 r q k⟩
  | tup m ha r => cases e; exact ⟨_, _, rfl, .inr (SqT.of ha), by rw [r.length]; exact hn, h.run M Tm S σ H _ _ R R3 r0 r q k⟩
  | kt ha r => cases e; exact ⟨_, _, rfl, .inr (.inr ha), by rw [r.length]; exact hn, h.run M Tm S σ H _ _ R R3 r0 r q k⟩
  | _ => cases e⟩
theorem k_gseq (e : seqD x = some xs) (l : xs.length = n) (h : gs xs S R) : x_gseq n gs x S R := ⟨xs, e, l, h⟩
theorem k_gsT (l : xs.length = n) (h : gs xs S R) : x_gseq n gs (.tup xs) S R := ⟨xs, rfl, l, h⟩
theorem k_asQ (e : seqD x = some xs) (h : QL xs) : asQ (.d x) QL := by
  cases x <;> first | (cases e; exact h) | cases e
theorem k_ixQ {i : Int} {y : D} (e : seqD x = some xs) (e2 : atI xs i = some y) (h : Q (.d y)) : o_ix (.d x) (.d (.int i)) Q := by
  cases x <;> first | (cases e; exact ⟨_, _, rfl, e2, h⟩) | cases e
theorem k_asQb (e : seqD x = some xs) (h : QL xs) : asQ (.bw x) QL := by
  cases x <;> first | (cases e; exact h) | cases e
theorem k_lenQb (e : seqD x = some xs) (h : Q (.d (.int xs.length))) : o_len [.bw x] Q := by
  cases x <;> first | (cases e; exact ⟨_, rfl, h⟩) | cases e
theorem seqW_d (e : seqD x = some xs) : seqW (.d x) = some xs := by
  cases x <;> first | (cases e; rfl) | cases e
end
/-! ### errors in order -/
/-- an error: its class, its attributes -/
abbrev Er := String × List (Str × D)
def XE (K : PySem.W.Frag) (X : XP) (e : Er) : Prop := X (gA K (Str.ofString e.1)) e.2
/-- P where there is none, otherwise R of it -/
def Sc (o : Option Er) (P : Prop) (R : Er → Prop) : Prop := (o = none → P) ∧ ∀ e, o = some e → R e
section
variable {a b : Option Er} {P P' : Prop} {R : Er → Prop} {e : Er}
theorem Sc.or (h : Sc (a.or b) P R) : Sc a (Sc b P R) R := by
  cases a with
  | none => exact ⟨fun _ => h, fun e z => nomatch z⟩
  | some e => exact ⟨(fun z => nomatch z), fun e' z => h.2 e' z⟩
theorem Sc.ok (h : Sc none P R) : P := h.1 rfl
theorem Sc.err (h : Sc (some e) P R) : R e := h.2 e rfl
theorem Sc.mono (h : Sc a P R) (k : P → P') : Sc a P' R := ⟨fun z => k (h.1 z), h.2⟩
theorem Sc.mono' (h : Sc a P R) (k : a = none → P → P') : Sc a P' R := ⟨fun z => k z (h.1 z), h.2⟩
theorem Sc.of (h : P) (e : a = none) : Sc a P R := ⟨fun _ => h, fun e' z => by rw [e] at z; cases z⟩
theorem sc_if {c : Prop} [Decidable c] (h : Sc (if c then none else some e) P R) : (c → P) ∧ (¬ c → R e) := ⟨fun z => by rw [if_pos z] at h; exact h.ok, fun z => by rw [if_neg z] at h; exact h.err⟩
theorem sc_ifn {c : Prop} [Decidable c] (h : Sc (if c then some e else none) P R) : (¬ c → P) ∧ (c → R e) := ⟨fun z => by rw [if_neg z] at h; exact h.ok, fun z => by rw [if_pos z] at h; exact h.err⟩
end
/-! ### loops -/
section
variable {g : G3T} {u : TS3} {E : Ends3} {X : X3} {α : Type}
/-- a loop of checks: the first error leaves -/
theorem for3_scan {R : Er → Prop} (en : α → D) (Sf : Option W → Env3) (chk : α → Option Er) : ∀ (as : List α), (∀ a ∈ as, ∀ o nx, Sc (chk a) (nx (Sf (some (.d (en a))))) R → g (en a) (Sf o) fun S' => u S' ⟨nx, E.rt, E.nx, nx⟩ X) →
    ∀ o, Sc (as.findSome? chk) (∀ o, E.nx (Sf o)) R → for3 g u (as.map en) (Sf o) E X
  | [], _, o, h => h.ok o
  | a :: as, hb, o, h => by
    show g (en a) (Sf o) _
    rw [List.findSome?_cons] at h
    refine hb a List.mem_cons_self o _ ?_
    cases e : chk a with
    | some z => rw [e] at h; exact ⟨(fun q => nomatch q), fun e' q => by cases q; exact h.err⟩
    | none =>
      rw [e] at h
      exact ⟨fun _ => for3_scan en Sf chk as (fun b hb' => hb b (List.mem_cons_of_mem _ hb')) _ h, fun e' q => nomatch q⟩
/-- a loop by an invariant over the items done -/
theorem for3_inv (en : α → D) (I : List α → Env3 → Prop) (all : List α) : ∀ (as pre : List α) (S : Env3), all = pre ++ as → I pre S → (∀ pre a post S nx, all = pre ++ a :: post → I pre S → (∀ S', I (pre ++ [a]) S' → nx S') → g (en a) S fun S' => u S' ⟨nx, E.rt, E.nx, nx⟩ X) →
    (∀ S, I all S → E.nx S) → for3 g u (as.map en) S E X
  | [], pre, S, e, hI, _, h => h S (by rw [e, List.append_nil]; exact hI)
  | a :: as, pre, S, e, hI, hb, h => by
    show g (en a) S _
    exact hb pre a as S _ e hI fun S' hI' => for3_inv en I all as (pre ++ [a]) S' (by rw [e, List.append_assoc]; rfl) hI' hb h
variable {p : B3} {e ek ev : T3} {S : Env3}
theorem lc3_fm (en : α → D) (f : α → Option D) {Q : List D → Prop} : ∀ (as : List α) (acc : List D), (∀ a ∈ as, ∀ (QD : D → Prop) (R : Prop), (∀ x, f a = some x → QD x) → (f a = none → R) → g (en a) S fun S2 => p S2 (fun k => (k = true → e S2 (fun w => asD w QD) X) ∧ (k = false → R)) X) →
    acc.length + as.length ≤ 100000 → Q (acc ++ as.filterMap f) → lc3 g p e S X (as.map en) acc Q
  | [], acc, _, _, h => by
    show Q acc
    rwa [List.filterMap_nil, List.append_nil] at h
  | a :: as, acc, hb, hl, h => by
    show g (en a) S _
    rw [List.length_cons] at hl
    refine hb a List.mem_cons_self _ _ (fun x hx => ⟨by omega, ?_⟩) (fun hx => ?_)
    · refine lc3_fm en f as (acc ++ [x]) (fun b h' => hb b (List.mem_cons_of_mem _ h')) (by rw [List.length_append, List.length_singleton]; omega) ?_
      rw [List.filterMap_cons, hx] at h
      rwa [List.append_assoc]
    · refine lc3_fm en f as acc (fun b h' => hb b (List.mem_cons_of_mem _ h')) (by omega) ?_
      rwa [List.filterMap_cons, hx] at h
theorem lc3_map (en : α → D) (f : α → D) {Q : List D → Prop} (as : List α) (hb : ∀ a ∈ as, ∀ (QD : D → Prop) (R : Prop), QD (f a) → g (en a) S fun S2 => p S2 (fun k => (k = true → e S2 (fun w => asD w QD) X) ∧ (k = false → R)) X)
    (hl : as.length ≤ 100000) (h : Q (as.map f)) : lc3 g p e S X (as.map en) [] Q := by
  refine lc3_fm en (fun a => some (f a)) as [] (fun a ha QD R h1 _ => hb a ha QD R (h1 _ rfl)) (by simpa using hl) ?_
  rw [List.nil_append, List.filterMap_eq_map']
  exact h
theorem lc3_filter (en : α → D) (f : α → D) (c : α → Bool) {Q : List D → Prop} (as : List α) (hb : ∀ a ∈ as, ∀ (QD : D → Prop) (R : Prop), (c a = true → QD (f a)) → (c a = false → R) → g (en a) S fun S2 => p S2 (fun k => (k = true → e S2 (fun w => asD w QD) X) ∧ (k = false → R)) X)
    (hl : as.length ≤ 100000) (h : Q ((as.filter c).map f)) : lc3 g p e S X (as.map en) [] Q := by
  refine lc3_fm en (fun a => if c a = true then some (f a) else none) as [] (fun a ha QD R h1 h2 => hb a ha QD R (fun z => h1 _ (if_pos z)) fun z => h2 (if_neg (by rw [z]; decide))) (by simpa using hl) ?_
  rw [List.nil_append]
  have : ∀ l : List α, l.filterMap (fun a => if c a = true then some (f a) else none) = (l.filter c).map f := fun l => by
    induction l with
    | nil => rfl
    | cons x l ih =>
      rw [List.filterMap_cons, List.filter_cons]
      cases q : c x with
      | true => simp only [if_true, List.map_cons, ih]
      | false => simp only [Bool.false_eq_true, if_false, ih]
  rw [this]
  exact h
/-- put one after another -/
def putsD (acc : List (Key × D)) (l : List (Key × D)) : List (Key × D) := l.foldl (fun a kv => putD a kv.1 kv.2) acc
theorem putD_len (acc : List (Key × D)) (k : Key) (v : D) : (putD acc k v).length ≤ acc.length + 1 := by
  unfold putD
  split
  · rw [List.length_map]; omega
  · rw [List.length_append, List.length_singleton]; exact Nat.le_refl _
theorem putsD_nodup : ∀ (l acc : List (Key × D)), (l.map (·.1)).Nodup → (∀ kv ∈ l, ∀ kv' ∈ acc, kv'.1 ≠ kv.1) → putsD acc l = acc ++ l
  | [], acc, _, _ => (List.append_nil acc).symm
  | kv :: l, acc, nd, h => by
    have h0 : putD acc kv.1 kv.2 = acc ++ [kv] := by
      unfold putD
      rw [if_neg]
      intro z
      obtain ⟨kv', h1, h2⟩ := List.any_eq_true.mp z
      exact h kv List.mem_cons_self kv' h1 (of_decide_eq_true h2)
    show putsD (putD acc kv.1 kv.2) l = _
    rw [h0]
    have nd' := List.nodup_cons.mp (by rw [List.map_cons] at nd; exact nd)
    rw [putsD_nodup l (acc ++ [kv]) nd'.2 fun x hx y hy => ?_]
    · rw [List.append_assoc]; rfl
    · rcases List.mem_append.mp hy with hy | hy
      · exact h x (List.mem_cons_of_mem _ hx) y hy
      · rw [List.mem_singleton.mp hy]
        exact fun z => nd'.1 (List.mem_map.mpr ⟨x, hx, z.symm⟩)
theorem dc3_fm (en : α → D) (kf : α → Key) (vf : α → D) {Q : List (Key × D) → Prop} : ∀ (as : List α) (acc : List (Key × D)), (∀ a ∈ as, ∀ (RK : Key → D → Prop) (R : Prop), RK (kf a) (vf a) → g (en a) S fun S2 => p S2 (fun k => (k = true → ek S2 (fun wk => asK wk fun key => ev S2 (fun w => asD w fun x => RK key x) X) X) ∧ (k = false → R)) X) →
    acc.length + as.length ≤ 100000 → Q (putsD acc (as.map fun a => (kf a, vf a))) → dc3 g p ek ev S X (as.map en) acc Q
  | [], acc, _, _, h => h
  | a :: as, acc, hb, hl, h => by
    show g (en a) S _
    rw [List.length_cons] at hl
    refine hb a List.mem_cons_self (fun key x => acc.length < 100000 ∧ dc3 g p ek ev S X (as.map en) (putD acc key x) Q) _ ⟨by omega, dc3_fm en kf vf as _ (fun b h' => hb b (List.mem_cons_of_mem _ h')) (by have := putD_len acc (kf a) (vf a); omega) h⟩
theorem dc3_map (en : α → D) (kf : α → Key) (vf : α → D) {Q : List (Key × D) → Prop} (as : List α) (hb : ∀ a ∈ as, ∀ (RK : Key → D → Prop) (R : Prop), RK (kf a) (vf a) → g (en a) S fun S2 => p S2 (fun k => (k = true → ek S2 (fun wk => asK wk fun key => ev S2 (fun w => asD w fun x => RK key x) X) X) ∧ (k = false → R)) X)
    (nd : (as.map kf).Nodup) (hl : as.length ≤ 100000) (h : Q (as.map fun a => (kf a, vf a))) : dc3 g p ek ev S X (as.map en) [] Q := by
  refine dc3_fm en kf vf as [] hb (by simpa using hl) ?_
  rw [putsD_nodup _ [] (by rw [List.map_map]; exact nd) (fun _ _ _ z => absurd z (by simp)), List.nil_append]
  exact h
end
/-! ### a def whose code object is known -/
/-- the code object of the def at f -/
def CodeAt (K : PySem.W.Frag) (f : Addr) (cdv : Value) : Prop := ∃ (o : Obj) (fd : FuncData), K.lookup f = some o ∧ o.data = .func fd ∧ fd.code = cdv
theorem fund_okC {P : Program} {w : World} {K : PySem.W.Frag} {mg : Str → Option Value} {base : Heap} {x qual : Str} {params : Arguments} {body : List Stmt} {scope : Scope} {dvs : List V} {kws : List (Str × V)} {f : Addr} {fd : FuncData} {CX : CXT} {N ps : List Str} {k : Nat} {sp : Sp} (F : FunD K x qual params body scope dvs kws f fd) (S : FnScope N ps scope) (len : ∀ vs H Q E, sp vs H Q E → vs.length = ps.length)
    (hbody : ∀ (cdv : Value) (A : Around) (outer : List Env) (s : Shared) (H : Hp) (vs : List V) (Q : VK) (E : XK), CodeAt K f cdv → Room k (A.deeper (envOfC qual scope s.heap.objs.size f cdv)) → sp vs H Q E →
      ∃ t, PSs (cxOf CX P w K mg base N qual scope f cdv A outer s H E) body t ∧ t { nx := fun _ H' => Q .non H', rt := Q } (start N vs) H) : FnOk P w K mg base CX (k + 1) f fd ps sp := by
  obtain ⟨oc, od, dV, kV, doc, pm, an, cdv, ct, osl, rfl, lk, hcd, _, _⟩ := F.ex
  exact fn_of lk hcd S len fun A outer s H vs Q E hr hsp => hbody cdv A outer s H vs Q E ⟨_, _, lk, rfl, rfl⟩ hr hsp
end Q
/-! R3x: the program's errors over data; rows of lamps and bonds. -/
namespace Q
open PySem PySem.Spec PyProof.Rows L2
def erName (x : Str) : Option Er := if isNm x = true then none else some ("BadName", [("name", .str x)])
def isNumD : D → Bool
  | .int i => decide (-1000000000000 ≤ i ∧ i ≤ 1000000000000)
  | _ => false
/-- a flat value -/
def flat4 : D → Prop
  | .non => True
  | .bl _ => True
  | .int _ => True
  | .str _ => True
  | _ => False
def erNum (x : D) : Option Er := if isNumD x = true then none else some ("BadNumber", [("number", x)])
def erOpen (x : D) : Option Er := match x with
  | .non => none
  | x => erNum x
theorem open_ok {x : D} (h : erOpen x = none) : x = .non ∨ ∃ i : Int, x = .int i ∧ -1000000000000 ≤ i ∧ i ≤ 1000000000000 := by
  cases x with
  | non => exact .inl rfl
  | int i =>
    refine .inr ⟨i, rfl, ?_⟩
    have h' : (if isNumD (.int i) = true then none else some ("BadNumber", [("number", D.int i)]) : Option Er) = none := h
    by_cases z : isNumD (.int i) = true
    · exact of_decide_eq_true z
    · rw [if_neg z] at h'
      cases h'
  | _ =>
    have h' : (if false = true then none else some _ : Option Er) = none := h
    cases h'
def erOrder (lo hi : D) : Option Er := match lo, hi with
  | .int l, .int h => if h < l then some ("BadSpan", [("high", .int h), ("low", .int l)]) else none
  | _, _ => none
def erSpan (lo hi : D) : Option Er := (erOpen lo).or ((erOpen hi).or (erOrder lo hi))
def erDup : List Str → List Str → Option Er
  | _, [] => none
  | seen, x :: r => if x ∈ seen then some ("Doubled", [("name", .str x)]) else erDup (seen ++ [x]) r
def erOrd (xs : List Str) : Option Er := (xs.findSome? erName).or (erDup [] xs)
def erKnown (x : Str) (known : List Str) : Option Er := if x ∈ known then none else some ("Unknown", [("name", .str x)])
def erCount (n lo hi : Int) : Option Er := if n < lo ∨ hi < n then some ("OutOfRange", [("high", .int hi), ("low", .int lo), ("number", .int n)]) else none
/-- a lamp's row, a bond's row as they are passed -/
abbrev LampR := Str × D
structure BondR where
  n : Str
  a : Str
  b : Str
  lo : D
  hi : D
def lampRow (l : LampR) : List D := [.str l.1, l.2]
def bondRow (b : BondR) : List D := [.str b.n, .str b.a, .str b.b, b.lo, b.hi]
/-- d is a sequence of rows of ls -/
def RowsD {α : Type} (row : α → List D) (d : D) (ls : List α) : Prop := ∃ ps : List (D × α), seqD d = some (ps.map (·.1)) ∧ ls = ps.map (·.2) ∧ ∀ p ∈ ps, seqD p.1 = some (row p.2)
structure LampsD (d : D) (ls : List LampR) : Prop where
  rows : RowsD lampRow d ls
  len : ls.length ≤ 1000
  ok : ∀ l ∈ ls, l.1.length ≤ 1000 ∧ flat4 l.2
structure BondsD (d : D) (bs : List BondR) : Prop where
  rows : RowsD bondRow d bs
  len : bs.length ≤ 1000
  ok : ∀ b ∈ bs, b.n.length ≤ 1000 ∧ b.a.length ≤ 1000 ∧ b.b.length ≤ 1000 ∧ flat4 b.lo ∧ flat4 b.hi
def erSelf (b : BondR) : Option Er := if b.a = b.b then some ("SelfBond", [("bond", .str b.n)]) else none
def erEnds (ls : List LampR) (bs : List BondR) : Option Er := (bs.findSome? erSelf).or (bs.findSome? fun b => (erKnown b.a (ls.map (·.1))).or (erKnown b.b (ls.map (·.1))))
def rowsErr (ls : List LampR) (bs : List BondR) : Option Er :=
  (ls.findSome? fun l => erName l.1).or ((bs.findSome? fun b => erName b.n).or ((ls.findSome? fun l => erOpen l.2).or ((bs.findSome? fun b => (erOpen b.lo).or (erOpen b.hi)).or ((bs.findSome? fun b => erSpan b.lo b.hi).or
  ((erOrd (ls.map (·.1))).or ((erOrd (bs.map (·.n))).or ((erEnds ls bs).or ((erCount ls.length 1 10).or (erCount bs.length 0 16)))))))))
/-! ### promises -/
section
variable (K : PySem.W.Frag)
def qCheckName : P3v := fun ds Q X => ∃ x, ds = [.str x] ∧ x.length ≤ 100000 ∧ Sc (erName x) (Q (.d (.str x))) (XE K X)
def qIsNumber : P3v := fun ds Q _ => ∃ x, ds = [x] ∧ flat4 x ∧ Q (.d (.bl (isNumD x)))
def qCheckNumber : P3v := fun ds Q X => ∃ x, ds = [x] ∧ flat4 x ∧ Sc (erNum x) (Q (.d x)) (XE K X)
def qCheckOpen : P3v := fun ds Q X => ∃ x, ds = [x] ∧ flat4 x ∧ Sc (erOpen x) (Q (.d .non)) (XE K X)
def qIsName : P3v := fun ds Q _ => ∃ x, ds = [.str x] ∧ x.length ≤ 100000 ∧ Q (.d (.bl (isNm x)))
/-- names of a list or a tuple -/
def qOrdered : P3v := fun ds Q X => ∃ d xs, ds = [d] ∧ seqD d = some (xs.map D.str) ∧ xs.length ≤ 1000 ∧ (∀ x ∈ xs, x.length ≤ 1000) ∧ Sc (erOrd xs) (Q (.ol ((srtS xs).map D.str))) (XE K X)
def qCheckCount : P3v := fun ds Q X => ∃ n lo hi : Int, ds = [.int n, .int lo, .int hi] ∧ Sc (erCount n lo hi) (Q (.d .non)) (XE K X)
def qCheckKnown : P3v := fun ds Q X => ∃ x kvs, ds = [.str x, .dic kvs] ∧ ((valD kvs (.inr x)).isSome = true → Q (.d .non)) ∧ ((valD kvs (.inr x)).isSome = false → XE K X ("Unknown", [("name", .str x)]))
def qCheckEnds : P3v := fun ds Q X => ∃ dl db ls bs, ds = [dl, db] ∧ LampsD dl ls ∧ BondsD db bs ∧ Sc (erEnds ls bs) (Q (.d .non)) (XE K X)
def qCheckRows : P3v := fun ds Q X => ∃ dl db ls bs, ds = [dl, db] ∧ LampsD dl ls ∧ BondsD db bs ∧ Sc (rowsErr ls bs) (Q (.d .non)) (XE K X)
def ltS (a b : Str) : Bool := decide (a.cps.toList < b.cps.toList)
/-- its ends in name order -/
def ordB (b : BondR) : BondR := if ltS b.b b.a = true then ⟨b.n, b.b, b.a, b.lo, b.hi⟩ else b
def qKeptBond : P3v := fun ds Q _ => ∃ d b, ds = [d] ∧ seqD d = some (bondRow b) ∧ Q (.d (.tup (bondRow (ordB b))))
def qArmsAt : P3v := fun ds Q _ => ∃ (x : Str) (bs : List BondR), ds = [.str x, .lst (bs.map fun b => .tup (bondRow b))] ∧ bs.length ≤ 1000 ∧ Q (.ol ((bs.filter fun b => decide (x = b.a) || decide (x = b.b)).map fun b => .str b.n))
/-- Span(lo, hi) -/
def spanF (lo hi : D) : List (Str × D) := [("low", lo), ("high", hi)]
def qSpanInit : PI3 := fun ds Q X => ∃ lo hi, ds = [lo, hi] ∧ flat4 lo ∧ flat4 hi ∧ Sc (erSpan lo hi) (Q (spanF lo hi)) (XE K X)
def qSpanHas : P3v := fun ds Q _ => ∃ (C : Addr) (lo hi : Option Int) (i : Int), ds = [.obj C (spanF (dEnd3 lo) (dEnd3 hi)), .int i] ∧ C = gA K "Span" ∧ Q (.d (.bl (inO lo hi i)))
end
section
variable {K : PySem.W.Frag} {T : List (Addr × Str)} {M : Addr → Prop} {c : Addr} {H : Hp}
theorem br_isName : ∀ vs H Q E, Lift3 K T 1 qIsName vs H Q E → Sp1 pIsName vs H Q E := by
  rintro vs H Q E ⟨M, c, ds, Q3, X, ok, hT, tab, r, hn, ⟨x, rfl, hx, q⟩, k, kx⟩
  obtain ⟨v, rfl, r1⟩ := reps_1 r
  rw [rep_strD r1]
  exact ⟨_, rfl, x, rfl, hx, k _ _ H (fin_id tab ok) (.d (.bl _)) q⟩
end
/-! ### the loops' steps -/
section
variable {QL : List D → Prop} {d : D} {α : Type} {row : α → List D} {ls : List α} {Q : W → Prop}
theorem rows_goB (h : RowsD row d ls) (k : ∀ ps : List (D × α), ls = ps.map (·.2) → (∀ p ∈ ps, seqD p.1 = some (row p.2)) → QL (ps.map (·.1))) : asQ (.bw d) QL := by
  obtain ⟨ps, h1, h2, h3⟩ := h
  exact k_asQb h1 (k ps h2 h3)
theorem rows_lenB (h : RowsD row d ls) (k : Q (.d (.int ls.length))) : o_len [.bw d] Q := by
  obtain ⟨ps, h1, h2, h3⟩ := h
  refine k_lenQb h1 ?_
  rw [h2, List.length_map] at k
  rwa [List.length_map]
theorem find_map {β γ : Type} (f : β → γ) (g : γ → Option Er) : ∀ l : List β, (l.map f).findSome? g = l.findSome? fun a => g (f a)
  | [] => rfl
  | a :: l => by
    rw [List.map_cons, List.findSome?_cons, List.findSome?_cons, find_map f g l]
theorem sc_rows {β : Type} {ps : List (D × β)} {ls : List β} {f : β → Option Er} {P : Prop} {R : Er → Prop} (e : ls = ps.map (·.2)) (h : Sc (ls.findSome? f) P R) : Sc (ps.findSome? fun p => f p.2) P R := by
  rw [e, find_map] at h
  exact h
theorem rows_mem {β : Type} {ps : List (D × β)} {ls : List β} {p : D × β} (e : ls = ps.map (·.2)) (hp : p ∈ ps) : p.2 ∈ ls := by
  rw [e]
  exact List.mem_map.mpr ⟨p, hp, rfl⟩
end
/-! ### scans with a state -/
def scanS {α β : Type} (chk : β → α → Option Er) (f : β → α → β) : β → List α → Option Er
  | _, [] => none
  | b, a :: r => (chk b a).or (scanS chk f (f b a) r)
section
variable {g : G3T} {u : TS3} {E : Ends3} {X : X3} {α β : Type}
theorem for3_scanS {R : Er → Prop} (en : α → D) (Sf : Option W → β → Env3) (chk : β → α → Option Er) (f : β → α → β) (I : Nat → β → Prop) (N : Nat) : ∀ (as : List α) (b : β) (n : Nat), n + as.length ≤ N → I n b →
    (∀ a ∈ as, ∀ o b n nx, n < N → I n b → Sc (chk b a) (I (n + 1) (f b a) → nx (Sf (some (.d (en a))) (f b a))) R → g (en a) (Sf o b) fun S' => u S' ⟨nx, E.rt, E.nx, nx⟩ X) →
    ∀ o, Sc (scanS chk f b as) (∀ o, E.nx (Sf o (as.foldl f b))) R → for3 g u (as.map en) (Sf o b) E X
  | [], b, n, _, _, _, o, h => h.ok o
  | a :: as, b, n, hN, hI, hb, o, h => by
    show g (en a) (Sf o b) _
    rw [List.length_cons] at hN
    refine hb a List.mem_cons_self o b n _ (by omega) hI ((Sc.or h).mono fun h' hI' => ?_)
    exact for3_scanS en Sf chk f I N as (f b a) (n + 1) (by omega) hI' (fun a' h' => hb a' (List.mem_cons_of_mem _ h')) _ h'
end
/-- a dict of names -/
def namesK (xs : List Str) : List (Key × D) := xs.map fun x => (.inr x, .bl true)
theorem namesK_len (xs : List Str) : (namesK xs).length = xs.length := List.length_map _
theorem namesK_val (xs : List Str) (x : Str) : (valD (namesK xs) (.inr x)).isSome = decide (x ∈ xs) := by
  induction xs with
  | nil => rfl
  | cons y ys ih =>
    unfold namesK valD at *
    rw [List.map_cons, List.find?_cons]
    by_cases e : y = x
    · subst e
      rw [decide_eq_true rfl, decide_eq_true List.mem_cons_self]
      rfl
    · rw [decide_eq_false (fun z => e (Sum.inr.inj z))]
      show (Option.map _ (List.find? _ (List.map _ ys))).isSome = _
      rw [ih]
      exact decide_eq_decide.mpr ⟨fun z => List.mem_cons_of_mem _ z, fun z => (List.mem_cons.mp z).resolve_left (fun q => e q.symm)⟩
theorem namesK_put {xs : List Str} {x : Str} (h : ¬ x ∈ xs) : putD (namesK xs) (.inr x) (.bl true) = namesK (xs ++ [x]) := by
  unfold putD
  rw [if_neg]
  · unfold namesK; rw [List.map_append]; rfl
  · intro z
    obtain ⟨kv, h1, h2⟩ := List.any_eq_true.mp z
    obtain ⟨y, hy, rfl⟩ := List.mem_map.mp h1
    exact h (by rw [← Sum.inr.inj (of_decide_eq_true h2)]; exact hy)
theorem dup_scan : ∀ (xs seen : List Str), scanS (fun seen x => if x ∈ seen then some ("Doubled", [("name", .str x)]) else none) (fun seen x => seen ++ [x]) seen xs = erDup seen xs
  | [], _ => rfl
  | x :: xs, seen => by
    show (if x ∈ seen then some _ else none).or _ = if x ∈ seen then _ else _
    by_cases h : x ∈ seen
    · rw [if_pos h, if_pos h]; rfl
    · rw [if_neg h, if_neg h]
      exact dup_scan xs (seen ++ [x])
/-- one key: known or not -/
theorem sc_known {K : PySem.W.Frag} {X : XP} {P : Prop} {x : Str} {known : List Str} {kvs : List (Key × D)} (e : (valD kvs (.inr x)).isSome = decide (x ∈ known)) (h : Sc (erKnown x known) P (XE K X)) :
    ((valD kvs (.inr x)).isSome = true → P) ∧ ((valD kvs (.inr x)).isSome = false → XE K X ("Unknown", [("name", .str x)])) := by
  rw [e]
  exact ⟨fun z => (sc_if h).1 (of_decide_eq_true z), fun z => (sc_if h).2 (of_decide_eq_false z)⟩
theorem foldl_names : ∀ (xs seen : List Str), xs.foldl (fun seen x => seen ++ [x]) seen = seen ++ xs
  | [], seen => (List.append_nil seen).symm
  | x :: xs, seen => by
    rw [List.foldl_cons, foldl_names xs, List.append_assoc]
    rfl
/-- a dict comprehension of names: keys may repeat -/
theorem namesK_puts : ∀ (l : List Str) (acc : List (Key × D)) (x : Str), (valD (putsD acc (l.map fun y => (.inr y, .bl true))) (.inr x)).isSome = ((valD acc (.inr x)).isSome || decide (x ∈ l))
  | [], acc, x => by
    show (valD acc (.inr x)).isSome = _
    rw [decide_eq_false (by simp), Bool.or_false]
  | y :: l, acc, x => by
    show (valD (putsD (putD acc (.inr y) (.bl true)) _) (.inr x)).isSome = _
    rw [namesK_puts l]
    have hp : (valD (putD acc (.inr y) (.bl true)) (.inr x)).isSome = ((valD acc (.inr x)).isSome || decide (x = y)) := by
      have key : ∀ (acc : List (Key × D)), (valD acc (.inr x)).isSome = acc.any fun kv => decide (kv.1 = .inr x) := fun acc => by
        induction acc with
        | nil => rfl
        | cons kv r ih =>
          unfold valD at *
          rw [List.find?_cons, List.any_cons]
          cases decide (kv.1 = .inr x) with
          | true => rfl
          | false => rw [Bool.false_or]; exact ih
      rw [key, key]
      unfold putD
      split
      · rename_i hy
        by_cases e : x = y
        · subst e
          rw [decide_eq_true rfl, Bool.or_true]
          obtain ⟨kv, h1, h2⟩ := List.any_eq_true.mp hy
          exact List.any_eq_true.mpr ⟨_, List.mem_map.mpr ⟨kv, h1, rfl⟩, by rw [if_pos (of_decide_eq_true h2)]; exact h2⟩
        · rw [decide_eq_false e, Bool.or_false, List.any_map]
          congr 1
          funext kv
          by_cases e2 : kv.1 = .inr y
          · simp only [Function.comp, if_pos e2]
          · simp only [Function.comp, if_neg e2]
      · rw [List.any_append]
        congr 1
        show (decide (Sum.inr y = Sum.inr x) || false) = _
        rw [Bool.or_false]
        exact decide_eq_decide.mpr ⟨fun z => (Sum.inr.inj z).symm, fun z => by rw [z]⟩
    rw [hp, Bool.or_assoc]
    congr 1
    by_cases e : x = y
    · subst e
      rw [decide_eq_true rfl, Bool.true_or, decide_eq_true List.mem_cons_self]
    · rw [decide_eq_false e, Bool.false_or]
      exact decide_eq_decide.mpr ⟨fun z => List.mem_cons_of_mem _ z, fun z => (List.mem_cons.mp z).resolve_left e⟩
end Q
/-! R3y: rules whose reading tells K, for a frame that is written out. -/
namespace Q
open PySem PySem.Spec PyProof.Rows L2
section
variable {K : PySem.W.Frag} {M0 : Addr → Prop} {c0 : Addr} {A : Addr → Prop} {H0 : Hp} {T : List (Addr × Str)} {EE : L2.St → XK} {te tv : TE} {t : T3} {tas : TA} {as : A3} {f : Str} {i : Nat} {C a : Addr} {cls : Value} {d : Option Addr} {tc : TE} {c : T3} {tb : WX → TS} {u : TS3} {p : P3v} {E : XK}
theorem e3_fldK (ho : E3 (Fx.mk K M0 c0 A H0 T) EE te t) : E3 (Fx.mk K M0 c0 A H0 T) EE (tFld K te f) (x_fld K f t) := e3_fld ho
theorem c3_isiK : C3 (Fx.mk K M0 c0 A H0 T) (rIsi K) (o_isi K) := c3_isi
theorem e3_isiTK (ho : E3 (Fx.mk K M0 c0 A H0 T) EE te t) (h : AR3 (Fx.mk K M0 c0 A H0 T) EE tas as) : E3 (Fx.mk K M0 c0 A H0 T) EE (tCB (rIsiT K) (tCons te (tCons (tTup tas) tNil))) (x_isiT K t as) := e3_isiT ho h
theorem e3_isXK (ho : E3 (Fx.mk K M0 c0 A H0 T) EE te t) (hc : E3 (Fx.mk K M0 c0 A H0 T) EE tc c) : E3 (Fx.mk K M0 c0 A H0 T) EE (tCB (rIsX K a cls d) (tCons te (tCons tc tNil))) (x_isX K a cls d t c) := e3_isX ho hc
theorem e3_isXTK (ho : E3 (Fx.mk K M0 c0 A H0 T) EE te t) (h : AR3 (Fx.mk K M0 c0 A H0 T) EE tas as) : E3 (Fx.mk K M0 c0 A H0 T) EE (tCB (rIsX K a cls d) (tCons te (tCons (tTup tas) tNil))) (x_isXT K a cls d t as) := e3_isXT ho h
theorem s3_sfldK (hv : E3 (Fx.mk K M0 c0 A H0 T) EE tv t) : S3 (Fx.mk K M0 c0 A H0 T) EE (sFld K (tVar i) tv f) (x_sfld K i f t) := s3_sfld hv
theorem s3_tryNK {l : List Clause} {r : List Cl3} {Wo : WX} (hb : ∀ W : WX, S3 (Fx.mk K M0 c0 A H0 T) (fun σ cls d H => W cls d σ H) (tb W) u) (c : Clauses3 (Fx.mk K M0 c0 A H0 T) EE l r) : S3 (Fx.mk K M0 c0 A H0 T) EE (tTryN tb K Wo l) (x_try K u r) := s3_tryN' hb c
end
theorem pe_fldK {X : Cx} {K : PySem.W.Frag} {e : Expr} {ta : TE} {f : Str} {pos : Pos} (hK : X.K = K) (he : PE X e ta) (hb : attributeBase e f X.env (eval e X.env) = eval e X.env) : PE X (.Attribute e f pos) (tFld K ta f) := by
  subst hK
  exact pe_fld he hb
end Q
/-! R4a: webs as data. -/
namespace Q
open PySem PySem.Spec PyProof.Rows L2
/-! ### right rows -/
theorem or_none {a b : Option Er} : a.or b = none ↔ a = none ∧ b = none := by
  cases a with
  | none => exact ⟨fun h => ⟨rfl, h⟩, fun h => h.2⟩
  | some _ => exact ⟨(fun h => nomatch h), fun h => nomatch h.1⟩
theorem find_none {α : Type} {f : α → Option Er} : ∀ {l : List α}, l.findSome? f = none ↔ ∀ a ∈ l, f a = none := by
  intro l
  rw [List.findSome?_eq_none_iff]
theorem erName_none {x : Str} : erName x = none ↔ isNm x = true := by
  unfold erName
  by_cases h : isNm x = true
  · rw [if_pos h]; exact ⟨fun _ => h, fun _ => rfl⟩
  · rw [if_neg h]; exact ⟨(fun z => nomatch z), fun z => absurd z h⟩
theorem erDup_none : ∀ {xs seen : List Str}, erDup seen xs = none ↔ xs.Nodup ∧ ∀ x ∈ xs, ¬ x ∈ seen
  | [], seen => ⟨fun _ => ⟨List.nodup_nil, fun _ h => absurd h (by simp)⟩, fun _ => rfl⟩
  | x :: xs, seen => by
    show (if x ∈ seen then some _ else erDup (seen ++ [x]) xs) = none ↔ _
    by_cases h : x ∈ seen
    · rw [if_pos h]
      exact ⟨(fun z => nomatch z), fun z => absurd h (z.2 x List.mem_cons_self)⟩
    · rw [if_neg h, erDup_none, List.nodup_cons]
      constructor
      · rintro ⟨h1, h2⟩
        exact ⟨⟨fun z => h2 x z (List.mem_append_right _ List.mem_cons_self), h1⟩, fun y hy => by
          rcases List.mem_cons.mp hy with e | hy
          · rw [e]; exact h
          · exact fun z => h2 y hy (List.mem_append_left _ z)⟩
      · rintro ⟨⟨h1, h2⟩, h3⟩
        exact ⟨h2, fun y hy z => by
          rcases List.mem_append.mp z with z | z
          · exact h3 y (List.mem_cons_of_mem _ hy) z
          · rw [List.mem_singleton.mp z] at hy
            exact h1 hy⟩
structure RightR (ls : List LampR) (bs : List BondR) : Prop where
  ln : ∀ l ∈ ls, isNm l.1 = true
  lo : ∀ l ∈ ls, erOpen l.2 = none
  bn : ∀ b ∈ bs, isNm b.n = true
  sp : ∀ b ∈ bs, erSpan b.lo b.hi = none
  ld : (ls.map (·.1)).Nodup
  bd : (bs.map (·.n)).Nodup
  ne : ∀ b ∈ bs, b.a ≠ b.b
  ka : ∀ b ∈ bs, b.a ∈ ls.map (·.1)
  kb : ∀ b ∈ bs, b.b ∈ ls.map (·.1)
  l1 : 1 ≤ ls.length
  l10 : ls.length ≤ 10
  b16 : bs.length ≤ 16
theorem erKnown_none {x : Str} {known : List Str} : erKnown x known = none ↔ x ∈ known := by
  unfold erKnown
  by_cases h : x ∈ known
  · rw [if_pos h]; exact ⟨fun _ => h, fun _ => rfl⟩
  · rw [if_neg h]; exact ⟨(fun z => nomatch z), fun z => absurd z h⟩
theorem erSelf_none {b : BondR} : erSelf b = none ↔ b.a ≠ b.b := by
  unfold erSelf
  by_cases h : b.a = b.b
  · rw [if_pos h]; exact ⟨(fun z => nomatch z), fun z => absurd h z⟩
  · rw [if_neg h]; exact ⟨fun _ => h, fun _ => rfl⟩
theorem erCount_none {n lo hi : Int} : erCount n lo hi = none ↔ lo ≤ n ∧ n ≤ hi := by
  unfold erCount
  by_cases h : n < lo ∨ hi < n
  · rw [if_pos h]; exact ⟨(fun z => nomatch z), fun z => by omega⟩
  · rw [if_neg h]; exact ⟨fun _ => by omega, fun _ => rfl⟩
theorem rows_right {ls : List LampR} {bs : List BondR} : rowsErr ls bs = none ↔ RightR ls bs := by
  unfold rowsErr erOrd erEnds
  simp only [or_none, find_none, erName_none, erDup_none, erKnown_none, erSelf_none, erCount_none]
  constructor
  · rintro ⟨h1, h2, h3, h4, h5, ⟨h6, h7, _⟩, ⟨h8, h9, _⟩, ⟨h10, h11⟩, ⟨h12, h13⟩, h14, h15⟩
    exact ⟨h1, h3, h2, h5, h7, h9, h10, fun b hb => (h11 b hb).1, fun b hb => (h11 b hb).2, by omega, by omega, by omega⟩
  · intro h
    refine ⟨h.ln, h.bn, h.lo, fun b hb => ?_, h.sp, ⟨fun x hx => ?_, h.ld, fun _ _ z => absurd z (by simp)⟩, ⟨fun x hx => ?_, h.bd, fun _ _ z => absurd z (by simp)⟩, ⟨h.ne, fun b hb => ⟨h.ka b hb, h.kb b hb⟩⟩, ⟨?_, ?_⟩, ⟨?_, ?_⟩⟩
    · have := h.sp b hb
      unfold erSpan at this
      simp only [or_none] at this
      exact ⟨this.1, this.2.1⟩
    · obtain ⟨l, hl, rfl⟩ := List.mem_map.mp hx
      exact h.ln l hl
    · obtain ⟨b, hb, rfl⟩ := List.mem_map.mp hx
      exact h.bn b hb
    · have := h.l1; omega
    · have := h.l10; omega
    · omega
    · have := h.b16; omega
/-! ### kept rows -/
abbrev LampT := Str × Option Int
structure BondT where
  n : Str
  a : Str
  b : Str
  lo : Option Int
  hi : Option Int
deriving DecidableEq
def toO : D → Option Int
  | .int i => some i
  | _ => none
theorem toO_ok {x : D} (h : erOpen x = none) : dEnd3 (toO x) = x := by
  rcases open_ok h with rfl | ⟨i, rfl, _⟩ <;> rfl
theorem toO_end (o : Option Int) : toO (dEnd3 o) = o := by cases o <;> rfl
def tL (l : LampR) : LampT := (l.1, toO l.2)
def tB (b : BondR) : BondT := ⟨b.n, b.a, b.b, toO b.lo, toO b.hi⟩
def rL (l : LampT) : LampR := (l.1, dEnd3 l.2)
def rB (b : BondT) : BondR := ⟨b.n, b.a, b.b, dEnd3 b.lo, dEnd3 b.hi⟩
theorem tL_rL (l : LampT) : tL (rL l) = l := by
  show (l.1, toO (dEnd3 l.2)) = l
  rw [toO_end]
theorem tB_rB (b : BondT) : tB (rB b) = b := by
  show BondT.mk b.n b.a b.b (toO (dEnd3 b.lo)) (toO (dEnd3 b.hi)) = b
  rw [toO_end, toO_end]
def lampD (l : LampT) : D := .tup [.str l.1, dEnd3 l.2]
def bondD (b : BondT) : D := .tup [.str b.n, .str b.a, .str b.b, dEnd3 b.lo, dEnd3 b.hi]
def leL (a b : LampT) : Bool := leS a.1 b.1
def leB (a b : BondT) : Bool := leS a.n b.n
def srtL (ls : List LampT) : List LampT := ls.mergeSort leL
def srtB (bs : List BondT) : List BondT := bs.mergeSort leB
theorem srtL_perm (ls : List LampT) : (srtL ls).Perm ls := List.mergeSort_perm _ _
theorem srtB_perm (bs : List BondT) : (srtB bs).Perm bs := List.mergeSort_perm _ _
theorem sort_lamps (ls : List LampT) : (ls.map lampD).mergeSort leK = (srtL ls).map lampD := (List.map_mergeSort (f := lampD) (r := leL) (s := leK) fun _ _ _ _ => rfl).symm
theorem sort_bonds (bs : List BondT) : (bs.map bondD).mergeSort leK = (srtB bs).map bondD := (List.map_mergeSort (f := bondD) (r := leB) (s := leK) fun _ _ _ _ => rfl).symm
theorem srtL_names (ls : List LampT) : (srtL ls).map (·.1) = srtS (ls.map (·.1)) := List.map_mergeSort (f := fun l : LampT => l.1) (r := leL) (s := leS) fun _ _ _ _ => rfl
theorem srtB_names (bs : List BondT) : (srtB bs).map (·.n) = srtS (bs.map (·.n)) := List.map_mergeSort (f := fun b : BondT => b.n) (r := leB) (s := leS) fun _ _ _ _ => rfl
def ordT (b : BondT) : BondT := if ltS b.b b.a = true then ⟨b.n, b.b, b.a, b.lo, b.hi⟩ else b
theorem tB_ord (b : BondR) : tB (ordB b) = ordT (tB b) := by
  unfold ordB ordT
  show _ = if ltS b.b b.a = true then _ else _
  split <;> rfl
def armsT (x : Str) (bs : List BondT) : List Str := (bs.filter fun b => decide (x = b.a) || decide (x = b.b)).map (·.n)
section
variable (K : PySem.W.Frag)
def spanD (lo hi : Option Int) : D := .obj (gA K "Span") (spanF (dEnd3 lo) (dEnd3 hi))
def ceilK (ls : List LampT) : List (Key × D) := ls.map fun l => (.inr l.1, dEnd3 l.2)
def endsK (bs : List BondT) : List (Key × D) := bs.map fun b => (.inr b.n, .tup [.str b.a, .str b.b])
def spansK (bs : List BondT) : List (Key × D) := bs.map fun b => (.inr b.n, spanD K b.lo b.hi)
def armsK (ls : List LampT) (bs : List BondT) : List (Key × D) := ls.map fun l => (.inr l.1, .lst ((armsT l.1 bs).map D.str))
/-- the attributes of a Web -/
def webF (ls : List LampT) (bs : List BondT) : List (Str × D) :=
  [("own_lamp_rows", .lst (ls.map lampD)), ("own_bond_rows", .lst (bs.map bondD)), ("own_lamps", .lst (ls.map fun l => .str l.1)), ("own_ceilings", .dic (ceilK ls)), ("own_ends", .dic (endsK bs)), ("own_spans", .dic (spansK K bs)), ("own_arms", .dic (armsK ls bs))]
def webD (ls : List LampT) (bs : List BondT) : D := .obj (gA K "Web") (webF K ls bs)
/-- what Web keeps of the rows -/
def keptL (ls : List LampR) : List LampT := srtL (ls.map tL)
def keptB (bs : List BondR) : List BondT := srtB (bs.map fun b => ordT (tB b))
def qWebInit : PI3 := fun ds Q X => ∃ dl db ls bs, ds = [dl, db] ∧ LampsD dl ls ∧ BondsD db bs ∧ Sc (rowsErr ls bs) (Q (webF K (keptL ls) (keptB bs))) (XE K X)
end
theorem kept_mem_b {bs : List BondR} {b : BondT} (h : b ∈ keptB bs) : ∃ r ∈ bs, ordT (tB r) = b := List.mem_map.mp ((srtB_perm _).mem_iff.mp h)
theorem ordT_n (b : BondT) : (ordT b).n = b.n := by unfold ordT; split <;> rfl
theorem ordT_lo (b : BondT) : (ordT b).lo = b.lo := by unfold ordT; split <;> rfl
theorem ordT_hi (b : BondT) : (ordT b).hi = b.hi := by unfold ordT; split <;> rfl
theorem kept_names {ls : List LampR} (h : (ls.map (·.1)).Nodup) : ((keptL ls).map (·.1)).Nodup := by
  have p : ((keptL ls).map (·.1)).Perm (ls.map (·.1)) := by
    have := (srtL_perm (ls.map tL)).map (·.1)
    rw [List.map_map] at this
    exact this
  exact p.nodup_iff.mpr h
theorem kept_bnames {bs : List BondR} (h : (bs.map (·.n)).Nodup) : ((keptB bs).map (·.n)).Nodup := by
  have p : ((keptB bs).map (·.n)).Perm (bs.map (·.n)) := by
    have := (srtB_perm (bs.map fun b => ordT (tB b))).map (·.n)
    rw [List.map_map] at this
    refine this.trans (List.Perm.of_eq (List.map_congr_left fun b _ => ?_))
    show (ordT (tB b)).n = b.n
    rw [ordT_n]
    rfl
  exact p.nodup_iff.mpr h
theorem nodup_inr {xs : List Str} (h : xs.Nodup) : (xs.map fun x => (Sum.inr x : Key)).Nodup := List.pairwise_map.mpr (h.imp fun n e => n (Sum.inr.inj e))
theorem kept_len {ls : List LampR} : (keptL ls).length = ls.length := by
  unfold keptL srtL
  rw [List.length_mergeSort, List.length_map]
theorem kept_blen {bs : List BondR} : (keptB bs).length = bs.length := by
  unfold keptB srtB
  rw [List.length_mergeSort, List.length_map]
theorem nodup_lk {ls : List LampT} (h : (ls.map (·.1)).Nodup) : (ls.map fun l => (Sum.inr l.1 : Key)).Nodup := by
  have := nodup_inr h
  rwa [List.map_map] at this
theorem nodup_bk {bs : List BondT} (h : (bs.map (·.n)).Nodup) : (bs.map fun b => (Sum.inr b.n : Key)).Nodup := by
  have := nodup_inr h
  rwa [List.map_map] at this
end Q
/-! R4b: what a Web's methods tell. -/
namespace Q
open PySem PySem.Spec PyProof.Rows L2
def lampAt (ls : List LampT) (x : Str) : Option LampT := ls.find? fun l => decide (l.1 = x)
def bondAt (bs : List BondT) (x : Str) : Option BondT := bs.find? fun b => decide (b.n = x)
theorem valD_find {α : Type} (nm : α → Str) (vf : α → D) (x : Str) : ∀ as : List α, valD (as.map fun a => ((Sum.inr (nm a) : Key), vf a)) (.inr x) = (as.find? fun a => decide (nm a = x)).map vf
  | [] => rfl
  | a :: as => by
    unfold valD
    rw [List.map_cons, List.find?_cons, List.find?_cons]
    by_cases e : nm a = x
    · rw [decide_eq_true (congrArg Sum.inr e), decide_eq_true e]; rfl
    · rw [decide_eq_false (fun z => e (Sum.inr.inj z)), decide_eq_false e]
      exact valD_find nm vf x as
/-- an item, or none -/
def onO {α : Type} (o : Option α) (P : α → Prop) (R : Prop) : Prop := (∀ a, o = some a → P a) ∧ (o = none → R)
theorem onO_map {α : Type} {o : Option α} {f : α → D} {P : α → Prop} {R : Prop} (h : onO o P R) : ((o.map f).isSome = true → ∃ a, o = some a ∧ P a) ∧ ((o.map f).isSome = false → R) := by
  cases o with
  | none => exact ⟨(fun z => nomatch z), fun _ => h.2 rfl⟩
  | some a => exact ⟨fun _ => ⟨a, rfl, h.1 a rfl⟩, fun z => nomatch z⟩
def unk (x : Str) : Er := ("Unknown", [("name", .str x)])
section
variable (K : PySem.W.Frag)
def qLamps : P3v := fun ds Q _ => ∃ ls bs, ds = [webD K ls bs] ∧ Q (.ol (ls.map fun l => .str l.1))
def qBonds : P3v := fun ds Q _ => ∃ ls bs, ds = [webD K ls bs] ∧ bs.length ≤ 1000 ∧ Q (.ol (bs.map fun b => .str b.n))
def qLampRows : P3v := fun ds Q _ => ∃ ls bs, ds = [webD K ls bs] ∧ Q (.ol (ls.map lampD))
def qBondRows : P3v := fun ds Q _ => ∃ ls bs, ds = [webD K ls bs] ∧ Q (.ol (bs.map bondD))
def qCeiling : P3v := fun ds Q X => ∃ ls bs x, ds = [webD K ls bs, .str x] ∧ onO (lampAt ls x) (fun l => Q (.d (dEnd3 l.2))) (XE K X (unk x))
def qEnds : P3v := fun ds Q X => ∃ ls bs x, ds = [webD K ls bs, .str x] ∧ onO (bondAt bs x) (fun b => Q (.d (.tup [.str b.a, .str b.b]))) (XE K X (unk x))
def qSpanOf : P3v := fun ds Q X => ∃ ls bs x, ds = [webD K ls bs, .str x] ∧ onO (bondAt bs x) (fun b => Q (.d (spanD K b.lo b.hi))) (XE K X (unk x))
def qLetsOf : P3v := fun ds Q X => ∃ ls bs x v, ds = [webD K ls bs, .str x, v] ∧ flat4 v ∧ Sc (erNum v) (∀ i, v = .int i → onO (bondAt bs x) (fun b => Q (.d (.bl (inO b.lo b.hi i)))) (XE K X (unk x))) (XE K X)
def qAcross : P3v := fun ds Q X => ∃ ls bs x y, ds = [webD K ls bs, .str x, .str y] ∧ onO (bondAt bs x) (fun b => (y = b.a → Q (.d (.str b.b))) ∧ (y ≠ b.a → y = b.b → Q (.d (.str b.a))) ∧ (y ≠ b.a → y ≠ b.b → XE K X (unk y))) (XE K X (unk x))
def qBondsOf : P3v := fun ds Q X => ∃ ls bs x, ds = [webD K ls bs, .str x] ∧ onO (lampAt ls x) (fun l => Q (.ol ((armsT x bs).map D.str))) (XE K X (unk x))
def qHasLamp : P3v := fun ds Q _ => ∃ ls bs x, ds = [webD K ls bs, .str x] ∧ Q (.d (.bl (lampAt ls x).isSome))
end
theorem bondAt_name {bs : List BondT} {x : Str} {a : BondT} (h : bondAt bs x = some a) : a.n = x := of_decide_eq_true (List.find?_some (p := fun l : BondT => decide (l.n = x)) h)
theorem bondAt_mem {bs : List BondT} {x : Str} {a : BondT} (h : bondAt bs x = some a) : a ∈ bs := List.mem_of_find?_eq_some h
end Q
/-! R4c: right webs; webs with one change. -/
namespace Q
open PySem PySem.Spec PyProof.Rows L2
/-! ### equal data -/
section
variable {Q : W → Prop}
end
/-! ### right webs -/
theorem RightR.perm {ls ls' : List LampR} {bs bs' : List BondR} (pl : ls.Perm ls') (pb : bs.Perm bs') (h : RightR ls bs) : RightR ls' bs' :=
  ⟨fun l hl => h.ln l (pl.mem_iff.mpr hl), fun l hl => h.lo l (pl.mem_iff.mpr hl), fun b hb => h.bn b (pb.mem_iff.mpr hb), fun b hb => h.sp b (pb.mem_iff.mpr hb), (pl.map _).nodup_iff.mp h.ld, (pb.map _).nodup_iff.mp h.bd,
   fun b hb => h.ne b (pb.mem_iff.mpr hb), fun b hb => (pl.map _).mem_iff.mp (h.ka b (pb.mem_iff.mpr hb)), fun b hb => (pl.map _).mem_iff.mp (h.kb b (pb.mem_iff.mpr hb)), by rw [← pl.length_eq]; exact h.l1, by rw [← pl.length_eq]; exact h.l10, by rw [← pb.length_eq]; exact h.b16⟩
theorem ordB_n (b : BondR) : (ordB b).n = b.n := by unfold ordB; split <;> rfl
theorem ordB_lo (b : BondR) : (ordB b).lo = b.lo := by unfold ordB; split <;> rfl
theorem ordB_hi (b : BondR) : (ordB b).hi = b.hi := by unfold ordB; split <;> rfl
theorem ordB_ends (b : BondR) : ((ordB b).a = b.a ∧ (ordB b).b = b.b) ∨ ((ordB b).a = b.b ∧ (ordB b).b = b.a) := by
  unfold ordB
  split
  · exact .inr ⟨rfl, rfl⟩
  · exact .inl ⟨rfl, rfl⟩
theorem ordB_names (bs : List BondR) : (bs.map ordB).map (·.n) = bs.map (·.n) := by
  rw [List.map_map]
  exact List.map_congr_left fun b _ => ordB_n b
theorem RightR.ord {ls : List LampR} {bs : List BondR} (h : RightR ls bs) : RightR ls (bs.map ordB) where
  ln := h.ln
  lo := h.lo
  bn := fun b hb => by
    obtain ⟨c, hc, rfl⟩ := List.mem_map.mp hb
    rw [ordB_n]
    exact h.bn c hc
  sp := fun b hb => by
    obtain ⟨c, hc, rfl⟩ := List.mem_map.mp hb
    rw [ordB_lo, ordB_hi]
    exact h.sp c hc
  ld := h.ld
  bd := by rw [ordB_names]; exact h.bd
  ne := fun b hb => by
    obtain ⟨c, hc, rfl⟩ := List.mem_map.mp hb
    rcases ordB_ends c with ⟨e1, e2⟩ | ⟨e1, e2⟩
    · rw [e1, e2]; exact h.ne c hc
    · rw [e1, e2]; exact Ne.symm (h.ne c hc)
  ka := fun b hb => by
    obtain ⟨c, hc, rfl⟩ := List.mem_map.mp hb
    rcases ordB_ends c with ⟨e1, e2⟩ | ⟨e1, e2⟩
    · rw [e1]; exact h.ka c hc
    · rw [e1]; exact h.kb c hc
  kb := fun b hb => by
    obtain ⟨c, hc, rfl⟩ := List.mem_map.mp hb
    rcases ordB_ends c with ⟨e1, e2⟩ | ⟨e1, e2⟩
    · rw [e2]; exact h.kb c hc
    · rw [e2]; exact h.ka c hc
  l1 := h.l1
  l10 := h.l10
  b16 := by rw [List.length_map]; exact h.b16
theorem rL_tL {l : LampR} (h : erOpen l.2 = none) : rL (tL l) = l := by
  show (l.1, dEnd3 (toO l.2)) = l
  rw [toO_ok h]
theorem rB_tB {b : BondR} (h : erSpan b.lo b.hi = none) : rB (tB b) = b := by
  unfold erSpan at h
  simp only [or_none] at h
  show BondR.mk b.n b.a b.b (dEnd3 (toO b.lo)) (dEnd3 (toO b.hi)) = b
  rw [toO_ok h.1, toO_ok h.2.1]
/-- a web as it is kept -/
structure WebOk (ls : List LampT) (bs : List BondT) : Prop where
  r : RightR (ls.map rL) (bs.map rB)
  sl : srtL ls = ls
  sb : srtB bs = bs
  od : ∀ b ∈ bs, ordT b = b
theorem leL_trans (a b c : LampT) (h1 : leL a b = true) (h2 : leL b c = true) : leL a c = true := leS_trans _ _ _ h1 h2
theorem leL_total (a b : LampT) : (leL a b || leL b a) = true := leS_total _ _
theorem leB_trans (a b c : BondT) (h1 : leB a b = true) (h2 : leB b c = true) : leB a c = true := leS_trans _ _ _ h1 h2
theorem leB_total (a b : BondT) : (leB a b || leB b a) = true := leS_total _ _
theorem srtL_pw (ls : List LampT) : (srtL ls).Pairwise fun a b => leL a b = true := List.pairwise_mergeSort leL_trans leL_total ls
theorem srtB_pw (bs : List BondT) : (srtB bs).Pairwise fun a b => leB a b = true := List.pairwise_mergeSort leB_trans leB_total bs
theorem srtL_id {ls : List LampT} (h : ls.Pairwise fun a b => leL a b = true) : srtL ls = ls := List.mergeSort_of_pairwise h
theorem srtB_id {bs : List BondT} (h : bs.Pairwise fun a b => leB a b = true) : srtB bs = bs := List.mergeSort_of_pairwise h
theorem nodup_mem_eq {α : Type} {f : α → Str} : ∀ {l : List α}, (l.map f).Nodup → ∀ {a b : α}, a ∈ l → b ∈ l → f a = f b → a = b
  | x :: l, nd, a, b, ha, hb, e => by
    rw [List.map_cons] at nd
    have nd' := List.nodup_cons.mp nd
    rcases List.mem_cons.mp ha with ha | ha <;> rcases List.mem_cons.mp hb with hb | hb
    · rw [ha, hb]
    · exact absurd (List.mem_map.mpr ⟨b, hb, by rw [← e, ha]⟩) nd'.1
    · exact absurd (List.mem_map.mpr ⟨a, ha, by rw [e, hb]⟩) nd'.1
    · exact nodup_mem_eq nd'.2 ha hb e
theorem srtB_of_perm {xs ys : List BondT} (p : xs.Perm ys) (nd : (xs.map (·.n)).Nodup) : srtB xs = srtB ys :=
  ((srtB_perm xs).trans (p.trans (srtB_perm ys).symm)).eq_of_pairwise (fun a b ha hb h1 h2 => nodup_mem_eq (f := fun l : BondT => l.n) nd ((srtB_perm xs).mem_iff.mp ha) (p.mem_iff.mpr ((srtB_perm ys).mem_iff.mp hb)) (leS_anti h1 h2)) (srtB_pw xs) (srtB_pw ys)
theorem ltS_asymm {a b : Str} (h : ltS a b = true) : ltS b a = false := decide_eq_false fun z => List.lt_asymm (of_decide_eq_true h) z
theorem ordT_idem (b : BondT) : ordT (ordT b) = ordT b := by
  unfold ordT
  by_cases h : ltS b.b b.a = true
  · rw [if_pos h]
    show (if ltS b.a b.b = true then _ else _) = _
    rw [ltS_asymm h]
    rfl
  · rw [if_neg h, if_neg h]
theorem kept_ok {ls : List LampR} {bs : List BondR} (h : RightR ls bs) : WebOk (keptL ls) (keptB bs) where
  r := by
    have p1 : ls.Perm ((keptL ls).map rL) := by
      have := (srtL_perm (ls.map tL)).map rL
      rw [List.map_map, List.map_congr_left (f := rL ∘ tL) (g := id) fun l hl => rL_tL (h.lo l hl), List.map_id] at this
      exact this.symm
    have p2 : (bs.map ordB).Perm ((keptB bs).map rB) := by
      have := (srtB_perm (bs.map fun b => ordT (tB b))).map rB
      rw [List.map_map] at this
      refine (List.Perm.of_eq (List.map_congr_left fun b hb => ?_)).trans this.symm
      show ordB b = rB (ordT (tB b))
      rw [← tB_ord, rB_tB]
      rw [ordB_lo, ordB_hi]
      exact h.sp b hb
    exact h.ord.perm p1 p2
  sl := srtL_id (srtL_pw _)
  sb := srtB_id (srtB_pw _)
  od := fun b hb => by
    obtain ⟨r, _, rfl⟩ := kept_mem_b hb
    exact ordT_idem _
theorem keptL_of (ls : List LampT) : keptL (ls.map rL) = srtL ls := by
  unfold keptL
  rw [List.map_map, List.map_congr_left (f := tL ∘ rL) (g := id) fun l _ => tL_rL l, List.map_id]
theorem keptB_of (bs : List BondT) : keptB (bs.map rB) = srtB (bs.map ordT) := by
  unfold keptB
  rw [List.map_map, List.map_congr_left (g := ordT) fun b _ => by show ordT (tB (rB b)) = ordT b; rw [tB_rB]]
theorem WebOk.kl {ls : List LampT} {bs : List BondT} (h : WebOk ls bs) : keptL (ls.map rL) = ls := by rw [keptL_of, h.sl]
theorem WebOk.kb {ls : List LampT} {bs : List BondT} (h : WebOk ls bs) : keptB (bs.map rB) = bs := by
  rw [keptB_of, List.map_congr_left (g := id) h.od, List.map_id, h.sb]
theorem nm_len {x : Str} (h : isNm x = true) : x.length ≤ 8 := by
  obtain ⟨c, r, e, l, _, _⟩ := isNm_get h
  have e2 : x.cps.toList.length = x.length := by simp [Str.length]
  rw [← e2, e, List.length_cons]
  exact l
theorem flat_end4 (o : Option Int) : flat4 (dEnd3 o) := by cases o <;> exact True.intro
/-- typed rows as they are passed -/
theorem lamps_pass {ls : List LampT} (l : ls.length ≤ 1000) (h : ∀ x ∈ ls, isNm x.1 = true) : LampsD (.lst (ls.map lampD)) (ls.map rL) := by
  refine ⟨⟨ls.map fun l => (lampD l, rL l), by rw [List.map_map]; rfl, by rw [List.map_map]; rfl, fun p hp => ?_⟩, by rw [List.length_map]; exact l, fun x hx => ?_⟩
  · obtain ⟨l, _, rfl⟩ := List.mem_map.mp hp
    rfl
  · obtain ⟨l, hl, rfl⟩ := List.mem_map.mp hx
    have := nm_len (h l hl)
    exact ⟨by show l.1.length ≤ 1000; omega, flat_end4 _⟩
theorem bonds_pass {bs : List BondT} (l : bs.length ≤ 1000) (h : ∀ b ∈ bs, b.n.length ≤ 1000 ∧ b.a.length ≤ 1000 ∧ b.b.length ≤ 1000) : BondsD (.lst (bs.map bondD)) (bs.map rB) := by
  refine ⟨⟨bs.map fun b => (bondD b, rB b), by rw [List.map_map]; rfl, by rw [List.map_map]; rfl, fun p hp => ?_⟩, by rw [List.length_map]; exact l, fun x hx => ?_⟩
  · obtain ⟨l, _, rfl⟩ := List.mem_map.mp hp
    rfl
  · obtain ⟨b, hb, rfl⟩ := List.mem_map.mp hx
    exact ⟨(h b hb).1, (h b hb).2.1, (h b hb).2.2, flat_end4 _, flat_end4 _⟩
end Q
/-! R4d: webs with one change. -/
namespace Q
open PySem PySem.Spec PyProof.Rows L2
def setC (ls : List LampT) (x : Str) (c : Option Int) : List LampT := ls.map fun l => if l.1 = x then (l.1, c) else l
def setS (bs : List BondT) (x : Str) (lo hi : Option Int) : List BondT := bs.map fun b => if b.n = x then ⟨b.n, b.a, b.b, lo, hi⟩ else b
def offB (bs : List BondT) (x : Str) : List BondT := bs.filter fun b => !decide (b.n = x)
theorem names_r (ls : List LampT) : (ls.map rL).map (·.1) = ls.map (·.1) := by rw [List.map_map]; rfl
theorem names_rb (bs : List BondT) : (bs.map rB).map (·.n) = bs.map (·.n) := by rw [List.map_map]; rfl
theorem setC_names (ls : List LampT) (x : Str) (c : Option Int) : (setC ls x c).map (·.1) = ls.map (·.1) := by
  unfold setC
  rw [List.map_map]
  refine List.map_congr_left fun l _ => ?_
  show (if l.1 = x then (l.1, c) else l).1 = l.1
  split <;> rfl
theorem setS_names (bs : List BondT) (x : Str) (lo hi : Option Int) : (setS bs x lo hi).map (·.n) = bs.map (·.n) := by
  unfold setS
  rw [List.map_map]
  refine List.map_congr_left fun l _ => ?_
  show (if l.n = x then (⟨l.n, l.a, l.b, lo, hi⟩ : BondT) else l).n = l.n
  split <;> rfl
section
variable {ls ls' : List LampT} {bs bs' : List BondT}
theorem WebOk.nm (h : WebOk ls bs) : ∀ l ∈ ls, isNm l.1 = true := fun l hl => h.r.ln _ (List.mem_map.mpr ⟨l, hl, rfl⟩)
theorem WebOk.bnm (h : WebOk ls bs) : ∀ b ∈ bs, isNm b.n = true := fun b hb => h.r.bn _ (List.mem_map.mpr ⟨b, hb, rfl⟩)
theorem WebOk.nd (h : WebOk ls bs) : (ls.map (·.1)).Nodup := by rw [← names_r]; exact h.r.ld
theorem WebOk.bnd (h : WebOk ls bs) : (bs.map (·.n)).Nodup := by rw [← names_rb]; exact h.r.bd
theorem WebOk.ka (h : WebOk ls bs) : ∀ b ∈ bs, b.a ∈ ls.map (·.1) := fun b hb => by rw [← names_r]; exact h.r.ka _ (List.mem_map.mpr ⟨b, hb, rfl⟩)
theorem WebOk.kb' (h : WebOk ls bs) : ∀ b ∈ bs, b.b ∈ ls.map (·.1) := fun b hb => by rw [← names_r]; exact h.r.kb _ (List.mem_map.mpr ⟨b, hb, rfl⟩)
theorem WebOk.pwL (h : WebOk ls bs) : ls.Pairwise fun a b => leL a b = true := by rw [← h.sl]; exact srtL_pw _
theorem WebOk.pwB (h : WebOk ls bs) : bs.Pairwise fun a b => leB a b = true := by rw [← h.sb]; exact srtB_pw _
theorem WebOk.l10 (h : WebOk ls bs) : ls.length ≤ 10 := by have := h.r.l10; rwa [List.length_map] at this
theorem WebOk.b16 (h : WebOk ls bs) : bs.length ≤ 16 := by have := h.r.b16; rwa [List.length_map] at this
theorem WebOk.nml (h : WebOk ls bs) {x : Str} (hx : x ∈ ls.map (·.1)) : isNm x = true := by
  obtain ⟨l, hl, rfl⟩ := List.mem_map.mp hx
  exact h.nm l hl
theorem WebOk.passL (h : WebOk ls bs) : LampsD (.lst (ls.map lampD)) (ls.map rL) := lamps_pass (by have := h.l10; omega) h.nm
theorem WebOk.lens (h : WebOk ls bs) : ∀ b ∈ bs, b.n.length ≤ 1000 ∧ b.a.length ≤ 1000 ∧ b.b.length ≤ 1000 := fun b hb => by
  have h1 := nm_len (h.bnm b hb)
  have h2 := nm_len (h.nml (h.ka b hb))
  have h3 := nm_len (h.nml (h.kb' b hb))
  omega
/-- the same bonds' names and ends over lamps of the same names -/
theorem right_of (h : WebOk ls bs) (el : ls'.map (·.1) = ls.map (·.1)) (hc : ∀ l ∈ ls', erOpen (dEnd3 l.2) = none) (sb : ∀ b ∈ bs', ∃ b0 ∈ bs, b.n = b0.n ∧ b.a = b0.a ∧ b.b = b0.b) (hs : ∀ b ∈ bs', erSpan (dEnd3 b.lo) (dEnd3 b.hi) = none) (nd : (bs'.map (·.n)).Nodup) (hl : bs'.length ≤ 16) : RightR (ls'.map rL) (bs'.map rB) := by
  have ll : ls'.length = ls.length := by rw [← List.length_map (f := (·.1)), el, List.length_map]
  refine ⟨fun l hl => ?_, fun l hl => ?_, fun b hb => ?_, fun b hb => ?_, by rw [names_r, el]; exact h.nd, by rw [names_rb]; exact nd, fun b hb => ?_, fun b hb => ?_, fun b hb => ?_, ?_, ?_, by rw [List.length_map]; exact hl⟩
  · obtain ⟨l, hl2, rfl⟩ := List.mem_map.mp hl
    exact h.nml (by rw [← el]; exact List.mem_map.mpr ⟨l, hl2, rfl⟩)
  · obtain ⟨l, hl2, rfl⟩ := List.mem_map.mp hl
    exact hc l hl2
  · obtain ⟨b, hb2, rfl⟩ := List.mem_map.mp hb
    obtain ⟨b0, h0, e1, e2, e3⟩ := sb b hb2
    show isNm b.n = true
    rw [e1]
    exact h.bnm b0 h0
  · obtain ⟨b, hb2, rfl⟩ := List.mem_map.mp hb
    exact hs b hb2
  · obtain ⟨b, hb2, rfl⟩ := List.mem_map.mp hb
    obtain ⟨b0, h0, e1, e2, e3⟩ := sb b hb2
    show b.a ≠ b.b
    rw [e2, e3]
    exact h.r.ne (rB b0) (List.mem_map.mpr ⟨b0, h0, rfl⟩)
  · obtain ⟨b, hb2, rfl⟩ := List.mem_map.mp hb
    obtain ⟨b0, h0, e1, e2, e3⟩ := sb b hb2
    rw [names_r, el]
    show b.a ∈ _
    rw [e2]
    exact h.ka b0 h0
  · obtain ⟨b, hb2, rfl⟩ := List.mem_map.mp hb
    obtain ⟨b0, h0, e1, e2, e3⟩ := sb b hb2
    rw [names_r, el]
    show b.b ∈ _
    rw [e3]
    exact h.kb' b0 h0
  · rw [List.length_map, ll, ← List.length_map (f := rL)]; exact h.r.l1
  · rw [List.length_map, ll]; exact h.l10
theorem pw_names {l l' : List LampT} (e : l'.map (·.1) = l.map (·.1)) (h : l.Pairwise fun a b => leL a b = true) : l'.Pairwise fun a b => leL a b = true := by
  have h1 : (l.map (·.1)).Pairwise fun a b => leS a b = true := List.pairwise_map.mpr h
  rw [← e] at h1
  exact List.pairwise_map.mp h1
theorem pw_bnames {l l' : List BondT} (e : l'.map (·.n) = l.map (·.n)) (h : l.Pairwise fun a b => leB a b = true) : l'.Pairwise fun a b => leB a b = true := by
  have h1 : (l.map (·.n)).Pairwise fun a b => leS a b = true := List.pairwise_map.mpr h
  rw [← e] at h1
  exact List.pairwise_map.mp h1
theorem WebOk.lo (h : WebOk ls bs) : ∀ l ∈ ls, erOpen (dEnd3 l.2) = none := fun l hl => h.r.lo _ (List.mem_map.mpr ⟨l, hl, rfl⟩)
theorem WebOk.sp (h : WebOk ls bs) : ∀ b ∈ bs, erSpan (dEnd3 b.lo) (dEnd3 b.hi) = none := fun b hb => h.r.sp _ (List.mem_map.mpr ⟨b, hb, rfl⟩)
theorem WebOk.setC (h : WebOk ls bs) {x : Str} {c : Option Int} (hc : erOpen (dEnd3 c) = none) : WebOk (setC ls x c) bs where
  r := right_of h (setC_names ls x c) (fun l hl => by
    obtain ⟨l0, h0, rfl⟩ := List.mem_map.mp hl
    show erOpen (dEnd3 (if l0.1 = x then (l0.1, c) else l0).2) = none
    split
    · exact hc
    · exact h.lo l0 h0) (fun b hb => ⟨b, hb, rfl, rfl, rfl⟩) h.sp h.bnd h.b16
  sl := srtL_id (pw_names (setC_names ls x c) h.pwL)
  sb := h.sb
  od := h.od
theorem ordT_ends {b b' : BondT} (e1 : b'.a = b.a) (e2 : b'.b = b.b) (h : ordT b = b) (ne : b.a ≠ b.b) : ordT b' = b' := by
  unfold ordT at h ⊢
  rw [e1, e2]
  by_cases z : ltS b.b b.a = true
  · rw [if_pos z] at h
    have := congrArg BondT.a h
    exact absurd this.symm ne
  · rw [if_neg z]
theorem WebOk.ne (h : WebOk ls bs) : ∀ b ∈ bs, b.a ≠ b.b := fun b hb => h.r.ne _ (List.mem_map.mpr ⟨b, hb, rfl⟩)
theorem WebOk.setS (h : WebOk ls bs) {x : Str} {lo hi : Option Int} (hc : erSpan (dEnd3 lo) (dEnd3 hi) = none) : WebOk ls (setS bs x lo hi) where
  r := right_of h rfl h.lo (fun b hb => by
    obtain ⟨b0, h0, rfl⟩ := List.mem_map.mp hb
    refine ⟨b0, h0, ?_⟩
    split <;> exact ⟨rfl, rfl, rfl⟩) (fun b hb => by
    obtain ⟨b0, h0, rfl⟩ := List.mem_map.mp hb
    split
    · exact hc
    · exact h.sp b0 h0) (by rw [setS_names]; exact h.bnd) (by unfold Q.setS; rw [List.length_map]; exact h.b16)
  sl := h.sl
  sb := srtB_id (pw_bnames (setS_names bs x lo hi) h.pwB)
  od := fun b hb => by
    obtain ⟨b0, h0, rfl⟩ := List.mem_map.mp hb
    split
    · exact ordT_ends (b := b0) rfl rfl (h.od b0 h0) (h.ne b0 h0)
    · exact h.od b0 h0
theorem WebOk.off (h : WebOk ls bs) {x : Str} : WebOk ls (offB bs x) where
  r := right_of h rfl h.lo (fun b hb => ⟨b, (List.mem_filter.mp hb).1, rfl, rfl, rfl⟩) (fun b hb => h.sp b (List.mem_filter.mp hb).1) (List.Nodup.sublist (List.Sublist.map _ List.filter_sublist) h.bnd) (Nat.le_trans (List.length_filter_le _ _) h.b16)
  sl := h.sl
  sb := srtB_id (h.pwB.filter _)
  od := fun b hb => h.od b (List.mem_filter.mp hb).1
/-- the bond taken out and put behind: an arrangement of the bonds with the new span -/
theorem off_snoc {a : BondT} {x : Str} {lo hi : Option Int} : ∀ {bs : List BondT}, (bs.map (·.n)).Nodup → a ∈ bs → a.n = x → (offB bs x ++ [BondT.mk x a.a a.b lo hi]).Perm (Q.setS bs x lo hi)
  | b :: bs, nd, ha, e => by
    rw [List.map_cons] at nd
    have nd' := List.nodup_cons.mp nd
    unfold offB Q.setS
    rw [List.filter_cons, List.map_cons]
    by_cases hb : b.n = x
    · have eab : a = b := nodup_mem_eq (f := fun b : BondT => b.n) (l := b :: bs) (by rw [List.map_cons]; exact nd) ha List.mem_cons_self (e.trans hb.symm)
      subst eab
      have r1 : bs.filter (fun b => !decide (b.n = x)) = bs := List.filter_eq_self.mpr fun c hc => by
        have : c.n ≠ x := fun z => nd'.1 (List.mem_map.mpr ⟨c, hc, z.trans e.symm⟩)
        rw [decide_eq_false this]; rfl
      have r2 : bs.map (fun b => if b.n = x then (⟨b.n, b.a, b.b, lo, hi⟩ : BondT) else b) = bs := by
        rw [List.map_congr_left (g := id) fun c hc => ?_, List.map_id]
        have : c.n ≠ x := fun z => nd'.1 (List.mem_map.mpr ⟨c, hc, z.trans e.symm⟩)
        rw [if_neg this]; rfl
      rw [decide_eq_true e, if_pos e, r1, r2, e]
      exact List.perm_append_comm
    · have ha' : a ∈ bs := (List.mem_cons.mp ha).resolve_left fun z => hb (by rw [← z]; exact e)
      rw [decide_eq_false hb, if_neg hb]
      exact (off_snoc nd'.2 ha' e).cons b
theorem kept_span (h : WebOk ls bs) {a : BondT} {x : Str} {lo hi : Option Int} (ha : a ∈ bs) (e : a.n = x) (hc : erSpan (dEnd3 lo) (dEnd3 hi) = none) :
    rowsErr (ls.map rL) ((offB bs x ++ [BondT.mk x a.a a.b lo hi]).map rB) = none ∧ keptB ((offB bs x ++ [BondT.mk x a.a a.b lo hi]).map rB) = Q.setS bs x lo hi := by
  have p := off_snoc (lo := lo) (hi := hi) h.bnd ha e
  have h2 := h.setS (x := x) hc
  refine ⟨rows_right.mpr (h2.r.perm (List.Perm.refl _) (p.symm.map rB)), ?_⟩
  rw [keptB_of, List.map_congr_left (g := id) fun b hb => h2.od b (p.mem_iff.mp hb), List.map_id]
  rw [srtB_of_perm p ((p.map (·.n)).nodup_iff.mpr h2.bnd), h2.sb]
end
section
variable (K : PySem.W.Frag)
def qWithCeiling : P3v := fun ds Q X => ∃ ls bs x v, ds = [webD K ls bs, .str x, v] ∧ WebOk ls bs ∧ flat4 v ∧ Sc (erOpen v) (onO (lampAt ls x) (fun _ => Q (.d (webD K (setC ls x (toO v)) bs))) (XE K X (unk x))) (XE K X)
def qWithSpan : P3v := fun ds Q X => ∃ ls bs x lo hi, ds = [webD K ls bs, .str x, lo, hi] ∧ WebOk ls bs ∧ flat4 lo ∧ flat4 hi ∧ Sc (erSpan lo hi) (onO (bondAt bs x) (fun _ => Q (.d (webD K ls (setS bs x (toO lo) (toO hi))))) (XE K X (unk x))) (XE K X)
def qWithout : P3v := fun ds Q X => ∃ ls bs x, ds = [webD K ls bs, .str x] ∧ WebOk ls bs ∧ onO (bondAt bs x) (fun _ => Q (.d (webD K ls (offB bs x)))) (XE K X (unk x))
/-- one bond more -/
def qWithBond : P3v := fun ds Q X => ∃ ls bs n a b lo hi, ds = [webD K ls bs, .str n, .str a, .str b, lo, hi] ∧ WebOk ls bs ∧ n.length ≤ 1000 ∧ a.length ≤ 1000 ∧ b.length ≤ 1000 ∧ flat4 lo ∧ flat4 hi ∧
  Sc (rowsErr (ls.map rL) (bs.map rB ++ [BondR.mk n a b lo hi])) (Q (.d (webD K ls (keptB (bs.map rB ++ [BondR.mk n a b lo hi]))))) (XE K X)
/-- what is no Web -/
def noWeb : D → Prop
  | .str _ => True
  | .tup _ => True
  | .lst _ => True
  | .int _ => True
  | _ => False
def qWebEq : P3v := fun ds Q _ => ∃ ls bs o, ds = [webD K ls bs, o] ∧ ((∃ ls' bs', o = webD K ls' bs' ∧ Q (.d (.bl (decide (ls = ls') && decide (bs = bs'))))) ∨ (noWeb o ∧ Q (.d (.bl false))))
end
theorem bonds_snoc {bs : List BondT} {r : BondR} (l : bs.length ≤ 999) (h : ∀ b ∈ bs, b.n.length ≤ 1000 ∧ b.a.length ≤ 1000 ∧ b.b.length ≤ 1000) (hr : r.n.length ≤ 1000 ∧ r.a.length ≤ 1000 ∧ r.b.length ≤ 1000 ∧ flat4 r.lo ∧ flat4 r.hi) : BondsD (.lst (bs.map bondD ++ [.tup (bondRow r)])) (bs.map rB ++ [r]) := by
  refine ⟨⟨(bs.map fun b => (bondD b, rB b)) ++ [(.tup (bondRow r), r)], by rw [List.map_append, List.map_map]; rfl, by rw [List.map_append, List.map_map]; rfl, fun p hp => ?_⟩, by rw [List.length_append, List.length_map]; show _ + 1 ≤ 1000; omega, fun x hx => ?_⟩
  · rcases List.mem_append.mp hp with hp | hp
    · obtain ⟨l, _, rfl⟩ := List.mem_map.mp hp
      rfl
    · rw [List.mem_singleton.mp hp]
      rfl
  · rcases List.mem_append.mp hx with hx | hx
    · obtain ⟨b, hb, rfl⟩ := List.mem_map.mp hx
      exact ⟨(h b hb).1, (h b hb).2.1, (h b hb).2.2, flat_end4 _, flat_end4 _⟩
    · rw [List.mem_singleton.mp hx]
      exact hr
end Q
/-! R4e: calls with keywords; defaults that are an empty tuple. -/
namespace Q
open PySem PySem.Spec PyProof.Rows L2
/-- a method with keyword-only parameters, with its promise -/
structure MDefK (P : Program) (w : World) (K : PySem.W.Frag) (mg : Str → Option Value) (base : Heap) (CX : CXT) (k : Nat) (f : Addr) (x q : Str) (st : Stmt) (dvs : List V) (kws : List (Str × V)) (ps : List Str) (sp : Sp) : Prop where
  ex : ∃ fd : FuncData, FnOk P w K mg base CX k f fd ps sp ∧ FunD K x q (defArgs st) (defBody st) (defScope st) dvs kws f fd
section
variable {X : Cx} {CX : CXT} {k n : Nat} {f C : Addr} {fd : FuncData} {ps ks : List Str} {sp : Sp} {E : XK} {x m : Str} {p pos apos : Pos} {e o : Expr} {es : List Expr} {kws : List Keyword} {t tk : TA} {ta : TE} {g : List Value → List Value → List Value} {gV : List V → List V → List V}
/-- o.m(e, .., k = v, ..) -/
def tMethN (C : Addr) (m : Str) (n mk : Nat) (sp : Sp) (gV : List V → List V → List V) (E : XK) (ta : TE) (t tk : TA) : TE := fun σ H Q => ta σ H fun x H1 => ∃ a dx fs, x = .ref a ∧ H1 a = some (.ins C dx fs) ∧ fs.lookup m = none ∧
  t σ H1 fun vs H2 => tk σ H2 fun zs H3 => (x :: vs).length = n ∧ zs.length = mk ∧ sp (gV (x :: vs) zs) H3 Q E
end
/-! ### over data -/
section
variable {K : PySem.W.Frag} {M : Addr → Prop} {c : Addr} {H : Hp}
theorem reps_nth : ∀ {vs : List V} {ds : List D} (n : Nat), Reps K M c H vs ds → Reps K M c H (nth vs n) (nth ds n)
  | [], [], _, _ => .nil
  | _ :: _, _ :: _, 0, .cons r _ => .cons r .nil
  | _ :: _, _ :: _, n + 1, .cons _ t => reps_nth n t
theorem reps_perm {vs : List V} {ds : List D} (r : Reps K M c H vs ds) : ∀ is : List Nat, Reps K M c H (perm is vs) (perm is ds)
  | [] => .nil
  | i :: is => (reps_nth i r).append (reps_perm r is)
end
section
variable {F : Fx} {EE : L2.St → XK} {E : XK} {M : Addr → Prop} {Tm : List (V × W)} {S : Env3} {σ : L2.St} {H : Hp} {te : TE} {t : T3} {tas tks : TA} {as ks : A3} {C : Addr} {m : Str} {n N mk : Nat} {p : P3v} {pi : PI3} {is : List Nat}
theorem repws_zip : ∀ {vs : List V} {ws : List W}, RepWs F M H vs ws → ∀ p ∈ vs.zip ws, RepW F M H p.1 p.2
  | _, _, .nil, p, hp => absurd hp (by simp)
  | _, _, .cons h t, p, hp => by
    rw [List.zip_cons_cons] at hp
    rcases List.mem_cons.mp hp with e | hp
    · rw [e]; exact h
    · exact repws_zip t p hp
theorem repws_len : ∀ {vs : List V} {ws : List W}, RepWs F M H vs ws → vs.length = ws.length
  | _, _, .nil => rfl
  | _, _, .cons _ t => by rw [List.length_cons, List.length_cons, repws_len t]
theorem repws_of : ∀ {vs : List V} {ws : List W}, vs.length = ws.length → (∀ p ∈ vs.zip ws, RepW F M H p.1 p.2) → RepWs F M H vs ws
  | [], [], _, _ => .nil
  | v :: vs, w :: ws, l, h => .cons (h (v, w) List.mem_cons_self) (repws_of (by simpa using l) fun p hp => h p (List.mem_cons_of_mem _ hp))
theorem Rel.pushs {vs : List V} {ws : List W} (R : Rel F M Tm S σ H) (r : RepWs F M H vs ws) : Rel F M (vs.zip ws ++ Tm) S σ H := R.with _ fun p hp => by
  rcases List.mem_append.mp hp with hp | hp
  · exact repws_zip r p hp
  · exact R.tm p hp
theorem Rel.pops {vs : List V} {ws : List W} (l : vs.length = ws.length) (R : Rel F M (vs.zip ws ++ Tm) S σ H) : Rel F M Tm S σ H ∧ RepWs F M H vs ws :=
  ⟨R.with _ fun p hp => R.tm p (List.mem_append_right _ hp), repws_of l fun p hp => R.tm p (List.mem_append_left _ hp)⟩
/-- arguments, then keywords -/
theorem args_kw (ha : AR3 F EE tas as) (hk : AR3 F EE tks ks) {Qv : List V → List V → Hp → Prop} {Q3 : List W → List W → Prop} {X : X3} (R : Rel F M Tm S σ H) (h0 : as S (fun ws => ks S (fun us => Q3 ws us) X) X)
    (k : ∀ vs zs ws us H', Rel F M Tm S σ H' → RepWs F M H' vs ws → RepWs F M H' zs us → Q3 ws us → Qv vs zs H') (lx : LiftX F Tm X EE) : tas σ H fun vs H1 => tks σ H1 fun zs H2 => Qv vs zs H2 :=
  ha.run M Tm S σ H _ _ X R h0 (fun vs ws H1 R1 r1 q1 => hk.run M (vs.zip ws ++ Tm) S σ H1 _ _ X (R1.pushs r1) q1 (fun zs us H2 R2 r2 q2 => by
    obtain ⟨R3, r3⟩ := R2.pops (repws_len r1)
    exact k vs zs ws us H2 R3 r3 r2 q2) (lx.more fun p hp => List.mem_append_right _ hp)) lx
/-- C(e, .., k = v, ..) -/
def x_makeN (C : Addr) (n mk N : Nat) (p : PI3) (is : List Nat) (gs : List D) (as ks : A3) : T3 := fun S Q X => as S (fun ws => ks S (fun us => allD ws fun ds => allD us fun es => ds.length = n ∧ es.length = mk ∧ (perm is (gs ++ (ds ++ es))).length = N ∧ p (perm is (gs ++ (ds ++ es))) (fun fs => Q (.d (.obj C fs))) (X S)) X) X
/-- what the permuted values are, self ahead -/
def SelfFirst (g : List V → List V → List V) (is : List Nat) (dvs : List V) : Prop := ∀ (x : V) (vs zs : List V), g (x :: vs) zs = x :: perm is (dvs ++ (vs ++ zs))
/-- o.m(e, .., k = v, ..) -/
def x_methN (C : Addr) (m : Str) (n mk N : Nat) (p : P3v) (is : List Nat) (t : T3) (as ks : A3) : T3 := fun S Q X => t S (fun w => asO C w fun x => noM m x ∧ as S (fun ws => ks S (fun us => allD ws fun ds => allD us fun es => (x :: ds).length = n ∧ es.length = mk ∧ (perm is (x :: ds ++ es)).length = N ∧ p (perm is (x :: ds ++ es)) (fun w => Q (.d (frz w))) (X S)) X) X) X
end
/-! ### the empty tuple as a default -/
def kt0B (K : PySem.W.Frag) (a : Addr) : Bool := match K.lookup a with
  | some ⟨.type n, _, .seq its _, _⟩ => n == "tuple" && its.size == 0
  | _ => false
end Q
/-! R4f: min and max of two texts; iteration of a Web. -/
namespace QSrt
open PySem PySem.Spec PySem.Calls PyProof PyProof.Rows
section
variable {prog : Program} {w : World} {A : Around} {E : Value → Shared → Prop} {s : Shared} {Q : Value → Shared → Prop} {a b : Str} {t u : Tok}
def strAt (a b : Str) (i : Nat) : List Nat := if i = 0 then a.cps.toList else b.cps.toList
theorem two_at {i : Nat} {v : Value} (h : #[Value.str a t, Value.str b u][i]? = some v) : ∃ x k, v = .str x k ∧ x.cps.toList = strAt a b i := by
  match i, h with
  | 0, h => cases h; exact ⟨a, t, rfl, rfl⟩
  | 1, h => cases h; exact ⟨b, u, rfl, rfl⟩
theorem cmp_gt : CmpOf prog w A .Gt (fun i v => #[Value.str a t, Value.str b u][i]? = some v) (fun i j => decide (strAt a b j < strAt a b i)) := fun i j vi vj s Q E hi hj h => by
  obtain ⟨x, k, rfl, ex⟩ := two_at hi
  obtain ⟨y, l, rfl, ey⟩ := two_at hj
  dsimp only at h
  rw [← ex, ← ey] at h
  exact PySem.P.gt_str h
theorem cmp_lt : CmpOf prog w A .Lt (fun i v => #[Value.str a t, Value.str b u][i]? = some v) (fun i j => decide (strAt a b i < strAt a b j)) := fun i j vi vj s Q E hi hj h => by
  obtain ⟨x, k, rfl, ex⟩ := two_at hi
  obtain ⟨y, l, rfl, ey⟩ := two_at hj
  dsimp only at h
  rw [← ex, ← ey] at h
  exact lt_str h
theorem max_two_strs (hh : A.handled = none) (h : ∀ h' tk, (∀ c o, s.heap.get? c = some o → h'.get? c = some o) → Q (if a.cps.toList < b.cps.toList then .str b u else .str a t) { s with heap := h', toks := tk }) :
    wpAny (model prog w) A (call (.builtin "max") [.str a t, .str b u]) Q E s := by
  have hT : (s.heap.push { cls := .type "tuple", data := .seq #[.str a t, .str b u] }).IsTuple s.heap.objs.size #[.str a t, .str b u] := ⟨_, Heap.get?_push_size _ rfl, rfl, 0, rfl⟩
  refine call_max_two (wpAny_pyIter_tuple hT ?_)
  have hsz : (s.heap.push { cls := .type "tuple", data := .seq #[.str a t, .str b u] }).objs.size = s.heap.objs.size + 1 := Heap.size_push ..
  refine ⟨_, [_, s.heap.objs.size], [_], _, _, _, _, rfl, Walks.tuple (A := A.in1) hh _ s.heap.objs.size (by rw [hsz]; exact Nat.ne_of_lt (Nat.lt_succ_self _)) #[.str a t, .str b u],
    ⟨⟨_, Heap.get?_push_size _ rfl, rfl, rfl⟩, hT.push _⟩, fun c hc => ?_, by simp, cmp_gt, fun v h' tk hP hk => ?_⟩
  · show c < ((s.heap.push _).push _).objs.size
    rw [Heap.size_push, hsz]
    rcases List.mem_cons.mp hc with rfl | hc
    · rw [hsz]; exact Nat.lt_succ_self _
    · rcases List.mem_cons.mp hc with rfl | hc
      · exact Nat.lt_succ_of_lt (Nat.lt_succ_self _)
      · cases hc
  · have hold : ∀ c o, s.heap.get? c = some o → h'.get? c = some o := fun c o e => by
      refine hk c o (fun hm => ?_) (Heap.get?_push_of_some _ (Heap.get?_push_of_some _ e))
      rcases List.mem_cons.mp hm with e1 | hm
      · have := Heap.lt_size e; rw [e1, hsz] at this; exact Nat.lt_irrefl _ (Nat.lt_of_succ_lt this)
      · cases hm
    have := h h' tk hold
    have hv : v = if a.cps.toList < b.cps.toList then Value.str b u else Value.str a t := by
      by_cases hc : a.cps.toList < b.cps.toList <;> simp [argBest, strAt, hc] at hP <;> simp [hP, hc]
    rw [hv]; exact this
theorem min_two_strs (hh : A.handled = none) (h : ∀ h' tk, (∀ c o, s.heap.get? c = some o → h'.get? c = some o) → Q (if b.cps.toList < a.cps.toList then .str b u else .str a t) { s with heap := h', toks := tk }) :
    wpAny (model prog w) A (call (.builtin "min") [.str a t, .str b u]) Q E s := by
  have hT : (s.heap.push { cls := .type "tuple", data := .seq #[.str a t, .str b u] }).IsTuple s.heap.objs.size #[.str a t, .str b u] := ⟨_, Heap.get?_push_size _ rfl, rfl, 0, rfl⟩
  refine call_min_two (wpAny_pyIter_tuple hT ?_)
  have hsz : (s.heap.push { cls := .type "tuple", data := .seq #[.str a t, .str b u] }).objs.size = s.heap.objs.size + 1 := Heap.size_push ..
  refine ⟨_, [_, s.heap.objs.size], [_], _, _, _, _, rfl, Walks.tuple (A := A.in1) hh _ s.heap.objs.size (by rw [hsz]; exact Nat.ne_of_lt (Nat.lt_succ_self _)) #[.str a t, .str b u],
    ⟨⟨_, Heap.get?_push_size _ rfl, rfl, rfl⟩, hT.push _⟩, fun c hc => ?_, by simp, cmp_lt, fun v h' tk hP hk => ?_⟩
  · show c < ((s.heap.push _).push _).objs.size
    rw [Heap.size_push, hsz]
    rcases List.mem_cons.mp hc with rfl | hc
    · rw [hsz]; exact Nat.lt_succ_self _
    · rcases List.mem_cons.mp hc with rfl | hc
      · exact Nat.lt_succ_of_lt (Nat.lt_succ_self _)
      · cases hc
  · have hold : ∀ c o, s.heap.get? c = some o → h'.get? c = some o := fun c o e => by
      refine hk c o (fun hm => ?_) (Heap.get?_push_of_some _ (Heap.get?_push_of_some _ e))
      rcases List.mem_cons.mp hm with e1 | hm
      · have := Heap.lt_size e; rw [e1, hsz] at this; exact Nat.lt_irrefl _ (Nat.lt_of_succ_lt this)
      · cases hm
    have := h h' tk hold
    have hv : v = if b.cps.toList < a.cps.toList then Value.str b u else Value.str a t := by
      by_cases hc : b.cps.toList < a.cps.toList <;> simp [argBest, strAt, hc] at hP <;> simp [hP, hc]
    rw [hv]; exact this
end
end QSrt
namespace Q
open PySem PySem.Spec PyProof.Rows L2
section
variable {X : Cx}
def rMaxT : List V → Hp → VK → Prop := fun xs H Q => rMax0 xs H Q ∨ ∃ i j, xs = [.str i, .str j] ∧ Q (.str (if i.cps.toList < j.cps.toList then j else i)) H
def rMinT : List V → Hp → VK → Prop := fun xs H Q => rMin0 xs H Q ∨ ∃ i j, xs = [.str i, .str j] ∧ Q (.str (if j.cps.toList < i.cps.toList then j else i)) H
theorem call_maxT (hc : X.calm = true) : CallR X (.builtin "max") rMaxT := CallR.or' (call_max0 hc) (by
  intro pins s σ H xs us Q I r h
  obtain ⟨i, j, rfl, q⟩ := h
  obtain ⟨u, w', rfl, ⟨t, rfl⟩, ⟨t', rfl⟩⟩ := vals2 r
  refine QSrt.max_two_strs (I.ok.hd hc) fun h' tk k => ⟨_, H, I.kept k, ?_, q⟩
  by_cases hj : i.cps.toList < j.cps.toList
  · rw [if_pos hj, if_pos hj]; exact ⟨_, rfl⟩
  · rw [if_neg hj, if_neg hj]; exact ⟨_, rfl⟩)
theorem call_minT (hc : X.calm = true) : CallR X (.builtin "min") rMinT := CallR.or' (call_min0 hc) (by
  intro pins s σ H xs us Q I r h
  obtain ⟨i, j, rfl, q⟩ := h
  obtain ⟨u, w', rfl, ⟨t, rfl⟩, ⟨t', rfl⟩⟩ := vals2 r
  refine QSrt.min_two_strs (I.ok.hd hc) fun h' tk k => ⟨_, H, I.kept k, ?_, q⟩
  by_cases hj : j.cps.toList < i.cps.toList
  · rw [if_pos hj, if_pos hj]; exact ⟨_, rfl⟩
  · rw [if_neg hj, if_neg hj]; exact ⟨_, rfl⟩)
end
def o_maxT : Cb3 := fun ws Q => match ws with
  | [.d (.int i), .d (.int j)] => Q (.d (.int (if j > i then j else i)))
  | [.d (.str i), .d (.str j)] => Q (.d (.str (if ltS i j = true then j else i)))
  | _ => False
def o_minT : Cb3 := fun ws Q => match ws with
  | [.d (.int i), .d (.int j)] => Q (.d (.int (if j < i then j else i)))
  | [.d (.str i), .d (.str j)] => Q (.d (.str (if ltS j i = true then j else i)))
  | _ => False
section
variable {F : Fx} {Q : W → Prop}
theorem lt_if {a b : Str} {α : Type} {x y : α} : (if ltS a b = true then x else y) = if a.cps.toList < b.cps.toList then x else y := by
  by_cases h : a.cps.toList < b.cps.toList
  · rw [if_pos h, if_pos (show ltS a b = true from decide_eq_true h)]
  · rw [if_neg h, if_neg (show ¬ ltS a b = true from fun z => h (of_decide_eq_true z))]
theorem C3_maxT : C3 F rMaxT o_maxT := fun M Tm S σ H vs ws Qv Q3 R r h k => by
  unfold o_maxT at h
  split at h
  · obtain ⟨v, u, rfl, r1, r2⟩ := reps2 r
    exact .inl ⟨_, _, by rw [rep_int r1, rep_int r2], k _ _ _ R (.d (.int _)) h⟩
  · obtain ⟨v, u, rfl, r1, r2⟩ := reps2 r
    rw [lt_if] at h
    exact .inr ⟨_, _, by rw [rep_str r1, rep_str r2], k _ _ _ R (.d (.str _)) h⟩
  · exact h.elim
theorem C3_minT : C3 F rMinT o_minT := fun M Tm S σ H vs ws Qv Q3 R r h k => by
  unfold o_minT at h
  split at h
  · obtain ⟨v, u, rfl, r1, r2⟩ := reps2 r
    exact .inl ⟨_, _, by rw [rep_int r1, rep_int r2], k _ _ _ R (.d (.int _)) h⟩
  · obtain ⟨v, u, rfl, r1, r2⟩ := reps2 r
    rw [lt_if] at h
    exact .inr ⟨_, _, by rw [rep_str r1, rep_str r2], k _ _ _ R (.d (.str _)) h⟩
  · exact h.elim
theorem k_maxTI {i j : Int} (h : Q (.d (.int (if j > i then j else i)))) : o_maxT [.d (.int i), .d (.int j)] Q := h
theorem k_maxTS {i j : Str} (h : Q (.d (.str (if ltS i j = true then j else i)))) : o_maxT [.d (.str i), .d (.str j)] Q := h
theorem k_minTI {i j : Int} (h : Q (.d (.int (if j < i then j else i)))) : o_minT [.d (.int i), .d (.int j)] Q := h
theorem k_minTS {i j : Str} (h : Q (.d (.str (if ltS j i = true then j else i)))) : o_minT [.d (.str i), .d (.str j)] Q := h
end
end Q
/-! R5a: what the laws draw: names, ends. -/
namespace Q
open PySem PySem.Spec PyProof.Rows L2
/-- a name -/
structure NmOk (x : Str) : Prop where
  nm : isNm x = true
def qName : P3v := fun ds Q _ => ds = [.store] ∧ ∀ x : Str, isNm x = true → 1 ≤ x.length → x.length ≤ 8 → Q (.d (.str x))
section
variable {K : PySem.W.Frag} {T : List (Addr × Str)} {M : Addr → Prop} {c : Addr} {H : Hp}
theorem br_name : ∀ vs H Q E, Lift3 K T 1 qName vs H Q E → Sp1 (pDraw IsNameT) vs H Q E := by
  rintro vs H Q E ⟨M, c, ds, Q3, X, ok, hT, tab, r, hn, ⟨rfl, q⟩, k, kx⟩
  obtain ⟨v, rfl, r1⟩ := reps_1 r
  rw [rep_store r1]
  exact ⟨_, rfl, c, M, rfl, ok, fun r H' hr d ok' => by
    obtain ⟨x, rfl, h1, h2, h3⟩ := hr
    exact k _ _ H' (fin_dx1 tab ok d ok') (.d (.str x)) (q x h1 h2 h3)⟩
end
/-! ### unlike items -/
def dedS (xs : List Str) : List Str := xs.foldl (fun acc x => if x ∈ acc then acc else acc ++ [x]) []
theorem inD_strs (x : Str) : ∀ xs : List Str, inD (.str x) (xs.map D.str) = decide (x ∈ xs) := fun xs => by
  unfold inD
  show L2.inV (V.str x) ((xs.map D.str).map toV) = _
  rw [List.map_map]
  show L2.inV (V.str x) (xs.map V.str) = _
  unfold L2.inV
  rw [List.any_map]
  induction xs with
  | nil => rfl
  | cons y xs ih =>
    rw [List.any_cons, ih]
    show (L2.eqV (V.str y) (V.str x) || _) = _
    have e : L2.eqV (V.str y) (V.str x) = decide (y = x) := by
      first
      | rfl
      | exact Bool.beq_eq_decide_eq _ _
    rw [e]
    by_cases z : y = x
    · subst z
      rw [decide_eq_true rfl, decide_eq_true List.mem_cons_self]
      rfl
    · rw [decide_eq_false z, Bool.false_or]
      exact decide_eq_decide.mpr ⟨fun q => List.mem_cons_of_mem _ q, fun q => (List.mem_cons.mp q).resolve_left fun w => z w.symm⟩
def qUnlikeS : P3v := fun ds Q _ => ∃ xs : List Str, ds = [.lst (xs.map D.str)] ∧ xs.length ≤ 1000 ∧ Q (.ol ((dedS xs).map D.str))
/-! ### ends of a span -/
def qEndsOf : P3v := fun ds Q _ => ∃ ns : List Int, ds = [.store, .lst (ns.map D.int)] ∧ 0 < ns.length ∧ ns.length ≤ 100000 ∧ (∀ n ∈ ns, InR n) ∧ ∀ lo hi : Option Int, erSpan (dEnd3 lo) (dEnd3 hi) = none → Q (.d (.tup [dEnd3 lo, dEnd3 hi]))
theorem inr_open {i : Int} (h : InR i) : erOpen (.int i) = none := by
  show (if isNumD (.int i) = true then none else some _ : Option Er) = none
  rw [if_pos]
  exact decide_eq_true h
theorem span_ok {lo hi : Option Int} (h1 : ∀ i, lo = some i → InR i) (h2 : ∀ i, hi = some i → InR i) (h3 : ∀ i j, lo = some i → hi = some j → i ≤ j) : erSpan (dEnd3 lo) (dEnd3 hi) = none := by
  have o : ∀ {e : Option Int}, (∀ i, e = some i → InR i) → erOpen (dEnd3 e) = none := fun {e} h => by
    cases e with
    | none => rfl
    | some i => exact inr_open (h i rfl)
  unfold erSpan
  rw [or_none, or_none]
  refine ⟨o h1, o h2, ?_⟩
  cases lo with
  | none => rfl
  | some i =>
    cases hi with
    | none => rfl
    | some j =>
      show (if j < i then some _ else none) = none
      rw [if_neg]
      have := h3 i j rfl rfl
      omega
/-! ### fresh names -/
def qUnused : P3v := fun ds Q _ => ∃ xs : List Str, ds = [.lst (xs.map D.str)] ∧ xs.length ≤ 90 ∧ ∀ x : Str, isNm x = true → ¬ x ∈ xs → Q (.d (.str x))
theorem x_names : ∀ k : Nat, k < 100 → isNm (numT "x" k) = true := by decide +kernel
def qFresh : P3v := fun ds Q _ => ∃ (n : Nat) (us : List Str), ds = [.store, .int n, .lst (us.map D.str)] ∧ n ≤ 30 ∧ us.length ≤ 50 ∧ ∀ xs : List Str, xs.length = n → xs.Nodup → (∀ x ∈ xs, isNm x = true ∧ ¬ x ∈ us) → Q (.ol (xs.map D.str))
def qNames : P3v := fun ds Q _ => ∃ n : Nat, ds = [.store, .int n] ∧ n ≤ 16 ∧ ∀ xs : List Str, xs.length = n → xs.Nodup → (∀ x ∈ xs, isNm x = true) → Q (.d (.lst (xs.map D.str)))
section
variable {Q : W → Prop} {x : Str} {ys : List Str}
theorem strs_flatD : ∀ ys : List Str, (ys.map D.str).all flatD = true
  | [] => rfl
  | _ :: ys => strs_flatD ys
theorem k_niSL (h : Q (.d (.bl (!decide (x ∈ ys))))) : o_ni (.d (.str x)) (.d (.lst (ys.map D.str))) Q := ⟨rfl, _, rfl, strs_flatD ys, by show Q (.d (.bl (!inD (.str x) (ys.map D.str)))); rw [inD_strs]; exact h⟩
theorem k_inSO (h : Q (.d (.bl (decide (x ∈ ys))))) : o_in (.d (.str x)) (.ol (ys.map D.str)) Q := ⟨rfl, _, rfl, strs_flatD ys, by show Q (.d (.bl (inD (.str x) (ys.map D.str)))); rw [inD_strs]; exact h⟩
theorem k_inSL (h : Q (.d (.bl (decide (x ∈ ys))))) : o_in (.d (.str x)) (.d (.lst (ys.map D.str))) Q := ⟨rfl, _, rfl, strs_flatD ys, by show Q (.d (.bl (inD (.str x) (ys.map D.str)))); rw [inD_strs]; exact h⟩
end
theorem range_at {N k : Nat} {pre post : List Nat} (e : List.range N = pre ++ k :: post) : k = pre.length ∧ k < N := by
  have h : (List.range N)[pre.length]? = some k := by rw [e, List.getElem?_append_right (Nat.le_refl _), Nat.sub_self]; rfl
  obtain ⟨h1, h2⟩ := List.getElem?_eq_some_iff.mp h
  rw [List.length_range] at h1
  rw [List.getElem_range] at h2
  omega
theorem rg_range {n : Nat} : rgD 0 n = (List.range n).map fun k : Nat => D.int (k : Int) := by
  unfold rgD
  exact List.map_congr_left fun k _ => by rw [Int.zero_add]
theorem rg_toNat {n : Nat} : rgD 0 ((n : Int)).toNat = (List.range n).map fun k : Nat => D.int (k : Int) := by rw [Int.toNat_natCast, rg_range]
end Q
/-! R5b: families of names. -/
namespace Q
open PySem PySem.Spec PyProof.Rows L2
def ltr (i : Nat) : Nat := letS.cps.toList.getD i 0
def letT (i : Int) : Str := ⟨#[ltr (i % 26).toNat]⟩
theorem let_len : letS.cps.toList.length = 26 := by decide +kernel
theorem at_let {i : Int} (h0 : 0 ≤ i) (h1 : i < 26) : atI letS.cps.toList i = some (ltr i.toNat) := by
  refine atI_of h0 ?_
  have h : i.toNat < letS.cps.toList.length := by rw [let_len]; omega
  unfold ltr
  rw [List.getElem?_eq_getElem h, List.getD_eq_getElem?_getD, List.getElem?_eq_getElem h]
  rfl
theorem ltr_inj : ∀ i : Nat, i < 26 → ∀ j : Nat, j < 26 → ltr i = ltr j → i = j := by decide +kernel
theorem ltr_mem : ∀ i : Nat, i < 26 → ltr i ∈ letS.cps.toList ∧ ltr i ∈ signS.cps.toList := by decide +kernel
theorem tl_app (a b : Str) : (a ++ b).cps.toList = a.cps.toList ++ b.cps.toList := Array.toList_append
theorem str_len (x : Str) : x.cps.toList.length = x.length := by simp [Str.length]
theorem dig_ok : ∀ m : Nat, m < 100 → (Str.ofString (toString (m : Int))).cps.toList.length ≤ 2 ∧ ∀ d ∈ (Str.ofString (toString (m : Int))).cps.toList, d ∈ signS.cps.toList := by decide +kernel
/-- the name k of a family -/
def nmF (fam start : Int) (st : Str) (at_ : Int) (k : Nat) : Str :=
  if fam = 4 then repS (letT (start + (k : Int) / 8)) (1 + (k : Int) % 8).toNat
  else if fam = 2 then cutS st none (some 2) ++ Str.ofString (toString (start % 4 + 7 + (k : Int) * (1 + start % 3)))
  else if fam = 1 then cutS st none (some at_) ++ letT (start + (k : Int)) ++ cutS st (some (at_ + 1)) none
  else letT (start + (k : Int))
theorem num2 {start : Int} {k : Nat} (h0 : 0 ≤ start) (hk : k < 16) : ∃ m : Nat, m < 100 ∧ start % 4 + 7 + (k : Int) * (1 + start % 3) = (m : Int) := by
  have h3 : start % 3 = 0 ∨ start % 3 = 1 ∨ start % 3 = 2 := by omega
  refine ⟨(start % 4 + 7 + (k : Int) * (1 + start % 3)).toNat, ?_, ?_⟩
  · rcases h3 with e | e | e <;> rw [e] <;> omega
  · rcases h3 with e | e | e <;> rw [e] <;> omega
theorem cut_to_tl {st : Str} {n : Int} (h : 0 ≤ n) : (cutS st none (some n)).cps.toList = st.cps.toList.take n.toNat := cutS_to h
theorem cut_from_tl {st : Str} {n : Int} (h : 0 ≤ n) : (cutS st (some n) none).cps.toList = st.cps.toList.drop n.toNat := by
  have e : n = ((n.toNat : Nat) : Int) := by omega
  rw [e]
  exact cutS_from
section
variable {fam start : Int} {st : Str} {at_ : Int} {k j : Nat}
theorem rep_tl (c : Nat) : ∀ n : Nat, (repS ⟨#[c]⟩ n).cps.toList = List.replicate n c := fun n => by
  unfold repS
  show ((List.replicate n [c]).flatten).toArray.toList = _
  rw [List.toList_toArray]
  induction n with
  | zero => rfl
  | succ n ih => rw [List.replicate_succ, List.flatten_cons, ih, List.replicate_succ]; rfl
theorem nmF_ok (h0 : 0 ≤ start) (hst : isNm st = true) (ha : 0 ≤ at_) (hl : at_ < st.length) (hk : k < 16) : isNm (nmF fam start st at_ k) = true := by
  have lm : ∀ i : Int, ltr (i % 26).toNat ∈ letS.cps.toList ∧ ltr (i % 26).toNat ∈ signS.cps.toList := fun i => ltr_mem _ (by omega)
  unfold nmF
  by_cases f4 : fam = 4
  · rw [if_pos f4]
    have hm : ∃ m : Nat, m < 8 ∧ (1 + (k : Int) % 8).toNat = m + 1 := ⟨((k : Int) % 8).toNat, by omega, by omega⟩
    obtain ⟨m, hm, em⟩ := hm
    rw [em]
    refine isNm_mk (c := ltr ((start + (k : Int) / 8) % 26).toNat) (r := List.replicate m (ltr ((start + (k : Int) / 8) % 26).toNat)) ?_ (by rw [List.length_replicate]; omega) (lm _).1 fun d hd => ?_
    · show (repS ⟨#[_]⟩ (m + 1)).cps.toList = _
      rw [rep_tl, List.replicate_succ]
    · rw [List.eq_of_mem_replicate hd]
      exact (lm _).2
  rw [if_neg f4]
  by_cases f2 : fam = 2
  · rw [if_pos f2]
    obtain ⟨m, hm, em⟩ := num2 (k := k) h0 hk
    rw [em]
    obtain ⟨c, r, e, l, hc, hr⟩ := isNm_get hst
    obtain ⟨d1, d2⟩ := dig_ok m hm
    refine isNm_mk (c := c) (r := r.take 1 ++ (Str.ofString (toString (m : Int))).cps.toList) ?_ ?_ hc fun d hd => ?_
    · rw [tl_app, cut_to_tl (by decide), e]
      rfl
    · rw [List.length_append, List.length_take]; omega
    · rcases List.mem_append.mp hd with hd | hd
      · exact hr d (List.mem_of_mem_take hd)
      · exact d2 d hd
  rw [if_neg f2]
  by_cases f1 : fam = 1
  · rw [if_pos f1]
    obtain ⟨c, r, e, l, hc, hr⟩ := isNm_get hst
    have hlen : at_.toNat < r.length + 1 := by
      have := str_len st
      rw [e, List.length_cons] at this
      omega
    have tl0 : (cutS st none (some at_) ++ letT (start + (k : Int)) ++ cutS st (some (at_ + 1)) none).cps.toList = (c :: r).take at_.toNat ++ [ltr ((start + (k : Int)) % 26).toNat] ++ (c :: r).drop (at_.toNat + 1) := by
      rw [tl_app, tl_app, cut_to_tl ha, cut_from_tl (by omega), e, show (at_ + 1).toNat = at_.toNat + 1 from by omega]
      rfl
    cases ea : at_.toNat with
    | zero =>
      rw [ea] at tl0
      refine isNm_mk (c := ltr ((start + (k : Int)) % 26).toNat) (r := r) (by rw [tl0]; rfl) l (lm _).1 hr
    | succ a =>
      rw [ea] at tl0 hlen
      refine isNm_mk (c := c) (r := r.take a ++ [ltr ((start + (k : Int)) % 26).toNat] ++ r.drop (a + 1)) (by rw [tl0]; rfl) ?_ hc fun d hd => ?_
      · rw [List.length_append, List.length_append, List.length_take, List.length_drop, List.length_singleton]; omega
      · rcases List.mem_append.mp hd with hd | hd
        · rcases List.mem_append.mp hd with hd | hd
          · exact hr d (List.mem_of_mem_take hd)
          · rw [List.mem_singleton.mp hd]; exact (lm _).2
        · exact hr d (List.mem_of_mem_drop hd)
  rw [if_neg f1]
  exact isNm_mk (c := ltr ((start + (k : Int)) % 26).toNat) (r := []) rfl (by decide) (lm _).1 fun d hd => absurd hd (by simp)
theorem nmF_inj (h0 : 0 ≤ start) (hst : isNm st = true) (hk : k < 16) (hj : j < 16) (ha : 0 ≤ at_) (e : nmF fam start st at_ k = nmF fam start st at_ j) : k = j := by
  have li : ∀ a b : Int, ltr (a % 26).toNat = ltr (b % 26).toNat → a % 26 = b % 26 := fun a b h => by
    have := ltr_inj _ (by omega) _ (by omega) h
    omega
  have tt : ∀ {a b : Str}, a = b → a.cps.toList = b.cps.toList := fun h => by rw [h]
  unfold nmF at e
  by_cases f4 : fam = 4
  · rw [if_pos f4, if_pos f4] at e
    have e1 := tt e
    rw [show repS (letT (start + (k : Int) / 8)) _ = repS ⟨#[ltr ((start + (k : Int) / 8) % 26).toNat]⟩ _ from rfl, show repS (letT (start + (j : Int) / 8)) _ = repS ⟨#[ltr ((start + (j : Int) / 8) % 26).toNat]⟩ _ from rfl, rep_tl, rep_tl] at e1
    have e2 := congrArg List.length e1
    rw [List.length_replicate, List.length_replicate] at e2
    have hm : ∃ m : Nat, (1 + (k : Int) % 8).toNat = m + 1 := ⟨((k : Int) % 8).toNat, by omega⟩
    obtain ⟨m, em⟩ := hm
    rw [← e2, em, List.replicate_succ, List.replicate_succ] at e1
    have := li _ _ (List.cons.inj e1).1
    omega
  rw [if_neg f4, if_neg f4] at e
  by_cases f2 : fam = 2
  · rw [if_pos f2, if_pos f2] at e
    obtain ⟨m, hm, em⟩ := num2 (k := k) h0 hk
    obtain ⟨n, hn, en⟩ := num2 (k := j) h0 hj
    rw [em, en] at e
    have := numT_inj (s := cutS st none (some 2)) e
    subst this
    have h3 : start % 3 = 0 ∨ start % 3 = 1 ∨ start % 3 = 2 := by omega
    rcases h3 with z | z | z <;> rw [z] at em en <;> omega
  rw [if_neg f2, if_neg f2] at e
  by_cases f1 : fam = 1
  · rw [if_pos f1, if_pos f1] at e
    have e1 := tt e
    rw [tl_app, tl_app, tl_app, tl_app] at e1
    have e2 := List.append_cancel_left (List.append_cancel_right e1)
    have := li _ _ (List.cons.inj (show [ltr ((start + (k : Int)) % 26).toNat] = [ltr ((start + (j : Int)) % 26).toNat] from e2)).1
    omega
  rw [if_neg f1, if_neg f1] at e
  have := li _ _ (List.cons.inj (show [ltr ((start + (k : Int)) % 26).toNat] = [ltr ((start + (j : Int)) % 26).toNat] from tt e)).1
  omega
end
theorem nmF_nodup {fam start : Int} {st : Str} {at_ : Int} (h0 : 0 ≤ start) (hst : isNm st = true) (ha : 0 ≤ at_) {n : Nat} (hn : n ≤ 16) : ((List.range n).map (nmF fam start st at_)).Nodup := by
  refine List.pairwise_map.mpr (List.Pairwise.imp_of_mem (fun {a b} ha' hb' hne e => hne ?_) List.nodup_range)
  exact nmF_inj h0 hst (by have := List.mem_range.mp ha'; omega) (by have := List.mem_range.mp hb'; omega) ha e
end Q
/-! R5c: a plan of a web. -/
namespace Q
open PySem PySem.Spec PyProof.Rows L2
def planD (ns : List LampT) (es : List BondT) (r : List D) : D := .lst (.lst (ns.map lampD) :: .lst (es.map bondD) :: r)
section
variable (K : PySem.W.Frag)
def qPosts : P3v := fun ds Q _ => ∃ ns es r, ds = [planD ns es r] ∧ ns.length ≤ 1000 ∧ Q (.ol ((srtS (ns.map (·.1))).map D.str))
def qLabels : P3v := fun ds Q _ => ∃ ns es r, ds = [planD ns es r] ∧ es.length ≤ 1000 ∧ Q (.ol ((srtS (es.map (·.n))).map D.str))
def barOf (ns : List LampT) (x : Str) : Option Int := match lampAt ns x with
  | some l => l.2
  | none => none
def qBarOf : P3v := fun ds Q _ => ∃ ns es r x, ds = [planD ns es r, .str x] ∧ Q (.d (dEnd3 (barOf ns x)))
/-- the rows in name order -/
def rowsD (ls : List LampT) (bs : List BondT) : List D := [.lst (ls.map lampD), .lst (bs.map bondD)]
def qKeptRows : P3v := fun ds Q _ => ∃ ns es r, ds = [planD ns es r] ∧ ns.length ≤ 1000 ∧ es.length ≤ 1000 ∧ (ns.map (·.1)).Nodup ∧ (es.map (·.n)).Nodup ∧ Q (.ol (rowsD (srtL ns) (srtB (es.map ordT))))
end
theorem keys_lamps (ls : List LampT) : (ls.map lampD).map keyD = (ls.map (·.1)).map some := by rw [List.map_map, List.map_map]; rfl
theorem keys_bonds (bs : List BondT) : (bs.map bondD).map keyD = (bs.map (·.n)).map some := by rw [List.map_map, List.map_map]; rfl
theorem nodup_some {xs : List Str} (h : xs.Nodup) : (xs.map some).Nodup := List.pairwise_map.mpr (h.imp fun n e => n (Option.some.inj e))
theorem lamps_keyed (ls : List LampT) : ∀ x ∈ ls.map lampD, (keyD x).isSome = true := fun x hx => by
  obtain ⟨l, _, rfl⟩ := List.mem_map.mp hx
  rfl
theorem bonds_keyed (bs : List BondT) : ∀ x ∈ bs.map bondD, (keyD x).isSome = true := fun x hx => by
  obtain ⟨l, _, rfl⟩ := List.mem_map.mp hx
  rfl
theorem ordT_names (es : List BondT) : (es.map ordT).map (·.n) = es.map (·.n) := by
  rw [List.map_map]
  exact List.map_congr_left fun b _ => ordT_n b
def unS : D → Str
  | .str s => s
  | _ => Str.empty
theorem perm_str {xs : List Str} {ys : List D} (h : ys.Perm (xs.map D.str)) : ∃ zs : List Str, zs.Perm xs ∧ ys = zs.map D.str := by
  refine ⟨ys.map unS, ?_, ?_⟩
  · have := h.map unS
    rw [List.map_map, List.map_congr_left (f := unS ∘ D.str) (g := id) fun x _ => rfl, List.map_id] at this
    exact this
  · rw [List.map_map]
    refine ((List.map_congr_left (g := id) fun y hy => ?_).trans (List.map_id _)).symm
    obtain ⟨x, _, rfl⟩ := List.mem_map.mp (h.mem_iff.mp hy)
    rfl
end Q
/-! R5d: a draw from a list that is still being made. -/
namespace Q
open PySem PySem.Spec PyProof.Rows L2
def flatT : D → Bool
  | .tup ds => ds.all flatD
  | _ => false
theorem flat_anyD {K : PySem.W.Frag} {M N : Addr → Prop} {c c' : Addr} {H H' : Hp} {v : V} {d : D} (r : Rep K M c H v d) (f : flatD d = true) : Rep K N c' H' v d := by
  cases r with
  | non => exact .non
  | bl b => exact .bl b
  | int i => exact .int i
  | str s => exact .str s
  | _ => cases f
theorem flats_anyD {K : PySem.W.Frag} {M N : Addr → Prop} {c c' : Addr} {H H' : Hp} : ∀ {vs : List V} {ds : List D}, Reps K M c H vs ds → ds.all flatD = true → Reps K N c' H' vs ds
  | _, _, .nil, _ => .nil
  | _, d :: ds, .cons h t, f => by
    have f' : (flatD d && ds.all flatD) = true := f
    exact .cons (flat_anyD h (Bool.and_eq_true_iff.mp f').1) (flats_anyD t (Bool.and_eq_true_iff.mp f').2)
def x_pickO (j i : Nat) : T3 := fun S Q _ => S[j]? = some (some (.d .store)) ∧ ∃ xs, S[i]? = some (some (.ol xs)) ∧ 0 < xs.length ∧ xs.length ≤ 100000 ∧ (∀ x ∈ xs, flatT x = true) ∧ ∀ x ∈ xs, Q (.d x)
section
variable {F : Fx} {EE : L2.St → XK} {E : XK}
theorem e3_pickO {j i : Nat} : E3 F EE (tCall (Lift3 F.K F.T 2 qPick) [] E (tCons (tVar j) (tCons (tVar i) tNil))) (x_pickO j i) := ⟨fun M Tm S σ H Qv Q3 X R h0 k lx => by
  obtain ⟨h1, xs, h2, l0, l1, hf, q⟩ := h0
  obtain ⟨v, e1, r1⟩ := R.sl j _ h1
  obtain ⟨u, e2, r2⟩ := R.sl i _ h2
  refine ⟨v, e1, u, e2, ?_⟩
  cases r1 with
  | d r1 =>
  cases r2 with
  | @ol l vs _ ow n hl rr =>
  have hT : ∀ p ∈ F.T, p.1 ≠ l := ne_tab R.heq.tab hl fun _ z => nomatch z
  have sub : ∀ a, (M a ∧ a ≠ l) → M a := fun a z => z.1
  refine ⟨fun a => M a ∧ a ≠ l, F.c, [.store, .lst xs], fun w => ∃ x, w = .d x ∧ x ∈ xs ∧ Q3 (.d x), noX, R.heq.ok.less ⟨R.heq.ok.inM, Ne.symm ow.c⟩ sub, fun p hp => ⟨R.heq.sub _ (R.heq.tA p hp).2, hT p hp⟩, R.heq.tab, .cons (r1.less sub) (.cons (.lst (fun z => z.2 rfl) hl (rr.less sub)) .nil), rfl, .inr ⟨xs, rfl, l0, l1, fun x hx => ⟨x, rfl, hx, q x hx⟩⟩, fun w' w H' f r q' => ?_, fun C d fs es H' f m hd r hx => hx.elim⟩
  obtain ⟨x, ew, hx, q'⟩ := q'
  subst ew
  have nCh : ¬ Ch F l := fun z => by
    rcases z with z | ⟨p, hp, z⟩
    · exact ow.c z
    · exact hT p hp z
  have hl' : H' l = some (.lst vs) := f.dx.st l _ nCh hl
  have okM : Ok M H' F.c := by
    obtain ⟨p, i', rest, left, n', a, b, cells, g1, g2, g3, g4⟩ := f.ok.st.ex
    refine ⟨R.heq.ok.inM, fun a z e => R.heq.ok.al a z (f.dx.dm a e), ⟨p, i', rest, left, n', a, b, cells, g1, g2, fun z => g3 ⟨z, fun e => ?_⟩, g4⟩⟩
    subst e
    rw [hl'] at g2
    have ev : vs = cells.map V.int := by cases g2; rfl
    cases xs with
    | nil => exact absurd l0 (by simp)
    | cons x0 xr =>
      have fx := hf x0 List.mem_cons_self
      cases rr with
      | cons h0 t0 =>
        cases cells with
        | nil => cases ev
        | cons c0 cr =>
          have e0 := (List.cons.inj ev).1
          subst e0
          cases h0 with
          | int i => cases fx
          | val v => cases fx
  have R' := R.next f.dx okM f.tab
  refine k _ _ H' R' ?_ q'
  cases r with
  | d r =>
  have fx := hf x hx
  have toM : ∀ {a : Addr}, ¬ (M a ∧ a ≠ l) → (∀ ws, H' a ≠ some (.lst ws)) → ¬ M a := fun {a} m h z => m ⟨z, fun e => by subst e; exact h _ hl'⟩
  cases r with
  | @tup a us ds m h rs => exact .d (.tup (toM m fun ws z => by rw [h] at z; cases z) h (flats_anyD rs fx))
  | kt h rs => exact .d (.kt h (flats_anyD rs fx))
  | _ => cases fx⟩
end
theorem at_c0 {a : D} {r : List D} : atI (a :: r) 0 = some a := atI_of (by decide) rfl
theorem at_c1 {a b : D} {r : List D} : atI (a :: b :: r) 1 = some b := atI_of (by decide) rfl
theorem ltS_eq {a b : Str} (h1 : ¬ ltS a b = true) (h2 : ¬ ltS b a = true) : a = b :=
  QSrt.str_ext (List.le_antisymm (List.not_lt.mp fun z => h2 (decide_eq_true z)) (List.not_lt.mp fun z => h1 (decide_eq_true z)))
theorem ordT_row (b : BondT) : D.tup [.str b.n, .str (if ltS b.b b.a = true then b.b else b.a), .str (if ltS b.a b.b = true then b.b else b.a), dEnd3 b.lo, dEnd3 b.hi] = bondD (ordT b) := by
  unfold ordT
  by_cases h : ltS b.b b.a = true
  · have h2 : ¬ ltS b.a b.b = true := by rw [ltS_asymm h]; decide
    rw [if_pos h, if_pos h, if_neg h2]
    rfl
  · rw [if_neg h, if_neg h]
    by_cases h2 : ltS b.a b.b = true
    · rw [if_pos h2]; rfl
    · rw [if_neg h2]
      have := ltS_eq h h2
      show D.tup [.str b.n, .str b.a, .str b.a, _, _] = D.tup [.str b.n, .str b.a, .str b.b, _, _]
      rw [this]
abbrev barV (l : LampT) : Er := ("", [("", dEnd3 l.2)])
def barE (x : Str) (l : LampT) : Option Er := if l.1 = x then some (barV l) else none
def retE (Q : W → Prop) (e : Er) : Prop := match e.2 with
  | [(_, d)] => Q (.d d)
  | _ => False
end Q
/-! R5e: drawn edges, drawn plans. -/
namespace Q
open PySem PySem.Spec PyProof.Rows L2
/-- a bond between posts -/
structure EdgeOk (ps : List Str) (b : BondT) : Prop where
  ka : b.a ∈ ps
  kb : b.b ∈ ps
  ne : b.a ≠ b.b
  sp : erSpan (dEnd3 b.lo) (dEnd3 b.hi) = none
def qEdges : P3v := fun ds Q _ => ∃ (ps lb : List Str) (ns : List Int), ds = [.store, .lst (ps.map D.str), .lst (lb.map D.str), .lst (ns.map D.int)] ∧ ps.Nodup ∧ ps.length ≤ 10 ∧ lb.length ≤ 16 ∧ 0 < ns.length ∧ ns.length ≤ 100000 ∧ (∀ n ∈ ns, InR n) ∧
  ∀ es : List BondT, es.map (·.n) = (if 2 ≤ ps.length then lb else []) → (∀ b ∈ es, EdgeOk ps b) → Q (.ol (es.map bondD))
theorem flat_bond (b : BondT) : flatT (bondD b) = true := by
  show [D.str b.n, .str b.a, .str b.b, dEnd3 b.lo, dEnd3 b.hi].all flatD = true
  cases b.lo <;> cases b.hi <;> rfl
theorem at_str {ps : List Str} {i : Int} (h0 : 0 ≤ i) (h1 : i < ps.length) : ∃ x, x ∈ ps ∧ atI (ps.map D.str) i = some (.str x) ∧ ps[i.toNat]? = some x := by
  have hi : i.toNat < ps.length := by omega
  refine ⟨ps[i.toNat], List.getElem_mem hi, atI_of h0 ?_, List.getElem?_eq_getElem hi⟩
  rw [List.getElem?_map, List.getElem?_eq_getElem hi]
  rfl
theorem at_ne {ps : List Str} (nd : ps.Nodup) {i j : Int} {x y : Str} (h0 : 0 ≤ i) (h1 : 0 ≤ j) (hx : ps[i.toNat]? = some x) (hy : ps[j.toNat]? = some y) (n : i ≠ j) : x ≠ y := fun e => by
  subst e
  obtain ⟨l1, g1⟩ := List.getElem?_eq_some_iff.mp hx
  obtain ⟨l2, g2⟩ := List.getElem?_eq_some_iff.mp hy
  have := (List.getElem_inj nd).mp (g1.trans g2.symm)
  omega
theorem other_ne {r s n : Int} (h1 : 0 ≤ r) (h2 : r < n) (h3 : 0 ≤ s) (h4 : s < n - 1) : 0 ≤ (r + 1 + s) % n ∧ (r + 1 + s) % n < n ∧ r ≠ (r + 1 + s) % n := by
  have hn : 0 < n := by omega
  refine ⟨Int.emod_nonneg _ (by omega), Int.emod_lt_of_pos _ hn, fun e => ?_⟩
  by_cases c : r + 1 + s < n
  · rw [Int.emod_eq_of_lt (by omega) c] at e
    omega
  · have e2 : (r + 1 + s) % n = r + 1 + s - n := by
      rw [← Int.sub_emod_right, Int.emod_eq_of_lt (by omega) (by omega)]
    omega
end Q
/-! R5f: a drawn plan. -/
namespace Q
open PySem PySem.Spec PyProof.Rows L2
inductive All2 {α β : Type} (P : α → β → Prop) : List α → List β → Prop
  | nil : All2 P [] []
  | cons {a : α} {b : β} {as : List α} {bs : List β} (h : P a b) (t : All2 P as bs) : All2 P (a :: as) (b :: bs)
section
variable {g : G3T} {p : B3} {e : T3} {S : Env3} {X : X3} {α β : Type}
/-- a comprehension whose values are drawn -/
theorem lc3_draw (en : α → D) (mk : β → D) (P : α → β → Prop) {Q : List D → Prop} : ∀ (as : List α) (acc : List D), (∀ a ∈ as, ∀ (QD : D → Prop) (R : Prop), (∀ b, P a b → QD (mk b)) → g (en a) S fun S2 => p S2 (fun k => (k = true → e S2 (fun w => asD w QD) X) ∧ (k = false → R)) X) →
    acc.length + as.length ≤ 100000 → (∀ bs, All2 P as bs → Q (acc ++ bs.map mk)) → lc3 g p e S X (as.map en) acc Q
  | [], acc, _, _, h => by
    have := h [] .nil
    rw [List.map_nil, List.append_nil] at this
    exact this
  | a :: as, acc, hb, hl, h => by
    show g (en a) S _
    rw [List.length_cons] at hl
    refine hb a List.mem_cons_self _ _ fun b hP => ⟨by omega, lc3_draw en mk P as (acc ++ [mk b]) (fun c hc => hb c (List.mem_cons_of_mem _ hc)) (by rw [List.length_append, List.length_singleton]; omega) fun bs hbs => ?_⟩
    have := h (b :: bs) (.cons hP hbs)
    rw [List.append_assoc]
    exact this
end
theorem all2_map {α β γ : Type} {P : α → β → Prop} {f : β → γ} {g : α → γ} (h : ∀ a b, P a b → f b = g a) : ∀ {as : List α} {bs : List β}, All2 P as bs → bs.map f = as.map g
  | _, _, .nil => rfl
  | _, _, .cons hp t => by rw [List.map_cons, List.map_cons, h _ _ hp, all2_map h t]
theorem all2_all {α β : Type} {P : α → β → Prop} {R : β → Prop} (h : ∀ a b, P a b → R b) : ∀ {as : List α} {bs : List β}, All2 P as bs → ∀ b ∈ bs, R b
  | _, _, .nil, b, hb => absurd hb (by simp)
  | _, _, .cons hp t, b, hb => by
    rcases List.mem_cons.mp hb with e | hb
    · rw [e]; exact h _ _ hp
    · exact all2_all h t b hb
/-- a right plan -/
structure PlanOk (ns : List LampT) (es : List BondT) (pl : List Int) : Prop where
  r : RightR (ns.map rL) (es.map rB)
  p2 : 2 ≤ pl.length
  p6 : pl.length ≤ 6
  pr : ∀ n ∈ pl, InR n
def qPlan : P3v := fun ds Q _ => ds = [.store, .int 10, .int 16] ∧ ∀ ns es pl, PlanOk ns es pl → Q (.ol [.lst (ns.map lampD), .lst (es.map bondD), .lst (pl.map D.int)])
theorem plan_right {ps lb : List Str} {ns : List LampT} {es : List BondT} (hn : ns.map (·.1) = ps) (hp : ps.Nodup) (hm : ∀ x ∈ ps, isNm x = true) (h1 : 1 ≤ ps.length) (h10 : ps.length ≤ 10) (hc : ∀ l ∈ ns, erOpen (dEnd3 l.2) = none)
    (he : es.map (·.n) = (if 2 ≤ ps.length then lb else [])) (hl : lb.Nodup) (hlm : ∀ x ∈ lb, isNm x = true) (hl16 : lb.length ≤ 16) (ho : ∀ b ∈ es, EdgeOk ps b) : RightR (ns.map rL) (es.map rB) := by
  have hen : (es.map (·.n)).Nodup := by rw [he]; split; exact hl; exact List.nodup_nil
  have hel : es.length ≤ 16 := by
    rw [← List.length_map (f := (·.n)), he]
    split
    · exact hl16
    · exact Nat.zero_le _
  have hln : ns.length = ps.length := by rw [← hn, List.length_map]
  refine ⟨fun l hl => ?_, fun l hl => ?_, fun b hb => ?_, fun b hb => ?_, by rw [names_r, hn]; exact hp, by rw [names_rb]; exact hen, fun b hb => ?_, fun b hb => ?_, fun b hb => ?_, by rw [List.length_map]; omega, by rw [List.length_map]; omega, by rw [List.length_map]; exact hel⟩
  · obtain ⟨l, h, rfl⟩ := List.mem_map.mp hl
    exact hm _ (by rw [← hn]; exact List.mem_map.mpr ⟨l, h, rfl⟩)
  · obtain ⟨l, h, rfl⟩ := List.mem_map.mp hl
    exact hc l h
  · obtain ⟨b, h, rfl⟩ := List.mem_map.mp hb
    have : b.n ∈ es.map (·.n) := List.mem_map.mpr ⟨b, h, rfl⟩
    rw [he] at this
    split at this
    · exact hlm _ this
    · cases this
  · obtain ⟨b, h, rfl⟩ := List.mem_map.mp hb
    exact (ho b h).sp
  · obtain ⟨b, h, rfl⟩ := List.mem_map.mp hb
    exact (ho b h).ne
  · obtain ⟨b, h, rfl⟩ := List.mem_map.mp hb
    rw [names_r, hn]
    exact (ho b h).ka
  · obtain ⟨b, h, rfl⟩ := List.mem_map.mp hb
    rw [names_r, hn]
    exact (ho b h).kb
/-! ### a cut: what holds between two statements -/
def x_cut (u1 u2 : TS3) : TS3 := fun S E X => ∃ I : Env3 → Prop, u1 S { E with nx := I } X ∧ ∀ S', I S' → u2 S' E X
end Q
/-! R6a: parts of lists. -/
namespace Q
open PySem PySem.Spec PyProof.Rows L2
theorem cutD_to {xs : List D} {n : Int} (h : 0 ≤ n) : cutD xs none (some n) = xs.take n.toNat := by
  obtain ⟨k, rfl⟩ : ∃ k : Nat, n = (k : Int) := ⟨n.toNat, by omega⟩
  unfold cutD
  rw [HT.sIx_none, HT.sIx_nat, List.drop_zero, Nat.sub_zero, Int.toNat_natCast, ← List.take_eq_take_min]
theorem cutD_from {xs : List D} {n : Int} (h : 0 ≤ n) : cutD xs (some n) none = xs.drop n.toNat := by
  obtain ⟨k, rfl⟩ : ∃ k : Nat, n = (k : Int) := ⟨n.toNat, by omega⟩
  unfold cutD
  rw [HT.sIx_none, HT.sIx_nat, Int.toNat_natCast]
  by_cases hk : k ≤ xs.length
  · rw [Nat.min_eq_left hk, List.take_of_length_le (by rw [List.length_drop]; omega)]
  · rw [Nat.min_eq_right (by omega), List.drop_eq_nil_of_le (Nat.le_refl _), List.drop_eq_nil_of_le (by omega), List.take_nil]
theorem end_open {o : Option Int} (h : ∀ i, o = some i → InR i) : erOpen (dEnd3 o) = none := by
  cases o with
  | none => rfl
  | some i => exact inr_open (h i rfl)
end Q
/-! R6b: a law's walk over two equal answers. -/
namespace Q
open PySem PySem.Spec PyProof.Rows L2
def flA : D → Bool
  | .non => true
  | .bl _ => true
  | .int _ => true
  | .str _ => true
  | _ => false
def alD : Nat → D → Bool
  | 0, x => flA x
  | n + 1, .lst xs => decide (xs.length ≤ 1000) && xs.all (alD n)
  | n + 1, .tup xs => decide (xs.length ≤ 1000) && xs.all (alD n)
  | _ + 1, x => flA x
def qAlike (n : Nat) : P3v := fun ds Q _ => ∃ x, ds = [x, x] ∧ alD n x = true ∧ Q (.d (.bl true))
def qAlikeF : P3v := fun ds Q _ => ∃ x, ds = [x, x] ∧ flA x = true ∧ Q (.d (.bl true))
def qAlikeS (n : Nat) : P3v := fun ds Q _ => ∃ x xs, ds = [x, x] ∧ (x = .lst xs ∨ x = .tup xs) ∧ xs.length ≤ 1000 ∧ (∀ y ∈ xs, alD n y = true) ∧ Q (.d (.bl true))
theorem alike_zero {K : PySem.W.Frag} {T : List (Addr × Str)} : ∀ vs H Q E, Lift3 K T 2 (qAlike 0) vs H Q E → Lift3 K T 2 qAlikeF vs H Q E ∨ Lift3 K T 2 qAlikeF vs H Q E := by
  rintro vs H Q E ⟨M, c, ds, Q3, X, a1, a2, a3, h, hn, ⟨x, e, hx, q⟩, k⟩
  exact .inl ⟨M, c, ds, Q3, X, a1, a2, a3, h, hn, ⟨x, e, hx, q⟩, k⟩
theorem alike_succ {K : PySem.W.Frag} {T : List (Addr × Str)} {n : Nat} : ∀ vs H Q E, Lift3 K T 2 (qAlike (n + 1)) vs H Q E → Lift3 K T 2 qAlikeF vs H Q E ∨ Lift3 K T 2 (qAlikeS n) vs H Q E := by
  rintro vs H Q E ⟨M, c, ds, Q3, X, a1, a2, a3, h, hn, ⟨x, e, hx, q⟩, k⟩
  have sq : ∀ xs, x = .lst xs ∨ x = .tup xs → xs.length ≤ 1000 ∧ ∀ y ∈ xs, alD n y = true := fun xs z => by
    have : (decide (xs.length ≤ 1000) && xs.all (alD n)) = true := by
      rcases z with z | z <;> (rw [z] at hx; exact hx)
    obtain ⟨h1, h2⟩ := Bool.and_eq_true_iff.mp this
    exact ⟨of_decide_eq_true h1, List.all_eq_true.mp h2⟩
  cases x with
  | lst xs => exact .inr ⟨M, c, ds, Q3, X, a1, a2, a3, h, hn, ⟨_, xs, e, .inl rfl, (sq xs (.inl rfl)).1, (sq xs (.inl rfl)).2, q⟩, k⟩
  | tup xs => exact .inr ⟨M, c, ds, Q3, X, a1, a2, a3, h, hn, ⟨_, xs, e, .inr rfl, (sq xs (.inr rfl)).1, (sq xs (.inr rfl)).2, q⟩, k⟩
  | _ => exact .inl ⟨M, c, ds, Q3, X, a1, a2, a3, h, hn, ⟨_, e, hx, q⟩, k⟩
theorem al_flat {x : D} (n : Nat) (h : flA x = true) : alD n x = true := by
  cases n with
  | zero => exact h
  | succ n => cases x <;> first | exact h | cases h
theorem al_lst {n : Nat} {xs : List D} (l : xs.length ≤ 1000) (h : ∀ x ∈ xs, alD n x = true) : alD (n + 1) (.lst xs) = true := Bool.and_eq_true_iff.mpr ⟨decide_eq_true l, List.all_eq_true.mpr h⟩
theorem al_tup {n : Nat} {xs : List D} (l : xs.length ≤ 1000) (h : ∀ x ∈ xs, alD n x = true) : alD (n + 1) (.tup xs) = true := Bool.and_eq_true_iff.mpr ⟨decide_eq_true l, List.all_eq_true.mpr h⟩
theorem al_end (n : Nat) (o : Option Int) : alD n (dEnd3 o) = true := al_flat n (by cases o <;> rfl)
/-- nothing passes the test -/
theorem lc3_none {g : G3T} {p : B3} {e : T3} {S : Env3} {X : X3} {α : Type} (en : α → D) {Q : List D → Prop} (as : List α) (hb : ∀ a ∈ as, ∀ (QD : D → Prop) (R : Prop), R → g (en a) S fun S2 => p S2 (fun k => (k = true → e S2 (fun w => asD w QD) X) ∧ (k = false → R)) X)
    (hl : as.length ≤ 100000) (h : Q []) : lc3 g p e S X (as.map en) [] Q := by
  refine lc3_fm en (fun _ => none) as [] (fun a ha QD R _ h2 => hb a ha QD R (h2 rfl)) (by simpa using hl) ?_
  rw [List.nil_append, show as.filterMap (fun _ => (none : Option D)) = [] from List.filterMap_eq_nil_iff.mpr fun _ _ => rfl]
  exact h
end Q
/-! R6c: list(o), o of a class whose __iter__ gives the iterator of a list. -/
namespace Q
open PySem PySem.Spec PyProof.Rows L2
structure ViaC (K : PySem.W.Frag) (C fi : Addr) : Prop where
  it : PySem.W.findIn K (.ref C) "__iter__" = some (some (.ref fi))
  itF : PySem.W.isFn K (.ref fi) = true
  nolen : PySem.W.findIn K (.ref C) "__len__" = some none
  nohint : PySem.W.findIn K (.ref C) "__length_hint__" = some none
section
variable {X : Cx} {pins : List (Addr × Obj)} {σ : L2.St} {H : Hp} {s : Shared} {A1 : Around} {it l q a C fi : Addr} {zs : List V} {i n : Nat} {E : Value → Shared → Prop}
/-- what is wanted behind __iter__ -/
def viaQ (K : PySem.W.Frag) (C a q : Addr) (P : Hp → Prop) (v : V) (H : Hp) : Prop := ∃ (it l dx : Addr) (fs : List (Str × V)) (zs : List V), v = .ref it ∧ H it = some (ItO l it 0) ∧ SqL K H l zs ∧ H q = some (.lst []) ∧ H a = some (.ins C dx fs) ∧ q ≠ l ∧ it ≠ l ∧ q ≠ it ∧ zs.length < sizeLine ∧
  ∀ H2, H2 q = some (.lst zs) → H2 it ≠ none → (∀ b, b ≠ q → b ≠ it → H2 b = H b) → P H2
variable {CI : CXT} {fdI : FuncData} {psI : List Str} {spI : Sp} {EI : XK}
/-- list(o) -/
def rVia (K : PySem.W.Frag) (C : Addr) (spI : Sp) (EI : XK) : List V → Hp → VK → Prop := fun xs H Q => ∃ a dx fs, xs = [.ref a] ∧ H a = some (.ins C dx fs) ∧ ∀ q, H q = none → spI [.ref a] (upd H q (.lst [])) (viaQ K C a q fun H' => Q (.ref q) H') EI
end
/-- __iter__: the iterator of the list in the attribute f -/
def pIterL (K : PySem.W.Frag) (C : Addr) (f : Str) : V → Hp → VK → XK → Prop := fun x H Q _ => ∃ (a dx l : Addr) (fs : List (Str × V)) (zs : List V), x = .ref a ∧ H a = some (.ins C dx fs) ∧ fs.lookup f = some (.ref l) ∧ SqL K H l zs ∧ ∀ it, H it = none → Q (.ref it) (upd H it (ItO l it 0))
/-! ### over data -/
def o_listVia (C : Addr) (f : Str) : Cb3 := fun ws Q => match ws with
  | [.d (.obj C' fs)] => C' = C ∧ ∃ xs, fs.lookup f = some (.lst xs) ∧ xs.length ≤ 100000 ∧ Q (.ol xs)
  | _ => False
end Q
/-! R6d: calls with keywords that let out no exception; instances by keywords alone; a list display that is walked and whose items are appended to. -/
namespace Q
open PySem PySem.Spec PyProof.Rows L2
section
variable {F : Fx} {EE : L2.St → XK} {E : XK} {M : Addr → Prop} {Tm : List (V × W)} {S : Env3} {σ : L2.St} {H : Hp} {te : TE} {t : T3} {tas tks : TA} {as ks : A3} {C : Addr} {m : Str} {n N mk : Nat} {p : P3v} {pi : PI3} {is : List Nat} {bs : List Bool} {X : X3} {Q : W → Prop} {XC : XP}
def x_methN0 (C : Addr) (m : Str) (n mk N : Nat) (p : P3v) (is : List Nat) (t : T3) (as ks : A3) : T3 := fun S Q X => t S (fun w => asO C w fun x => noM m x ∧ as S (fun ws => ks S (fun us => allD ws fun ds => allD us fun es => (x :: ds).length = n ∧ es.length = mk ∧ (perm is (x :: ds ++ es)).length = N ∧ p (perm is (x :: ds ++ es)) (fun w => Q (.d (frz w))) noX) X) X) X
def mNQ (m : Str) (n mk N : Nat) (p : P3v) (is : List Nat) (as ks : A3) (S : Env3) (Q : W → Prop) (X : X3) (x : D) : Prop := noM m x ∧ as S (fun ws => ks S (fun us => allD ws fun ds => allD us fun es => (x :: ds).length = n ∧ es.length = mk ∧ (perm is (x :: ds ++ es)).length = N ∧ p (perm is (x :: ds ++ es)) (fun w => Q (.d (frz w))) noX) X) X
def mNA (n mk N : Nat) (p : P3v) (is : List Nat) (x : D) (Q : W → Prop) (ws us : List W) : Prop := allD ws fun ds => allD us fun es => (x :: ds).length = n ∧ es.length = mk ∧ (perm is (x :: ds ++ es)).length = N ∧ p (perm is (x :: ds ++ es)) (fun w => Q (.d (frz w))) noX
/-! instances by keywords alone -/
def x_makeKB0 (C : Addr) (mk N : Nat) (bs : List Bool) (p : PI3) (is : List Nat) (gs : List D) (ks : A3) : T3 := fun S Q X => ks S (fun us => us.length = mk ∧ borD bs (perm is (gs.map W.d ++ us)) fun ds => ds.length = N ∧ p ds (fun fs => Q (.d (.obj C fs))) noX) X
end
/-! ### a method whose answer is new -/
section
variable {F : Fx} {EE : L2.St → XK} {E : XK} {te : TE} {t : T3} {tas : TA} {as : A3} {C : Addr} {m : Str} {n : Nat} {p : P3v} {X : X3} {Q : W → Prop}
def x_methF0 (C : Addr) (m : Str) (n : Nat) (p : P3v) (t : T3) (as : A3) : T3 := fun S Q X => t S (fun w => asO C w fun x => noM m x ∧ as S (fun ws => allD ws fun ds => (x :: ds).length = n ∧ p (x :: ds) (fun w => owned w = true ∧ Q w) noX) X) X
def mFQ (m : Str) (n : Nat) (p : P3v) (as : A3) (S : Env3) (Q : W → Prop) (X : X3) (x : D) : Prop := noM m x ∧ as S (fun ws => allD ws fun ds => (x :: ds).length = n ∧ p (x :: ds) (fun w => owned w = true ∧ Q w) noX) X
def mFA (n : Nat) (p : P3v) (x : D) (Q : W → Prop) (ws : List W) : Prop := allD ws fun ds => (x :: ds).length = n ∧ p (x :: ds) (fun w => owned w = true ∧ Q w) noX
end
/-! ### for x in [new, ..]: x.append(c) -/
structure Told (F : Fx) (M : Addr → Prop) (S : Env3) (σ : L2.St) (H : Hp) (l : Addr) (w : W) : Prop where
  r : RepW F M H (.ref l) w
  o : owned w = true
  ns : ∀ (j : Nat) (w' : W), S[j]? = some (some w') → owned w' = true → σ[j]? ≠ some (some (.ref l))
structure FA3 (F : Fx) (EE : L2.St → XK) (tas : TA) (as : A3) : Prop where
  run : ∀ (M : Addr → Prop) (Tm : List (V × W)) (S : Env3) (σ : L2.St) (H : Hp) (Qv : List V → Hp → Prop) (Q3 : List W → Prop) (X : X3), Rel F M Tm S σ H → as S Q3 X → (∀ (M' : Addr → Prop) (ls : List Addr) (ws : List W) (H' : Hp), Rel F M' Tm S σ H' → All2 (Told F M' S σ H') ls ws → Q3 ws → Qv (ls.map V.ref) H') → LiftX F Tm X EE → tas σ H Qv
section
variable {F : Fx} {EE : L2.St → XK} {te : TE} {t : T3} {tas : TA} {as : A3} {M : Addr → Prop} {Tm : List (V × W)} {S : Env3} {σ : L2.St} {H : Hp} {l : Addr} {o : HO}
def x_told (i : Nat) (as : A3) : TS3 := fun S E X => i < S.length ∧ as S (fun ws => (∀ w ∈ ws, ∃ xs, w = .ol xs ∧ xs.length ≤ 1000) ∧ ws.length ≤ 100 ∧ E.nx (S.set i none)) X
end
end Q
/-! R6e: a law's own def: behind its first statement. -/
namespace Q
open PySem PySem.Spec PyProof.Rows L2
theorem enterMid {K : PySem.W.Frag} {T : List (Addr × Str)} {M : Addr → Prop} {c : Addr} {H : Hp} {S : Env3} {σ : L2.St} {ts : TS} {u : TS3} {Q : VK} {E : XK} (ok : Ok M H c) (hT : ∀ q ∈ T, M q.1) (tab : LamX.Tabs T H) (len : S.length = σ.length)
    (sl : ∀ (i : Nat) (w : W), S[i]? = some (some w) → ∃ v x, σ[i]? = some (some v) ∧ w = .d x ∧ Rep K M c H v x)
    (hs : ∀ (M : Addr → Prop) (c : Addr) (A : Addr → Prop) (H0 : Hp), S3 ⟨K, M, c, A, H0, T⟩ (fun _ => E) ts u)
    (k : ∀ H', Q (.bl true) H') (hu : u S ⟨fun _ => False, fun w => w = .d (.bl true), fun _ => False, fun _ => False⟩ (fun _ => noX)) : ts { nx := fun _ H' => Q .non H', rt := Q } σ H := by
  have R : Rel (fxCall K M c H T) M [] S σ H := by
    refine ⟨⟨ok, fun _ z => z, fun a z => ok.al a z, fun a z => .inl z, .inl rfl, ok.inM, fun p hp => ⟨.inr ⟨p, hp, rfl⟩, hT p hp⟩, Dx.refl, tab⟩, len, fun i w h => ?_, fun i j l w w' h1 _ o1 => ?_, fun p hp => absurd hp (by simp)⟩
    · obtain ⟨v, x, h1, rfl, r⟩ := sl i w h
      exact ⟨v, h1, .d r⟩
    · obtain ⟨v, x, _, rfl, _⟩ := sl i w h1
      cases o1
  refine (hs M c _ H).run M [] _ _ H _ _ (fun _ => noX) (fun p hp => absurd hp (by simp)) R hu ⟨fun _ _ _ _ _ z => z.elim, fun v w H' f r q => ?_, fun _ _ _ _ _ z => z.elim, fun _ _ _ _ _ z => z.elim⟩ fun M' Tm' S' σ' H' C d fs ds' hs' R' md hd rf hx => hx.elim
  subst q
  cases r with
  | d r =>
  cases r
  exact k H'
end Q
/-! R6f: methods called within a try; what the law of webs asks. -/
namespace Q
open PySem PySem.Spec PyProof.Rows L2
/-! ### o.m(e, ..) where the exceptions are wished by the slots -/
def tMethT (C : Addr) (m : Str) (sp : Sp) (E : L2.St → XK) (ta : TE) (t : TA) : TE := fun σ H Q => ta σ H fun x H1 => ∃ a dx fs, x = .ref a ∧ H1 a = some (.ins C dx fs) ∧ fs.lookup m = none ∧
  t σ H1 fun vs H2 => sp (x :: vs) H2 Q (E σ)
section
variable {X : Cx} {CX : CXT} {k n : Nat} {f C : Addr} {fd : FuncData} {ps : List Str} {sp : Sp} {E : L2.St → XK} {x m : Str} {p pos apos : Pos} {e o : Expr} {es : List Expr} {t : TA} {ta : TE}
theorem pe_methT {pl : Sem Bool} (he : PE X o ta) (c : Cls X.K C) (hm : Meth X.K C m f) (F : FnOk X.prog X.w X.K X.mg X.base CX k f fd ps sp) (hr : Room k X.A) (hb : Binds X.K fd ps []) (hx : ∀ σ, PassesAt CX X σ (E σ)) (ha : PA X (e :: es) t)
    (hst : starEach (e :: es) X.env = (false, eval e X.env) :: starEach es X.env := by rfl) (hpl : (backTo pos (starEach es X.env)).any (·.1) = false := by rfl)
    (ht : eval (.Call (.Attribute o m apos) (e :: es) [] pos) X.env = (do
      let ov ← eval o X.env
      standAt apos.atName
      let (f, first) ← holding [ov] (getMethod ov m pl)
      callWith pos f first (backTo pos (starEach (e :: es) X.env)) (backToKw pos (keywordEach [] X.env))) := by rfl) :
    PE X (.Call (.Attribute o m apos) (e :: es) [] pos) (tMethT C m sp E ta t) := by
  refine ⟨fun pins s σ H Q I h => ?_⟩
  refine PySem.W.methodCall_KW (pl := pl) (thn (he.run pins s σ H _ I h) fun u s1 ⟨x, H1, I1, rx, a, dx, fs, ex, ea, l, q⟩ => ?_) ht
  subst ex
  obtain rfl : u = Value.ref a := rx
  refine getmeth_ok I1 ea c hm l ?_
  refine PySem.W.callWith_K (first := [.ref a]) (h₀ := X.base) I.ok.mod.kin hm.kp (thn (ha.run pos pins s1 σ H1 _ I1 q) fun us s2 ⟨vs, H2, I2, r, q2⟩ => ⟨I2.kIn, ?_⟩) hst hpl
  exact run_fnS (us := .ref a :: us) (vs := .ref a :: vs) F hr hb (hx σ) I2 (.cons rfl r) q2
end
section
variable {F : Fx} {EE : L2.St → XK} {te : TE} {t : T3} {tas : TA} {as : A3} {C : Addr} {m : Str} {n : Nat} {p : P3v}
theorem e3_methT (ho : E3 F EE te t) (h : AR3 F EE tas as) : E3 F EE (tMethT C m (Lift3 F.K F.T n p) EE te tas) (x_meth C m n p t as []) := ⟨fun M Tm S σ H Qv Q3 X R h0 k lx => ho.run M Tm S σ H _ _ X R h0 (fun v w H1 R1 r1 q1 => by
  obtain ⟨x, a, dx, fs, fd, rfl, ex, rfl, hl, rf, rx, q2, q3⟩ := asO_get r1 q1
  subst ex
  refine ⟨a, dx, fs, rfl, hl, rf.lookup_none q2, h.run M ((V.ref a, .d (.obj C fd)) :: Tm) S σ H1 _ _ X (R1.push (.d rx)) q3 (fun vs ws H2 R2 r2 q4 => ?_) (lx.push _)⟩
  obtain ⟨R3, rx3⟩ := R2.pop
  cases rx3 with
  | d rx3 =>
  obtain ⟨ds, rd, hn, q⟩ := allD_get r2 q4
  rw [List.append_nil] at hn q
  exact lift_call R3 (.cons rx3 rd) hn q (fun v w H' f r q => k v _ H' (R3.call f) (r.to R3) q) fun C d fs es H' f m hd r hx => lx M Tm S σ H' C d fs es (fun _ z => z) (R3.call f) m hd r hx) lx⟩
end
/-! ### right rows and their web -/
structure RowsOk (ns : List LampT) (es : List BondT) : Prop where
  r : RightR (ns.map rL) (es.map rB)
section
variable {ns : List LampT} {es : List BondT}
theorem RowsOk.l10 (h : RowsOk ns es) : ns.length ≤ 10 := by have := h.r.l10; rwa [List.length_map] at this
theorem RowsOk.l1 (h : RowsOk ns es) : 1 ≤ ns.length := by have := h.r.l1; rwa [List.length_map] at this
theorem RowsOk.b16 (h : RowsOk ns es) : es.length ≤ 16 := by have := h.r.b16; rwa [List.length_map] at this
theorem RowsOk.nd (h : RowsOk ns es) : (ns.map (·.1)).Nodup := by have := h.r.ld; rwa [names_r] at this
theorem RowsOk.bd (h : RowsOk ns es) : (es.map (·.n)).Nodup := by have := h.r.bd; rwa [names_rb] at this
theorem RowsOk.web (h : RowsOk ns es) : WebOk (srtL ns) (srtB (es.map ordT)) := by
  have := kept_ok h.r
  rwa [keptL_of, keptB_of] at this
end
def pairW (K : PySem.W.Frag) (ns : List LampT) (es : List BondT) : D := webD K (srtL ns) (srtB (es.map ordT))
section
variable (K : PySem.W.Frag)
def qHasRows : P3v := fun ds Q _ => ∃ ns es r, ds = [webD K (srtL ns) (srtB (es.map ordT)), planD ns es r] ∧ RowsOk ns es ∧ Q (.d (.bl true))
def qIsBond : P3v := fun ds Q _ => ∃ ls bs b ns, ds = [webD K ls bs, bondD b, .lst (List.map D.int ns)] ∧ WebOk ls bs ∧ b ∈ bs ∧ (∀ n ∈ ns, InR n) ∧ Q (.d (.bl true))
def qIsWeb : P3v := fun ds Q _ => ∃ ns es r li, ds = [webD K (srtL ns) (srtB (es.map ordT)), planD ns es r, .lst (List.map D.int li)] ∧ RowsOk ns es ∧ (∀ n ∈ li, InR n) ∧ Q (.d (.bl true))
end
theorem al_lamp (n : Nat) (l : LampT) : alD (n + 1) (lampD l) = true := al_tup (by show 2 ≤ 1000; decide) fun x hx => by
  rcases List.mem_cons.mp hx with rfl | hx
  · exact al_flat n rfl
  · rw [List.mem_singleton.mp hx]; exact al_end n _
theorem al_bond (n : Nat) (b : BondT) : alD (n + 1) (bondD b) = true := al_tup (by show 5 ≤ 1000; decide) fun x hx => by
  simp only [List.mem_cons, List.not_mem_nil, or_false] at hx
  rcases hx with rfl | rfl | rfl | rfl | rfl
  · exact al_flat n rfl
  · exact al_flat n rfl
  · exact al_flat n rfl
  · exact al_end n _
  · exact al_end n _
theorem al_map {α : Type} {en : α → D} {n : Nat} {as : List α} (l : as.length ≤ 1000) (h : ∀ a ∈ as, alD n (en a) = true) : alD (n + 1) (.lst (as.map en)) = true := al_lst (by rw [List.length_map]; exact l) fun x hx => by
  obtain ⟨a, ha, rfl⟩ := List.mem_map.mp hx
  exact h a ha
theorem al_rows {ls : List LampT} {bs : List BondT} (h1 : ls.length ≤ 1000) (h2 : bs.length ≤ 1000) : alD 5 (.lst (rowsD ls bs)) = true := al_lst (by show 2 ≤ 1000; decide) fun x hx => by
  rcases List.mem_cons.mp hx with rfl | hx
  · exact al_map h1 fun l _ => al_lamp 2 l
  · rw [List.mem_singleton.mp hx]; exact al_map h2 fun l _ => al_bond 2 l
theorem bondAt_of {bs : List BondT} {b : BondT} (nd : (bs.map (·.n)).Nodup) (hb : b ∈ bs) : bondAt bs b.n = some b := by
  cases h : bondAt bs b.n with
  | none => exact absurd (List.find?_eq_none.mp h b hb) (by simp)
  | some c => rw [nodup_mem_eq (f := fun b : BondT => b.n) nd (bondAt_mem h) hb (bondAt_name h)]
theorem onO_some {α : Type} {o : Option α} {a : α} {P : α → Prop} {R : Prop} (e : o = some a) (h : P a) : onO o P R := ⟨fun b hb => by rw [e] at hb; cases hb; exact h, fun z => by rw [e] at z; cases z⟩
end Q
/-! R6g: plans with one change, and their webs. -/
namespace Q
open PySem PySem.Spec PyProof.Rows L2
theorem RightR.lamps {ls ls' : List LampR} {bs : List BondR} (h : RightR ls bs) (e : ls'.map (·.1) = ls.map (·.1)) (hc : ∀ l ∈ ls', erOpen l.2 = none) : RightR ls' bs := by
  have len : ls'.length = ls.length := by rw [← List.length_map (f := (·.1)), e, List.length_map]
  refine ⟨fun l hl => ?_, hc, h.bn, h.sp, by rw [e]; exact h.ld, h.bd, h.ne, fun b hb => by rw [e]; exact h.ka b hb, fun b hb => by rw [e]; exact h.kb b hb, by rw [len]; exact h.l1, by rw [len]; exact h.l10, h.b16⟩
  have : l.1 ∈ ls'.map (·.1) := List.mem_map.mpr ⟨l, hl, rfl⟩
  rw [e] at this
  obtain ⟨l0, h0, e0⟩ := List.mem_map.mp this
  rw [← e0]
  exact h.ln l0 h0
structure BondG (ls : List LampR) (b : BondR) : Prop where
  n : isNm b.n = true
  s : erSpan b.lo b.hi = none
  ne : b.a ≠ b.b
  a : b.a ∈ ls.map (·.1)
  b : b.b ∈ ls.map (·.1)
theorem RightR.good {ls : List LampR} {bs : List BondR} (h : RightR ls bs) {b : BondR} (hb : b ∈ bs) : BondG ls b := ⟨h.bn b hb, h.sp b hb, h.ne b hb, h.ka b hb, h.kb b hb⟩
theorem RightR.bonds {ls : List LampR} {bs bs' : List BondR} (h : RightR ls bs) (g : ∀ b ∈ bs', BondG ls b) (nd : (bs'.map (·.n)).Nodup) (hl : bs'.length ≤ 16) : RightR ls bs' :=
  ⟨h.ln, h.lo, fun b hb => (g b hb).n, fun b hb => (g b hb).s, h.ld, nd, fun b hb => (g b hb).ne, fun b hb => (g b hb).a, fun b hb => (g b hb).b, h.l1, h.l10, hl⟩
section
variable {ns : List LampT} {es : List BondT} {x : Str} {c lo hi : Option Int}
/-! a ceiling -/
theorem RowsOk.setC (h : RowsOk ns es) (hc : erOpen (dEnd3 c) = none) : RowsOk (setC ns x c) es := ⟨h.r.lamps (by rw [names_r, names_r, setC_names]) fun l hl => by
  obtain ⟨l, hl2, rfl⟩ := List.mem_map.mp hl
  obtain ⟨l0, h0, rfl⟩ := List.mem_map.mp hl2
  show erOpen (dEnd3 (if l0.1 = x then (l0.1, c) else l0).2) = none
  split
  · exact hc
  · exact h.r.lo (rL l0) (List.mem_map.mpr ⟨l0, h0, rfl⟩)⟩
/-! a span -/
theorem setS_ord (b : BondT) : ordT (if b.n = x then (⟨b.n, b.a, b.b, lo, hi⟩ : BondT) else b) = if (ordT b).n = x then (⟨(ordT b).n, (ordT b).a, (ordT b).b, lo, hi⟩ : BondT) else ordT b := by
  rw [ordT_n]
  by_cases e : b.n = x
  · rw [if_pos e, if_pos e]
    unfold ordT
    by_cases z : ltS b.b b.a = true
    · rw [if_pos z, if_pos z]
    · rw [if_neg z, if_neg z]
  · rw [if_neg e, if_neg e]
theorem setS_srt (es : List BondT) : Q.setS (srtB (es.map ordT)) x lo hi = srtB ((Q.setS es x lo hi).map ordT) := by
  have e1 : (Q.setS es x lo hi).map ordT = Q.setS (es.map ordT) x lo hi := by
    unfold Q.setS
    rw [List.map_map, List.map_map]
    exact List.map_congr_left fun b _ => setS_ord b
  rw [e1]
  unfold Q.setS srtB
  refine List.map_mergeSort (r := leB) (s := leB) fun a _ b _ => ?_
  unfold leB
  have e : ∀ l : BondT, (if l.n = x then (⟨l.n, l.a, l.b, lo, hi⟩ : BondT) else l).n = l.n := fun l => by split <;> rfl
  rw [e, e]
theorem RowsOk.setS (h : RowsOk ns es) (hc : erSpan (dEnd3 lo) (dEnd3 hi) = none) : RowsOk ns (Q.setS es x lo hi) := ⟨h.r.bonds (fun b hb => by
  obtain ⟨b, hb2, rfl⟩ := List.mem_map.mp hb
  obtain ⟨b0, h0, rfl⟩ := List.mem_map.mp hb2
  have g := h.r.good (b := rB b0) (List.mem_map.mpr ⟨b0, h0, rfl⟩)
  split
  · exact ⟨g.n, hc, g.ne, g.a, g.b⟩
  · exact g) (by rw [names_rb, setS_names]; exact h.bd) (by unfold Q.setS; rw [List.length_map, List.length_map]; exact h.b16)⟩
/-! a bond fewer -/
theorem RowsOk.off (h : RowsOk ns es) : RowsOk ns (offB es x) := ⟨h.r.bonds (fun b hb => by
  obtain ⟨b, hb2, rfl⟩ := List.mem_map.mp hb
  exact h.r.good (List.mem_map.mpr ⟨b, (List.mem_filter.mp hb2).1, rfl⟩)) (by rw [names_rb]; exact List.Nodup.sublist (List.Sublist.map _ List.filter_sublist) h.bd) (by rw [List.length_map]; exact Nat.le_trans (List.length_filter_le _ _) h.b16)⟩
/-! a bond more -/
theorem RowsOk.more (h : RowsOk ns es) {t : BondT} (hl : es.length < 16) (hn : isNm t.n = true) (nn : ¬ t.n ∈ es.map (·.n)) (hs : erSpan (dEnd3 t.lo) (dEnd3 t.hi) = none) (ne : t.a ≠ t.b) (ha : t.a ∈ ns.map (·.1)) (hb : t.b ∈ ns.map (·.1)) : RowsOk ns (es ++ [t]) := ⟨h.r.bonds (fun b hb' => by
  obtain ⟨b, hb2, rfl⟩ := List.mem_map.mp hb'
  rcases List.mem_append.mp hb2 with z | z
  · exact h.r.good (List.mem_map.mpr ⟨b, z, rfl⟩)
  · rw [List.mem_singleton.mp z]
    exact ⟨hn, hs, ne, by rw [names_r]; exact ha, by rw [names_r]; exact hb⟩) (by
  rw [names_rb, List.map_append]
  exact List.nodup_append.mpr ⟨h.bd, List.pairwise_singleton _ _, fun a ha b hb z => by rw [List.mem_singleton.mp hb] at z; rw [z] at ha; exact nn ha⟩) (by rw [List.length_map, List.length_append, List.length_singleton]; omega)⟩
end
end Q
/-! R6h: the promises of the rest of the law of webs. -/
namespace Q
open PySem PySem.Spec PyProof.Rows L2
section
variable (K : PySem.W.Frag)
def pairD (p : List LampT × List BondT) : D := .lst [webD K (srtL p.1) (srtB (p.2.map ordT)), planD p.1 p.2 []]
def qChanges : P3v := fun ds Q _ => ∃ ns es pl, ds = [.store, webD K (srtL ns) (srtB (es.map ordT)), planD ns es [.lst (List.map D.int pl)]] ∧ PlanOk ns es pl ∧ ∀ prs : List (List LampT × List BondT), (∀ p ∈ prs, RowsOk p.1 p.2) → prs.length ≤ 5 → Q (.ol (prs.map (pairD K)))
def saidU (x : Str) : D := .tup [.str "Unknown", .str x, .bl true, .bl false]
def qAsked : P3v := fun ds Q _ => ∃ ls bs one two v, ∃ k : Int, ds = [webD K ls bs, .int k, .str one, .str two, v] ∧ WebOk ls bs ∧ 0 ≤ k ∧ k ≤ 8 ∧
  ((v = .int 0 ∧ (k ≤ 2 → lampAt ls one = none) ∧ (2 < k → bondAt bs one = none) ∧ Q (.d (saidU one))) ∨
   ((k = 2 ∨ k = 5 ∨ k = 6) ∧ flat4 v ∧ v ≠ .non ∧ isNumD v = false ∧ Q (.d (.tup [.str "BadNumber", v, .bl true, .bl false]))) ∨
   (k = 8 ∧ ∃ b, bondAt bs one = some b ∧ ((two = b.a ∨ two = b.b) → Q (.d (.str "fine"))) ∧ (¬ (two = b.a ∨ two = b.b) → Q (.d (saidU two)))))
def qOdd : P3v := fun ds Q _ => ∃ ns es r, ds = [.store, planD ns es r] ∧ RowsOk ns es ∧ ∀ xs : List Str, (∀ x ∈ xs, x.length ≤ 100) → (Str.ofString "") ∈ xs → xs.length ≤ 100 → Q (.d (.lst (xs.map D.str)))
def qRefuses : P3v := fun ds Q _ => ∃ ns es r, ds = [.store, webD K (srtL ns) (srtB (es.map ordT)), planD ns es r] ∧ RowsOk ns es ∧ Q (.d (.bl true))
end
end Q
/-! R6i: what the refusals need. -/
namespace Q
open PySem PySem.Spec PyProof.Rows L2
section
variable {ns : List LampT} {es : List BondT} {x : Str}
theorem mem_posts : x ∈ srtS (ns.map (·.1)) ↔ x ∈ ns.map (·.1) := by
  rw [← srtL_names]
  exact ((srtL_perm ns).map (·.1)).mem_iff
theorem mem_labels : x ∈ srtS (es.map (·.n)) ↔ x ∈ es.map (·.n) := by
  rw [← srtB_names]
  exact ((srtB_perm es).map (·.n)).mem_iff
theorem RowsOk.nmx (h : RowsOk ns es) : ∀ y, y ∈ ns.map (·.1) → isNm y = true := fun y hy => by
  obtain ⟨l, hl, rfl⟩ := List.mem_map.mp hy
  exact h.r.ln (rL l) (List.mem_map.mpr ⟨l, hl, rfl⟩)
theorem RowsOk.nmb (h : RowsOk ns es) : ∀ y, y ∈ es.map (·.n) → isNm y = true := fun y hy => by
  obtain ⟨l, hl, rfl⟩ := List.mem_map.mp hy
  exact h.r.bn (rB l) (List.mem_map.mpr ⟨l, hl, rfl⟩)
theorem no_empty : isNm (Str.ofString "") = false := by decide +kernel
theorem RowsOk.e1 (h : RowsOk ns es) : ¬ Str.ofString "" ∈ srtS (ns.map (·.1)) := fun z => by
  have := h.nmx _ (mem_posts.mp z)
  rw [no_empty] at this
  cases this
theorem RowsOk.e2 (h : RowsOk ns es) : ¬ Str.ofString "" ∈ srtS (es.map (·.n)) := fun z => by
  have := h.nmb _ (mem_labels.mp z)
  rw [no_empty] at this
  cases this
end
end Q
/-! R6j: a law whose top has a table. -/
namespace Q
open PySem PySem.Spec PyProof.Rows L2
theorem ok_tab {H : Hp} {c P : Addr} {q : Str} (ok1 : Ok (Only1 c) H c) (tab : LamX.Tabs [(P, q)] H) : Ok (fun b => b = c ∨ b = P) H c := by
  obtain ⟨ps, hP, _⟩ := tab (P, q) List.mem_cons_self
  obtain ⟨p, i, rest, left, n', x, y, cells, h1, h2, h3, h4⟩ := ok1.st.ex
  refine ⟨.inl rfl, fun a z => ?_, ⟨p, i, rest, left, n', x, y, cells, h1, h2, fun z => ?_, h4⟩⟩
  · rcases z with z | z
    · exact ok1.al a z
    · rw [z, hP]; exact fun q => nomatch q
  · rcases z with z | z
    · exact h3 z
    · rw [z, hP] at h2; cases h2
/-- what a law promises whose defs use the tables T -/
def pLawT (K : PySem.W.Frag) (T : List (Addr × Str)) : P1 := fun v0 H Q _ => ∃ (a : Addr) (ns : List Int), v0 = .ref a ∧ SqL K H a (ns.map V.int) ∧ ns.length ≤ 63 ∧ LamX.Tabs T H ∧ ∀ H', Q (.bl true) H'
end Q
/-! R6k: the law of webs itself. -/
namespace Q
open PySem PySem.Spec PyProof.Rows L2
section
variable {Q : W → Prop}
end
def flipB (b : BondT) : BondT := ⟨b.n, b.b, b.a, b.lo, b.hi⟩
section
variable {ns ns' : List LampT} {es es' : List BondT}
theorem RowsOk.lens (h : RowsOk ns es) : ∀ b ∈ es, b.n.length ≤ 1000 ∧ b.a.length ≤ 1000 ∧ b.b.length ≤ 1000 := fun b hb => by
  have g := h.r.good (b := rB b) (List.mem_map.mpr ⟨b, hb, rfl⟩)
  have ga := g.a
  have gb := g.b
  rw [names_r] at ga gb
  have h1 := nm_len g.n
  have h2 := nm_len (h.nmx _ ga)
  have h3 := nm_len (h.nmx _ gb)
  exact ⟨by have : b.n.length ≤ 8 := h1; omega, by have : b.a.length ≤ 8 := h2; omega, by have : b.b.length ≤ 8 := h3; omega⟩
theorem RowsOk.perm (h : RowsOk ns es) (p : ns'.Perm ns) (q : es'.Perm es) : RowsOk ns' es' := ⟨h.r.perm (p.symm.map rL) (q.symm.map rB)⟩
end
end Q
/-! R6l: a Hook that tells of an empty table, too. -/
namespace Q
open PySem PySem.Spec PyProof.Rows L2
def emO : Option Obj → Bool
  | some ⟨.none, none, .fields vs, sl⟩ => vs.size == 0 && sl.size == 0
  | _ => false
theorem emO_ok {o : Option Obj} (h : emO o = true) : o = some { cls := .none, data := .fields #[] } := by
  unfold emO at h
  split at h
  · rename_i vs sl
    obtain ⟨h1, h2⟩ := Bool.and_eq_true_iff.mp h
    have e1 : vs = #[] := Array.eq_empty_of_size_eq_zero (by simpa using h1)
    have e2 : sl = #[] := Array.eq_empty_of_size_eq_zero (by simpa using h2)
    subst e1 e2
    rfl
  · cases h
/-- what the names reach, but the empty tables -/
def asW (n : Nat) (g : Addr → Option Obj) : List Addr := (He5.asA g n).filter fun a => !emO (g a)
def KW (n : Nat) (g : Addr → Option Obj) : PySem.W.Frag := He.frG g (asW n g)
section
variable (n : Nat) (fa : List He.Fa) (fn : List He5.DefA) (ex : PySem.W.Frag → Bool) (tb : (Addr → Option Obj) → PySem.W.Frag → Bool) (TH : PySem.W.Frag → Heap → Prop)
def lookT (g : Addr → Option Obj) : He.AlD × (Bool × Bool) := (He5.obsA fa fn (KW n g), (ex (KW n g), tb g (KW n g)))
def hookT (hT : ∀ (h : Heap) (K : PySem.W.Frag), tb h.get? K = true → TH K h) (hk : ∀ (K : PySem.W.Frag) (h h' : Heap), TH K h → (∀ b o, h.get? b = some o → h'.get? b = some o) → TH K h') : PySem.W.Hook where
  α := He.AlD × (Bool × Bool)
  obs := fun s => lookT n fa fn ex tb s.heap.get?
  val := fun _ => (He5.valA fn, (true, true))
  says := fun _ h => ∃ K : PySem.W.Frag, K.In h ∧ SaysQ fa fn ex K ∧ TH K h
  of := fun _ s e => ⟨KW n s.heap.get?, He.frG_in, ⟨congrArg Prod.fst e, congrArg (fun z => z.2.1) e⟩, hT _ _ (congrArg (fun z => z.2.2) e)⟩
  keeps := fun _ h h' ⟨K, hK, c, t⟩ k => ⟨K, PySem.W.Frag.In.keeps hK k, c, hk K h h' t k⟩
end
theorem lookT_eq {n : Nat} {fa : List He.Fa} {fn : List He5.DefA} {ex : PySem.W.Frag → Bool} {tb : (Addr → Option Obj) → PySem.W.Frag → Bool} {TH : PySem.W.Frag → Heap → Prop} {hT : ∀ (h : Heap) (K : PySem.W.Frag), tb h.get? K = true → TH K h} {hk : ∀ (K : PySem.W.Frag) (h h' : Heap), TH K h → (∀ b o, h.get? b = some o → h'.get? b = some o) → TH K h'} {g : Addr → Option Obj} {s : Shared} (h : ∀ a, g a = s.heap.get? a) :
    lookT n fa fn ex tb g = (hookT n fa fn ex tb TH hT hk).obs s := by
  have e : g = s.heap.get? := funext h
  rw [e]
  rfl
end Q
/-! R7a: rows that may be wrong, as data; what the law of wrong rows wants. -/
namespace Q
open PySem PySem.Spec PyProof.Rows L2
def lampRD (l : LampR) : D := .tup (lampRow l)
def bondRD (b : BondR) : D := .tup (bondRow b)
def rawD (ls : List LampR) (bs : List BondR) : D := .lst [.lst (ls.map lampRD), .lst (bs.map bondRD)]
/-- rows as they may come: short texts, flat values -/
structure RawOk (ls : List LampR) (bs : List BondR) : Prop where
  l : ls.length ≤ 30
  b : bs.length ≤ 40
  ok : ∀ l ∈ ls, l.1.length ≤ 100 ∧ flat4 l.2
  ob : ∀ b ∈ bs, b.n.length ≤ 100 ∧ b.a.length ≤ 100 ∧ b.b.length ≤ 100 ∧ flat4 b.lo ∧ flat4 b.hi
/-- an error as the law tells it: its class, its attributes in the order of their making -/
def dueD (e : Er) : List D := .str (Str.ofString e.1) :: e.2.reverse.map (·.2)
def webDue (ls : List LampR) (bs : List BondR) : D := match rowsErr ls bs with
  | none => .non
  | some e => .tup (dueD e)
def qWebDue : P3v := fun ds Q _ => ∃ ls bs, ds = [.lst (ls.map lampRD), .lst (bs.map bondRD)] ∧ RawOk ls bs ∧ Q (.d (webDue ls bs))
/-- the first text that an earlier one equals -/
def dupS : List Str → List Str → Option Str
  | _, [] => none
  | seen, x :: r => if x ∈ seen then some x else dupS (seen ++ [x]) r
theorem dup_er : ∀ (xs seen : List Str), erDup seen xs = (dupS seen xs).map fun x => (("Doubled", [("name", .str x)]) : Er)
  | [], _ => rfl
  | x :: xs, seen => by
    show (if x ∈ seen then some _ else erDup (seen ++ [x]) xs) = (if x ∈ seen then some x else dupS (seen ++ [x]) xs).map _
    by_cases h : x ∈ seen
    · rw [if_pos h, if_pos h]; rfl
    · rw [if_neg h, if_neg h]; exact dup_er xs _
def optS : Option Str → D
  | none => .non
  | some x => .str x
def qFirstDouble : P3v := fun ds Q _ => ∃ xs : List Str, ds = [.lst (xs.map D.str)] ∧ xs.length ≤ 1000 ∧ Q (.d (optS (dupS [] xs)))
end Q
/-! R7b: drawn texts and bad numbers over data. -/
namespace Q
open PySem PySem.Spec PyProof.Rows L2
def qText (lo hi : Nat) : P3v := fun ds Q _ => ds = [.store] ∧ ∀ x : Str, lo ≤ x.length → x.length ≤ hi → Q (.d (.str x))
def qBadNum : P3v := fun ds Q _ => ∃ b : Bool, ds = [.store, .bl b] ∧ ∀ v : D, flat4 v → v ≠ .non → Q (.d v)
section
variable {K : PySem.W.Frag} {T : List (Addr × Str)} {M : Addr → Prop} {c : Addr} {H : Hp} {lo hi : Nat}
theorem br_text : ∀ vs H Q E, Lift3 K T 1 (qText lo hi) vs H Q E → Sp1 (pDraw (IsText lo hi)) vs H Q E := by
  rintro vs H Q E ⟨M, c, ds, Q3, X, ok, hT, tab, r, hn, ⟨rfl, q⟩, k, kx⟩
  obtain ⟨v, rfl, r1⟩ := reps_1 r
  rw [rep_store r1]
  exact ⟨_, rfl, c, M, rfl, ok, fun r H' hr d ok' => by
    obtain ⟨x, rfl, h1, h2⟩ := hr
    exact k _ _ H' (fin_dx1 tab ok d ok') (.d (.str x)) (q x h1 h2)⟩
theorem br_badNum : ∀ vs H Q E, Lift3 K T 2 qBadNum vs H Q E → Sp2 pBadNumber vs H Q E := by
  rintro vs H Q E ⟨M, c, ds, Q3, X, ok, hT, tab, r, hn, ⟨b, rfl, q⟩, k, kx⟩
  obtain ⟨v, u, rfl, r1, r2⟩ := reps_2 r
  rw [rep_store r1]
  have e2 : u = .bl b := by cases r2; rfl
  subst e2
  refine ⟨_, _, rfl, c, M, b, rfl, rfl, ok, fun r H' hr d ok' => ?_⟩
  obtain ⟨hb, _⟩ := hr
  obtain ⟨x, rfl⟩ | ⟨x, rfl⟩ : (∃ i, r = .int i) ∨ (∃ b, r = .bl b) := by
    unfold IsBad at hb
    cases r with
    | int i => exact .inl ⟨i, rfl⟩
    | bl b => exact .inr ⟨b, rfl⟩
    | _ => simp at hb
  · exact k _ _ H' (fin_dx1 tab ok d ok') (.d (.int x)) (q _ True.intro fun z => nomatch z)
  · exact k _ _ H' (fin_dx1 tab ok d ok') (.d (.bl x)) (q _ True.intro fun z => nomatch z)
end
end Q
/-! R7c: lists that are lent to a call; items set; bent rows. -/
namespace Q
open PySem PySem.Spec PyProof.Rows L2
/-! ### lists of one's own that a call may read -/
def lendOk : W → Prop
  | .d _ => True
  | .ol (.tup _ :: _) => True
  | _ => False
def lendAll : List W → Prop
  | [] => True
  | w :: ws => lendOk w ∧ lendAll ws
def flatU (d : D) : Bool := flatD d || flatT d
def x_lend (n : Nat) (p : P3v) (as : A3) : T3 := fun S Q X => as S (fun ws => lendAll ws ∧ (ws.map frz).length = n ∧ p (ws.map frz) (fun w => ∃ x, w = .d x ∧ flatU x = true ∧ Q (.d x)) noX) X
section
variable {F : Fx} {EE : L2.St → XK} {E : XK} {M : Addr → Prop} {H : Hp}
/-- the addresses that are lent -/
inductive Lent (H : Hp) : List V → List W → Addr → Prop
  | hd {a : Addr} {us : List V} {x : List D} {r : List D} {vs : List V} {ws : List W} (h : H a = some (.lst us)) (b : Addr) (r' : List V) (e : us = .ref b :: r') : Lent H (.ref a :: vs) (.ol (.tup x :: r) :: ws) a
  | tl {a : Addr} {v : V} {w : W} {vs : List V} {ws : List W} (h : Lent H vs ws a) : Lent H (v :: vs) (w :: ws) a
theorem Lent.ex {a : Addr} : ∀ {vs : List V} {ws : List W}, Lent H vs ws a → ∃ b r, H a = some (.lst (.ref b :: r))
  | _, _, .hd h b r' e => ⟨b, r', by rw [h, e]⟩
  | _, _, .tl h => h.ex
theorem lent_c {a : Addr} : ∀ {vs : List V} {ws : List W}, RepWs F M H vs ws → Lent H vs ws a → a ≠ F.c
  | _, _, .cons h _, .hd _ _ _ _ => by
    cases h with
    | ol o n h r => exact o.c
  | _, _, .cons _ t, .tl l => lent_c t l
theorem rep_tup_ref {K : PySem.W.Frag} {M : Addr → Prop} {c : Addr} {v : V} {x : List D} (r : Rep K M c H v (.tup x)) : ∃ b, v = .ref b := by
  cases r with
  | tup m h r => exact ⟨_, rfl⟩
  | kt h r => exact ⟨_, rfl⟩
theorem lend_reps {L : Addr → Prop} : ∀ {vs : List V} {ws : List W}, RepWs F M H vs ws → lendAll ws → (∀ a, Lent H vs ws a → L a) → Reps F.K (fun a => M a ∧ ¬ L a) F.c H vs (ws.map frz)
  | _, _, .nil, _, _ => .nil
  | _, _, .cons (w := w) h t, ok, hL => by
    have T := lend_reps t ok.2 fun a l => hL a (.tl l)
    cases h with
    | d r => exact .cons (r.less fun a z => z.1) T
    | @ol l vs xs o n hl r =>
      cases xs with
      | nil => exact ok.1.elim
      | cons x xs =>
        cases x with
        | tup y =>
          refine .cons (.lst (fun z => z.2 (hL l ?_)) hl (r.less fun a z => z.1)) T
          cases r with
          | cons h0 t0 =>
            obtain ⟨b, rfl⟩ := rep_tup_ref h0
            exact .hd hl b _ rfl
        | _ => exact ok.1.elim
    | _ => exact ok.1.elim
theorem flatU_rep {K : PySem.W.Frag} {M N : Addr → Prop} {c : Addr} {H' : Hp} {v : V} {x : D} (r : Rep K N c H' v x) (f : flatU x = true) (k : ∀ a us, H' a = some (.tup us) → ¬ N a → ¬ M a) : Rep K M c H' v x := by
  unfold flatU at f
  cases r with
  | tup m h rs => exact .tup (k _ _ h m) h (flats_anyD rs f)
  | kt h rs => exact .kt h (flats_anyD rs f)
  | non => exact .non
  | bl b => exact .bl b
  | int i => exact .int i
  | str x => exact .str x
  | _ => cases f
theorem e3_lend {n : Nat} {p : P3v} {tas : TA} {as : A3} (h : AR3 F EE tas as) : E3 F EE (tCall (Lift3 F.K F.T n p) [] E tas) (x_lend n p as) := ⟨fun M Tm S σ H Qv Q3 X R h0 k lx => h.run M Tm S σ H _ _ X R h0 (fun vs ws H1 R1 r1 q1 => by
  obtain ⟨hl, hn, q⟩ := q1
  rw [List.append_nil]
  have sub : ∀ a, (M a ∧ ¬ Lent H1 vs ws a) → M a := fun a z => z.1
  have lT : ∀ a, Lent H1 vs ws a → ∀ p ∈ F.T, p.1 ≠ a := fun a z => by
    obtain ⟨b, r, e⟩ := z.ex
    exact ne_tab R1.heq.tab e fun _ z => nomatch z
  refine ⟨fun a => M a ∧ ¬ Lent H1 vs ws a, F.c, _, _, noX, R1.heq.ok.less ⟨R1.heq.ok.inM, fun z => lent_c r1 z rfl⟩ sub, fun q hq => ⟨R1.heq.sub _ (R1.heq.tA q hq).2, fun z => lT _ z q hq rfl⟩, R1.heq.tab, lend_reps r1 hl fun a z => z, hn, q, fun w' w H' f r q' => ?_, fun C d fs es H' f m hd r hx => hx.elim⟩
  obtain ⟨x, rfl, hx, q'⟩ := q'
  have st : ∀ a, Lent H1 vs ws a → ∃ b r, H' a = some (.lst (.ref b :: r)) := fun a z => by
    obtain ⟨b, r, e⟩ := z.ex
    refine ⟨b, r, f.dx.st a _ (fun y => ?_) e⟩
    rcases y with y | ⟨p, hp, y⟩
    · exact lent_c r1 z y
    · exact lT a z p hp y
  have okM : Ok M H' F.c := by
    obtain ⟨p, i', rest, left, n', a, b, cells, g1, g2, g3, g4⟩ := f.ok.st.ex
    refine ⟨R1.heq.ok.inM, fun a z e => R1.heq.ok.al a z (f.dx.dm a e), ⟨p, i', rest, left, n', a, b, cells, g1, g2, fun z => g3 ⟨z, fun e => ?_⟩, g4⟩⟩
    obtain ⟨b', r', e'⟩ := st _ e
    rw [e'] at g2
    have ev : V.ref b' :: r' = cells.map V.int := by
      injection g2 with g
      injection g
    cases cells with
    | nil => cases ev
    | cons c0 cr => exact nomatch (List.cons.inj ev).1
  refine k _ _ H' (R1.next f.dx okM f.tab) ?_ q'
  cases r with
  | d r => exact .d (flatU_rep r hx fun a us e m z => m ⟨z, fun y => by
      obtain ⟨b', r', e'⟩ := st _ y
      rw [e] at e'
      cases e'⟩)) lx⟩
end
section
variable {S : Env3} {Q : W → Prop} {R : Env3 → Prop} {X : X3} {E : Ends3} {as : A3} {n : Nat} {p : P3v} {i j : Nat} {te ti : T3} {xs : List D} {x : D} {k : Int}
def lendQ (n : Nat) (p : P3v) (Q : W → Prop) (ws : List W) : Prop := lendAll ws ∧ (ws.map frz).length = n ∧ p (ws.map frz) (fun w => ∃ x, w = .d x ∧ flatU x = true ∧ Q (.d x)) noX
theorem k_lend (h : as S (lendQ n p Q) X) : x_lend n p as S Q X := h
/-! ### xs[k] = e -/
def setLK (i : Nat) (xs : List D) (x : D) (S : Env3) (E : Ends3) (k : Int) : Prop := ∃ j, ixN xs.length k = some j ∧ E.nx (S.set i (some (.ol (xs.set j x))))
def setLQ (i : Nat) (ti : T3) (S : Env3) (E : Ends3) (X : X3) (x : D) : Prop := match S[i]? with
  | some (some (.ol xs)) => ti S (fun wi => aI wi (setLK i xs x S E)) X
  | _ => False
theorem k_setL (h : te S (fun w => asD w (setLQ i ti S E X)) X) : x_setL i te ti S E X := h
theorem k_setLo (e : S[i]? = some (some (.ol xs))) (h : ti S (fun wi => aI wi (setLK i xs x S E)) X) : setLQ i ti S E X x := by
  unfold setLQ
  rw [e]
  exact h
theorem k_setLr (e : ixN xs.length k = some j) (h : E.nx (S.set i (some (.ol (xs.set j x))))) : setLK i xs x S E k := ⟨j, e, h⟩
theorem ixN_of {n : Nat} {k : Int} (h0 : 0 ≤ k) (h1 : k < n) : ixN n k = some k.toNat := by
  unfold ixN
  rw [if_pos h0, if_pos h1]
theorem k_setLi (h0 : 0 ≤ k) (h1 : k < xs.length) (h : E.nx (S.set i (some (.ol (xs.set k.toNat x))))) : setLK i xs x S E k := ⟨_, ixN_of h0 h1, h⟩
theorem k_takeA {n : Int} {XC : XP} (h0 : -1000000000000000000 ≤ n) (h1 : n ≤ 1000000000000000000) (k : ∀ r : Int, 0 ≤ r → (r < n ∨ n ≤ 1 ∧ r = 0) → Q (.d (.int r))) : qTake [.store, .int n] Q XC := ⟨n, rfl, h0, h1, fun r a b => k r a (by split at b <;> omega)⟩
theorem k_pickL {XC : XP} {α : Type} {en : α → D} {as : List α} (h0 : 0 < as.length) (h1 : as.length ≤ 100000) (k : ∀ a ∈ as, Q (.d (en a))) : qPick [.store, .lst (as.map en)] Q XC := .inr ⟨_, rfl, by rw [List.length_map]; exact h0, by rw [List.length_map]; exact h1, fun x hx => by
  obtain ⟨a, ha, rfl⟩ := List.mem_map.mp hx
  exact k a ha⟩
theorem k_pickZ {XC : XP} {z : Str} (h0 : 0 < z.length) (h1 : z.length ≤ 100000) (k : ∀ y : Str, y.length = 1 → Q (.d (.str y))) : qPick [.store, .str z] Q XC := .inl ⟨z, rfl, h0, h1, fun ch _ => k _ rfl⟩
end
/-! ### rows that may be wrong -/
def RawB (n : Nat) (b : BondR) : Prop := b.n.length ≤ n ∧ b.a.length ≤ n ∧ b.b.length ≤ n ∧ flat4 b.lo ∧ flat4 b.hi
def RawL (n : Nat) (l : LampR) : Prop := l.1.length ≤ n ∧ flat4 l.2
structure RawR (n : Nat) (ls : List LampR) (bs : List BondR) : Prop where
  l : ls.length + 10 ≤ n
  b : bs.length ≤ 20
  ol : ∀ l ∈ ls, RawL n l
  ob : ∀ b ∈ bs, RawB n b
theorem RawB.mono {n m : Nat} {b : BondR} (h : RawB n b) (l : n ≤ m) : RawB m b := ⟨by have := h.1; omega, by have := h.2.1; omega, by have := h.2.2.1; omega, h.2.2.2⟩
theorem RawL.mono {n m : Nat} {b : LampR} (h : RawL n b) (l : n ≤ m) : RawL m b := ⟨by have := h.1; omega, h.2⟩
theorem RawR.ok {n : Nat} {ls : List LampR} {bs : List BondR} (h : RawR n ls bs) (l : n ≤ 40) : RawOk ls bs := ⟨by have := h.l; omega, by have := h.b; omega, fun x hx => ⟨by have := (h.ol x hx).1; omega, (h.ol x hx).2⟩, fun x hx => by
  obtain ⟨a, b, c, d, e⟩ := h.ob x hx
  exact ⟨by omega, by omega, by omega, d, e⟩⟩
theorem flat_of4 {x : D} (h : flat4 x) : flatD x = true := by
  cases x <;> first | rfl | exact h.elim
theorem flat_lampR {n : Nat} {l : LampR} (h : RawL n l) : flatT (lampRD l) = true := by
  show (true && (flatD l.2 && true)) = true
  rw [flat_of4 h.2]
  rfl
theorem flat_bondR {n : Nat} {b : BondR} (h : RawB n b) : flatT (bondRD b) = true := by
  show (true && (true && (true && (flatD b.lo && (flatD b.hi && true))))) = true
  rw [flat_of4 h.2.2.2.1, flat_of4 h.2.2.2.2]
  rfl
/-! ### promises -/
def PoolOk (ns : List Int) : Prop := 0 < ns.length ∧ ns.length ≤ 1000 ∧ ∀ i ∈ ns, InR i
def qStranger : P3v := fun ds Q _ => ∃ (us : List Str) (n : Nat), ds = [.store, .lst (us.map D.str)] ∧ us.length ≤ 50 ∧ (∀ u ∈ us, u.length ≤ n) ∧ 20 ≤ n ∧ n ≤ 80 ∧ ∀ x : Str, x.length ≤ n + 1 → Q (.d (.str x))
/-- a bond between posts that may be alike -/
structure EdgeW (ps : List Str) (b : BondT) : Prop where
  ka : b.a ∈ ps
  kb : b.b ∈ ps
  ne : ps.Nodup → b.a ≠ b.b
  sp : erSpan (dEnd3 b.lo) (dEnd3 b.hi) = none
def qEdgesW : P3v := fun ds Q _ => ∃ (ps lb : List Str) (ns : List Int), ds = [.store, .lst (ps.map D.str), .lst (lb.map D.str), .lst (ns.map D.int)] ∧ ps.length ≤ 20 ∧ lb.length ≤ 17 ∧ 0 < ns.length ∧ ns.length ≤ 100000 ∧ (∀ n ∈ ns, InR n) ∧
  ∀ es : List BondT, es.map (·.n) = (if 2 ≤ ps.length then lb else []) → (∀ b ∈ es, EdgeW ps b) → Q (.ol (es.map bondD))
def qBentEdge : P3v := fun ds Q _ => ∃ (bs : List BondR) (k n : Nat) (ns : List Int) (kind : Int) (b : BondR), ds = [.store, .lst (bs.map bondRD), .int k, .lst (ns.map D.int), .int kind] ∧ bs[k]? = some b ∧ bs.length ≤ 100 ∧ (∀ x ∈ bs, RawB n x) ∧ 20 ≤ n ∧ n ≤ 80 ∧ PoolOk ns ∧
  ∀ b' : BondR, RawB (n + 1) b' → (kind = 8 ∨ kind = 9 → b'.n = b.n ∧ b'.a = b.a ∧ b'.b = b.b) → Q (.d (bondRD b'))
def qBentWeb : P3v := fun ds Q _ => ∃ (ls : List LampR) (bs : List BondR) (ns : List Int) (n : Nat), ds = [.store, .lst (ls.map lampRD), .lst (bs.map bondRD), .lst (ns.map D.int)] ∧ RawR n ls bs ∧ 20 ≤ n ∧ n ≤ 21 ∧ PoolOk ns ∧
  ∀ ls' bs', RawR (n + 1) ls' bs' → Q (.ol [.lst (ls'.map lampRD), .lst (bs'.map bondRD)])
section
variable (K : PySem.W.Frag)
def qAsked7 : P3v := fun ds Q _ => ∃ (k : Int) (dl db : D) (ls : List LampR) (bs : List BondR), ds = [.int k, dl, db] ∧ LampsD dl ls ∧ BondsD db bs ∧
  (k = 0 ∨ (k = 1 ∨ k = 2) ∧ db = .lst (bs.map bondRD) ∧ ∃ bs0 b, bs = bs0 ++ [b] ∧ RightR ls bs0 ∧ (k = 2 → RightR ls (bs0 ++ [⟨b.n, b.a, b.b, .non, .non⟩]))) ∧
  Sc (rowsErr ls bs) (Q (.ol [.lst ((keptL ls).map lampD), .lst ((keptB bs).map bondD)])) (fun e => Q (.d (.tup (dueD e ++ [.bl true, .bl false]))))
end
def qHolds7 : P3v := fun ds Q _ => ∃ (k : Int) (ls : List LampR) (bs : List BondR) (n : Nat), ds = [.int k, .lst (ls.map lampRD), .lst (bs.map bondRD)] ∧ RawR n ls bs ∧ n ≤ 40 ∧
  (k = 0 ∨ (k = 1 ∨ k = 2) ∧ ∃ bs0 b, bs = bs0 ++ [b] ∧ RightR ls bs0 ∧ (k = 2 → RightR ls (bs0 ++ [⟨b.n, b.a, b.b, .non, .non⟩]))) ∧ Q (.d (.bl true))
structure Plan7 (ls : List LampT) (bs : List BondT) (ns : List Int) : Prop where
  r : RightR (ls.map rL) (bs.map rB)
  p : PoolOk ns
  z : ls.length = 1 → bs = []
def qRows7 : P3v := fun ds Q _ => ds = [.store] ∧ ∀ ls bs ns, Plan7 ls bs ns → Q (.ol [.lst (ls.map lampD), .lst (bs.map bondD), .lst (ns.map D.int)])
def qOneMore : P3v := fun ds Q _ => ∃ ls bs ns, ds = [.store, .lst [.lst (ls.map lampD), .lst (bs.map bondD), .lst (ns.map D.int)]] ∧ Plan7 ls bs ns ∧ ∀ b : BondR, RawB 21 b → Q (.d (.lst ((bs.map rB ++ [b]).map bondRD)))
/-! ### equal data -/
mutual
theorem eqv_refl : ∀ x : D, plainD x = true → eqD x x = true
  | .non, _ => rfl
  | .bl b, _ => by cases b <;> rfl
  | .int i, _ => by show (i == i) = true; exact beq_self_eq_true i
  | .str s, _ => by show (s == s) = true; exact beq_self_eq_true s
  | .lst xs, h => eqvs_refl xs h
  | .tup xs, h => eqvs_refl xs h
  | .dic _, h => nomatch h
  | .obj _ _, h => nomatch h
  | .val _, h => nomatch h
  | .store, h => nomatch h
  | .exc _ _ _ _, h => nomatch h
theorem eqvs_refl : ∀ xs : List D, plainDs xs = true → PyData.eqvAll (pys xs) (pys xs) = true
  | [], _ => rfl
  | x :: xs, h => by
    obtain ⟨h1, h2⟩ := Bool.and_eq_true_iff.mp (show (plainD x && plainDs xs) = true from h)
    show (eqD x x && PyData.eqvAll (pys xs) (pys xs)) = true
    rw [eqv_refl x h1, eqvs_refl xs h2]
    rfl
end
end Q
/-! R7d: the order of errors as the law of wrong rows tells it. -/
namespace Q
open PySem PySem.Spec PyProof.Rows L2
section
variable {g : G3T} {u : TS3} {E : Ends3} {X : X3} {α : Type}
/-- a loop of checks with an invariant of the slots -/
theorem for3_scanI {R : Er → Prop} (en : α → D) (I : Env3 → Prop) (chk : α → Option Er) : ∀ (as : List α) (S : Env3), I S → (∀ a ∈ as, ∀ S nx, I S → Sc (chk a) (∀ S', I S' → nx S') R → g (en a) S fun S' => u S' ⟨nx, E.rt, E.nx, nx⟩ X) →
    Sc (as.findSome? chk) (∀ S, I S → E.nx S) R → for3 g u (as.map en) S E X
  | [], S, hI, _, h => h.ok S hI
  | a :: as, S, hI, hb, h => by
    show g (en a) S _
    rw [List.findSome?_cons] at h
    refine hb a List.mem_cons_self S _ hI ?_
    cases e : chk a with
    | some z => rw [e] at h; exact ⟨(fun q => nomatch q), fun e' q => by cases q; exact h.err⟩
    | none =>
      rw [e] at h
      exact ⟨fun _ S' hI' => for3_scanI en I chk as S' hI' (fun b hb' => hb b (List.mem_cons_of_mem _ hb')) h, fun e' q => nomatch q⟩
end
theorem or_congr {a b c : Option Er} (h : a = none → b = c) : a.or b = a.or c := by
  cases a with
  | none => rw [h rfl]
  | some x => rfl
/-- the values of rows -/
def valsOf (ls : List LampR) (bs : List BondR) : List D := ls.map (·.2) ++ bs.flatMap fun b => [b.lo, b.hi]
theorem find_vals (f : D → Option Er) : ∀ bs : List BondR, (bs.flatMap fun b => [b.lo, b.hi]).findSome? f = bs.findSome? fun b => (f b.lo).or (f b.hi)
  | [] => rfl
  | b :: bs => by
    rw [List.flatMap_cons, List.findSome?_append, find_vals f bs, List.findSome?_cons]
    rw [List.findSome?_cons, List.findSome?_cons, List.findSome?_nil]
    cases f b.lo with
    | some x => rfl
    | none => cases f b.hi <;> rfl
theorem due_eq (ls : List LampR) (bs : List BondR) : rowsErr ls bs = ((ls.map (·.1) ++ bs.map (·.n)).findSome? erName).or (((valsOf ls bs).findSome? erOpen).or ((bs.findSome? fun b => erOrder b.lo b.hi).or
    ((([ls.map (·.1), bs.map (·.n)] : List (List Str)).findSome? (erDup [])).or ((bs.findSome? erSelf).or ((bs.findSome? fun b => ([b.a, b.b] : List Str).findSome? fun x : Str => erKnown x (ls.map (·.1))).or ((erCount ls.length 1 10).or (erCount bs.length 0 16))))))) := by
  have e1 : (([ls.map (·.1), bs.map (·.n)] : List (List Str)).findSome? (erDup [])) = (erDup [] (ls.map (·.1))).or (erDup [] (bs.map (·.n))) := by
    rw [List.findSome?_cons, List.findSome?_cons, List.findSome?_nil]
    cases erDup [] (ls.map (·.1)) with
    | some x => rfl
    | none => cases erDup [] (bs.map (·.n)) <;> rfl
  have e2 : (fun b : BondR => ([b.a, b.b] : List Str).findSome? fun x : Str => erKnown x (ls.map fun l : LampR => l.1)) = fun b : BondR => (erKnown b.a (ls.map (·.1))).or (erKnown b.b (ls.map (·.1))) := by
    funext b
    rw [List.findSome?_cons, List.findSome?_cons, List.findSome?_nil]
    cases erKnown b.a (ls.map (·.1)) with
    | some x => rfl
    | none => cases erKnown b.b (ls.map (·.1)) <;> rfl
  unfold rowsErr valsOf erOrd erEnds
  simp only [e1, e2, List.findSome?_append, List.findSome?_map, find_vals, Option.or_assoc]
  refine or_congr fun h1 => or_congr fun h2 => or_congr fun h3 => or_congr fun h4 => ?_
  have e3 : (bs.findSome? fun b => erSpan b.lo b.hi) = bs.findSome? fun b => erOrder b.lo b.hi := by
    have h4' := find_none.mp h4
    clear h1 h2 h3 h4 e1 e2
    induction bs with
    | nil => rfl
    | cons b bs ih =>
      rw [List.findSome?_cons, List.findSome?_cons, ih fun a ha => h4' a (List.mem_cons_of_mem _ ha)]
      have := or_none.mp (h4' b List.mem_cons_self)
      unfold erSpan
      rw [this.1, this.2]
      rfl
  rw [e3]
  refine or_congr fun h5 => ?_
  have n1 : (ls.map (·.1)).findSome? erName = none := by rw [List.findSome?_map]; exact h1
  have n2 : (bs.map (·.n)).findSome? erName = none := by rw [List.findSome?_map]; exact h2
  rw [List.findSome?_map] at n1 n2
  simp only [n1, n2, Option.none_or, Option.or_assoc]
theorem sc_due {ls : List LampR} {bs : List BondR} {Q : W → Prop} (q : Q (.d (webDue ls bs))) : Sc (rowsErr ls bs) (Q (.d .non)) (fun e => Q (.d (.tup (dueD e)))) := by
  unfold webDue at q
  exact ⟨fun e => by rw [e] at q; exact q, fun x e => by rw [e] at q; exact q⟩
/-- sc_if with a dup -/
theorem sc_dup {xs : List Str} {P : Prop} {R : Er → Prop} (h : Sc (erDup [] xs) P R) : (dupS [] xs = none → P) ∧ ∀ x, dupS [] xs = some x → R ("Doubled", [("name", .str x)]) := by
  rw [dup_er] at h
  exact ⟨fun e => by rw [e] at h; exact h.ok, fun x e => by rw [e] at h; exact h.err⟩
theorem vals_ok {ls : List LampR} {bs : List BondR} (ok : RawOk ls bs) : ∀ v ∈ valsOf ls bs, flat4 v := fun v hv => by
  rcases List.mem_append.mp hv with h | h
  · obtain ⟨l, hl, rfl⟩ := List.mem_map.mp h
    exact (ok.ok l hl).2
  · obtain ⟨b, hb, h⟩ := List.mem_flatMap.mp h
    have := (ok.ob b hb).2.2.2
    simp only [List.mem_cons, List.not_mem_nil, or_false] at h
    rcases h with rfl | rfl
    · exact this.1
    · exact this.2
theorem vals_open {ls : List LampR} {bs : List BondR} (h : (valsOf ls bs).findSome? erOpen = none) : ∀ b ∈ bs, erOpen b.lo = none ∧ erOpen b.hi = none := fun b hb => by
  have := find_none.mp h
  exact ⟨this _ (List.mem_append_right _ (List.mem_flatMap.mpr ⟨b, hb, List.mem_cons_self⟩)), this _ (List.mem_append_right _ (List.mem_flatMap.mpr ⟨b, hb, List.mem_cons_of_mem _ List.mem_cons_self⟩))⟩
end Q
/-! R7e: rows bent at one place. -/
namespace Q
open PySem PySem.Spec PyProof.Rows L2
section
variable {n m : Nat} {ls : List LampR} {bs : List BondR} {l : LampR} {b : BondR} {i : Nat}
theorem RawR.mono (h : RawR n ls bs) (e : n ≤ m) : RawR m ls bs := ⟨by have := h.l; omega, h.b, fun l z => (h.ol l z).mono e, fun b z => (h.ob b z).mono e⟩
theorem RawR.setL (h : RawR n ls bs) (hl : RawL n l) : RawR n (ls.set i l) bs := ⟨by rw [List.length_set]; exact h.l, h.b, fun x hx => by
  rcases List.mem_or_eq_of_mem_set hx with z | z
  · exact h.ol x z
  · rw [z]; exact hl, h.ob⟩
theorem RawR.setB (h : RawR n ls bs) (hb : RawB n b) : RawR n ls (bs.set i b) := ⟨h.l, by rw [List.length_set]; exact h.b, h.ol, fun x hx => by
  rcases List.mem_or_eq_of_mem_set hx with z | z
  · exact h.ob x z
  · rw [z]; exact hb⟩
theorem set_lampR : (ls.map lampRD).set i (lampRD l) = (ls.set i l).map lampRD := List.map_set.symm
theorem set_bondR : (bs.map bondRD).set i (bondRD b) = (bs.set i b).map bondRD := List.map_set.symm
theorem RawR.ins (h : RawR n ls bs) (hl : RawL (n + 1) l) : RawR (n + 1) (ls.take i ++ [l] ++ ls.drop i) bs := ⟨by
  have := h.l
  rw [List.length_append, List.length_append, List.length_take, List.length_drop, List.length_singleton]
  omega, h.b, fun x hx => by
  rcases List.mem_append.mp hx with z | z
  · rcases List.mem_append.mp z with z | z
    · exact (h.ol x (List.mem_of_mem_take z)).mono (by omega)
    · rw [List.mem_singleton.mp z]; exact hl
  · exact (h.ol x (List.mem_of_mem_drop z)).mono (by omega), fun b z => (h.ob b z).mono (by omega)⟩
theorem ins_lampR : (ls.map lampRD).take i ++ [lampRD l] ++ (ls.map lampRD).drop i = (ls.take i ++ [l] ++ ls.drop i).map lampRD := by
  rw [List.map_append, List.map_append, List.map_take, List.map_drop]
  rfl
theorem RawR.cut20 {es : List BondR} (h : RawR n ls bs) (he : ∀ b ∈ es, RawB n b) : RawR n ls ((bs ++ es).take 20) := ⟨h.l, by rw [List.length_take]; omega, h.ol, fun x hx => by
  rcases List.mem_append.mp (List.mem_of_mem_take hx) with z | z
  · exact h.ob x z
  · exact he x z⟩
theorem flat4_end (o : Option Int) : flat4 (dEnd3 o) := by cases o <;> exact True.intro
theorem lend_bonds (h : 0 < bs.length) : lendOk (.ol (bs.map bondRD)) := by
  cases bs with
  | nil => cases h
  | cons b bs => exact True.intro
theorem open_flat {x : D} (h : erOpen x = none) : flat4 x := by
  rcases open_ok h with rfl | ⟨i, rfl, _⟩ <;> exact True.intro
end
end Q
/-! R7f: methods with keywords in a try. -/
namespace Q
open PySem PySem.Spec PyProof.Rows L2
/-- o.m(e, .., k = v, ..) in a try -/
def tMethNT (C : Addr) (m : Str) (n mk : Nat) (sp : Sp) (gV : List V → List V → List V) (E : L2.St → XK) (ta : TE) (t tk : TA) : TE := fun σ H Q => ta σ H fun x H1 => ∃ a dx fs, x = .ref a ∧ H1 a = some (.ins C dx fs) ∧ fs.lookup m = none ∧
  t σ H1 fun vs H2 => tk σ H2 fun zs H3 => (x :: vs).length = n ∧ zs.length = mk ∧ sp (gV (x :: vs) zs) H3 Q (E σ)
section
variable {X : Cx} {CX : CXT} {k n : Nat} {f C : Addr} {fd : FuncData} {ps ks : List Str} {sp : Sp} {E : L2.St → XK} {x m : Str} {p pos apos : Pos} {e o : Expr} {es : List Expr} {kws : List Keyword} {t tk : TA} {ta : TE} {g : List Value → List Value → List Value} {gV : List V → List V → List V}
theorem pe_methNT {pl : Sem Bool} (he : PE X o ta) (c : Cls X.K C) (hm : Meth X.K C m f) (F : FnOk X.prog X.w X.K X.mg X.base CX k f fd ps sp) (hr : Room k X.A) (hb : KBn X.K fd ps n ks g gV) (hx : ∀ σ, PassesAt CX X σ (E σ)) (ha : PA X (e :: es) t) (hkw : PK X kws tk)
    (hall : (backToKw pos (keywordEach kws X.env)).all (·.1.isSome) = true := by rfl) (hks : (backToKw pos (keywordEach kws X.env)).filterMap (·.1) = ks := by rfl)
    (hst : starEach (e :: es) X.env = (false, eval e X.env) :: starEach es X.env := by rfl) (hpl : ((backTo pos (starEach (e :: es) X.env)).any (·.1) || (backToKw pos (keywordEach kws X.env)).any (·.1.isNone)) = false := by rfl)
    (ht : eval (.Call (.Attribute o m apos) (e :: es) kws pos) X.env = (do
      let ov ← eval o X.env
      standAt apos.atName
      let (f, first) ← holding [ov] (getMethod ov m pl)
      callWith pos f first (backTo pos (starEach (e :: es) X.env)) (backToKw pos (keywordEach kws X.env))) := by rfl) :
    PE X (.Call (.Attribute o m apos) (e :: es) kws pos) (tMethNT C m n ks.length sp gV E ta t tk) := by
  refine ⟨fun pins s σ H Q I h => ?_⟩
  refine PySem.W.methodCall_KW (pl := pl) (thn (he.run pins s σ H _ I h) fun u s1 ⟨x, H1, I1, rx, a, dx, fs, ex, ea, l, q⟩ => ?_) ht
  subst ex
  obtain rfl : u = Value.ref a := rx
  refine getmeth_ok I1 ea c hm l ?_
  refine PySem.W.callWith_KW (first := [.ref a]) (h₀ := X.base) I.ok.mod.kin hm.kp hall (thn (ha.run pos pins s1 σ H1 _ I1 q) fun us s2 ⟨vs, H2, I2, r, q2⟩ => ?_) hpl hst
  refine thn (hkw.run pos pins s2 σ H2 _ I2 q2) fun ws s3 ⟨zs, H3, I3, rz, l1, l2, q3⟩ => ⟨I3.kIn, ?_⟩
  rw [hks]
  exact run_fnNS (us := .ref a :: us) (vs := .ref a :: vs) F hr hb (hx σ) I3 (.cons rfl r) rz l1 l2 q3
end
def x_methNT (C : Addr) (m : Str) (n mk N : Nat) (p : P3v) (is : List Nat) (t : T3) (as ks : A3) : T3 := fun S Q X => t S (fun w => asO C w fun x => noM m x ∧ as S (fun ws => ks S (fun us => allD ws fun ds => allD us fun es => (x :: ds).length = n ∧ es.length = mk ∧ (perm is (x :: ds ++ es)).length = N ∧ p (perm is (x :: ds ++ es)) (fun w => Q (.d (frz w))) (X S)) X) X) X
section
variable {F : Fx} {EE : L2.St → XK} {C : Addr} {m : Str} {n mk N : Nat} {p : P3v} {is : List Nat} {te : TE} {t : T3} {tas tks : TA} {as ks : A3} {S : Env3} {Q : W → Prop} {X : X3} {w : W}
theorem e3_methNT (ho : E3 F EE te t) (ha : AR3 F EE tas as) (hk : AR3 F EE tks ks) :
    E3 F EE (tMethNT C m n mk (Lift3 F.K F.T N p) (fun vs zs => perm is (vs ++ zs)) EE te tas tks) (x_methNT C m n mk N p is t as ks) := ⟨fun M Tm S σ H Qv Q3 X R h0 k lx => ho.run M Tm S σ H _ _ X R h0 (fun v w H1 R1 r1 q1 => by
  obtain ⟨x, a, dx, fs, fd, rfl, ex, rfl, hl, rf, rx, q2, q3⟩ := asO_get r1 q1
  subst ex
  refine ⟨a, dx, fs, rfl, hl, rf.lookup_none q2, ?_⟩
  refine args_kw ha hk (Q3 := fun ws us => allD ws fun ds => allD us fun es => (D.obj C fd :: ds).length = n ∧ es.length = mk ∧ (perm is (D.obj C fd :: ds ++ es)).length = N ∧ p (perm is (D.obj C fd :: ds ++ es)) (fun w => Q3 (.d (frz w))) (X S)) (R1.push (.d rx)) q3 (fun vs zs ws us H2 R2 r2 r3 q => ?_) (lx.push _)
  obtain ⟨R3, rx3⟩ := R2.pop
  cases rx3 with
  | d rx3 =>
  obtain ⟨ds, rd, q⟩ := allD_get r2 q
  obtain ⟨es, re, l1, l2, l3, q⟩ := allD_get r3 q
  refine ⟨by rw [List.length_cons, rd.length]; exact l1, by rw [re.length]; exact l2, ?_⟩
  exact lift_call R3 (reps_perm ((Reps.cons rx3 rd).append re) is) l3 q (fun v w H' f r q => k v _ H' (R3.call f) (r.to R3) q) fun C d fs es H' f m hd r hx => lx M Tm S σ H' C d fs es (fun _ z => z) (R3.call f) m hd r hx) lx⟩
def mNTA (n mk N : Nat) (p : P3v) (is : List Nat) (x : D) (Q : W → Prop) (XS : XP) (ws us : List W) : Prop := allD ws fun ds => allD us fun es => (x :: ds).length = n ∧ es.length = mk ∧ (perm is (x :: ds ++ es)).length = N ∧ p (perm is (x :: ds ++ es)) (fun w => Q (.d (frz w))) XS
def mNTQ (m : Str) (n mk N : Nat) (p : P3v) (is : List Nat) (as ks : A3) (S : Env3) (Q : W → Prop) (X : X3) (x : D) : Prop := noM m x ∧ as S (fun ws => ks S (fun us => mNTA n mk N p is x Q (X S) ws us) X) X
theorem k_methNT (h : t S (fun w => asO C w (mNTQ m n mk N p is as ks S Q X)) X) : x_methNT C m n mk N p is t as ks S Q X := h
theorem k_mNTQ {fs : List (Str × D)} (e : fs.lookup m = none) (h : as S (fun ws => ks S (fun us => mNTA n mk N p is (.obj C fs) Q (X S) ws us) X) X) : mNTQ m n mk N p is as ks S Q X (.obj C fs) := ⟨e, h⟩
theorem k_mNTA32 {XS : XP} {x a b c d e : D} (h : p (perm is [x, a, b, c, d, e]) (fun w => Q (.d (frz w))) XS) (l : (perm is [x, a, b, c, d, e]).length = N) : mNTA 4 2 N p is x Q XS [.d a, .d b, .d c] [.d d, .d e] := ⟨rfl, rfl, l, h⟩
end
/-- a try whose suites are looked at once: behind it the goals do not hold them -/
theorem k_tryH {K : PySem.W.Frag} {u : TS3} {l : List Cl3} {S : Env3} {E : Ends3} {X : X3} (I : Env3 → Prop) (Qe : Er → Prop) (h1 : ∀ S' e, I S' → Qe e → XE K (fun C fs => hand3 K E X l S' C fs) e)
    (h2 : ∀ XC : X3, (∀ S' e, I S' → Qe e → XE K (XC S') e) → u S E XC) : x_try K u l S E X := h2 _ h1
end Q
/-! R7g: the classes of errors of rows. -/
namespace Q
open PySem PySem.Spec PyProof.Rows L2
inductive ErK : Er → Prop
  | nm (x : Str) : ErK ("BadName", [("name", .str x)])
  | nb (x : D) (h : flat4 x) : ErK ("BadNumber", [("number", x)])
  | sp (l h : Int) : ErK ("BadSpan", [("high", .int h), ("low", .int l)])
  | db (x : Str) : ErK ("Doubled", [("name", .str x)])
  | sb (x : Str) : ErK ("SelfBond", [("bond", .str x)])
  | un (x : Str) : ErK ("Unknown", [("name", .str x)])
  | rg (n l h : Int) : ErK ("OutOfRange", [("high", .int h), ("low", .int l), ("number", .int n)])
section
variable {e : Er} {a b : Option Er}
theorem or_some (h : a.or b = some e) : a = some e ∨ b = some e := by
  cases a with
  | none => exact .inr h
  | some x => exact .inl h
theorem find_some {α : Type} {f : α → Option Er} {l : List α} (h : l.findSome? f = some e) : ∃ a ∈ l, f a = some e := List.exists_of_findSome?_eq_some h
theorem erk_name {x : Str} (h : erName x = some e) : ErK e := by
  unfold erName at h
  split at h
  · cases h
  · cases h; exact .nm x
theorem erk_open {x : D} (f : flat4 x) (h : erOpen x = some e) : ErK e := by
  unfold erOpen at h
  split at h
  · cases h
  · unfold erNum at h
    split at h
    · cases h
    · cases h; exact .nb _ f
theorem erk_order {x y : D} (h : erOrder x y = some e) : ErK e := by
  unfold erOrder at h
  split at h
  · split at h
    · cases h; exact .sp _ _
    · cases h
  · cases h
theorem erk_dup : ∀ {xs seen : List Str}, erDup seen xs = some e → ErK e
  | [], _, h => nomatch h
  | x :: xs, seen, h => by
    unfold erDup at h
    split at h
    · cases h; exact .db x
    · exact erk_dup h
theorem erk_self {b : BondR} (h : erSelf b = some e) : ErK e := by
  unfold erSelf at h
  split at h
  · cases h; exact .sb _
  · cases h
theorem erk_known {x : Str} {ys : List Str} (h : erKnown x ys = some e) : ErK e := by
  unfold erKnown at h
  split at h
  · cases h
  · cases h; exact .un x
theorem erk_count {n l h : Int} (z : erCount n l h = some e) : ErK e := by
  unfold erCount at z
  split at z
  · cases z; exact .rg _ _ _
  · cases z
theorem erk_rows {ls : List LampR} {bs : List BondR} (hl : ∀ l ∈ ls, flat4 l.2) (hb : ∀ b ∈ bs, flat4 b.lo ∧ flat4 b.hi) (h : rowsErr ls bs = some e) : ErK e := by
  rw [due_eq] at h
  rcases or_some h with h | h
  · obtain ⟨x, _, h⟩ := find_some h
    exact erk_name h
  rcases or_some h with h | h
  · obtain ⟨x, hx, h⟩ := find_some h
    refine erk_open ?_ h
    rcases List.mem_append.mp hx with h | h
    · obtain ⟨l, hl', rfl⟩ := List.mem_map.mp h
      exact hl l hl'
    · obtain ⟨b, hb', h⟩ := List.mem_flatMap.mp h
      have := hb b hb'
      simp only [List.mem_cons, List.not_mem_nil, or_false] at h
      rcases h with rfl | rfl
      · exact this.1
      · exact this.2
  rcases or_some h with h | h
  · obtain ⟨x, _, h⟩ := find_some h
    exact erk_order h
  rcases or_some h with h | h
  · obtain ⟨x, _, h⟩ := find_some h
    exact erk_dup h
  rcases or_some h with h | h
  · obtain ⟨x, _, h⟩ := find_some h
    exact erk_self h
  rcases or_some h with h | h
  · obtain ⟨x, _, h⟩ := find_some h
    obtain ⟨y, _, h⟩ := find_some h
    exact erk_known h
  rcases or_some h with h | h
  · exact erk_count h
  · exact erk_count h
end
end Q
/-! R7h: one bond behind right rows. -/
namespace Q
open PySem PySem.Spec PyProof.Rows L2
/-- the error of one more bond -/
def oneErr (ps lb : List Str) (n : Nat) (b : BondR) : Option Er :=
  (erName b.n).or (((erOpen b.lo).or (erOpen b.hi)).or ((erOrder b.lo b.hi).or ((if b.n ∈ lb then some (("Doubled", [("name", .str b.n)]) : Er) else none).or ((erSelf b).or (((erKnown b.a ps).or (erKnown b.b ps)).or (erCount ((n + 1 : Nat) : Int) 0 16))))))
theorem find_one {α : Type} (f : α → Option Er) (x : α) : [x].findSome? f = f x := by
  rw [List.findSome?_cons, List.findSome?_nil]
  cases f x <;> rfl
theorem dup_snoc : ∀ {xs seen : List Str} {y : Str}, xs.Nodup → (∀ x ∈ xs, ¬ x ∈ seen) → erDup seen (xs ++ [y]) = if y ∈ seen ++ xs then some (("Doubled", [("name", .str y)]) : Er) else none
  | [], seen, y, _, _ => by
    show (if y ∈ seen then some _ else none : Option Er) = _
    rw [List.append_nil]
  | x :: xs, seen, y, nd, hn => by
    have nd' := List.nodup_cons.mp nd
    show (if x ∈ seen then some _ else erDup (seen ++ [x]) (xs ++ [y])) = _
    rw [if_neg (hn x List.mem_cons_self), dup_snoc nd'.2 fun z hz w => by
      rcases List.mem_append.mp w with w | w
      · exact hn z (List.mem_cons_of_mem _ hz) w
      · rw [List.mem_singleton.mp w] at hz; exact nd'.1 hz, List.append_assoc]
    rfl
section
variable {ls : List LampR} {bs : List BondR} {b : BondR}
theorem one_err (h : RightR ls bs) : rowsErr ls (bs ++ [b]) = oneErr (ls.map (·.1)) (bs.map (·.n)) bs.length b := by
  rw [due_eq]
  unfold oneErr
  have e1 : (ls.map (·.1) ++ (bs ++ [b]).map (·.n)).findSome? erName = erName b.n := by
    rw [List.map_append, ← List.append_assoc, List.findSome?_append, find_none.mpr fun x hx => ?_]
    · rw [Option.none_or]
      exact find_one _ _
    rcases List.mem_append.mp hx with z | z
    · obtain ⟨l, hl, rfl⟩ := List.mem_map.mp z
      exact erName_none.mpr (h.ln l hl)
    · obtain ⟨c, hc, rfl⟩ := List.mem_map.mp z
      exact erName_none.mpr (h.bn c hc)
  have sp : ∀ c ∈ bs, erOpen c.lo = none ∧ erOpen c.hi = none ∧ erOrder c.lo c.hi = none := fun c hc => by
    have := h.sp c hc
    unfold erSpan at this
    simpa only [or_none] using this
  have e2 : (valsOf ls (bs ++ [b])).findSome? erOpen = (erOpen b.lo).or (erOpen b.hi) := by
    unfold valsOf
    rw [List.findSome?_append, find_vals, List.findSome?_append, find_none.mpr fun x hx => ?_, find_none.mpr fun c hc => ?_]
    · rw [Option.none_or, Option.none_or]
      exact find_one (fun b : BondR => (erOpen b.lo).or (erOpen b.hi)) b
    · obtain ⟨s1, s2, _⟩ := sp c hc
      rw [s1, s2]
      rfl
    · obtain ⟨l, hl, rfl⟩ := List.mem_map.mp hx
      exact h.lo l hl
  have e3 : ((bs ++ [b]).findSome? fun b => erOrder b.lo b.hi) = erOrder b.lo b.hi := by
    rw [List.findSome?_append, find_none.mpr fun c hc => (sp c hc).2.2]
    rw [Option.none_or]
    exact find_one (fun b : BondR => erOrder b.lo b.hi) b
  have e4 : (([ls.map (·.1), (bs ++ [b]).map (·.n)] : List (List Str)).findSome? (erDup [])) = if b.n ∈ bs.map (·.n) then some (("Doubled", [("name", .str b.n)]) : Er) else none := by
    rw [List.findSome?_cons, List.findSome?_cons, List.findSome?_nil, erDup_none.mpr ⟨h.ld, fun _ _ z => absurd z (by simp)⟩, List.map_append]
    rw [show ([b].map (·.n)) = [b.n] from rfl, dup_snoc h.bd fun _ _ z => absurd z (by simp), List.nil_append]
    by_cases z : b.n ∈ bs.map (·.n)
    · rw [if_pos z]
    · rw [if_neg z]
  have e5 : ((bs ++ [b]).findSome? erSelf) = erSelf b := by
    rw [List.findSome?_append, find_none.mpr fun c hc => erSelf_none.mpr (h.ne c hc)]
    rw [Option.none_or]
    exact find_one erSelf b
  have two : ∀ c : BondR, (([c.a, c.b] : List Str).findSome? fun x : Str => erKnown x (ls.map (·.1))) = (erKnown c.a (ls.map (·.1))).or (erKnown c.b (ls.map (·.1))) := fun c => by
    rw [List.findSome?_cons, List.findSome?_cons, List.findSome?_nil]
    cases erKnown c.a (ls.map (·.1)) with
    | some x => rfl
    | none => cases erKnown c.b (ls.map (·.1)) <;> rfl
  have e6 : ((bs ++ [b]).findSome? fun b => ([b.a, b.b] : List Str).findSome? fun x : Str => erKnown x (ls.map (·.1))) = (erKnown b.a (ls.map (·.1))).or (erKnown b.b (ls.map (·.1))) := by
    rw [List.findSome?_append, find_none.mpr fun c hc => ?_, List.findSome?_cons, List.findSome?_nil, two b]
    · cases (erKnown b.a (ls.map (·.1))).or (erKnown b.b (ls.map (·.1))) <;> rfl
    · rw [two c, erKnown_none.mpr (h.ka c hc), erKnown_none.mpr (h.kb c hc)]
      rfl
  have e7 : erCount (ls.length : Int) 1 10 = none := erCount_none.mpr ⟨by have := h.l1; omega, by have := h.l10; omega⟩
  rw [e1, e2, e3, e4, e5, e6, e7, List.length_append, List.length_singleton, Option.none_or]
theorem one_same {ps ps' lb lb' : List Str} {n : Nat} (hp : ∀ x, x ∈ ps ↔ x ∈ ps') (hl : ∀ x, x ∈ lb ↔ x ∈ lb') : oneErr ps lb n b = oneErr ps' lb' n b := by
  have k : ∀ x, erKnown x ps = erKnown x ps' := fun x => by
    unfold erKnown
    by_cases z : x ∈ ps
    · rw [if_pos z, if_pos ((hp x).mp z)]
    · rw [if_neg z, if_neg fun w => z ((hp x).mpr w)]
  unfold oneErr
  rw [k, k]
  by_cases z : b.n ∈ lb
  · rw [if_pos z, if_pos ((hl _).mp z)]
  · rw [if_neg z, if_neg fun w => z ((hl _).mpr w)]
theorem kept_lmem (ls : List LampR) (x : Str) : x ∈ ((keptL ls).map rL).map (·.1) ↔ x ∈ ls.map (·.1) := by
  rw [names_r]
  have p := (srtL_perm (ls.map tL)).map (·.1)
  rw [List.map_map] at p
  exact p.mem_iff
theorem kept_bmem (bs : List BondR) (x : Str) : x ∈ ((keptB bs).map rB).map (·.n) ↔ x ∈ bs.map (·.n) := by
  rw [names_rb]
  have p := (srtB_perm (bs.map fun b => ordT (tB b))).map (·.n)
  rw [List.map_map, List.map_congr_left (g := fun b : BondR => b.n) fun (b : BondR) _ => by show (ordT (tB b)).n = b.n; rw [ordT_n]; rfl] at p
  exact p.mem_iff
/-- the same error behind the kept rows -/
theorem kept_err (h : RightR ls bs) : rowsErr ((keptL ls).map rL) ((keptB bs).map rB ++ [b]) = rowsErr ls (bs ++ [b]) := by
  rw [one_err h, one_err (kept_ok h).r, one_same (kept_lmem ls) (kept_bmem bs)]
  rw [List.length_map, kept_blen]
theorem kept_one (h : RightR ls bs) (e : rowsErr ls (bs ++ [b]) = none) : keptB ((keptB bs).map rB ++ [b]) = keptB (bs ++ [b]) := by
  have w := kept_ok h
  have nd : ((keptB (bs ++ [b])).map (·.n)).Nodup := kept_bnames (rows_right.mp e).bd
  have e1 : keptB ((keptB bs).map rB ++ [b]) = srtB (keptB bs ++ [ordT (tB b)]) := by
    show srtB (((keptB bs).map rB ++ [b]).map fun b => ordT (tB b)) = _
    rw [List.map_append, List.map_map, List.map_congr_left (g := id) fun t ht => by
      show ordT (tB (rB t)) = t
      rw [tB_rB, w.od t ht], List.map_id]
    rfl
  have e2 : keptB (bs ++ [b]) = srtB ((bs.map fun b => ordT (tB b)) ++ [ordT (tB b)]) := by
    show srtB ((bs ++ [b]).map fun b => ordT (tB b)) = _
    rw [List.map_append]
    rfl
  rw [e1]
  rw [e2] at nd ⊢
  have p : (keptB bs ++ [ordT (tB b)]).Perm ((bs.map fun b => ordT (tB b)) ++ [ordT (tB b)]) := (srtB_perm _).append_right _
  refine srtB_of_perm p ?_
  exact ((p.trans (srtB_perm _).symm).map (·.n)).nodup_iff.mpr nd
/-- the span of the last bond -/
theorem span_err (h : RightR ls (bs ++ [⟨b.n, b.a, b.b, .non, .non⟩])) : rowsErr ls (bs ++ [b]) = erSpan b.lo b.hi := by
  have h0 : RightR ls bs := h.bonds (fun c hc => h.good (List.mem_append_left _ hc)) (by
    have := h.bd
    rw [List.map_append] at this
    exact (List.nodup_append.mp this).1) (by
    have := h.b16
    rw [List.length_append] at this
    omega)
  have g := h.good (b := ⟨b.n, b.a, b.b, .non, .non⟩) (List.mem_append_right _ List.mem_cons_self)
  have nn : ¬ b.n ∈ bs.map (·.n) := fun z => by
    have := h.bd
    rw [List.map_append] at this
    exact (List.nodup_append.mp this).2.2 _ z b.n List.mem_cons_self rfl
  have hl := h.b16
  rw [List.length_append, List.length_singleton] at hl
  rw [one_err h0]
  unfold oneErr erSpan
  rw [erName_none.mpr g.n, if_neg nn, (erSelf_none (b := b)).mpr g.ne, erKnown_none.mpr g.a, erKnown_none.mpr g.b, erCount_none.mpr ⟨by omega, by omega⟩, Option.none_or, Option.none_or, Option.none_or, Option.none_or, Option.or_none, Option.or_assoc, Option.or_none]
theorem span_kept (h : RightR ls (bs ++ [⟨b.n, b.a, b.b, .non, .non⟩])) : setS (keptB (bs ++ [⟨b.n, b.a, b.b, .non, .non⟩])) b.n (toO b.lo) (toO b.hi) = keptB (bs ++ [b]) := by
  have nn : ¬ b.n ∈ bs.map (·.n) := fun z => by
    have := h.bd
    rw [List.map_append] at this
    exact (List.nodup_append.mp this).2.2 _ z b.n List.mem_cons_self rfl
  have e : ∀ xs : List BondR, keptB xs = srtB ((xs.map tB).map ordT) := fun xs => by unfold keptB; rw [List.map_map]; rfl
  rw [e, e, setS_srt]
  congr 2
  unfold setS
  rw [List.map_append, List.map_append, List.map_append]
  congr 1
  · rw [List.map_congr_left (g := id) fun t ht => ?_, List.map_id]
    obtain ⟨c, hc, rfl⟩ := List.mem_map.mp ht
    rw [if_neg fun z : (tB c).n = b.n => nn (List.mem_map.mpr ⟨c, hc, z⟩)]
    rfl
  · show [if b.n = b.n then _ else _] = _
    rw [if_pos rfl]
    rfl
theorem span_at (h : RightR ls (bs ++ [⟨b.n, b.a, b.b, .non, .non⟩])) : ∃ a, bondAt (keptB (bs ++ [⟨b.n, b.a, b.b, .non, .non⟩])) b.n = some a := by
  have m : ordT (tB ⟨b.n, b.a, b.b, .non, .non⟩) ∈ keptB (bs ++ [⟨b.n, b.a, b.b, .non, .non⟩]) := (srtB_perm _).mem_iff.mpr (List.mem_map.mpr ⟨_, List.mem_append_right _ List.mem_cons_self, rfl⟩)
  have := bondAt_of (kept_ok h).bnd m
  rw [ordT_n] at this
  exact ⟨_, this⟩
end
end Q
/-! R7i: wrong rows as they are handed over. -/
namespace Q
open PySem PySem.Spec PyProof.Rows L2
section
variable {ls : List LampR} {bs : List BondR}
theorem lamps_raw (l : ls.length ≤ 1000) (h : ∀ x ∈ ls, x.1.length ≤ 1000 ∧ flat4 x.2) : LampsD (.lst (ls.map lampRD)) ls := ⟨⟨ls.map fun x => (lampRD x, x), by show some _ = _; rw [List.map_map]; rfl, by rw [List.map_map]; exact (List.map_id _).symm, fun p hp => by
  obtain ⟨x, _, rfl⟩ := List.mem_map.mp hp
  rfl⟩, l, h⟩
theorem bonds_raw (l : bs.length ≤ 1000) (h : ∀ b ∈ bs, b.n.length ≤ 1000 ∧ b.a.length ≤ 1000 ∧ b.b.length ≤ 1000 ∧ flat4 b.lo ∧ flat4 b.hi) : BondsD (.lst (bs.map bondRD)) bs := ⟨⟨bs.map fun x => (bondRD x, x), by show some _ = _; rw [List.map_map]; rfl, by rw [List.map_map]; exact (List.map_id _).symm, fun p hp => by
  obtain ⟨x, _, rfl⟩ := List.mem_map.mp hp
  rfl⟩, l, h⟩
/-- the rows as lists, in tuples -/
theorem lampsT_raw (l : ls.length ≤ 1000) (h : ∀ x ∈ ls, x.1.length ≤ 1000 ∧ flat4 x.2) : LampsD (.tup (ls.map fun x => .lst (lampRow x))) ls := ⟨⟨ls.map fun x => (.lst (lampRow x), x), by show some _ = _; rw [List.map_map]; rfl, by rw [List.map_map]; exact (List.map_id _).symm, fun p hp => by
  obtain ⟨x, _, rfl⟩ := List.mem_map.mp hp
  rfl⟩, l, h⟩
theorem bondsT_raw (l : bs.length ≤ 1000) (h : ∀ b ∈ bs, b.n.length ≤ 1000 ∧ b.a.length ≤ 1000 ∧ b.b.length ≤ 1000 ∧ flat4 b.lo ∧ flat4 b.hi) : BondsD (.tup (bs.map fun x => .lst (bondRow x))) bs := ⟨⟨bs.map fun x => (.lst (bondRow x), x), by show some _ = _; rw [List.map_map]; rfl, by rw [List.map_map]; exact (List.map_id _).symm, fun p hp => by
  obtain ⟨x, _, rfl⟩ := List.mem_map.mp hp
  rfl⟩, l, h⟩
theorem last_row {b : BondR} : atI ((bs ++ [b]).map bondRD) (((bs ++ [b]).length : Int) - 1) = some (bondRD b) := by
  rw [List.length_append, List.length_singleton, show (((bs.length + 1 : Nat) : Int) - 1) = (bs.length : Int) from by omega]
  refine atI_of (by omega) ?_
  rw [Int.toNat_natCast, List.map_append, List.getElem?_append_right (by rw [List.length_map]; omega), List.length_map, Nat.sub_self]
  rfl
theorem cut_last {b : BondR} : cutD ((bs ++ [b]).map bondRD) none (some (((bs ++ [b]).length : Int) - 1)) = bs.map bondRD := by
  rw [List.length_append, List.length_singleton, show (((bs.length + 1 : Nat) : Int) - 1) = (bs.length : Int) from by omega, cutD_to (by omega), Int.toNat_natCast, List.map_append, List.take_append_of_le_length (by rw [List.length_map]; omega), List.take_of_length_le (by rw [List.length_map]; omega)]
end
end Q
/-! R7j: what is due is alike with what is told; rows that stay. -/
namespace Q
open PySem PySem.Spec PyProof.Rows L2
theorem sc_errOf {a : Option Er} {e : Er} {P : Prop} {R : Er → Prop} (h : a = some e) (r : R e) : Sc a P R := ⟨fun z => (by rw [h] at z; cases z), fun e' z => by rw [h] at z; cases z; exact r⟩
theorem flA_of4 {x : D} (h : flat4 x) : flA x = true := by
  cases x <;> first | rfl | exact h.elim
theorem al_tupF {n : Nat} {xs : List D} (l : xs.length ≤ 1000) (h : xs.all flA = true) : alD (n + 1) (.tup xs) = true := al_tup l fun x hx => al_flat n (List.all_eq_true.mp h x hx)
theorem al_due {e : Er} (h : ErK e) (n : Nat) : alD (n + 1) (.tup (dueD e ++ [.bl true, .bl false])) = true := by
  cases h with
  | nm x => exact al_tupF (by show 4 ≤ 1000; decide) rfl
  | nb x h =>
    refine al_tupF (by show 4 ≤ 1000; decide) ?_
    show (true && (flA x && true)) = true
    rw [flA_of4 h]
    rfl
  | sp l h => exact al_tupF (by show 5 ≤ 1000; decide) rfl
  | db x => exact al_tupF (by show 4 ≤ 1000; decide) rfl
  | sb x => exact al_tupF (by show 4 ≤ 1000; decide) rfl
  | un x => exact al_tupF (by show 4 ≤ 1000; decide) rfl
  | rg c l h => exact al_tupF (by show 6 ≤ 1000; decide) rfl
theorem due_len {e : Er} (h : ErK e) : (dueD e).length ≤ 4 ∧ dueD e ≠ [] := by
  cases h <;> exact ⟨by simp [dueD], fun z => nomatch z⟩
section
variable {α : Type} {f : α → D}
theorem plain_mapM : ∀ {as : List α}, (∀ a ∈ as, plainD (f a) = true) → plainDs (as.map f) = true
  | [], _ => rfl
  | a :: as, h => Bool.and_eq_true_iff.mpr ⟨h a List.mem_cons_self, plain_mapM fun b hb => h b (List.mem_cons_of_mem _ hb)⟩
theorem dep_mapM {m : Nat} : ∀ {as : List α}, (∀ a ∈ as, depD (f a) ≤ m) → depDs (as.map f) ≤ m
  | [], _ => Nat.zero_le _
  | a :: as, h => by
    show max (depD (f a)) (depDs (as.map f)) ≤ m
    have h1 := h a List.mem_cons_self
    have h2 := dep_mapM fun b hb => h b (List.mem_cons_of_mem _ hb)
    omega
end
theorem plain_of4 {x : D} (h : flat4 x) : plainD x = true ∧ depD x = 0 := by
  cases x <;> first | exact ⟨rfl, rfl⟩ | exact h.elim
theorem k_neSelf {x : D} {Q : W → Prop} (h : plainD x = true) (l : depD x ≤ 60) (q : Q (.d (.bl false))) : o_ne (.d x) (.d x) Q := ⟨h, h, by show min (depD x) (depD x) ≤ 60; omega, by
  show Q (.d (.bl (!eqD x x)))
  rw [eqv_refl x h]
  exact q⟩
theorem rows_stay {ls : List LampR} {bs : List BondR} (ok : RawOk ls bs) : plainD (.lst [.lst (ls.map lampRD), .lst (bs.map bondRD)]) = true ∧ depD (.lst [.lst (ls.map lampRD), .lst (bs.map bondRD)]) ≤ 60 := by
  have p1 : plainDs (ls.map lampRD) = true := plain_mapM fun l hl => by
    show (true && (plainD l.2 && true)) = true
    rw [(plain_of4 (ok.ok l hl).2).1]
    rfl
  have p2 : plainDs (bs.map bondRD) = true := plain_mapM fun b hb => by
    show (true && (true && (true && (plainD b.lo && (plainD b.hi && true))))) = true
    have := ok.ob b hb
    rw [(plain_of4 this.2.2.2.1).1, (plain_of4 this.2.2.2.2).1]
    rfl
  have d1 : depDs (ls.map lampRD) ≤ 1 := dep_mapM fun l hl => by
    show max 0 (max (depD l.2) 0) + 1 ≤ 1
    rw [(plain_of4 (ok.ok l hl).2).2]
    decide
  have d2 : depDs (bs.map bondRD) ≤ 1 := dep_mapM fun b hb => by
    show max 0 (max 0 (max 0 (max (depD b.lo) (max (depD b.hi) 0)))) + 1 ≤ 1
    have := ok.ob b hb
    rw [(plain_of4 this.2.2.2.1).2, (plain_of4 this.2.2.2.2).2]
    decide
  constructor
  · show (plainDs (ls.map lampRD) && (plainDs (bs.map bondRD) && true)) = true
    rw [p1, p2]
    rfl
  · show max (depDs (ls.map lampRD) + 1) (max (depDs (bs.map bondRD) + 1) 0) + 1 ≤ 60
    omega
section
variable {ls : List LampR} {bs : List BondR}
theorem RightR.tls (h : RightR ls bs) : ls.map lampRD = (ls.map tL).map lampD := by
  rw [List.map_map]
  refine List.map_congr_left fun l hl => ?_
  show D.tup [.str l.1, l.2] = .tup [.str l.1, dEnd3 (toO l.2)]
  rw [toO_ok (h.lo l hl)]
theorem RightR.tbs (h : RightR ls bs) : bs.map bondRD = (bs.map tB).map bondD := by
  rw [List.map_map]
  refine List.map_congr_left fun b hb => ?_
  have := h.sp b hb
  unfold erSpan at this
  simp only [or_none] at this
  show D.tup [.str b.n, .str b.a, .str b.b, b.lo, b.hi] = .tup [.str b.n, .str b.a, .str b.b, dEnd3 (toO b.lo), dEnd3 (toO b.hi)]
  rw [toO_ok this.1, toO_ok this.2.1]
theorem kept_eqB (bs : List BondR) : srtB ((bs.map tB).map ordT) = keptB bs := by
  unfold keptB
  rw [List.map_map]
  rfl
end
end Q
/-! R7k: the law of wrong rows itself. -/
namespace Q
open PySem PySem.Spec PyProof.Rows L2
section
variable {ls : List LampT} {bs : List BondT} {ns : List Int}
theorem raw_bonds (hr : RightR (ls.map rL) (bs.map rB)) : ∀ b ∈ bs.map rB, RawB 20 b := fun b hb => by
  have lnm : ∀ x ∈ ls.map (·.1), x.length ≤ 8 := fun x hx => by
    obtain ⟨l, hl, rfl⟩ := List.mem_map.mp hx
    exact nm_len (hr.ln (rL l) (List.mem_map.mpr ⟨l, hl, rfl⟩))
  have h1 := nm_len (hr.bn b hb)
  have h2 := hr.ka b hb
  have h3 := hr.kb b hb
  rw [names_r] at h2 h3
  have h2 := lnm _ h2
  have h3 := lnm _ h3
  have h4 := hr.sp b hb
  unfold erSpan at h4
  simp only [or_none] at h4
  exact ⟨by omega, by omega, by omega, open_flat h4.1, open_flat h4.2.1⟩
theorem raw_plan (hr : RightR (ls.map rL) (bs.map rB)) : RawR 20 (ls.map rL) (bs.map rB) := ⟨by have := hr.l10; omega, by have := hr.b16; omega, fun l hl => ⟨by have := nm_len (hr.ln l hl); omega, open_flat (hr.lo l hl)⟩, raw_bonds hr⟩
theorem plan_ls (ls : List LampT) : ls.map lampD = (ls.map rL).map lampRD := by rw [List.map_map]; rfl
theorem plan_bs (bs : List BondT) : bs.map bondD = (bs.map rB).map bondRD := by rw [List.map_map]; rfl
end
section
variable {ls : List LampR} {bs : List BondR} {b c : BondR}
theorem RightR.init (h : RightR ls (bs ++ [b])) : RightR ls bs := h.bonds (fun c hc => h.good (List.mem_append_left _ hc)) (by
  have := h.bd
  rw [List.map_append] at this
  exact (List.nodup_append.mp this).1) (by
  have := h.b16
  rw [List.length_append] at this
  omega)
theorem RightR.open (h : RightR ls (bs ++ [b])) (e1 : c.n = b.n) (e2 : c.a = b.a) (e3 : c.b = b.b) : RightR ls (bs ++ [⟨c.n, c.a, c.b, .non, .non⟩]) := h.bonds (fun x hx => by
  rcases List.mem_append.mp hx with z | z
  · exact h.good (List.mem_append_left _ z)
  · have g := h.good (b := b) (List.mem_append_right _ List.mem_cons_self)
    rw [List.mem_singleton.mp z]
    exact ⟨by show isNm c.n = true; rw [e1]; exact g.n, rfl, by show c.a ≠ c.b; rw [e2, e3]; exact g.ne, by show c.a ∈ _; rw [e2]; exact g.a, by show c.b ∈ _; rw [e3]; exact g.b⟩) (by
  have := h.bd
  rw [List.map_append] at this ⊢
  rw [show [(⟨c.n, c.a, c.b, .non, .non⟩ : BondR)].map (·.n) = [b].map (·.n) from by show [c.n] = [b.n]; rw [e1]]
  exact this) (by
  have := h.b16
  rw [List.length_append] at this ⊢
  exact this)
theorem RawR.more {n : Nat} (h : RawR n ls bs) (hl : bs.length < 20) (hb : RawB n b) : RawR n ls (bs ++ [b]) := ⟨h.l, by rw [List.length_append, List.length_singleton]; omega, h.ol, fun x hx => by
  rcases List.mem_append.mp hx with z | z
  · exact h.ob x z
  · rw [List.mem_singleton.mp z]; exact hb⟩
end
end Q
open PySem L2 Q
local macro_rules | `(tactic| walk_at "sz") => `(tactic| first
  | exact size_ok (by omega)
  | exact size_ok (by simp only [length_append, len_one]; omega)
  | exact size_okB (by omega)
  | exact size_okB (by simp only [length_append, len_one]; omega)
  | decide +kernel)
local macro_rules | `(tactic| walk_at "go1") => `(tactic| first
  | with_reducible refine go_seq ?_
  | with_reducible refine go_asg ?_
  | ((with_reducible refine go_name ?_); try dsimp only [List.set_cons_zero, List.set_cons_succ])
  | ((with_reducible apply go_var); exact rfl)
  | with_reducible refine go_c ?_
  | with_reducible refine go_op ?_
  | with_reducible refine go_cb ?_
  | with_reducible refine go_cons ?_
  | with_reducible refine go_nil ?_
  | with_reducible refine go_nx ?_
  | with_reducible refine go_rt ?_
  | with_reducible refine go_next ?_
  | with_reducible refine go_if ?_
  | with_reducible refine go_ret ?_
  | with_reducible refine go_test ?_
  | with_reducible refine go_tB ?_
  | with_reducible refine go_and ?_
  | with_reducible refine go_or ?_
  | with_reducible refine go_not ?_
  | with_reducible refine go_ex ?_
  | with_reducible refine go_t ?_
  | with_reducible refine go_f ?_
  | with_reducible refine go_nt ?_
  | with_reducible refine go_nf ?_
  | with_reducible refine go_call ?_
  | with_reducible refine go_sp1 ?_
  | with_reducible refine go_sp2 ?_
  | with_reducible refine go_sp3 ?_
  | with_reducible refine go_sp4 ?_
  | with_reducible refine go_sp5 ?_
  | with_reducible refine go_un ?_
  | with_reducible refine go_sub ?_
  | with_reducible refine go_drop ?_
  | with_reducible refine go_addI ?_
  | with_reducible refine go_sub0 ?_
  | ((with_reducible refine go_mod0 ?_ ?_); (first | omega | decide))
  | with_reducible refine go_neg0 ?_
  | with_reducible refine go_ltI ?_
  | with_reducible refine go_ltS ?_
  | with_reducible refine go_gt0 ?_
  | with_reducible refine go_le0 ?_
  | with_reducible refine go_ge0 ?_
  | with_reducible refine go_eqI ?_
  | with_reducible refine go_eqS ?_
  | with_reducible refine go_eqB ?_
  | with_reducible refine go_neI ?_
  | with_reducible refine go_neS ?_
  | with_reducible refine go_neB ?_
  | with_reducible refine go_inS ?_
  | with_reducible refine go_niS ?_
  | with_reducible refine go_int0 ?_
  | with_reducible refine go_max0 ?_
  | with_reducible refine go_min0 ?_
  | with_reducible refine go_andV ?_
  | with_reducible refine go_orV ?_
  | with_reducible refine go_notV ?_
  | with_reducible refine go_ifE ?_
  | with_reducible refine go_retN ?_
  | with_reducible refine go_lst ?_
  | with_reducible refine go_tup ?_
  | with_reducible refine go_brk ?_
  | with_reducible refine go_cont ?_
  | with_reducible refine go_for ?_
  | with_reducible refine go_iL ?_
  | with_reducible refine go_iQ ?_
  | with_reducible refine go_fs ?_
  | with_reducible refine go_js ?_
  | with_reducible refine go_jn ?_
  | ((with_reducible refine go_jx ?_ ?_); walk_at "sz")
  | with_reducible refine go_fmt ?_
  | ((with_reducible refine go_fmtS ?_ ?_); walk_at "sz")
  | with_reducible refine go_callD ?_
  | ((with_reducible refine go_cdq ?_); dsimp only [List.nil_append, List.cons_append, List.append_nil])
  | with_reducible refine go_smeth ?_
  | with_reducible refine go_smq ?_
  | with_reducible refine go_prop ?_
  | with_reducible refine go_tys ?_
  | with_reducible refine go_gc ?_
  | with_reducible refine go_gn ?_
  | with_reducible refine go_dc ?_
  | with_reducible refine go_dct ?_
  | with_reducible refine go_dcf ?_
  | with_reducible refine go_dnew ?_
  | with_reducible refine go_din ?_
  | with_reducible refine go_dnotin ?_
  | with_reducible refine go_dput ?_
  | with_reducible refine go_iT ?_
  | with_reducible refine go_iS ?_
  | with_reducible refine go_iR1 ?_
  | with_reducible refine go_iR2 ?_
  | with_reducible refine go_sl ?_
  | with_reducible refine go_part ?_
  | with_reducible refine go_nopart ?_
  | with_reducible refine go_exi ?_
  | with_reducible refine go_bm ?_
  | with_reducible refine go_lc ?_
  | with_reducible refine go_lrev ?_
  | with_reducible refine go_yes ?_
  | with_reducible refine go_lct ?_
  | with_reducible refine go_lcf ?_
  | with_reducible refine go_callS ?_
  | with_reducible refine go_callN ?_
  | ((with_reducible refine go_kwp rfl rfl ?_); dsimp only [perm, nth, List.nil_append, List.cons_append, List.append_nil])
  | ((with_reducible refine go_kwg rfl rfl ?_); dsimp only [perm, nth, List.nil_append, List.cons_append, List.append_nil])
  | with_reducible refine go_callNS ?_
  | with_reducible refine go_fld ?_
  | with_reducible refine go_pow40 ?_
  | with_reducible refine go_sfld ?_
  | with_reducible refine go_make ?_
  | with_reducible refine go_makeS ?_
  | with_reducible refine go_makeN ?_
  | with_reducible refine go_makeK ?_
  | with_reducible refine go_cmeth ?_
  | with_reducible refine go_chain ?_
  | with_reducible refine go_pow12 ?_
  | with_reducible refine go_pow11 ?_
  | with_reducible refine go_pow9 ?_
  | with_reducible refine go_pow13 ?_
  | with_reducible refine go_pow18 ?_
  | with_reducible refine go_pow30 ?_
  | ((with_reducible refine go_mul0 ?_ ?_); (first | exact .inl ⟨by omega, by omega⟩ | exact .inr ⟨by omega, by omega⟩))
  | with_reducible refine go_xf ?_
  | with_reducible refine go_isY ?_
  | ((with_reducible refine go_isN ?_ ?_); (first | assumption | (intro z; contradiction)))
  | with_reducible refine go_isnotN ?_
  | ((with_reducible refine go_isnotY ?_ ?_); (first | assumption | (intro z; contradiction)))
  | ((with_reducible refine go_slS ?_ ?_); walk_at "sz")
  | ((with_reducible refine go_lenS ?_ ?_); walk_at "sz")
  | ((with_reducible refine go_addS ?_ ?_); walk_at "sz")
  | (with_reducible refine go_bk ?_)
  | (with_reducible refine go_ct ?_))
local macro_rules | `(tactic| walk_at "go") => `(tactic| repeat walk_at "go1")
local macro_rules | `(tactic| walk_at "bt") => `(tactic| first | exact Bt.bl _ | exact Bt.int _ | exact Bt.str _ | exact Bt.non | exact Bt.lst (by assumption) | exact Bt.tup (by assumption) | exact Bt.lst (SqL.of (by assumption)) | exact Bt.tup (SqT.of (by assumption)) | exact Bt.dic (by assumption))
local macro_rules | `(tactic| walk_at "isi") => `(tactic| first
  | ((with_reducible apply go_isi (b := true)); walk_at "bt"; decide +kernel)
  | ((with_reducible apply go_isi (b := false)); walk_at "bt"; decide +kernel))
local macro_rules | `(tactic| walk_at "gi") => `(tactic| repeat (first | walk_at "go1" | walk_at "isi"))
local macro_rules | `(tactic| walk_at "sz3") => `(tactic| first
  | omega
  | (simp only [length_append, len_one, List.length_append, List.length_map, List.length_cons, List.length_nil]; omega)
  | decide +kernel)
local macro_rules | `(tactic| walk_at "g31") => `(tactic| first
  | ((with_reducible apply k_var); exact rfl)
  | with_reducible refine k_seq ?_
  | with_reducible refine k_set ?_
  | with_reducible refine k_gname ?_
  | with_reducible refine k_asD ?_
  | with_reducible refine k_cons ?_
  | with_reducible refine k_nil ?_
  | with_reducible refine k_op ?_
  | with_reducible refine k_cI ?_
  | with_reducible refine k_cS ?_
  | with_reducible refine k_nx ?_
  | with_reducible refine k_rt ?_
  | with_reducible refine k_ifS ?_
  | with_reducible refine k_b ?_
  | with_reducible refine k_asB ?_
  | with_reducible refine k_call0 ?_
  | with_reducible refine k_call ?_
  | with_reducible refine k_c1 ?_
  | with_reducible refine k_c2 ?_
  | with_reducible refine k_c3 ?_
  | with_reducible refine k_cb ?_
  | with_reducible refine k_all0 ?_
  | with_reducible refine k_all1 ?_
  | with_reducible refine k_t ?_
  | with_reducible refine k_f ?_
  | with_reducible refine k_frz ?_
  | with_reducible refine k_fl ?_
  | with_reducible refine k_fd ?_
  | with_reducible refine k_fx ?_
  | with_reducible refine k_cB ?_
  | with_reducible refine k_cN ?_
  | with_reducible refine k_cR ?_
  | with_reducible refine k_cT ?_
  | with_reducible refine k_un ?_
  | with_reducible refine k_asI ?_
  | with_reducible refine k_asS ?_
  | with_reducible refine k_asL ?_
  | with_reducible refine k_asQbl ?_
  | with_reducible refine k_asQbt ?_
  | with_reducible refine k_asQl ?_
  | with_reducible refine k_asQt ?_
  | with_reducible refine k_asKi ?_
  | with_reducible refine k_asKs ?_
  | with_reducible refine k_asV ?_
  | with_reducible refine k_asVo ?_
  | with_reducible refine k_asO ?_
  | with_reducible refine k_and ?_
  | with_reducible refine k_or ?_
  | with_reducible refine k_not ?_
  | with_reducible refine k_yes ?_
  | with_reducible refine k_if ?_
  | with_reducible refine k_andV ?_
  | with_reducible refine k_orV ?_
  | with_reducible refine k_notV ?_
  | with_reducible refine k_chain ?_
  | with_reducible refine k_ln0 ?_
  | with_reducible refine k_ln1 ?_
  | with_reducible refine k_ln2 ?_
  | with_reducible refine k_ln3 ?_
  | with_reducible refine k_ln4 ?_
  | with_reducible refine k_ln5 ?_
  | with_reducible refine k_ln6 ?_
  | with_reducible refine k_ln7 ?_
  | with_reducible refine k_tup ?_
  | with_reducible refine k_lst ?_
  | with_reducible refine k_dnew ?_
  | with_reducible refine k_next ?_
  | with_reducible refine k_bk ?_
  | with_reducible refine k_ct ?_
  | with_reducible refine k_nt ?_
  | with_reducible refine k_nf ?_
  | with_reducible refine k_gcons ?_
  | with_reducible refine k_gnil ?_
  | with_reducible refine k_own ?_
  | with_reducible refine k_ret ?_
  | with_reducible refine k_niD ?_
  | with_reducible refine k_niO ?_
  | with_reducible refine k_niK ?_
  | with_reducible refine k_retN ?_
  | with_reducible refine k_drop ?_
  | with_reducible refine k_brk ?_
  | with_reducible refine k_cont ?_
  | with_reducible refine k_iL ?_
  | with_reducible refine k_iQ ?_
  | with_reducible refine k_iS ?_
  | with_reducible refine k_iR1 ?_
  | with_reducible refine k_iR2 ?_
  | with_reducible refine k_for ?_
  | with_reducible refine k_lc ?_
  | with_reducible refine k_dc ?_
  | with_reducible refine k_callF ?_
  | with_reducible refine k_callB ?_
  | with_reducible refine k_callB0 ?_
  | with_reducible refine k_makeB ?_
  | with_reducible refine k_makeB0 ?_
  | with_reducible refine k_c4 ?_
  | with_reducible refine k_c5 ?_
  | with_reducible refine k_c6 ?_
  | with_reducible refine k_cd11 ?_
  | with_reducible refine k_meth ?_
  | with_reducible refine k_meth0 ?_
  | with_reducible refine k_m0 ?_
  | with_reducible refine k_m1 ?_
  | with_reducible refine k_m2 ?_
  | with_reducible refine k_m3 ?_
  | with_reducible refine k_prop ?_
  | with_reducible refine k_propF ?_
  | with_reducible refine k_ow ?_
  | with_reducible refine k_fld ?_
  | with_reducible refine k_make ?_
  | with_reducible refine k_make0 ?_
  | with_reducible refine k_mk2 ?_
  | with_reducible refine k_mk1 ?_
  | with_reducible refine k_mkd1 ?_
  | with_reducible refine k_raise1 ?_
  | with_reducible refine k_r1X ?_
  | with_reducible refine k_raise2 ?_
  | with_reducible refine k_r2X ?_
  | with_reducible refine k_raise3 ?_
  | with_reducible refine k_r3X ?_
  | with_reducible refine k_try ?_
  | with_reducible refine k_tryO ?_
  | with_reducible refine k_xf ?_
  | with_reducible refine k_isT ?_
  | with_reducible refine k_isi ?_
  | with_reducible refine k_tyN ?_
  | with_reducible refine k_tyB ?_
  | with_reducible refine k_tyI ?_
  | with_reducible refine k_tyS ?_
  | with_reducible refine k_tyL ?_
  | with_reducible refine k_tyT ?_
  | with_reducible refine k_tyD ?_
  | with_reducible refine k_clT ?_
  | with_reducible refine k_clR ?_
  | with_reducible refine k_cls0 ?_
  | with_reducible refine k_cls1 ?_
  | with_reducible refine k_isX ?_
  | with_reducible refine k_isXT ?_
  | with_reducible refine k_din ?_
  | with_reducible refine k_dni ?_
  | with_reducible refine k_dget ?_
  | with_reducible refine k_dput ?_
  | with_reducible refine k_sfld ?_
  | with_reducible refine k_addI ?_
  | with_reducible refine k_sub ?_
  | with_reducible refine k_p12 ?_
  | with_reducible refine k_p30 ?_
  | with_reducible refine k_p11 ?_
  | with_reducible refine k_neg ?_
  | with_reducible refine k_ltI ?_
  | with_reducible refine k_ltS ?_
  | with_reducible refine k_leI ?_
  | with_reducible refine k_leS ?_
  | with_reducible refine k_gtI ?_
  | with_reducible refine k_gtS ?_
  | with_reducible refine k_geI ?_
  | with_reducible refine k_eqI ?_
  | with_reducible refine k_eqS ?_
  | with_reducible refine k_neI ?_
  | with_reducible refine k_neS ?_
  | with_reducible refine k_eqB ?_
  | with_reducible refine k_neB ?_
  | with_reducible refine k_isNN ?_
  | with_reducible refine k_isNI ?_
  | with_reducible refine k_isNB ?_
  | with_reducible refine k_isNS ?_
  | with_reducible refine k_isNT ?_
  | with_reducible refine k_isNL ?_
  | with_reducible refine k_isNO ?_
  | with_reducible refine k_inNN ?_
  | with_reducible refine k_inNI ?_
  | with_reducible refine k_inNB ?_
  | with_reducible refine k_inNS ?_
  | with_reducible refine k_inNO ?_
  | with_reducible refine k_inNT ?_
  | with_reducible refine k_sl ?_
  | with_reducible refine k_none ?_
  | with_reducible refine k_part ?_
  | with_reducible refine k_slL ?_
  | with_reducible refine k_slO ?_
  | with_reducible refine k_lenL ?_
  | with_reducible refine k_lenT ?_
  | with_reducible refine k_lenO ?_
  | with_reducible refine k_int ?_
  | with_reducible refine k_intB ?_
  | with_reducible refine k_listL ?_
  | with_reducible refine k_listT ?_
  | with_reducible refine k_listO ?_
  | with_reducible refine k_tupleL ?_
  | with_reducible refine k_tupleT ?_
  | with_reducible refine k_tupleO ?_
  | with_reducible refine k_max2 ?_
  | with_reducible refine k_min2 ?_
  | with_reducible refine k_augI ?_
  | with_reducible refine k_fs ?_
  | with_reducible refine k_fs0 ?_
  | with_reducible refine k_fs1 ?_
  | with_reducible refine k_fmt ?_
  | ((with_reducible apply k_ixT); exact rfl)
  | ((with_reducible apply k_frzL); exact rfl)
  | ((with_reducible apply k_frzK); exact rfl)
  | ((with_reducible apply k_frzD); exact rfl)
  | ((with_reducible apply k_app); exact rfl)
  | ((with_reducible apply k_clear); exact rfl)
  | ((with_reducible apply k_dp); exact rfl)
  | ((with_reducible apply k_aug); exact rfl)
  | ((with_reducible apply k_mQ); exact rfl)
  | ((with_reducible apply k_gtup); exact rfl)
  | ((with_reducible apply k_xd); exact rfl)
  | ((with_reducible apply k_cB1); exact rfl)
  | ((with_reducible apply k_cB2); exact rfl)
  | ((with_reducible apply k_cBd); exact rfl)
  | ((with_reducible apply k_mB1); exact rfl)
  | ((with_reducible apply k_mB2); exact rfl)
  | ((with_reducible apply k_mBd); exact rfl)
  | ((with_reducible refine k_addS ?_ ?_); walk_at "sz3")
  | ((with_reducible refine k_addLL ?_ ?_); walk_at "sz3")
  | ((with_reducible refine k_addOO ?_ ?_); walk_at "sz3")
  | ((with_reducible refine k_addLO ?_ ?_); walk_at "sz3")
  | ((with_reducible refine k_addOL ?_ ?_); walk_at "sz3")
  | ((with_reducible refine k_slS ?_ ?_); walk_at "sz3")
  | ((with_reducible refine k_lenS ?_ ?_); walk_at "sz3")
  | ((with_reducible refine k_fmtS ?_ ?_); walk_at "sz3")
  | ((with_reducible refine k_fsQ ?_ ?_); walk_at "sz3")
  | ((with_reducible refine k_augS ?_ ?_); walk_at "sz3")
  | ((with_reducible refine k_r1 ?_ ?_); (first | omega | decide))
  | ((with_reducible refine k_r2 ?_ ?_); (first | omega | decide))
  | ((with_reducible refine k_mod ?_ ?_); (first | omega | decide))
  | ((with_reducible refine k_div ?_ ?_); (first | omega | decide))
  | ((with_reducible refine k_str ?_ ?_); (first | omega | decide))
  | ((with_reducible refine k_fmtI ?_ ?_); (first | omega | decide))
  | with_reducible refine k_kit (r := true) (by decide +kernel) ?_
  | with_reducible refine k_kit (r := false) (by decide +kernel) ?_
  | with_reducible refine k_kit2 (r := true) (r' := true) (k := true) (by decide +kernel) (by decide +kernel) rfl ?_
  | with_reducible refine k_kit2 (r := true) (r' := false) (k := true) (by decide +kernel) (by decide +kernel) rfl ?_
  | with_reducible refine k_kit2 (r := false) (r' := true) (k := true) (by decide +kernel) (by decide +kernel) rfl ?_
  | with_reducible refine k_kit2 (r := false) (r' := false) (k := false) (by decide +kernel) (by decide +kernel) rfl ?_
  | ((with_reducible refine k_mul ?_ ?_); (first | exact .inl ⟨by omega, by omega⟩ | exact .inr ⟨by omega, by omega⟩))
  | ((with_reducible apply k_fldO); assumption; assumption; exact rfl)
  | ((with_reducible apply k_fldI); assumption; assumption; exact rfl)
  | ((with_reducible apply k_tyO); assumption; assumption)
  | ((with_reducible apply k_sf); exact rfl; assumption; assumption; exact of_decide_eq_true rfl)
  | ((with_reducible apply k_xC); assumption))
local macro_rules | `(tactic| walk_at "g3") => `(tactic| (try dsimp only [frz_d, frz_ol, frz_od, frz_oi, frz_bw, env0B_t, env0B_f, env0B_nil, env0_cons, env0_nil, List.replicate_succ, List.replicate_zero]); (repeat walk_at "g31"); try dsimp only [List.set_cons_zero, List.set_cons_succ])
local macro_rules | `(tactic| walk_at "g41") => `(tactic| first
  | walk_at "g31"
  | ((with_reducible apply k_ixQ); (exact rfl); (exact rfl))
  | ((with_reducible apply k_ixO); (exact rfl))
  | with_reducible refine k_lend ?_
  | with_reducible refine k_setL ?_
  | ((with_reducible apply k_setLo); (exact rfl))
  | ((with_reducible apply k_setLr); (exact rfl))
  | with_reducible refine k_kvB ?_
  | with_reducible refine k_kvW ?_
  | with_reducible refine k_listDB ?_
  | with_reducible refine k_kvT ?_
  | with_reducible refine k_dictD ?_
  | with_reducible refine k_dictO ?_
  | with_reducible refine k_dictB ?_
  | with_reducible refine k_listDD ?_
  | with_reducible refine k_listDO ?_
  | with_reducible refine k_lenDD ?_
  | with_reducible refine k_lenDO ?_
  | with_reducible refine k_items ?_
  | with_reducible refine k_itemsD ?_
  | with_reducible refine k_itemsO ?_
  | with_reducible refine k_sset ?_
  | with_reducible refine k_lrev ?_
  | with_reducible refine k_dzip ?_
  | with_reducible refine k_cmeth ?_
  | with_reducible refine k_cmQ3 ?_
  | ((with_reducible apply k_makeBL); (exact rfl))
  | with_reducible refine k_inIT ?_
  | with_reducible refine k_eqIT ?_
  | with_reducible refine k_methNT ?_
  | with_reducible refine k_dec (fun z => absurd z (by decide)) (fun _ => ?_)
  | with_reducible refine k_dec (fun _ => ?_) (fun z => absurd (by decide) z)
  | with_reducible refine k_ndec (fun z => absurd (by decide) z) (fun _ => ?_)
  | with_reducible refine k_ndec (fun _ => ?_) (fun z => absurd z (by decide))
  | with_reducible refine k_dec (fun z => absurd z (by omega)) (fun _ => ?_)
  | with_reducible refine k_dec (fun _ => ?_) (fun z => absurd (by omega) z)
  | with_reducible refine k_ndec (fun z => absurd (by omega) z) (fun _ => ?_)
  | with_reducible refine k_ndec (fun _ => ?_) (fun z => absurd z (by omega)))
local macro_rules | `(tactic| walk_at "g4") => `(tactic| (try dsimp only [frz_d, frz_ol, frz_od, frz_oi, frz_bw, env0B_t, env0B_f, env0B_nil, env0_cons, env0_nil, List.replicate_succ, List.replicate_zero]); (repeat walk_at "g41"); try dsimp only [List.set_cons_zero, List.set_cons_succ])
/-! the text by places -/
namespace Q
open PySem L2
def top (i : Nat) : Stmt := PySem.Challenge.pw_outshiners_k07_webs_refuse_in_order.main.body.getD i (.Pass ⟨0, 0, 0, 0⟩)
abbrev s__law_store : Stmt := top 38
abbrev s__law_stir : Stmt := top 39
abbrev s__law_take : Stmt := top 40
abbrev s__law_pick : Stmt := top 41
abbrev s__law_shuffled : Stmt := top 42
abbrev s__law_clamped : Stmt := top 43
abbrev s__law_near : Stmt := top 44
abbrev s__law_bar : Stmt := top 46
abbrev s_is_name : Stmt := top 14
abbrev s_check_name : Stmt := top 15
abbrev s_ordered : Stmt := top 16
abbrev s_is_number : Stmt := top 19
abbrev s_check_number : Stmt := top 20
abbrev s_check_end : Stmt := top 21
abbrev s_check_open : Stmt := top 29
abbrev s_check_count : Stmt := top 30
abbrev s_check_known : Stmt := top 31
abbrev s_Span___init__ : Stmt := inClass (top 25) 0
abbrev s_check_ends : Stmt := top 32
abbrev s_kept_bond : Stmt := top 34
abbrev s_arms_at : Stmt := top 35
abbrev s_check_rows : Stmt := top 33
abbrev s_Web___init__ : Stmt := inClass (top 36) 0
abbrev s_Web_lamp_rows : Stmt := inClass (top 36) 3
abbrev s_Web_bond_rows : Stmt := inClass (top 36) 4
abbrev s_Web_with_span : Stmt := inClass (top 36) 12
abbrev s_Web_with_bond : Stmt := inClass (top 36) 13
abbrev s__law_name : Stmt := top 48
abbrev s__law_ends : Stmt := top 47
abbrev s__law_unused : Stmt := top 49
abbrev s__law_fresh_names : Stmt := top 50
abbrev s__law_names : Stmt := top 51
abbrev s__law_kept_rows : Stmt := top 57
abbrev s__law_edges : Stmt := top 56
abbrev s__law_alike : Stmt := top 62
abbrev s__law_bad_number : Stmt := top 45
abbrev s__law_bad_name : Stmt := top 52
abbrev s__law_is_name : Stmt := top 54
abbrev s__law_is_number : Stmt := top 55
abbrev s__law_first_double : Stmt := top 58
abbrev s__law_stranger : Stmt := top 53
abbrev s__law_web_due : Stmt := top 61
abbrev s__law_bent_edge : Stmt := top 60
abbrev s__law_bent_web : Stmt := top 59
abbrev s__law_asked : Stmt := top 63
abbrev s__law_holds : Stmt := top 64
abbrev s__law_rows : Stmt := top 65
abbrev s__law_one_more : Stmt := top 66
abbrev s_law : Stmt := top 67
abbrev s_BadName_init : Stmt := inClass (top 3) 0
abbrev s_Doubled_init : Stmt := inClass (top 6) 0
abbrev s_BadNumber_init : Stmt := inClass (top 4) 0
abbrev s_BadSpan_init : Stmt := inClass (top 5) 0
abbrev s_SelfBond_init : Stmt := inClass (top 7) 0
abbrev s_Unknown_init : Stmt := inClass (top 8) 0
abbrev s_OutOfRange_init : Stmt := inClass (top 9) 0
/-- what the top has written -/
structure Txt (K : PySem.W.Frag) (mg : Str → Option Value) : Prop where
  f__law_store : Raw K mg "_law_store" s__law_store [] []
  f__law_stir : Raw K mg "_law_stir" s__law_stir [] []
  f__law_take : Raw K mg "_law_take" s__law_take [] []
  f__law_pick : Raw K mg "_law_pick" s__law_pick [] []
  f__law_shuffled : Raw K mg "_law_shuffled" s__law_shuffled [] []
  f__law_clamped : Raw K mg "_law_clamped" s__law_clamped [] []
  f__law_near : Raw K mg "_law_near" s__law_near [] []
  f__law_bar : Raw K mg "_law_bar" s__law_bar [] []
  f_is_name : Raw K mg "is_name" s_is_name [] []
  f_check_name : Raw K mg "check_name" s_check_name [] []
  f_ordered : Raw K mg "ordered" s_ordered [] []
  f_is_number : Raw K mg "is_number" s_is_number [] []
  f_check_number : Raw K mg "check_number" s_check_number [] []
  f_check_end : Raw K mg "check_end" s_check_end [] []
  f_check_open : Raw K mg "check_open" s_check_open [] []
  f_check_count : Raw K mg "check_count" s_check_count [] []
  f_check_known : Raw K mg "check_known" s_check_known [] []
  f_check_ends : Raw K mg "check_ends" s_check_ends [] []
  f_kept_bond : Raw K mg "kept_bond" s_kept_bond [] []
  f_arms_at : Raw K mg "arms_at" s_arms_at [] []
  f_check_rows : Raw K mg "check_rows" s_check_rows [] []
  f__law_name : Raw K mg "_law_name" s__law_name [] []
  f__law_ends : Raw K mg "_law_ends" s__law_ends [] []
  f__law_unused : Raw K mg "_law_unused" s__law_unused [] []
  f__law_fresh_names : Raw K mg "_law_fresh_names" s__law_fresh_names [] []
  f__law_names : Raw K mg "_law_names" s__law_names [] []
  f__law_kept_rows : Raw K mg "_law_kept_rows" s__law_kept_rows [] []
  f__law_edges : Raw K mg "_law_edges" s__law_edges [] []
  f__law_alike : Raw K mg "_law_alike" s__law_alike [] []
  f__law_bad_number : Raw K mg "_law_bad_number" s__law_bad_number [] []
  f__law_bad_name : Raw K mg "_law_bad_name" s__law_bad_name [] []
  f__law_is_name : Raw K mg "_law_is_name" s__law_is_name [] []
  f__law_is_number : Raw K mg "_law_is_number" s__law_is_number [] []
  f__law_first_double : Raw K mg "_law_first_double" s__law_first_double [] []
  f__law_stranger : Raw K mg "_law_stranger" s__law_stranger [] []
  f__law_web_due : Raw K mg "_law_web_due" s__law_web_due [] []
  f__law_bent_edge : Raw K mg "_law_bent_edge" s__law_bent_edge [] []
  f__law_bent_web : Raw K mg "_law_bent_web" s__law_bent_web [] []
  f__law_asked : Raw K mg "_law_asked" s__law_asked [] []
  f__law_holds : Raw K mg "_law_holds" s__law_holds [] []
  f__law_rows : Raw K mg "_law_rows" s__law_rows [] []
  f__law_one_more : Raw K mg "_law_one_more" s__law_one_more [] []
  f_law : Raw K mg "law" s_law [] []
  fi_BadName : ∃ fd, FunD K "__init__" "BadName.__init__" (defArgs s_BadName_init) (defBody s_BadName_init) (defScope s_BadName_init) [] [] (He.ma K (gA K "BadName") "__init__") fd
  i_BadName : XIn K (gA K "BadName") ["name"]
  fi_Doubled : ∃ fd, FunD K "__init__" "Doubled.__init__" (defArgs s_Doubled_init) (defBody s_Doubled_init) (defScope s_Doubled_init) [] [] (He.ma K (gA K "Doubled") "__init__") fd
  i_Doubled : XIn K (gA K "Doubled") ["name"]
  fi_BadNumber : ∃ fd, FunD K "__init__" "BadNumber.__init__" (defArgs s_BadNumber_init) (defBody s_BadNumber_init) (defScope s_BadNumber_init) [] [] (He.ma K (gA K "BadNumber") "__init__") fd
  i_BadNumber : XIn K (gA K "BadNumber") ["number"]
  fi_BadSpan : ∃ fd, FunD K "__init__" "BadSpan.__init__" (defArgs s_BadSpan_init) (defBody s_BadSpan_init) (defScope s_BadSpan_init) [] [] (He.ma K (gA K "BadSpan") "__init__") fd
  i_BadSpan : XIn K (gA K "BadSpan") ["low", "high"]
  fi_SelfBond : ∃ fd, FunD K "__init__" "SelfBond.__init__" (defArgs s_SelfBond_init) (defBody s_SelfBond_init) (defScope s_SelfBond_init) [] [] (He.ma K (gA K "SelfBond") "__init__") fd
  i_SelfBond : XIn K (gA K "SelfBond") ["bond"]
  fi_Unknown : ∃ fd, FunD K "__init__" "Unknown.__init__" (defArgs s_Unknown_init) (defBody s_Unknown_init) (defScope s_Unknown_init) [] [] (He.ma K (gA K "Unknown") "__init__") fd
  i_Unknown : XIn K (gA K "Unknown") ["name"]
  fi_OutOfRange : ∃ fd, FunD K "__init__" "OutOfRange.__init__" (defArgs s_OutOfRange_init) (defBody s_OutOfRange_init) (defScope s_OutOfRange_init) [] [] (He.ma K (gA K "OutOfRange") "__init__") fd
  i_OutOfRange : XIn K (gA K "OutOfRange") ["number", "low", "high"]
  g_Span : mg "Span" = some (.ref (gA K "Span"))
  cl_Span : Cls K (gA K "Span")
  mk_Span : Mk K (gA K "Span") (He.ma K (gA K "Span") "__init__")
  no_Span : ∀ f ∈ (["low", "high"] : List Str), NoAttr K (gA K "Span") f
  ty_Span : TyC K (gA K "Span")
  sf_Span : PySem.W.selfFirst K (gA K "Span") = true
  f_Span___init__ : ∃ fd, FunD K "__init__" "Span.__init__" (defArgs s_Span___init__) (defBody s_Span___init__) (defScope s_Span___init__) [V.non, V.non] [] (He.ma K (gA K "Span") "__init__") fd
  g_Web : mg "Web" = some (.ref (gA K "Web"))
  cl_Web : Cls K (gA K "Web")
  mk_Web : Mk K (gA K "Web") (He.ma K (gA K "Web") "__init__")
  no_Web : ∀ f ∈ (["own_lamp_rows", "own_bond_rows", "own_lamps", "own_ceilings", "own_ends", "own_spans", "own_arms"] : List Str), NoAttr K (gA K "Web") f
  ty_Web : TyC K (gA K "Web")
  sf_Web : PySem.W.selfFirst K (gA K "Web") = true
  f_Web___init__ : ∃ fd, FunD K "__init__" "Web.__init__" (defArgs s_Web___init__) (defBody s_Web___init__) (defScope s_Web___init__) [V.ref (He.dflAt ("Web", some "__init__") 0 K)] [] (He.ma K (gA K "Web") "__init__") fd
  c_Web_with_span : Meth K (gA K "Web") "with_span" (He.ma K (gA K "Web") "with_span")
  f_Web_with_span : ∃ fd, FunD K "with_span" "Web.with_span" (defArgs s_Web_with_span) (defBody s_Web_with_span) (defScope s_Web_with_span) [] [] (He.ma K (gA K "Web") "with_span") fd
  c_Web_with_bond : Meth K (gA K "Web") "with_bond" (He.ma K (gA K "Web") "with_bond")
  f_Web_with_bond : ∃ fd, FunD K "with_bond" "Web.with_bond" (defArgs s_Web_with_bond) (defBody s_Web_with_bond) (defScope s_Web_with_bond) [] [("low", V.non), ("high", V.non)] (He.ma K (gA K "Web") "with_bond") fd
  c_Web_lamp_rows : PropOf K (gA K "Web") "lamp_rows" (He.ma K (gA K "Web") "lamp_rows") (propG K (gA K "Web") "lamp_rows")
  f_Web_lamp_rows : ∃ fd, FunD K "lamp_rows" "Web.lamp_rows" (defArgs s_Web_lamp_rows) (defBody s_Web_lamp_rows) (defScope s_Web_lamp_rows) [] [] (propG K (gA K "Web") "lamp_rows") fd
  c_Web_bond_rows : PropOf K (gA K "Web") "bond_rows" (He.ma K (gA K "Web") "bond_rows") (propG K (gA K "Web") "bond_rows")
  f_Web_bond_rows : ∃ fd, FunD K "bond_rows" "Web.bond_rows" (defArgs s_Web_bond_rows) (defBody s_Web_bond_rows) (defScope s_Web_bond_rows) [] [] (propG K (gA K "Web") "bond_rows") fd
  g_BadName : mg "BadName" = some (.ref (gA K "BadName"))
  x_BadName : XC K (gA K "BadName")
  g_Doubled : mg "Doubled" = some (.ref (gA K "Doubled"))
  x_Doubled : XC K (gA K "Doubled")
  g_BadNumber : mg "BadNumber" = some (.ref (gA K "BadNumber"))
  x_BadNumber : XC K (gA K "BadNumber")
  g_BadSpan : mg "BadSpan" = some (.ref (gA K "BadSpan"))
  x_BadSpan : XC K (gA K "BadSpan")
  g_SelfBond : mg "SelfBond" = some (.ref (gA K "SelfBond"))
  x_SelfBond : XC K (gA K "SelfBond")
  g_Unknown : mg "Unknown" = some (.ref (gA K "Unknown"))
  x_Unknown : XC K (gA K "Unknown")
  g_OutOfRange : mg "OutOfRange" = some (.ref (gA K "OutOfRange"))
  x_OutOfRange : XC K (gA K "OutOfRange")
  g_OutshinerError : mg "OutshinerError" = some (.ref (gA K "OutshinerError"))
  c_LETTERS : ∃ t, mg "LETTERS" = some (.str letS t)
  c_SIGNS : ∃ t, mg "SIGNS" = some (.str signS t)
  c_LONGEST_NAME : ∃ t, mg "LONGEST_NAME" = some (.int 8 t)
  c_LIMIT : ∃ t, mg "LIMIT" = some (.int 1000000000000 t)
  c_MOST_LAMPS : ∃ t, mg "MOST_LAMPS" = some (.int 10 t)
  c_MOST_BONDS : ∃ t, mg "MOST_BONDS" = some (.int 16 t)
  b_list : mg "list" = none
  b_int : mg "int" = none
  b_max : mg "max" = none
  b_len : mg "len" = none
  b_range : mg "range" = none
  b_isinstance : mg "isinstance" = none
  b_bool : mg "bool" = none
  b_str : mg "str" = none
  b_tuple : mg "tuple" = none
  b_dict : mg "dict" = none
  b_ValueError : mg "ValueError" = none
  b_sorted : mg "sorted" = none
  b_min : mg "min" = none
  b_iter : mg "iter" = none
  kb_BadName : PySem.W.kitOne K (.ref (gA K "BadName")) (.ref (gA K "OutshinerError")) = some true
  kb_BadNumber : PySem.W.kitOne K (.ref (gA K "BadNumber")) (.ref (gA K "OutshinerError")) = some true
  kb_BadSpan : PySem.W.kitOne K (.ref (gA K "BadSpan")) (.ref (gA K "OutshinerError")) = some true
  kb_Doubled : PySem.W.kitOne K (.ref (gA K "Doubled")) (.ref (gA K "OutshinerError")) = some true
  kb_SelfBond : PySem.W.kitOne K (.ref (gA K "SelfBond")) (.ref (gA K "OutshinerError")) = some true
  kb_Unknown : PySem.W.kitOne K (.ref (gA K "Unknown")) (.ref (gA K "OutshinerError")) = some true
  kb_OutOfRange : PySem.W.kitOne K (.ref (gA K "OutOfRange")) (.ref (gA K "OutshinerError")) = some true
  kt_BadName : PySem.W.kitAny K (.ref (gA K "BadName")) ([gA K "BadNumber", gA K "Doubled", gA K "Unknown"].map Value.ref) = some false
  kt_BadNumber : PySem.W.kitAny K (.ref (gA K "BadNumber")) ([gA K "BadSpan", gA K "OutOfRange"].map Value.ref) = some false
  kt_BadSpan : PySem.W.kitAny K (.ref (gA K "BadSpan")) ([gA K "OutOfRange", gA K "BadNumber"].map Value.ref) = some false
  kt_Doubled : PySem.W.kitAny K (.ref (gA K "Doubled")) ([gA K "BadName", gA K "SelfBond", gA K "Unknown"].map Value.ref) = some false
  kt_SelfBond : PySem.W.kitAny K (.ref (gA K "SelfBond")) ([gA K "Doubled", gA K "BadName", gA K "Unknown"].map Value.ref) = some false
  kt_Unknown : PySem.W.kitAny K (.ref (gA K "Unknown")) ([gA K "BadName", gA K "Doubled", gA K "SelfBond"].map Value.ref) = some false
  kt_OutOfRange : PySem.W.kitAny K (.ref (gA K "OutOfRange")) ([gA K "BadNumber", gA K "BadSpan", gA K "Doubled"].map Value.ref) = some false
  e_BadNumber_BadName : PySem.W.exmOne K (.ref (gA K "BadNumber")) (.ref (gA K "BadName")) = some false
  e_BadSpan_BadName : PySem.W.exmOne K (.ref (gA K "BadSpan")) (.ref (gA K "BadName")) = some false
  e_BadSpan_BadNumber : PySem.W.exmOne K (.ref (gA K "BadSpan")) (.ref (gA K "BadNumber")) = some false
  e_Doubled_BadName : PySem.W.exmOne K (.ref (gA K "Doubled")) (.ref (gA K "BadName")) = some false
  e_Doubled_BadNumber : PySem.W.exmOne K (.ref (gA K "Doubled")) (.ref (gA K "BadNumber")) = some false
  e_Doubled_BadSpan : PySem.W.exmOne K (.ref (gA K "Doubled")) (.ref (gA K "BadSpan")) = some false
  e_SelfBond_BadName : PySem.W.exmOne K (.ref (gA K "SelfBond")) (.ref (gA K "BadName")) = some false
  e_SelfBond_BadNumber : PySem.W.exmOne K (.ref (gA K "SelfBond")) (.ref (gA K "BadNumber")) = some false
  e_SelfBond_BadSpan : PySem.W.exmOne K (.ref (gA K "SelfBond")) (.ref (gA K "BadSpan")) = some false
  e_SelfBond_Doubled : PySem.W.exmOne K (.ref (gA K "SelfBond")) (.ref (gA K "Doubled")) = some false
  e_Unknown_BadName : PySem.W.exmOne K (.ref (gA K "Unknown")) (.ref (gA K "BadName")) = some false
  e_Unknown_BadNumber : PySem.W.exmOne K (.ref (gA K "Unknown")) (.ref (gA K "BadNumber")) = some false
  e_Unknown_BadSpan : PySem.W.exmOne K (.ref (gA K "Unknown")) (.ref (gA K "BadSpan")) = some false
  e_Unknown_Doubled : PySem.W.exmOne K (.ref (gA K "Unknown")) (.ref (gA K "Doubled")) = some false
  e_Unknown_SelfBond : PySem.W.exmOne K (.ref (gA K "Unknown")) (.ref (gA K "SelfBond")) = some false
  e_OutOfRange_BadName : PySem.W.exmOne K (.ref (gA K "OutOfRange")) (.ref (gA K "BadName")) = some false
  e_OutOfRange_BadNumber : PySem.W.exmOne K (.ref (gA K "OutOfRange")) (.ref (gA K "BadNumber")) = some false
  e_OutOfRange_BadSpan : PySem.W.exmOne K (.ref (gA K "OutOfRange")) (.ref (gA K "BadSpan")) = some false
  e_OutOfRange_Doubled : PySem.W.exmOne K (.ref (gA K "OutOfRange")) (.ref (gA K "Doubled")) = some false
  e_OutOfRange_SelfBond : PySem.W.exmOne K (.ref (gA K "OutOfRange")) (.ref (gA K "SelfBond")) = some false
  e_OutOfRange_Unknown : PySem.W.exmOne K (.ref (gA K "OutOfRange")) (.ref (gA K "Unknown")) = some false
  wt0 : kt0B K (He.dflAt ("Web", some "__init__") 0 K) = true
def fa : List He.Fa := [.glo "_law_store", .glo "_law_stir", .glo "_law_take", .glo "_law_pick", .glo "_law_shuffled", .glo "_law_clamped", .glo "_law_near", .glo "_law_bar", .glo "is_name", .glo "check_name", .glo "ordered", .glo "is_number", .glo "check_number", .glo "check_end", .glo "check_open", .glo "check_count", .glo "check_known", .glo "check_ends", .glo "kept_bond", .glo "arms_at", .glo "check_rows", .glo "_law_name", .glo "_law_ends", .glo "_law_unused", .glo "_law_fresh_names", .glo "_law_names", .glo "_law_kept_rows", .glo "_law_edges", .glo "_law_alike", .glo "_law_bad_number", .glo "_law_bad_name", .glo "_law_is_name", .glo "_law_is_number", .glo "_law_first_double", .glo "_law_stranger", .glo "_law_web_due", .glo "_law_bent_edge", .glo "_law_bent_web", .glo "_law_asked", .glo "_law_holds", .glo "_law_rows", .glo "_law_one_more", .glo "law", .glo "Span", .glo "Web", .glo "BadName", .glo "Doubled", .glo "BadNumber", .glo "BadSpan", .glo "SelfBond", .glo "Unknown", .glo "OutOfRange", .glo "OutshinerError", .str "LETTERS" letS, .str "SIGNS" signS, .int "LONGEST_NAME" 8, .int "LIMIT" 1000000000000, .int "MOST_LAMPS" 10, .int "MOST_BONDS" 16, .free "list", .free "int", .free "max", .free "len", .free "range", .free "isinstance", .free "bool", .free "str", .free "tuple", .free "dict", .free "ValueError", .free "sorted", .free "min", .free "iter"]
def dd0 : He5.DefA := ⟨fun K => He.fAd K ("_law_store", none), "_law_store", "_law_store", defArgs s__law_store, defBody s__law_store, defScope s__law_store, [], []⟩
def dd1 : He5.DefA := ⟨fun K => He.fAd K ("_law_stir", none), "_law_stir", "_law_stir", defArgs s__law_stir, defBody s__law_stir, defScope s__law_stir, [], []⟩
def dd2 : He5.DefA := ⟨fun K => He.fAd K ("_law_take", none), "_law_take", "_law_take", defArgs s__law_take, defBody s__law_take, defScope s__law_take, [], []⟩
def dd3 : He5.DefA := ⟨fun K => He.fAd K ("_law_pick", none), "_law_pick", "_law_pick", defArgs s__law_pick, defBody s__law_pick, defScope s__law_pick, [], []⟩
def dd4 : He5.DefA := ⟨fun K => He.fAd K ("_law_shuffled", none), "_law_shuffled", "_law_shuffled", defArgs s__law_shuffled, defBody s__law_shuffled, defScope s__law_shuffled, [], []⟩
def dd5 : He5.DefA := ⟨fun K => He.fAd K ("_law_clamped", none), "_law_clamped", "_law_clamped", defArgs s__law_clamped, defBody s__law_clamped, defScope s__law_clamped, [], []⟩
def dd6 : He5.DefA := ⟨fun K => He.fAd K ("_law_near", none), "_law_near", "_law_near", defArgs s__law_near, defBody s__law_near, defScope s__law_near, [], []⟩
def dd7 : He5.DefA := ⟨fun K => He.fAd K ("_law_bar", none), "_law_bar", "_law_bar", defArgs s__law_bar, defBody s__law_bar, defScope s__law_bar, [], []⟩
def dd8 : He5.DefA := ⟨fun K => He.fAd K ("is_name", none), "is_name", "is_name", defArgs s_is_name, defBody s_is_name, defScope s_is_name, [], []⟩
def dd9 : He5.DefA := ⟨fun K => He.fAd K ("check_name", none), "check_name", "check_name", defArgs s_check_name, defBody s_check_name, defScope s_check_name, [], []⟩
def dd10 : He5.DefA := ⟨fun K => He.fAd K ("ordered", none), "ordered", "ordered", defArgs s_ordered, defBody s_ordered, defScope s_ordered, [], []⟩
def dd11 : He5.DefA := ⟨fun K => He.fAd K ("is_number", none), "is_number", "is_number", defArgs s_is_number, defBody s_is_number, defScope s_is_number, [], []⟩
def dd12 : He5.DefA := ⟨fun K => He.fAd K ("check_number", none), "check_number", "check_number", defArgs s_check_number, defBody s_check_number, defScope s_check_number, [], []⟩
def dd13 : He5.DefA := ⟨fun K => He.fAd K ("check_end", none), "check_end", "check_end", defArgs s_check_end, defBody s_check_end, defScope s_check_end, [], []⟩
def dd14 : He5.DefA := ⟨fun K => He.fAd K ("check_open", none), "check_open", "check_open", defArgs s_check_open, defBody s_check_open, defScope s_check_open, [], []⟩
def dd15 : He5.DefA := ⟨fun K => He.fAd K ("check_count", none), "check_count", "check_count", defArgs s_check_count, defBody s_check_count, defScope s_check_count, [], []⟩
def dd16 : He5.DefA := ⟨fun K => He.fAd K ("check_known", none), "check_known", "check_known", defArgs s_check_known, defBody s_check_known, defScope s_check_known, [], []⟩
def dd17 : He5.DefA := ⟨fun K => He.fAd K ("check_ends", none), "check_ends", "check_ends", defArgs s_check_ends, defBody s_check_ends, defScope s_check_ends, [], []⟩
def dd18 : He5.DefA := ⟨fun K => He.fAd K ("kept_bond", none), "kept_bond", "kept_bond", defArgs s_kept_bond, defBody s_kept_bond, defScope s_kept_bond, [], []⟩
def dd19 : He5.DefA := ⟨fun K => He.fAd K ("arms_at", none), "arms_at", "arms_at", defArgs s_arms_at, defBody s_arms_at, defScope s_arms_at, [], []⟩
def dd20 : He5.DefA := ⟨fun K => He.fAd K ("check_rows", none), "check_rows", "check_rows", defArgs s_check_rows, defBody s_check_rows, defScope s_check_rows, [], []⟩
def dd21 : He5.DefA := ⟨fun K => He.fAd K ("_law_name", none), "_law_name", "_law_name", defArgs s__law_name, defBody s__law_name, defScope s__law_name, [], []⟩
def dd22 : He5.DefA := ⟨fun K => He.fAd K ("_law_ends", none), "_law_ends", "_law_ends", defArgs s__law_ends, defBody s__law_ends, defScope s__law_ends, [], []⟩
def dd23 : He5.DefA := ⟨fun K => He.fAd K ("_law_unused", none), "_law_unused", "_law_unused", defArgs s__law_unused, defBody s__law_unused, defScope s__law_unused, [], []⟩
def dd24 : He5.DefA := ⟨fun K => He.fAd K ("_law_fresh_names", none), "_law_fresh_names", "_law_fresh_names", defArgs s__law_fresh_names, defBody s__law_fresh_names, defScope s__law_fresh_names, [], []⟩
def dd25 : He5.DefA := ⟨fun K => He.fAd K ("_law_names", none), "_law_names", "_law_names", defArgs s__law_names, defBody s__law_names, defScope s__law_names, [], []⟩
def dd26 : He5.DefA := ⟨fun K => He.fAd K ("_law_kept_rows", none), "_law_kept_rows", "_law_kept_rows", defArgs s__law_kept_rows, defBody s__law_kept_rows, defScope s__law_kept_rows, [], []⟩
def dd27 : He5.DefA := ⟨fun K => He.fAd K ("_law_edges", none), "_law_edges", "_law_edges", defArgs s__law_edges, defBody s__law_edges, defScope s__law_edges, [], []⟩
def dd28 : He5.DefA := ⟨fun K => He.fAd K ("_law_alike", none), "_law_alike", "_law_alike", defArgs s__law_alike, defBody s__law_alike, defScope s__law_alike, [], []⟩
def dd29 : He5.DefA := ⟨fun K => He.fAd K ("_law_bad_number", none), "_law_bad_number", "_law_bad_number", defArgs s__law_bad_number, defBody s__law_bad_number, defScope s__law_bad_number, [], []⟩
def dd30 : He5.DefA := ⟨fun K => He.fAd K ("_law_bad_name", none), "_law_bad_name", "_law_bad_name", defArgs s__law_bad_name, defBody s__law_bad_name, defScope s__law_bad_name, [], []⟩
def dd31 : He5.DefA := ⟨fun K => He.fAd K ("_law_is_name", none), "_law_is_name", "_law_is_name", defArgs s__law_is_name, defBody s__law_is_name, defScope s__law_is_name, [], []⟩
def dd32 : He5.DefA := ⟨fun K => He.fAd K ("_law_is_number", none), "_law_is_number", "_law_is_number", defArgs s__law_is_number, defBody s__law_is_number, defScope s__law_is_number, [], []⟩
def dd33 : He5.DefA := ⟨fun K => He.fAd K ("_law_first_double", none), "_law_first_double", "_law_first_double", defArgs s__law_first_double, defBody s__law_first_double, defScope s__law_first_double, [], []⟩
def dd34 : He5.DefA := ⟨fun K => He.fAd K ("_law_stranger", none), "_law_stranger", "_law_stranger", defArgs s__law_stranger, defBody s__law_stranger, defScope s__law_stranger, [], []⟩
def dd35 : He5.DefA := ⟨fun K => He.fAd K ("_law_web_due", none), "_law_web_due", "_law_web_due", defArgs s__law_web_due, defBody s__law_web_due, defScope s__law_web_due, [], []⟩
def dd36 : He5.DefA := ⟨fun K => He.fAd K ("_law_bent_edge", none), "_law_bent_edge", "_law_bent_edge", defArgs s__law_bent_edge, defBody s__law_bent_edge, defScope s__law_bent_edge, [], []⟩
def dd37 : He5.DefA := ⟨fun K => He.fAd K ("_law_bent_web", none), "_law_bent_web", "_law_bent_web", defArgs s__law_bent_web, defBody s__law_bent_web, defScope s__law_bent_web, [], []⟩
def dd38 : He5.DefA := ⟨fun K => He.fAd K ("_law_asked", none), "_law_asked", "_law_asked", defArgs s__law_asked, defBody s__law_asked, defScope s__law_asked, [], []⟩
def dd39 : He5.DefA := ⟨fun K => He.fAd K ("_law_holds", none), "_law_holds", "_law_holds", defArgs s__law_holds, defBody s__law_holds, defScope s__law_holds, [], []⟩
def dd40 : He5.DefA := ⟨fun K => He.fAd K ("_law_rows", none), "_law_rows", "_law_rows", defArgs s__law_rows, defBody s__law_rows, defScope s__law_rows, [], []⟩
def dd41 : He5.DefA := ⟨fun K => He.fAd K ("_law_one_more", none), "_law_one_more", "_law_one_more", defArgs s__law_one_more, defBody s__law_one_more, defScope s__law_one_more, [], []⟩
def dd42 : He5.DefA := ⟨fun K => He.fAd K ("law", none), "law", "law", defArgs s_law, defBody s_law, defScope s_law, [], []⟩
def dd43 : He5.DefA := ⟨fun K => He.fAd K ("BadName", some "__init__"), "__init__", "BadName.__init__", defArgs s_BadName_init, defBody s_BadName_init, defScope s_BadName_init, [], []⟩
def dd44 : He5.DefA := ⟨fun K => He.fAd K ("Doubled", some "__init__"), "__init__", "Doubled.__init__", defArgs s_Doubled_init, defBody s_Doubled_init, defScope s_Doubled_init, [], []⟩
def dd45 : He5.DefA := ⟨fun K => He.fAd K ("BadNumber", some "__init__"), "__init__", "BadNumber.__init__", defArgs s_BadNumber_init, defBody s_BadNumber_init, defScope s_BadNumber_init, [], []⟩
def dd46 : He5.DefA := ⟨fun K => He.fAd K ("BadSpan", some "__init__"), "__init__", "BadSpan.__init__", defArgs s_BadSpan_init, defBody s_BadSpan_init, defScope s_BadSpan_init, [], []⟩
def dd47 : He5.DefA := ⟨fun K => He.fAd K ("SelfBond", some "__init__"), "__init__", "SelfBond.__init__", defArgs s_SelfBond_init, defBody s_SelfBond_init, defScope s_SelfBond_init, [], []⟩
def dd48 : He5.DefA := ⟨fun K => He.fAd K ("Unknown", some "__init__"), "__init__", "Unknown.__init__", defArgs s_Unknown_init, defBody s_Unknown_init, defScope s_Unknown_init, [], []⟩
def dd49 : He5.DefA := ⟨fun K => He.fAd K ("OutOfRange", some "__init__"), "__init__", "OutOfRange.__init__", defArgs s_OutOfRange_init, defBody s_OutOfRange_init, defScope s_OutOfRange_init, [], []⟩
def dd50 : He5.DefA := ⟨fun K => He.ma K (gA K "Span") "__init__", "__init__", "Span.__init__", defArgs s_Span___init__, defBody s_Span___init__, defScope s_Span___init__, [.non, .non], []⟩
def dd51 : He5.DefA := ⟨fun K => He.ma K (gA K "Web") "__init__", "__init__", "Web.__init__", defArgs s_Web___init__, defBody s_Web___init__, defScope s_Web___init__, [.adr (He.dflAt ("Web", some "__init__") 0)], []⟩
def dd52 : He5.DefA := ⟨fun K => He.ma K (gA K "Web") "with_span", "with_span", "Web.with_span", defArgs s_Web_with_span, defBody s_Web_with_span, defScope s_Web_with_span, [], []⟩
def dd53 : He5.DefA := ⟨fun K => He.ma K (gA K "Web") "with_bond", "with_bond", "Web.with_bond", defArgs s_Web_with_bond, defBody s_Web_with_bond, defScope s_Web_with_bond, [], [("low", .non), ("high", .non)]⟩
def dd54 : He5.DefA := ⟨fun K => propG K (gA K "Web") "lamp_rows", "lamp_rows", "Web.lamp_rows", defArgs s_Web_lamp_rows, defBody s_Web_lamp_rows, defScope s_Web_lamp_rows, [], []⟩
def dd55 : He5.DefA := ⟨fun K => propG K (gA K "Web") "bond_rows", "bond_rows", "Web.bond_rows", defArgs s_Web_bond_rows, defBody s_Web_bond_rows, defScope s_Web_bond_rows, [], []⟩
def fn : List He5.DefA := [dd0, dd1, dd2, dd3, dd4, dd5, dd6, dd7, dd8, dd9, dd10, dd11, dd12, dd13, dd14, dd15, dd16, dd17, dd18, dd19, dd20, dd21, dd22, dd23, dd24, dd25, dd26, dd27, dd28, dd29, dd30, dd31, dd32, dd33, dd34, dd35, dd36, dd37, dd38, dd39, dd40, dd41, dd42, dd43, dd44, dd45, dd46, dd47, dd48, dd49, dd50, dd51, dd52, dd53, dd54, dd55]
def exL (K : PySem.W.Frag) : List Bool := [xinB K (gA K "BadName") ["name"], xinB K (gA K "Doubled") ["name"], xinB K (gA K "BadNumber") ["number"], xinB K (gA K "BadSpan") ["low", "high"], xinB K (gA K "SelfBond") ["bond"], xinB K (gA K "Unknown") ["name"], xinB K (gA K "OutOfRange") ["number", "low", "high"], clsB K (gA K "Span"), mkB K (gA K "Span"), noB K (gA K "Span") ["low", "high"], tyCB K (gA K "Span"), PySem.W.selfFirst K (gA K "Span"), clsB K (gA K "Web"), mkB K (gA K "Web"), noB K (gA K "Web") ["own_lamp_rows", "own_bond_rows", "own_lamps", "own_ceilings", "own_ends", "own_spans", "own_arms"], tyCB K (gA K "Web"), PySem.W.selfFirst K (gA K "Web"), methB K (gA K "Web") "with_span", methB K (gA K "Web") "with_bond", propB K (gA K "Web") "lamp_rows", propB K (gA K "Web") "bond_rows", xcB K (gA K "BadName"), xcB K (gA K "Doubled"), xcB K (gA K "BadNumber"), xcB K (gA K "BadSpan"), xcB K (gA K "SelfBond"), xcB K (gA K "Unknown"), xcB K (gA K "OutOfRange"), decide (PySem.W.kitOne K (.ref (gA K "BadName")) (.ref (gA K "OutshinerError")) = some true), decide (PySem.W.kitOne K (.ref (gA K "BadNumber")) (.ref (gA K "OutshinerError")) = some true), decide (PySem.W.kitOne K (.ref (gA K "BadSpan")) (.ref (gA K "OutshinerError")) = some true), decide (PySem.W.kitOne K (.ref (gA K "Doubled")) (.ref (gA K "OutshinerError")) = some true), decide (PySem.W.kitOne K (.ref (gA K "SelfBond")) (.ref (gA K "OutshinerError")) = some true), decide (PySem.W.kitOne K (.ref (gA K "Unknown")) (.ref (gA K "OutshinerError")) = some true), decide (PySem.W.kitOne K (.ref (gA K "OutOfRange")) (.ref (gA K "OutshinerError")) = some true), decide (PySem.W.kitAny K (.ref (gA K "BadName")) ([gA K "BadNumber", gA K "Doubled", gA K "Unknown"].map Value.ref) = some false), decide (PySem.W.kitAny K (.ref (gA K "BadNumber")) ([gA K "BadSpan", gA K "OutOfRange"].map Value.ref) = some false), decide (PySem.W.kitAny K (.ref (gA K "BadSpan")) ([gA K "OutOfRange", gA K "BadNumber"].map Value.ref) = some false), decide (PySem.W.kitAny K (.ref (gA K "Doubled")) ([gA K "BadName", gA K "SelfBond", gA K "Unknown"].map Value.ref) = some false), decide (PySem.W.kitAny K (.ref (gA K "SelfBond")) ([gA K "Doubled", gA K "BadName", gA K "Unknown"].map Value.ref) = some false), decide (PySem.W.kitAny K (.ref (gA K "Unknown")) ([gA K "BadName", gA K "Doubled", gA K "SelfBond"].map Value.ref) = some false), decide (PySem.W.kitAny K (.ref (gA K "OutOfRange")) ([gA K "BadNumber", gA K "BadSpan", gA K "Doubled"].map Value.ref) = some false), decide (PySem.W.exmOne K (.ref (gA K "BadNumber")) (.ref (gA K "BadName")) = some false), decide (PySem.W.exmOne K (.ref (gA K "BadSpan")) (.ref (gA K "BadName")) = some false), decide (PySem.W.exmOne K (.ref (gA K "BadSpan")) (.ref (gA K "BadNumber")) = some false), decide (PySem.W.exmOne K (.ref (gA K "Doubled")) (.ref (gA K "BadName")) = some false), decide (PySem.W.exmOne K (.ref (gA K "Doubled")) (.ref (gA K "BadNumber")) = some false), decide (PySem.W.exmOne K (.ref (gA K "Doubled")) (.ref (gA K "BadSpan")) = some false), decide (PySem.W.exmOne K (.ref (gA K "SelfBond")) (.ref (gA K "BadName")) = some false), decide (PySem.W.exmOne K (.ref (gA K "SelfBond")) (.ref (gA K "BadNumber")) = some false), decide (PySem.W.exmOne K (.ref (gA K "SelfBond")) (.ref (gA K "BadSpan")) = some false), decide (PySem.W.exmOne K (.ref (gA K "SelfBond")) (.ref (gA K "Doubled")) = some false), decide (PySem.W.exmOne K (.ref (gA K "Unknown")) (.ref (gA K "BadName")) = some false), decide (PySem.W.exmOne K (.ref (gA K "Unknown")) (.ref (gA K "BadNumber")) = some false), decide (PySem.W.exmOne K (.ref (gA K "Unknown")) (.ref (gA K "BadSpan")) = some false), decide (PySem.W.exmOne K (.ref (gA K "Unknown")) (.ref (gA K "Doubled")) = some false), decide (PySem.W.exmOne K (.ref (gA K "Unknown")) (.ref (gA K "SelfBond")) = some false), decide (PySem.W.exmOne K (.ref (gA K "OutOfRange")) (.ref (gA K "BadName")) = some false), decide (PySem.W.exmOne K (.ref (gA K "OutOfRange")) (.ref (gA K "BadNumber")) = some false), decide (PySem.W.exmOne K (.ref (gA K "OutOfRange")) (.ref (gA K "BadSpan")) = some false), decide (PySem.W.exmOne K (.ref (gA K "OutOfRange")) (.ref (gA K "Doubled")) = some false), decide (PySem.W.exmOne K (.ref (gA K "OutOfRange")) (.ref (gA K "SelfBond")) = some false), decide (PySem.W.exmOne K (.ref (gA K "OutOfRange")) (.ref (gA K "Unknown")) = some false), decide (kt0B K (He.dflAt ("Web", some "__init__") 0 K) = true)]
def exB (K : PySem.W.Frag) : Bool := (exL K).all id
theorem exB_at {K : PySem.W.Frag} (h : exB K = true) (i : Nat) {b : Bool} (e : (exL K)[i]? = some b) : b = true := List.all_eq_true.mp h b (List.mem_of_getElem? e)
theorem txt_of {K : PySem.W.Frag} {h : Heap} {mg : Str → Option Value} (X : K.In h) (G : h.Ns mainGlobals mg) (c : SaysQ fa fn exB K) : Txt K mg where
  f__law_store := by
    obtain ⟨fd, F⟩ := c.d.def_ 0 rfl
    exact ⟨⟨_, fd, He.glo_ok X G (c.d.fact 0 (f := .glo "_law_store") rfl), F⟩⟩
  f__law_stir := by
    obtain ⟨fd, F⟩ := c.d.def_ 1 rfl
    exact ⟨⟨_, fd, He.glo_ok X G (c.d.fact 1 (f := .glo "_law_stir") rfl), F⟩⟩
  f__law_take := by
    obtain ⟨fd, F⟩ := c.d.def_ 2 rfl
    exact ⟨⟨_, fd, He.glo_ok X G (c.d.fact 2 (f := .glo "_law_take") rfl), F⟩⟩
  f__law_pick := by
    obtain ⟨fd, F⟩ := c.d.def_ 3 rfl
    exact ⟨⟨_, fd, He.glo_ok X G (c.d.fact 3 (f := .glo "_law_pick") rfl), F⟩⟩
  f__law_shuffled := by
    obtain ⟨fd, F⟩ := c.d.def_ 4 rfl
    exact ⟨⟨_, fd, He.glo_ok X G (c.d.fact 4 (f := .glo "_law_shuffled") rfl), F⟩⟩
  f__law_clamped := by
    obtain ⟨fd, F⟩ := c.d.def_ 5 rfl
    exact ⟨⟨_, fd, He.glo_ok X G (c.d.fact 5 (f := .glo "_law_clamped") rfl), F⟩⟩
  f__law_near := by
    obtain ⟨fd, F⟩ := c.d.def_ 6 rfl
    exact ⟨⟨_, fd, He.glo_ok X G (c.d.fact 6 (f := .glo "_law_near") rfl), F⟩⟩
  f__law_bar := by
    obtain ⟨fd, F⟩ := c.d.def_ 7 rfl
    exact ⟨⟨_, fd, He.glo_ok X G (c.d.fact 7 (f := .glo "_law_bar") rfl), F⟩⟩
  f_is_name := by
    obtain ⟨fd, F⟩ := c.d.def_ 8 rfl
    exact ⟨⟨_, fd, He.glo_ok X G (c.d.fact 8 (f := .glo "is_name") rfl), F⟩⟩
  f_check_name := by
    obtain ⟨fd, F⟩ := c.d.def_ 9 rfl
    exact ⟨⟨_, fd, He.glo_ok X G (c.d.fact 9 (f := .glo "check_name") rfl), F⟩⟩
  f_ordered := by
    obtain ⟨fd, F⟩ := c.d.def_ 10 rfl
    exact ⟨⟨_, fd, He.glo_ok X G (c.d.fact 10 (f := .glo "ordered") rfl), F⟩⟩
  f_is_number := by
    obtain ⟨fd, F⟩ := c.d.def_ 11 rfl
    exact ⟨⟨_, fd, He.glo_ok X G (c.d.fact 11 (f := .glo "is_number") rfl), F⟩⟩
  f_check_number := by
    obtain ⟨fd, F⟩ := c.d.def_ 12 rfl
    exact ⟨⟨_, fd, He.glo_ok X G (c.d.fact 12 (f := .glo "check_number") rfl), F⟩⟩
  f_check_end := by
    obtain ⟨fd, F⟩ := c.d.def_ 13 rfl
    exact ⟨⟨_, fd, He.glo_ok X G (c.d.fact 13 (f := .glo "check_end") rfl), F⟩⟩
  f_check_open := by
    obtain ⟨fd, F⟩ := c.d.def_ 14 rfl
    exact ⟨⟨_, fd, He.glo_ok X G (c.d.fact 14 (f := .glo "check_open") rfl), F⟩⟩
  f_check_count := by
    obtain ⟨fd, F⟩ := c.d.def_ 15 rfl
    exact ⟨⟨_, fd, He.glo_ok X G (c.d.fact 15 (f := .glo "check_count") rfl), F⟩⟩
  f_check_known := by
    obtain ⟨fd, F⟩ := c.d.def_ 16 rfl
    exact ⟨⟨_, fd, He.glo_ok X G (c.d.fact 16 (f := .glo "check_known") rfl), F⟩⟩
  f_check_ends := by
    obtain ⟨fd, F⟩ := c.d.def_ 17 rfl
    exact ⟨⟨_, fd, He.glo_ok X G (c.d.fact 17 (f := .glo "check_ends") rfl), F⟩⟩
  f_kept_bond := by
    obtain ⟨fd, F⟩ := c.d.def_ 18 rfl
    exact ⟨⟨_, fd, He.glo_ok X G (c.d.fact 18 (f := .glo "kept_bond") rfl), F⟩⟩
  f_arms_at := by
    obtain ⟨fd, F⟩ := c.d.def_ 19 rfl
    exact ⟨⟨_, fd, He.glo_ok X G (c.d.fact 19 (f := .glo "arms_at") rfl), F⟩⟩
  f_check_rows := by
    obtain ⟨fd, F⟩ := c.d.def_ 20 rfl
    exact ⟨⟨_, fd, He.glo_ok X G (c.d.fact 20 (f := .glo "check_rows") rfl), F⟩⟩
  f__law_name := by
    obtain ⟨fd, F⟩ := c.d.def_ 21 rfl
    exact ⟨⟨_, fd, He.glo_ok X G (c.d.fact 21 (f := .glo "_law_name") rfl), F⟩⟩
  f__law_ends := by
    obtain ⟨fd, F⟩ := c.d.def_ 22 rfl
    exact ⟨⟨_, fd, He.glo_ok X G (c.d.fact 22 (f := .glo "_law_ends") rfl), F⟩⟩
  f__law_unused := by
    obtain ⟨fd, F⟩ := c.d.def_ 23 rfl
    exact ⟨⟨_, fd, He.glo_ok X G (c.d.fact 23 (f := .glo "_law_unused") rfl), F⟩⟩
  f__law_fresh_names := by
    obtain ⟨fd, F⟩ := c.d.def_ 24 rfl
    exact ⟨⟨_, fd, He.glo_ok X G (c.d.fact 24 (f := .glo "_law_fresh_names") rfl), F⟩⟩
  f__law_names := by
    obtain ⟨fd, F⟩ := c.d.def_ 25 rfl
    exact ⟨⟨_, fd, He.glo_ok X G (c.d.fact 25 (f := .glo "_law_names") rfl), F⟩⟩
  f__law_kept_rows := by
    obtain ⟨fd, F⟩ := c.d.def_ 26 rfl
    exact ⟨⟨_, fd, He.glo_ok X G (c.d.fact 26 (f := .glo "_law_kept_rows") rfl), F⟩⟩
  f__law_edges := by
    obtain ⟨fd, F⟩ := c.d.def_ 27 rfl
    exact ⟨⟨_, fd, He.glo_ok X G (c.d.fact 27 (f := .glo "_law_edges") rfl), F⟩⟩
  f__law_alike := by
    obtain ⟨fd, F⟩ := c.d.def_ 28 rfl
    exact ⟨⟨_, fd, He.glo_ok X G (c.d.fact 28 (f := .glo "_law_alike") rfl), F⟩⟩
  f__law_bad_number := by
    obtain ⟨fd, F⟩ := c.d.def_ 29 rfl
    exact ⟨⟨_, fd, He.glo_ok X G (c.d.fact 29 (f := .glo "_law_bad_number") rfl), F⟩⟩
  f__law_bad_name := by
    obtain ⟨fd, F⟩ := c.d.def_ 30 rfl
    exact ⟨⟨_, fd, He.glo_ok X G (c.d.fact 30 (f := .glo "_law_bad_name") rfl), F⟩⟩
  f__law_is_name := by
    obtain ⟨fd, F⟩ := c.d.def_ 31 rfl
    exact ⟨⟨_, fd, He.glo_ok X G (c.d.fact 31 (f := .glo "_law_is_name") rfl), F⟩⟩
  f__law_is_number := by
    obtain ⟨fd, F⟩ := c.d.def_ 32 rfl
    exact ⟨⟨_, fd, He.glo_ok X G (c.d.fact 32 (f := .glo "_law_is_number") rfl), F⟩⟩
  f__law_first_double := by
    obtain ⟨fd, F⟩ := c.d.def_ 33 rfl
    exact ⟨⟨_, fd, He.glo_ok X G (c.d.fact 33 (f := .glo "_law_first_double") rfl), F⟩⟩
  f__law_stranger := by
    obtain ⟨fd, F⟩ := c.d.def_ 34 rfl
    exact ⟨⟨_, fd, He.glo_ok X G (c.d.fact 34 (f := .glo "_law_stranger") rfl), F⟩⟩
  f__law_web_due := by
    obtain ⟨fd, F⟩ := c.d.def_ 35 rfl
    exact ⟨⟨_, fd, He.glo_ok X G (c.d.fact 35 (f := .glo "_law_web_due") rfl), F⟩⟩
  f__law_bent_edge := by
    obtain ⟨fd, F⟩ := c.d.def_ 36 rfl
    exact ⟨⟨_, fd, He.glo_ok X G (c.d.fact 36 (f := .glo "_law_bent_edge") rfl), F⟩⟩
  f__law_bent_web := by
    obtain ⟨fd, F⟩ := c.d.def_ 37 rfl
    exact ⟨⟨_, fd, He.glo_ok X G (c.d.fact 37 (f := .glo "_law_bent_web") rfl), F⟩⟩
  f__law_asked := by
    obtain ⟨fd, F⟩ := c.d.def_ 38 rfl
    exact ⟨⟨_, fd, He.glo_ok X G (c.d.fact 38 (f := .glo "_law_asked") rfl), F⟩⟩
  f__law_holds := by
    obtain ⟨fd, F⟩ := c.d.def_ 39 rfl
    exact ⟨⟨_, fd, He.glo_ok X G (c.d.fact 39 (f := .glo "_law_holds") rfl), F⟩⟩
  f__law_rows := by
    obtain ⟨fd, F⟩ := c.d.def_ 40 rfl
    exact ⟨⟨_, fd, He.glo_ok X G (c.d.fact 40 (f := .glo "_law_rows") rfl), F⟩⟩
  f__law_one_more := by
    obtain ⟨fd, F⟩ := c.d.def_ 41 rfl
    exact ⟨⟨_, fd, He.glo_ok X G (c.d.fact 41 (f := .glo "_law_one_more") rfl), F⟩⟩
  f_law := by
    obtain ⟨fd, F⟩ := c.d.def_ 42 rfl
    exact ⟨⟨_, fd, He.glo_ok X G (c.d.fact 42 (f := .glo "law") rfl), F⟩⟩
  fi_BadName := c.d.def_ 43 rfl
  i_BadName := xinB_ok (exB_at c.x 0 rfl)
  fi_Doubled := c.d.def_ 44 rfl
  i_Doubled := xinB_ok (exB_at c.x 1 rfl)
  fi_BadNumber := c.d.def_ 45 rfl
  i_BadNumber := xinB_ok (exB_at c.x 2 rfl)
  fi_BadSpan := c.d.def_ 46 rfl
  i_BadSpan := xinB_ok (exB_at c.x 3 rfl)
  fi_SelfBond := c.d.def_ 47 rfl
  i_SelfBond := xinB_ok (exB_at c.x 4 rfl)
  fi_Unknown := c.d.def_ 48 rfl
  i_Unknown := xinB_ok (exB_at c.x 5 rfl)
  fi_OutOfRange := c.d.def_ 49 rfl
  i_OutOfRange := xinB_ok (exB_at c.x 6 rfl)
  g_Span := He.glo_ok X G (c.d.fact 43 (f := .glo "Span") rfl)
  cl_Span := clsB_ok (exB_at c.x 7 rfl)
  mk_Span := mkB_ok (exB_at c.x 8 rfl)
  no_Span := noB_ok (exB_at c.x 9 rfl)
  ty_Span := tyCB_ok (exB_at c.x 10 rfl)
  sf_Span := id (exB_at c.x 11 rfl)
  f_Span___init__ := c.d.def_ 50 rfl
  g_Web := He.glo_ok X G (c.d.fact 44 (f := .glo "Web") rfl)
  cl_Web := clsB_ok (exB_at c.x 12 rfl)
  mk_Web := mkB_ok (exB_at c.x 13 rfl)
  no_Web := noB_ok (exB_at c.x 14 rfl)
  ty_Web := tyCB_ok (exB_at c.x 15 rfl)
  sf_Web := id (exB_at c.x 16 rfl)
  f_Web___init__ := c.d.def_ 51 rfl
  c_Web_with_span := methB_ok (exB_at c.x 17 rfl)
  f_Web_with_span := c.d.def_ 52 rfl
  c_Web_with_bond := methB_ok (exB_at c.x 18 rfl)
  f_Web_with_bond := c.d.def_ 53 rfl
  c_Web_lamp_rows := propB_ok (exB_at c.x 19 rfl)
  f_Web_lamp_rows := c.d.def_ 54 rfl
  c_Web_bond_rows := propB_ok (exB_at c.x 20 rfl)
  f_Web_bond_rows := c.d.def_ 55 rfl
  g_BadName := He.glo_ok X G (c.d.fact 45 (f := .glo "BadName") rfl)
  x_BadName := xcB_ok (exB_at c.x 21 rfl)
  g_Doubled := He.glo_ok X G (c.d.fact 46 (f := .glo "Doubled") rfl)
  x_Doubled := xcB_ok (exB_at c.x 22 rfl)
  g_BadNumber := He.glo_ok X G (c.d.fact 47 (f := .glo "BadNumber") rfl)
  x_BadNumber := xcB_ok (exB_at c.x 23 rfl)
  g_BadSpan := He.glo_ok X G (c.d.fact 48 (f := .glo "BadSpan") rfl)
  x_BadSpan := xcB_ok (exB_at c.x 24 rfl)
  g_SelfBond := He.glo_ok X G (c.d.fact 49 (f := .glo "SelfBond") rfl)
  x_SelfBond := xcB_ok (exB_at c.x 25 rfl)
  g_Unknown := He.glo_ok X G (c.d.fact 50 (f := .glo "Unknown") rfl)
  x_Unknown := xcB_ok (exB_at c.x 26 rfl)
  g_OutOfRange := He.glo_ok X G (c.d.fact 51 (f := .glo "OutOfRange") rfl)
  x_OutOfRange := xcB_ok (exB_at c.x 27 rfl)
  g_OutshinerError := He.glo_ok X G (c.d.fact 52 (f := .glo "OutshinerError") rfl)
  c_LETTERS := He.str_ok X G (c.d.fact 53 (f := .str "LETTERS" letS) rfl)
  c_SIGNS := He.str_ok X G (c.d.fact 54 (f := .str "SIGNS" signS) rfl)
  c_LONGEST_NAME := He.int_ok X G (c.d.fact 55 (f := .int "LONGEST_NAME" 8) rfl)
  c_LIMIT := He.int_ok X G (c.d.fact 56 (f := .int "LIMIT" 1000000000000) rfl)
  c_MOST_LAMPS := He.int_ok X G (c.d.fact 57 (f := .int "MOST_LAMPS" 10) rfl)
  c_MOST_BONDS := He.int_ok X G (c.d.fact 58 (f := .int "MOST_BONDS" 16) rfl)
  b_list := He.free_ok X G (c.d.fact 59 (f := .free "list") rfl)
  b_int := He.free_ok X G (c.d.fact 60 (f := .free "int") rfl)
  b_max := He.free_ok X G (c.d.fact 61 (f := .free "max") rfl)
  b_len := He.free_ok X G (c.d.fact 62 (f := .free "len") rfl)
  b_range := He.free_ok X G (c.d.fact 63 (f := .free "range") rfl)
  b_isinstance := He.free_ok X G (c.d.fact 64 (f := .free "isinstance") rfl)
  b_bool := He.free_ok X G (c.d.fact 65 (f := .free "bool") rfl)
  b_str := He.free_ok X G (c.d.fact 66 (f := .free "str") rfl)
  b_tuple := He.free_ok X G (c.d.fact 67 (f := .free "tuple") rfl)
  b_dict := He.free_ok X G (c.d.fact 68 (f := .free "dict") rfl)
  b_ValueError := He.free_ok X G (c.d.fact 69 (f := .free "ValueError") rfl)
  b_sorted := He.free_ok X G (c.d.fact 70 (f := .free "sorted") rfl)
  b_min := He.free_ok X G (c.d.fact 71 (f := .free "min") rfl)
  b_iter := He.free_ok X G (c.d.fact 72 (f := .free "iter") rfl)
  kb_BadName := of_decide_eq_true (exB_at c.x 28 rfl)
  kb_BadNumber := of_decide_eq_true (exB_at c.x 29 rfl)
  kb_BadSpan := of_decide_eq_true (exB_at c.x 30 rfl)
  kb_Doubled := of_decide_eq_true (exB_at c.x 31 rfl)
  kb_SelfBond := of_decide_eq_true (exB_at c.x 32 rfl)
  kb_Unknown := of_decide_eq_true (exB_at c.x 33 rfl)
  kb_OutOfRange := of_decide_eq_true (exB_at c.x 34 rfl)
  kt_BadName := of_decide_eq_true (exB_at c.x 35 rfl)
  kt_BadNumber := of_decide_eq_true (exB_at c.x 36 rfl)
  kt_BadSpan := of_decide_eq_true (exB_at c.x 37 rfl)
  kt_Doubled := of_decide_eq_true (exB_at c.x 38 rfl)
  kt_SelfBond := of_decide_eq_true (exB_at c.x 39 rfl)
  kt_Unknown := of_decide_eq_true (exB_at c.x 40 rfl)
  kt_OutOfRange := of_decide_eq_true (exB_at c.x 41 rfl)
  e_BadNumber_BadName := of_decide_eq_true (exB_at c.x 42 rfl)
  e_BadSpan_BadName := of_decide_eq_true (exB_at c.x 43 rfl)
  e_BadSpan_BadNumber := of_decide_eq_true (exB_at c.x 44 rfl)
  e_Doubled_BadName := of_decide_eq_true (exB_at c.x 45 rfl)
  e_Doubled_BadNumber := of_decide_eq_true (exB_at c.x 46 rfl)
  e_Doubled_BadSpan := of_decide_eq_true (exB_at c.x 47 rfl)
  e_SelfBond_BadName := of_decide_eq_true (exB_at c.x 48 rfl)
  e_SelfBond_BadNumber := of_decide_eq_true (exB_at c.x 49 rfl)
  e_SelfBond_BadSpan := of_decide_eq_true (exB_at c.x 50 rfl)
  e_SelfBond_Doubled := of_decide_eq_true (exB_at c.x 51 rfl)
  e_Unknown_BadName := of_decide_eq_true (exB_at c.x 52 rfl)
  e_Unknown_BadNumber := of_decide_eq_true (exB_at c.x 53 rfl)
  e_Unknown_BadSpan := of_decide_eq_true (exB_at c.x 54 rfl)
  e_Unknown_Doubled := of_decide_eq_true (exB_at c.x 55 rfl)
  e_Unknown_SelfBond := of_decide_eq_true (exB_at c.x 56 rfl)
  e_OutOfRange_BadName := of_decide_eq_true (exB_at c.x 57 rfl)
  e_OutOfRange_BadNumber := of_decide_eq_true (exB_at c.x 58 rfl)
  e_OutOfRange_BadSpan := of_decide_eq_true (exB_at c.x 59 rfl)
  e_OutOfRange_Doubled := of_decide_eq_true (exB_at c.x 60 rfl)
  e_OutOfRange_SelfBond := of_decide_eq_true (exB_at c.x 61 rfl)
  e_OutOfRange_Unknown := of_decide_eq_true (exB_at c.x 62 rfl)
  wt0 := of_decide_eq_true (exB_at c.x 63 rfl)
section
variable {P : Program} {w : World} {K : PySem.W.Frag} {mg : Str → Option Value} {base : Heap}
theorem sci_BadName : FnScope ["self", "name"] ["self", "name"] (defScope s_BadName_init) := ⟨rfl, rfl, rfl, by decide +kernel, rfl, by decide +kernel, by decide +kernel⟩
theorem Di_BadName (T : Txt K mg) : ∃ fd, Binds K fd ["self", "name"] [] ∧ FnOk P w K mg base CX0 1 (He.ma K (gA K "BadName") "__init__") fd ["self", "name"] (Sp2 (pInit1 K (gA K "BadName") "name")) := by
  obtain ⟨fd, F⟩ := T.fi_BadName
  refine ⟨fd, F.bindsN (ps := ["self", "name"]) (fun _ _ _ _ _ _ us hl => match us, hl with | [_, _], _ => rfl), ?_⟩
  refine F.ok (CX := CX0) sci_BadName len2 (fun cdv A outer s H vs Q E hr h => ?_)
  obtain ⟨v0, v1, rfl, a, rfl, ha, k⟩ := h
  refine ⟨_, PSs.nox (pss_one (ps_ost (pv 0) (pv 1))), ?_⟩
  refine ⟨_, rfl, _, rfl, a, _, rfl, T.x_BadName.oex, T.i_BadName.no "name" (by decide +kernel), .inl ⟨ha, fun dx hd hn => ?_⟩⟩
  exact k dx hd hn
theorem sci_Doubled : FnScope ["self", "name"] ["self", "name"] (defScope s_Doubled_init) := ⟨rfl, rfl, rfl, by decide +kernel, rfl, by decide +kernel, by decide +kernel⟩
theorem Di_Doubled (T : Txt K mg) : ∃ fd, Binds K fd ["self", "name"] [] ∧ FnOk P w K mg base CX0 1 (He.ma K (gA K "Doubled") "__init__") fd ["self", "name"] (Sp2 (pInit1 K (gA K "Doubled") "name")) := by
  obtain ⟨fd, F⟩ := T.fi_Doubled
  refine ⟨fd, F.bindsN (ps := ["self", "name"]) (fun _ _ _ _ _ _ us hl => match us, hl with | [_, _], _ => rfl), ?_⟩
  refine F.ok (CX := CX0) sci_Doubled len2 (fun cdv A outer s H vs Q E hr h => ?_)
  obtain ⟨v0, v1, rfl, a, rfl, ha, k⟩ := h
  refine ⟨_, PSs.nox (pss_one (ps_ost (pv 0) (pv 1))), ?_⟩
  refine ⟨_, rfl, _, rfl, a, _, rfl, T.x_Doubled.oex, T.i_Doubled.no "name" (by decide +kernel), .inl ⟨ha, fun dx hd hn => ?_⟩⟩
  exact k dx hd hn
theorem sci_BadNumber : FnScope ["self", "number"] ["self", "number"] (defScope s_BadNumber_init) := ⟨rfl, rfl, rfl, by decide +kernel, rfl, by decide +kernel, by decide +kernel⟩
theorem Di_BadNumber (T : Txt K mg) : ∃ fd, Binds K fd ["self", "number"] [] ∧ FnOk P w K mg base CX0 1 (He.ma K (gA K "BadNumber") "__init__") fd ["self", "number"] (Sp2 (pInit1 K (gA K "BadNumber") "number")) := by
  obtain ⟨fd, F⟩ := T.fi_BadNumber
  refine ⟨fd, F.bindsN (ps := ["self", "number"]) (fun _ _ _ _ _ _ us hl => match us, hl with | [_, _], _ => rfl), ?_⟩
  refine F.ok (CX := CX0) sci_BadNumber len2 (fun cdv A outer s H vs Q E hr h => ?_)
  obtain ⟨v0, v1, rfl, a, rfl, ha, k⟩ := h
  refine ⟨_, PSs.nox (pss_one (ps_ost (pv 0) (pv 1))), ?_⟩
  refine ⟨_, rfl, _, rfl, a, _, rfl, T.x_BadNumber.oex, T.i_BadNumber.no "number" (by decide +kernel), .inl ⟨ha, fun dx hd hn => ?_⟩⟩
  exact k dx hd hn
theorem sci_BadSpan : FnScope ["self", "low", "high"] ["self", "low", "high"] (defScope s_BadSpan_init) := ⟨rfl, rfl, rfl, by decide +kernel, rfl, by decide +kernel, by decide +kernel⟩
theorem Di_BadSpan (T : Txt K mg) : ∃ fd, Binds K fd ["self", "low", "high"] [] ∧ FnOk P w K mg base CX0 1 (He.ma K (gA K "BadSpan") "__init__") fd ["self", "low", "high"] (Sp3 (pInit2 K (gA K "BadSpan") "low" "high")) := by
  obtain ⟨fd, F⟩ := T.fi_BadSpan
  refine ⟨fd, F.bindsN (ps := ["self", "low", "high"]) (fun _ _ _ _ _ _ us hl => match us, hl with | [_, _, _], _ => rfl), ?_⟩
  refine F.ok (CX := CX0) sci_BadSpan len3 (fun cdv A outer s H vs Q E hr h => ?_)
  obtain ⟨v0, v1, v2, rfl, a, rfl, ha, k⟩ := h
  refine ⟨_, PSs.nox (pss_cons (ps_ost (pv 0) (pv 1)) (pss_one (ps_ost (pv 0) (pv 2)))), ?_⟩
  refine ⟨_, rfl, _, rfl, a, _, rfl, T.x_BadSpan.oex, T.i_BadSpan.no "low" (by decide +kernel), .inl ⟨ha, fun dx hd hn => ?_⟩⟩
  exact ⟨_, rfl, _, rfl, a, _, rfl, T.x_BadSpan.oex, T.i_BadSpan.no "high" (by decide +kernel), .inr ⟨dx, _, upd_same, by rw [upd_ne hn, upd_same], by show 1 ≤ 900; decide, k dx hd hn⟩⟩
theorem sci_SelfBond : FnScope ["self", "bond"] ["self", "bond"] (defScope s_SelfBond_init) := ⟨rfl, rfl, rfl, by decide +kernel, rfl, by decide +kernel, by decide +kernel⟩
theorem Di_SelfBond (T : Txt K mg) : ∃ fd, Binds K fd ["self", "bond"] [] ∧ FnOk P w K mg base CX0 1 (He.ma K (gA K "SelfBond") "__init__") fd ["self", "bond"] (Sp2 (pInit1 K (gA K "SelfBond") "bond")) := by
  obtain ⟨fd, F⟩ := T.fi_SelfBond
  refine ⟨fd, F.bindsN (ps := ["self", "bond"]) (fun _ _ _ _ _ _ us hl => match us, hl with | [_, _], _ => rfl), ?_⟩
  refine F.ok (CX := CX0) sci_SelfBond len2 (fun cdv A outer s H vs Q E hr h => ?_)
  obtain ⟨v0, v1, rfl, a, rfl, ha, k⟩ := h
  refine ⟨_, PSs.nox (pss_one (ps_ost (pv 0) (pv 1))), ?_⟩
  refine ⟨_, rfl, _, rfl, a, _, rfl, T.x_SelfBond.oex, T.i_SelfBond.no "bond" (by decide +kernel), .inl ⟨ha, fun dx hd hn => ?_⟩⟩
  exact k dx hd hn
theorem sci_Unknown : FnScope ["self", "name"] ["self", "name"] (defScope s_Unknown_init) := ⟨rfl, rfl, rfl, by decide +kernel, rfl, by decide +kernel, by decide +kernel⟩
theorem Di_Unknown (T : Txt K mg) : ∃ fd, Binds K fd ["self", "name"] [] ∧ FnOk P w K mg base CX0 1 (He.ma K (gA K "Unknown") "__init__") fd ["self", "name"] (Sp2 (pInit1 K (gA K "Unknown") "name")) := by
  obtain ⟨fd, F⟩ := T.fi_Unknown
  refine ⟨fd, F.bindsN (ps := ["self", "name"]) (fun _ _ _ _ _ _ us hl => match us, hl with | [_, _], _ => rfl), ?_⟩
  refine F.ok (CX := CX0) sci_Unknown len2 (fun cdv A outer s H vs Q E hr h => ?_)
  obtain ⟨v0, v1, rfl, a, rfl, ha, k⟩ := h
  refine ⟨_, PSs.nox (pss_one (ps_ost (pv 0) (pv 1))), ?_⟩
  refine ⟨_, rfl, _, rfl, a, _, rfl, T.x_Unknown.oex, T.i_Unknown.no "name" (by decide +kernel), .inl ⟨ha, fun dx hd hn => ?_⟩⟩
  exact k dx hd hn
theorem sci_OutOfRange : FnScope ["self", "number", "low", "high"] ["self", "number", "low", "high"] (defScope s_OutOfRange_init) := ⟨rfl, rfl, rfl, by decide +kernel, rfl, by decide +kernel, by decide +kernel⟩
theorem Di_OutOfRange (T : Txt K mg) : ∃ fd, Binds K fd ["self", "number", "low", "high"] [] ∧ FnOk P w K mg base CX0 1 (He.ma K (gA K "OutOfRange") "__init__") fd ["self", "number", "low", "high"] (Sp4 (pInit3 K (gA K "OutOfRange") "number" "low" "high")) := by
  obtain ⟨fd, F⟩ := T.fi_OutOfRange
  refine ⟨fd, F.bindsN (ps := ["self", "number", "low", "high"]) (fun _ _ _ _ _ _ us hl => match us, hl with | [_, _, _, _], _ => rfl), ?_⟩
  refine F.ok (CX := CX0) sci_OutOfRange len4 (fun cdv A outer s H vs Q E hr h => ?_)
  obtain ⟨v0, v1, v2, v3, rfl, a, rfl, ha, k⟩ := h
  refine ⟨_, PSs.nox (pss_cons (ps_ost (pv 0) (pv 1)) (pss_cons (ps_ost (pv 0) (pv 2)) (pss_one (ps_ost (pv 0) (pv 3))))), ?_⟩
  refine ⟨_, rfl, _, rfl, a, _, rfl, T.x_OutOfRange.oex, T.i_OutOfRange.no "number" (by decide +kernel), .inl ⟨ha, fun dx hd hn => ?_⟩⟩
  exact ⟨_, rfl, _, rfl, a, _, rfl, T.x_OutOfRange.oex, T.i_OutOfRange.no "low" (by decide +kernel), .inr ⟨dx, _, upd_same, by rw [upd_ne hn, upd_same], by show 1 ≤ 900; decide, ⟨_, rfl, _, rfl, a, _, rfl, T.x_OutOfRange.oex, T.i_OutOfRange.no "high" (by decide +kernel), .inr ⟨dx, _, by rw [upd_ne (Ne.symm hn), upd_same], upd_same, by show 2 ≤ 900; decide, k dx hd hn⟩⟩⟩⟩
end
/-- the code object of Web.__init__, its table -/
def cW (K : PySem.W.Frag) : Addr := match K.lookup (He.ma K (gA K "Web") "__init__") with
  | some ⟨_, _, .func fd, _⟩ => (match fd.code with
    | .ref c => c
    | _ => 0)
  | _ => 0
def pW (K : PySem.W.Frag) : Addr := match K.lookup (cW K) with
  | some ⟨_, _, .fields vs, _⟩ => (match (vs[11]? : Option Value) with
    | some (.ref p) => p
    | _ => 0)
  | _ => 0
structure TxtB (K : PySem.W.Frag) (mg : Str → Option Value) (base : Heap) : Prop where
  code : ∀ {cdv : Value}, CodeAt K (He.ma K (gA K "Web") "__init__") cdv → cdv = .ref (cW K)
  tab : LamX.TabB base mg (cW K) (pW K)
def TT (K : PySem.W.Frag) : List (Addr × Str) := [(pW K, ("Web.__init__" ++ ".<locals>." : Str) ++ "<lambda>")]
end Q
namespace Q
open PySem PySem.Spec PyProof.Rows L2
def names0 : List Str := ["_wall", "__name__", "OutshinerError", "BadName", "BadNumber", "BadSpan", "Doubled", "SelfBond", "Unknown", "OutOfRange", "LETTERS", "SIGNS", "LONGEST_NAME", "is_name", "check_name", "ordered", "LIMIT", "is_number", "check_number", "check_end", "greater_end", "lesser_end", "end_text", "Span", "MOST_LAMPS", "MOST_BONDS", "check_open", "check_count", "check_known", "check_ends"]
def names1 : List Str := ["check_rows", "kept_bond", "arms_at", "Web", "_law_store", "_law_stir", "_law_take", "_law_pick", "_law_shuffled", "_law_clamped", "_law_near", "_law_bad_number", "_law_bar", "_law_ends", "_law_name", "_law_unused", "_law_fresh_names", "_law_names", "_law_bad_name", "_law_stranger", "_law_is_name", "_law_is_number", "_law_edges", "_law_kept_rows", "_law_first_double", "_law_bent_web", "_law_bent_edge", "_law_web_due", "_law_alike", "_law_asked"]
def names2 : List Str := ["_law_holds", "_law_rows", "_law_one_more"]
def names : List Str := names0 ++ names1 ++ names2
abbrev lawRow : PySem.W.OpenLaw := PySem.Challenge.rw_outshiners_k07_webs_refuse_in_order
/-! the look at the heap behind the top: the facts, and the empty table of the one code object -/
def codeB (K : PySem.W.Frag) : Bool := match K.lookup (He.ma K (gA K "Web") "__init__") with
  | some ⟨_, _, .func fd, _⟩ => (match fd.code with
    | .ref _ => true
    | _ => false)
  | _ => false
def hdB (K : PySem.W.Frag) : Bool := match K.lookup (cW K) with
  | some ⟨.type t, _, .fields vs, _⟩ => (match (vs[11]? : Option Value), vs.getD 18 .none, vs.getD 7 .none, vs.getD 9 .none, vs.getD 10 .none with
    | some (.ref p), .str _ _, .int _ _, .bool _, .int _ _ => t == "code" && (cW K != p)
    | _, _, _, _, _ => false)
  | _ => false
def tabB (g : Addr → Option Obj) (K : PySem.W.Frag) : Bool := codeB K && (hdB K && ((K.lookup (pW K)).isNone && emO (g (pW K))))
structure TabH (K : PySem.W.Frag) (h : Heap) : Prop where
  cd : codeB K = true
  hd : hdB K = true
  no : K.lookup (pW K) = none
  em : h.get? (pW K) = some { cls := .none, data := .fields #[] }
theorem tabH_of {h : Heap} {K : PySem.W.Frag} (e : tabB h.get? K = true) : TabH K h := by
  unfold tabB at e
  obtain ⟨h1, e⟩ := Bool.and_eq_true_iff.mp e
  obtain ⟨h2, e⟩ := Bool.and_eq_true_iff.mp e
  obtain ⟨h3, h4⟩ := Bool.and_eq_true_iff.mp e
  exact ⟨h1, h2, Option.isNone_iff_eq_none.mp h3, emO_ok h4⟩
theorem code_is {K : PySem.W.Frag} (h : codeB K = true) {cdv : Value} (c : CodeAt K (He.ma K (gA K "Web") "__init__") cdv) : cdv = .ref (cW K) := by
  obtain ⟨o, fd, l, ed, ec⟩ := c
  unfold codeB at h
  unfold cW
  rw [l] at h ⊢
  obtain ⟨cl, di, da, sl⟩ := o
  dsimp only at ed
  subst ed
  dsimp only at h ⊢
  rw [ec] at h ⊢
  cases cdv <;> first | rfl | cases h
theorem head_is {K : PySem.W.Frag} {hp : Heap} (h : hdB K = true) (hK : K.In hp) : PySem.W.CodeHd hp (cW K) (pW K) := by
  unfold hdB at h
  unfold pW
  cases l : K.lookup (cW K) with
  | none => rw [l] at h; cases h
  | some o =>
    rw [l] at h
    obtain ⟨cl, di, da, sl⟩ := o
    cases cl <;> first | cases h | skip
    rename_i t
    cases da <;> first | cases h | skip
    rename_i vs
    dsimp only at h ⊢
    split at h
    · rename_i p x18 k18 x7 k7 x9 x10 k10 e11 e18 e7 e9 e10
      obtain ⟨h1, h2⟩ := Bool.and_eq_true_iff.mp h
      have et : t = "code" := by simpa using h1
      have ep : cW K ≠ p := by simpa using h2
      subst et
      rw [e11]
      refine ⟨_, vs, _, _, _, _, _, _, _, hK _ _ l, rfl, rfl, e11, ?_, e18, e7, e9, e10, ep⟩
      rw [Array.getD_eq_getD_getElem?, e11]
      rfl
    · cases h
theorem tabH_keeps (K : PySem.W.Frag) (h h' : Heap) (t : TabH K h) (k : ∀ b o, h.get? b = some o → h'.get? b = some o) : TabH K h' := ⟨t.cd, t.hd, t.no, k _ _ t.em⟩
abbrev hk : PySem.W.Hook := hookT 5 fa fn exB tabB TabH (fun _ _ e => tabH_of e) tabH_keeps
def ob (s : PySem.W.SharedT) : He.AlD × (Bool × Bool) := lookT 5 fa fn exB tabB (HandSHeadRun.getT s)
theorem ob_eq (s : PySem.W.SharedT) : ob s = hk.obs s.abs := lookT_eq (HandSHeadRun.getT_eq s)
section
open PySem.W PySem.Calls
noncomputable def topS (w : World) (os : OsState) := HandSHeadRun.endF (HandSHeadRun.stepQ (HandSHeadRun.denQ HandSHeadRun.tabQ) (PySem.W.OpenLaw.row lawRow).prog w) 9000 (PySem.W.OpenLaw.row lawRow).prog w os
noncomputable def frS (s : SharedT) : Frag := KW 5 (HandSHeadRun.getT s)
noncomputable def tabA (s : SharedT) : Bool := tabB (HandSHeadRun.getT s) (frS s)
noncomputable def lookA (w : World) (s : SharedT) : Bool := HandSHeadRun.looksF (PySem.W.OpenLaw.row lawRow).prog (boot_heap w.params) s.abs
noncomputable def seenA (s : SharedT) := HandSHeadRun.seenQ (PySem.W.view lawRow.prog [67]) names (importedModules (PySem.W.OpenLaw.row lawRow).prog.main.body) (fun s => xlAt (PySem.W.view lawRow.prog [67]) [] s && recOk (PySem.W.OpenLaw.row lawRow).toRowW.records s) s.abs
theorem runA (w : World) (os : OsState) : (topS w os).map (fun s => (lookA w s, seenA s, tabA s)) = some (true, openGood (PySem.W.view lawRow.prog [67]) names, true) := by
  kernel_rfl
theorem runB (w : World) (os : OsState) : (topS w os).map (fun s => He5.obsA fa fn (frS s)) = some (He5.valA fn) := by
  kernel_rfl
theorem runC0 (w : World) (os : OsState) : (topS w os).map (fun s => (((exL (frS s)).drop 0).take 32).all id) = some true := by
  kernel_rfl
theorem runC1 (w : World) (os : OsState) : (topS w os).map (fun s => (((exL (frS s)).drop 32).take 32).all id) = some true := by
  kernel_rfl
theorem all_chunk {l : List Bool} {a m : Nat} (h : ((l.drop a).take m).all id = true) (g : (l.drop (a + m)).all id = true) : (l.drop a).all id = true := by
  rw [← List.take_append_drop m (l.drop a), List.all_append, h, List.drop_drop, g]
  rfl
theorem chunks {l : List Bool} (hl : l.length = 64) (h0 : ((l.drop 0).take 32).all id = true) (h1 : ((l.drop 32).take 32).all id = true) : l.all id = true := by
  have hx : (l.drop 64).all id = true := by
    rw [List.drop_eq_nil_of_le (by rw [hl]; decide)]
    rfl
  have hx : (l.drop 32).all id = true := all_chunk h1 hx
  have hx : (l.drop 0).all id = true := all_chunk h0 hx
  exact hx
theorem exL_len (K : Frag) : (exL K).length = 64 := rfl
theorem exB_is (K : Frag) : exB K = (exL K).all id := rfl
theorem ob_is (s : SharedT) : ob s = (He5.obsA fa fn (frS s), (exB (frS s), tabA s)) := rfl
theorem at_some {α β : Type} {o : Option α} {s : α} {f : α → β} {b : β} (h : o = some s) (g : o.map f = some b) : f s = b := by
  rw [h] at g
  exact Option.some.inj g
theorem run (w : World) : HandSHeadRun.RunEq (PySem.W.OpenLaw.row lawRow) (PySem.W.view lawRow.prog [67]) hk ob 9000 names w := by
  intro os
  obtain ⟨s, hs, ha⟩ := Option.map_eq_some_iff.mp (runA w os)
  have hb0 := at_some hs (runB w os)
  have hb : He5.obsA fa fn (frS s) = He5.valA fn := hb0
  have hd0 := at_some hs (runC0 w os)
  have hc0 : (((exL (frS s)).drop 0).take 32).all id = true := hd0
  have hd1 := at_some hs (runC1 w os)
  have hc1 : (((exL (frS s)).drop 32).take 32).all id = true := hd1
  have hx : exB (frS s) = true := (exB_is _).trans (chunks (exL_len _) hc0 hc1)
  have key : (topS w os).map (fun s => (lookA w s, seenA s, ob s)) = some (true, openGood (PySem.W.view lawRow.prog [67]) names, (He5.valA fn, (true, true))) := by
    rw [hs, Option.map_some, ob_is, hb, hx]
    have h1 : lookA w s = true := congrArg Prod.fst ha
    have h3 : tabA s = true := congrArg (fun z => z.2.2) ha
    have h2 : seenA s = openGood (PySem.W.view lawRow.prog [67]) names := congrArg (fun z => z.2.1) ha
    rw [h1, h2, h3]
  exact key
end
end Q
open PySem PySem.W PyProof.Rows
set_option maxHeartbeats 0 in
theorem Q.fin (hc : PySem.W.WalkO (view (OpenLaw.row Q.lawRow).prog [67]) Q.names (PySem.W.XL (view (OpenLaw.row Q.lawRow).prog [67]) []) Q.hk.says (OpenLaw.row Q.lawRow).toRowW (HandSHeadRun.topDef (OpenLaw.row Q.lawRow).prog 67) [] fun f vs => PySem.call f vs) : PySem.Challenge.rw_outshiners_k07_webs_refuse_in_order.Holds := by
  w_on; o_law
  refine HandSHeadRun.head_any (r := OpenLaw.row Q.lawRow) (q := view (OpenLaw.row Q.lawRow).prog [67]) (H := Q.hk) (ob := Q.ob) (M := 9000) (loose := Q.names) (d := HandSHeadRun.topDef (OpenLaw.row Q.lawRow).prog 67) (kwd := []) Q.ob_eq
    (by kernel_rfl) (fun s => by kernel_rfl) Q.run (by kernel_rfl) (by kernel_rfl) (by kernel_rfl) (by rfl) (by first | assumption | decide +kernel) (by decide +kernel) ⟨rfl, rfl, rfl, rfl, rfl, by decide +kernel⟩ ?hw hc
  case hw => w_witness2
namespace Q
open PySem PySem.Spec PyProof.Rows L2
section
variable {P : Program} {w : World} {K : PySem.W.Frag} {mg : Str → Option Value} {base : Heap}
abbrev N__law_store : List Str := ["_law_script"]
theorem sc__law_store : FnScope N__law_store ["_law_script"] (defScope s__law_store) := ⟨rfl, rfl, rfl, by decide +kernel, rfl, by decide +kernel, by decide +kernel⟩
set_option maxHeartbeats 4000000 in
theorem D_law_store  (T : Txt K mg) : Def P w K mg base CX0 (1) "_law_store" s__law_store ["_law_script"] (Sp1 (pStore K)) := by
  obtain ⟨f, fd, m, F⟩ := T.f__law_store.ex
  refine ⟨f, fd, m, F.kp, F.bindsN (ps := ["_law_script"]) (fun _ _ _ _ _ _ us hl => match us, hl with | [_], _ => rfl), ?_, F⟩
  refine F.ok (CX := CX0) sc__law_store len1 (fun cdv A outer s H vs Q E hr h => ?_)
  obtain ⟨v0, rfl, h⟩ := h
  refine ⟨_, PSs.nox (pss_one (ps_ret (pe_lst (pa_cons (pe_callTy call_list0 (by rfl) T.b_list (by decide +kernel) (pa_cons (pv 0) pa_nil)) (pa_cons pe_int (pa_cons pe_int (pa_cons pe_int (pa_cons pe_int (pa_cons pe_int (pa_cons pe_int pa_nil)))))))))), ?_⟩
  try dsimp only [cxOf, Cx.nox, Cx.wish]
  rw [show start N__law_store [v0] = [some v0] from rfl]
  obtain ⟨a, ns, rfl, hs, k⟩ := h
  walk_at "go"
  refine ⟨a, _, rfl, .inl hs, fun l hl => ?_⟩
  walk_at "go"
  refine ⟨by show 7 ≤ sizeLine; decide, fun p hp => ?_⟩
  walk_at "go"
  have hpl : p ≠ l := fun e => by
    rw [e, upd_same] at hp
    cases hp
  have hp0 : H p = none := by
    rw [upd_ne hpl] at hp
    exact hp
  refine k p _ ((Dx.new hl).trans (Dx.new hp)) hp0 ⟨rfl, fun x e => ?_, ⟨l, 0, 0, 0, 0, 1, 1, ns, upd_same, ?_, Ne.symm hpl, by decide, by decide, by decide⟩⟩
  · have e' : x = p := e
    rw [e', upd_same]
    exact fun z => by cases z
  · rw [upd_ne (Ne.symm hpl), upd_same]
abbrev N__law_stir : List Str := ["_law_store_here", "_law_cell", "_law_one", "_law_two"]
theorem sc__law_stir : FnScope N__law_stir ["_law_store_here", "_law_cell"] (defScope s__law_stir) := ⟨rfl, rfl, rfl, by decide +kernel, rfl, by decide +kernel, by decide +kernel⟩
set_option maxHeartbeats 4000000 in
theorem D_law_stir  (T : Txt K mg) : Def P w K mg base CX0 (1) "_law_stir" s__law_stir ["_law_store_here", "_law_cell"] (Sp2 pStir) := by
  obtain ⟨f, fd, m, F⟩ := T.f__law_stir.ex
  refine ⟨f, fd, m, F.kp, F.bindsN (ps := ["_law_store_here", "_law_cell"]) (fun _ _ _ _ _ _ us hl => match us, hl with | [_, _], _ => rfl), ?_, F⟩
  refine F.ok (CX := CX0) sc__law_stir len2 (fun cdv A outer s H vs Q E hr h => ?_)
  obtain ⟨v0, v1, rfl, h⟩ := h
  refine ⟨_, PSs.nox (pss_cons (ps_asg (pe_op op_addU (pe_callTy call_int0 (by rfl) T.b_int (by decide +kernel) (pa_cons (pe_ix ix_U (pv 0) pe_int (fun _ _ => rfl)) pa_nil)) pe_int) (pg_sub (pv 0) pe_int set_list))
      (pss_cons (ps_set (i := 2) sc__law_stir.nd rfl (Or.inl rfl) (pe_op op_addU (pe_op op_addU (pe_op op_mul0 (pe_callTy call_int0 (by rfl) T.b_int (by decide +kernel) (pa_cons (pe_ix ix_U (pv 0) pe_int (fun _ _ => rfl)) pa_nil)) pe_int) (pe_op op_mod0 (pe_callTy call_int0 (by rfl) T.b_int (by decide +kernel) (pa_cons (pv 1) pa_nil)) pe_int)) (pe_callTy call_int0 (by rfl) T.b_int (by decide +kernel) (pa_cons (pe_ix ix_U (pv 0) pe_int (fun _ _ => rfl)) pa_nil))))
      (pss_cons (ps_asg (pe_op op_mod0 (pe_callTy call_int0 (by rfl) T.b_int (by decide +kernel) (pa_cons (pv 2) pa_nil)) pe_int) (pg_sub (pv 0) pe_int set_list))
      (pss_cons (ps_set (i := 3) sc__law_stir.nd rfl (Or.inl rfl) (pe_op op_addU (pe_op op_addU (pe_op op_addU (pe_op op_mul0 (pe_callTy call_int0 (by rfl) T.b_int (by decide +kernel) (pa_cons (pe_ix ix_U (pv 0) pe_int (fun _ _ => rfl)) pa_nil)) pe_int) (pe_op op_mul0 (pe_callTy call_int0 (by rfl) T.b_int (by decide +kernel) (pa_cons (pe_ix ix_U (pv 0) pe_int (fun _ _ => rfl)) pa_nil)) pe_int)) (pe_op op_mod0 (pe_callTy call_int0 (by rfl) T.b_int (by decide +kernel) (pa_cons (pv 1) pa_nil)) pe_int)) (pe_callTy call_int0 (by rfl) T.b_int (by decide +kernel) (pa_cons (pe_ix ix_U (pv 0) pe_int (fun _ _ => rfl)) pa_nil))))
      (pss_one (ps_asg (pe_op op_mod0 (pe_callTy call_int0 (by rfl) T.b_int (by decide +kernel) (pa_cons (pv 3) pa_nil)) pe_int) (pg_sub (pv 0) pe_int set_list))))))), ?_⟩
  try dsimp only [cxOf, Cx.nox, Cx.wish]
  rw [show start N__law_stir [v0, v1] = [some v0, some v1, none, none] from rfl]
  obtain ⟨c, p, i, rest, left, n, a, b, cell, rfl, rfl, hc, ha, hb, k⟩ := h
  unfold stL at hc
  walk_at "go"
  refine go_ixL (SqL.of hc) (atI_nat (j := 4) rfl) ?_
  walk_at "go"
  refine go_setL hc (k := 4) (by rfl) ?_
  walk_at "go"
  refine go_ixL (SqL.of upd_same) (atI_nat (j := 5) rfl) ?_
  walk_at "go"
  walk_at "go"
  refine go_ixL (SqL.of upd_same) (atI_nat (j := 4) rfl) ?_
  walk_at "go"
  refine go_setL upd_same (k := 5) (by rfl) ?_
  walk_at "go"
  refine go_ixL (SqL.of upd_same) (atI_nat (j := 6) rfl) ?_
  walk_at "go"
  walk_at "go"
  refine go_ixL (SqL.of upd_same) (atI_nat (j := 5) rfl) ?_
  walk_at "go"
  walk_at "go"
  refine go_ixL (SqL.of upd_same) (atI_nat (j := 4) rfl) ?_
  walk_at "go"
  refine go_setL upd_same (k := 6) (by rfl) ?_
  walk_at "go"
  rw [upd_upd, upd_upd]
  exact k _ _ _ _ ⟨Int.emod_nonneg _ (by decide), Int.emod_lt_of_pos _ (by decide)⟩ ⟨Int.emod_nonneg _ (by decide), Int.emod_lt_of_pos _ (by decide)⟩ rfl
abbrev N__law_take : List Str := ["_law_store_here", "_law_many", "_law_cells", "_law_cell", "_law_rest"]
theorem sc__law_take : FnScope N__law_take ["_law_store_here", "_law_many"] (defScope s__law_take) := ⟨rfl, rfl, rfl, by decide +kernel, rfl, by decide +kernel, by decide +kernel⟩
set_option maxHeartbeats 4000000 in
theorem D_law_take  (T : Txt K mg) : Def P w K mg base CX0 (2) "_law_take" s__law_take ["_law_store_here", "_law_many"] (Sp2 pTake) := by
  obtain ⟨f, fd, m, F⟩ := T.f__law_take.ex
  refine ⟨f, fd, m, F.kp, F.bindsN (ps := ["_law_store_here", "_law_many"]) (fun _ _ _ _ _ _ us hl => match us, hl with | [_, _], _ => rfl), ?_, F⟩
  obtain ⟨f_law_stir, fd_law_stir, m_law_stir, kp_law_stir, b_law_stir, G_law_stir, F_law_stir⟩ := (D_law_stir (P := P) (w := w) (base := base) T).ex
  refine F.ok (CX := CX0) sc__law_take len2 (fun cdv A outer s H vs Q E hr h => ?_)
  obtain ⟨v0, v1, rfl, h⟩ := h
  refine ⟨_, PSs.nox (pss_cons (ps_set (i := 1) sc__law_take.nd rfl (Or.inl rfl) (pe_callB (call_max0 rfl) (by rfl) T.b_max (by decide +kernel) (pa_cons pe_int (pa_cons (pe_callTy call_int0 (by rfl) T.b_int (by decide +kernel) (pa_cons (pv 1) pa_nil)) pa_nil))))
      (pss_cons (ps_set (i := 2) sc__law_take.nd rfl (Or.inl rfl) (pe_ix ix_U (pv 0) pe_int (fun _ _ => rfl)))
      (C8.pss_cut (ps_if (PW.pt (pw_and (pt_cmpR op_eq (pe_callTy call_int0 (by rfl) T.b_int (by decide +kernel) (pa_cons (pe_ix ix_U (pv 0) pe_int (fun _ _ => rfl)) pa_nil)) pe_int (nomark _)) (pw_and (pt_cmpR op_eq (pe_callTy call_int0 (by rfl) T.b_int (by decide +kernel) (pa_cons (pe_ix ix_U (pv 0) pe_int (fun _ _ => rfl)) pa_nil)) pe_int (nomark _)) (pw_and1 (pt_cmpR op_ltU (pe_callTy call_int0 (by rfl) T.b_int (by decide +kernel) (pa_cons (pe_ix ix_U (pv 0) pe_int (fun _ _ => rfl)) pa_nil)) (pe_callB call_lenU (by rfl) T.b_len (by decide +kernel) (pa_cons (pv 2) pa_nil)) (nomark _)))))) (pss_cons (ps_set (i := 3) sc__law_take.nd rfl (Or.inl rfl) (pe_callTy call_int0 (by rfl) T.b_int (by decide +kernel) (pa_cons (pe_ix ix_U (pv 2) (pe_callTy call_int0 (by rfl) T.b_int (by decide +kernel) (pa_cons (pe_ix ix_U (pv 0) pe_int (fun _ _ => rfl)) pa_nil)) (fun _ _ => rfl)) pa_nil)))
      (pss_cons (ps_asg (pe_op op_addU (pe_callTy call_int0 (by rfl) T.b_int (by decide +kernel) (pa_cons (pe_ix ix_U (pv 0) pe_int (fun _ _ => rfl)) pa_nil)) pe_int) (pg_sub (pv 0) pe_int set_list))
      (pss_cons (ps_asg pe_int (pg_sub (pv 0) pe_int set_list))
      (pss_cons (ps_expr (pe_call G_law_stir (hr.mono (by first | decide | omega)) (by rfl) m_law_stir kp_law_stir b_law_stir .nil pass0 (pa_cons (pv 0) (pa_cons (pv 3) pa_nil))))
      (pss_one (ps_if (pt_cmpR op_ge0 (pv 3) (pe_op op_pow0 pe_int pe_int) (nomark _)) (pss_cons (ps_asg (pv 3) (pg_sub (pv 0) pe_int set_list))
      (pss_one (ps_asg pe_int (pg_sub (pv 0) pe_int set_list)))) pss_nil)))))) pss_nil)
      (pss_cons (ps_set (i := 4) sc__law_take.nd rfl (Or.inl rfl) (pe_callTy call_int0 (by rfl) T.b_int (by decide +kernel) (pa_cons (pe_ix ix_U (pv 0) pe_int (fun _ _ => rfl)) pa_nil)))
      (pss_cons (ps_if (pt_cmpR op_gt0 (pv 4) pe_int (nomark _)) (pss_cons (ps_asg (pe_op op_div0 (pv 4) (pv 1)) (pg_sub (pv 0) pe_int set_list))
      (pss_one (ps_ret (pe_op op_mod0 (pe_callTy call_int0 (by rfl) T.b_int (by decide +kernel) (pa_cons (pv 4) pa_nil)) (pv 1))))) pss_nil)
      (pss_cons (ps_expr (pe_call G_law_stir (hr.mono (by first | decide | omega)) (by rfl) m_law_stir kp_law_stir b_law_stir .nil pass0 (pa_cons (pv 0) (pa_cons pe_int pa_nil))))
      (pss_cons (ps_asg (pe_callB (call_max0 rfl) (by rfl) T.b_max (by decide +kernel) (pa_cons pe_int (pa_cons (pe_op op_sub0 (pe_callTy call_int0 (by rfl) T.b_int (by decide +kernel) (pa_cons (pe_ix ix_U (pv 0) pe_int (fun _ _ => rfl)) pa_nil)) pe_int) pa_nil))) (pg_sub (pv 0) pe_int set_list))
      (pss_one (ps_ret (pe_op op_mod0 (pe_callTy call_int0 (by rfl) T.b_int (by decide +kernel) (pa_cons (pe_op op_addU (pe_op op_mul0 (pe_callTy call_int0 (by rfl) T.b_int (by decide +kernel) (pa_cons (pe_ix ix_U (pv 0) pe_int (fun _ _ => rfl)) pa_nil)) pe_int) (pe_callTy call_int0 (by rfl) T.b_int (by decide +kernel) (pa_cons (pe_ix ix_U (pv 0) pe_int (fun _ _ => rfl)) pa_nil))) pa_nil)) (pv 1))))))))))), ?_⟩
  try dsimp only [cxOf, Cx.nox, Cx.wish]
  rw [show start N__law_take [v0, v1] = [some v0, some v1, none, none, none] from rfl]
  obtain ⟨c, M, n, rfl, rfl, hn0, hn1, ok, k⟩ := h
  obtain ⟨p, i, rest, left, cnt, a, b, cells, hc, hp, hpm, hi, ha, hb⟩ := ok.st.ex
  have hpc : p ≠ c := fun e => hpm (by rw [e]; exact ok.inM)
  unfold stL at hc
  walk_at "go"
  generalize hm : (if n > 1 then n else 1) = m at k ⊢
  have hm0 : 0 < m := by
    rw [← hm]
    split <;> omega
  have hm1 : m ≤ 1000000000000000000 := by
    rw [← hm]
    split <;> omega
  refine go_ixL (SqL.of hc) (atI_nat (j := 0) rfl) ?_
  walk_at "go"
  refine ⟨fun σ' H' => ∃ (x : Option V) (i' rest' left' cnt' a' b' : Int), σ' = [some (.ref c), some (.int m), some (.ref p), x, none] ∧ H' = upd H c (.lst (stL p i' rest' left' cnt' a' b')) ∧ 0 ≤ i' ∧ (0 ≤ a' ∧ a' < 2147483647) ∧ (0 ≤ b' ∧ b' < 2147483399), ?_, ?_⟩
  · -- the test
    have same : H = upd H c (.lst (stL p i rest left cnt a b)) := by
      funext x
      by_cases e : x = c
      · rw [e, upd_same]
        exact hc
      · rw [upd_ne e]
    have stay : ∃ (x : Option V) (i' rest' left' cnt' a' b' : Int), [some (V.ref c), some (V.int m), some (V.ref p), none, none] = [some (V.ref c), some (.int m), some (.ref p), x, none] ∧ H = upd H c (.lst (stL p i' rest' left' cnt' a' b')) ∧ 0 ≤ i' ∧ (0 ≤ a' ∧ a' < 2147483647) ∧ (0 ≤ b' ∧ b' < 2147483399) :=
      ⟨none, i, rest, left, cnt, a, b, rfl, same, hi, ha, hb⟩
    walk_at "go"
    refine go_ixL (SqL.of hc) (atI_nat (j := 2) rfl) ?_
    walk_at "go"
    refine go_dec (fun _ => ?_) (fun _ => ?_)
    rotate_left
    · walk_at "go"
      exact stay
    walk_at "go"
    refine go_ixL (SqL.of hc) (atI_nat (j := 3) rfl) ?_
    walk_at "go"
    refine go_dec (fun _ => ?_) (fun _ => ?_)
    rotate_left
    · walk_at "go"
      exact stay
    walk_at "go"
    refine go_ixL (SqL.of hc) (atI_nat (j := 1) rfl) ?_
    walk_at "go"
    refine go_lenL (SqL.of hp) ?_
    walk_at "go"
    refine go_dec (fun hlt => ?_) (fun _ => ?_)
    rotate_left
    · walk_at "go"
      exact stay
    walk_at "go"
    refine go_ixL (SqL.of hc) (atI_nat (j := 1) rfl) ?_
    walk_at "go"
    have hlt2 : i.toNat < (cells.map V.int).length := by omega
    have hlt3 : i.toNat < cells.length := by
      rw [List.length_map] at hlt2
      exact hlt2
    obtain ⟨cell, hcell⟩ : ∃ z, cells[i.toNat]? = some z := ⟨_, List.getElem?_eq_getElem hlt3⟩
    refine go_ixL (v := .int cell) (SqL.of hp) (atI_of hi (by rw [List.getElem?_map, hcell]; rfl)) ?_
    walk_at "go"
    refine go_ixL (SqL.of hc) (atI_nat (j := 1) rfl) ?_
    walk_at "go"
    refine go_setL hc (k := 1) (by rfl) ?_
    walk_at "go"
    refine go_setL upd_same (k := 3) (by rfl) ?_
    walk_at "go"
    refine ⟨c, p, i + 1, rest, 3, cnt, a, b, cell, rfl, rfl, upd_same, ha, hb, fun n' a' b' H' ha' hb' hH => ?_⟩
    rw [upd_upd, upd_upd] at hH
    subst hH
    walk_at "go"
    walk_at "go"
    refine go_dec (fun _ => ?_) (fun _ => ?_)
    · walk_at "go"
      refine go_setL upd_same (k := 2) (by rfl) ?_
      walk_at "go"
      refine go_setL upd_same (k := 3) (by rfl) ?_
      walk_at "go"
      exact ⟨_, i + 1, cell, 0, n', a', b', rfl, by rw [upd_upd, upd_upd]; rfl, by omega, ha', hb'⟩
    · walk_at "go"
      exact ⟨_, i + 1, rest, 3, n', a', b', rfl, rfl, by omega, ha', hb'⟩
  · rintro σ' H' ⟨x, i', rest', left', cnt', a', b', rfl, rfl, hi', ha', hb'⟩
    unfold stL
    have d0 : ∀ o, Dx (Only1 c) H (upd H c o) := fun o => Dx.mut rfl
    walk_at "go"
    refine go_ixL (SqL.of upd_same) (atI_nat (j := 2) rfl) ?_
    walk_at "go"
    refine go_dec (fun _ => ?_) (fun _ => ?_)
    · walk_at "go"
      refine go_div0 (div_ok hm0 hm1) ?_
      walk_at "go"
      refine go_setL upd_same (k := 2) (by rfl) ?_
      walk_at "go"
      rw [upd_upd]
      exact k _ _ (Int.emod_nonneg _ (by omega)) (Int.emod_lt_of_pos _ hm0) (d0 _) (ok.set upd_same hp hpm (d0 _) hi' ha' hb')
    · walk_at "go"
      refine ⟨c, p, i', rest', left', cnt', a', b', 0, rfl, rfl, upd_same, ha', hb', fun n2 a2 b2 H2 ha2 hb2 hH => ?_⟩
      rw [upd_upd] at hH
      subst hH
      unfold stL
      walk_at "go"
      refine go_ixL (SqL.of upd_same) (atI_nat (j := 3) rfl) ?_
      walk_at "go"
      refine go_setL upd_same (k := 3) (by rfl) ?_
      walk_at "go"
      refine go_ixL (SqL.of upd_same) (atI_nat (j := 5) rfl) ?_
      walk_at "go"
      walk_at "go"
      refine go_ixL (SqL.of upd_same) (atI_nat (j := 6) rfl) ?_
      walk_at "go"
      rw [upd_upd]
      exact k _ _ (Int.emod_nonneg _ (by omega)) (Int.emod_lt_of_pos _ hm0) (d0 _) (ok.set upd_same hp hpm (d0 _) hi' ha2 hb2)
abbrev N__law_pick : List Str := ["_law_store_here", "_law_items"]
theorem sc__law_pick : FnScope N__law_pick ["_law_store_here", "_law_items"] (defScope s__law_pick) := ⟨rfl, rfl, rfl, by decide +kernel, rfl, by decide +kernel, by decide +kernel⟩
set_option maxHeartbeats 4000000 in
theorem D_law_pick  (T : Txt K mg) : Def P w K mg base CX0 (3) "_law_pick" s__law_pick ["_law_store_here", "_law_items"] (Sp2 (pPick K)) := by
  obtain ⟨f, fd, m, F⟩ := T.f__law_pick.ex
  refine ⟨f, fd, m, F.kp, F.bindsN (ps := ["_law_store_here", "_law_items"]) (fun _ _ _ _ _ _ us hl => match us, hl with | [_, _], _ => rfl), ?_, F⟩
  obtain ⟨f_law_take, fd_law_take, m_law_take, kp_law_take, b_law_take, G_law_take, F_law_take⟩ := (D_law_take (P := P) (w := w) (base := base) T).ex
  refine F.ok (CX := CX0) sc__law_pick len2 (fun cdv A outer s H vs Q E hr h => ?_)
  obtain ⟨v0, v1, rfl, h⟩ := h
  refine ⟨_, PSs.nox (pss_one (ps_ret (pe_ix ix_U (pv 1) (pe_call G_law_take (hr.mono (by first | decide | omega)) (by rfl) m_law_take kp_law_take b_law_take .nil pass0 (pa_cons (pv 0) (pa_cons (pe_callB call_lenU (by rfl) T.b_len (by decide +kernel) (pa_cons (pv 1) pa_nil)) pa_nil))) (fun _ _ => rfl)))), ?_⟩
  try dsimp only [cxOf, Cx.nox, Cx.wish]
  rw [show start N__law_pick [v0, v1] = [some v0, some v1] from rfl]
  obtain ⟨c, M, rfl, ok, ⟨z, rfl, hz, hz2, k⟩ | ⟨p, xs, rfl, hs, hp, hl, hl2, k⟩⟩ := h
  · walk_at "go"
    refine ⟨c, M, _, rfl, rfl, by omega, by omega, ok, fun r H' h0 h1 d ok' => ?_⟩
    have hr : r.toNat < z.cps.toList.length := by
      have e : z.cps.toList.length = z.length := by simp [Str.length]
      split at h1 <;> omega
    obtain ⟨ch, hc⟩ : ∃ ch, z.cps.toList[r.toNat]? = some ch := ⟨_, List.getElem?_eq_getElem hr⟩
    refine go_ixS (size_ok hz2) (atI_of h0 hc) ?_
    walk_at "go"
    exact k _ _ ⟨ch, List.mem_of_getElem? hc, rfl⟩ d ok'
  · walk_at "go"
    refine go_lenL hs ?_
    walk_at "go"
    refine ⟨c, M, _, rfl, rfl, by omega, by omega, ok, fun r H' h0 h1 d ok' => ?_⟩
    have hr : r.toNat < xs.length := by
      split at h1 <;> omega
    obtain ⟨x, hx⟩ : ∃ x, xs[r.toNat]? = some x := ⟨_, List.getElem?_eq_getElem hr⟩
    refine go_ixL ((ok.sub d).sqL hp hs) (atI_of h0 hx) ?_
    walk_at "go"
    exact k _ _ (List.mem_of_getElem? hx) d ok'
abbrev N__law_shuffled : List Str := ["_law_store_here", "_law_items", "_law_mixed", "_law_k", "_law_j", "_law_held"]
theorem sc__law_shuffled : FnScope N__law_shuffled ["_law_store_here", "_law_items"] (defScope s__law_shuffled) := ⟨rfl, rfl, rfl, by decide +kernel, rfl, by decide +kernel, by decide +kernel⟩
set_option maxHeartbeats 4000000 in
theorem D_law_shuffled  (T : Txt K mg) : Def P w K mg base CX0 (3) "_law_shuffled" s__law_shuffled ["_law_store_here", "_law_items"] (Sp2 (pShuf K)) := by
  obtain ⟨f, fd, m, F⟩ := T.f__law_shuffled.ex
  refine ⟨f, fd, m, F.kp, F.bindsN (ps := ["_law_store_here", "_law_items"]) (fun _ _ _ _ _ _ us hl => match us, hl with | [_, _], _ => rfl), ?_, F⟩
  obtain ⟨f_law_take, fd_law_take, m_law_take, kp_law_take, b_law_take, G_law_take, F_law_take⟩ := (D_law_take (P := P) (w := w) (base := base) T).ex
  refine F.ok (CX := CX0) sc__law_shuffled len2 (fun cdv A outer s H vs Q E hr h => ?_)
  obtain ⟨v0, v1, rfl, h⟩ := h
  refine ⟨_, PSs.nox (pss_cons (ps_set (i := 2) sc__law_shuffled.nd rfl (Or.inl rfl) (pe_callTy call_list0 (by rfl) T.b_list (by decide +kernel) (pa_cons (pv 1) pa_nil)))
      (pss_cons (ps_for PassesOwn.never rfl (pi_range1 (by rfl) T.b_range (pa_cons (pe_callB call_lenU (by rfl) T.b_len (by decide +kernel) (pa_cons (pv 2) pa_nil)) pa_nil)) (pg_name (i := 3) sc__law_shuffled.nd rfl (Or.inl rfl)) (pss_cons (ps_set (i := 4) sc__law_shuffled.nd rfl (Or.inl rfl) (pe_op op_addU (pv 3) (pe_call G_law_take (hr.mono (by first | decide | omega)) (by rfl) m_law_take kp_law_take b_law_take .nil pass0 (pa_cons (pv 0) (pa_cons (pe_op op_sub0 (pe_callB call_lenU (by rfl) T.b_len (by decide +kernel) (pa_cons (pv 2) pa_nil)) (pv 3)) pa_nil)))))
      (pss_cons (ps_set (i := 5) sc__law_shuffled.nd rfl (Or.inl rfl) (pe_ix ix_U (pv 2) (pv 3) (fun _ _ => rfl)))
      (pss_cons (ps_asg (pe_ix ix_U (pv 2) (pv 4) (fun _ _ => rfl)) (pg_sub (pv 2) (pv 3) set_list))
      (pss_one (ps_asg (pv 5) (pg_sub (pv 2) (pv 4) set_list)))))))
      (pss_one (ps_ret (pv 2))))), ?_⟩
  try dsimp only [cxOf, Cx.nox, Cx.wish]
  rw [show start N__law_shuffled [v0, v1] = [some v0, some v1, none, none, none, none] from rfl]
  obtain ⟨c, M, p, xs, rfl, rfl, ok, hp, hl, k⟩ := h
  walk_at "go"
  refine ⟨p, xs, rfl, .inl hp, fun l hn => ?_⟩
  have hlc : l ≠ c := ok.ne_new hn
  walk_at "go"
  refine go_lenL (SqL.of upd_same) ?_
  walk_at "go"
  refine for_r (by omega) (fun i σ' H' => ∃ (ys : List V) (v3 v4 v5 : Option V), σ' = [some (.ref c), some (.ref p), some (.ref l), v3, v4, v5] ∧ H' l = some (.lst ys) ∧ ys.Perm xs ∧ Dx (Only1 c) H H' ∧ Ok (Add M l) H' c) ⟨xs, none, none, none, rfl, upd_same, .refl _, Dx.new hn, ok.add hn⟩ ?_ ?_
  · rintro i σ' H' hi ⟨ys, v3, v4, v5, rfl, h1, h2, h3, h4⟩
    have hy := h2.length_eq
    walk_at "go"
    refine go_lenL (SqL.of h1) ?_
    walk_at "go"
    refine take_go h4 (by omega) (by omega) fun r H2 a2 b2 d2 ok2 => ?_
    have g1 := d2.st _ _ hlc h1
    walk_at "go"
    have hi1 : i < ys.length := by omega
    have hj1 : (i + r.toNat) < ys.length := by omega
    have er : ((i : Int) + r) = ((i + r.toNat : Nat) : Int) := by omega
    refine go_ixL (SqL.of g1) (atI_nat (List.getElem?_eq_getElem hi1)) ?_
    walk_at "go"
    rw [er]
    refine go_ixL (SqL.of g1) (atI_nat (List.getElem?_eq_getElem hj1)) ?_
    walk_at "go"
    refine go_setL g1 (k := i) (Evl.ixN_nat hi1) ?_
    walk_at "go"
    refine go_setL upd_same (k := i + r.toNat) (Evl.ixN_nat (by rw [List.length_set]; exact hj1)) ?_
    walk_at "go"
    rw [upd_upd]
    exact ⟨_, _, _, _, rfl, upd_same, (List.set_set_perm hi1 hj1).trans h2, (h3.trans d2).own hn, ok2.mut (.inl rfl) hlc⟩
  · rintro σ' H' ⟨ys, v3, v4, v5, rfl, h1, h2, h3, h4⟩
    walk_at "go"
    exact k _ _ _ hn h1 h2 h3 h4
abbrev N__law_clamped : List Str := ["_law_number"]
theorem sc__law_clamped : FnScope N__law_clamped ["_law_number"] (defScope s__law_clamped) := ⟨rfl, rfl, rfl, by decide +kernel, rfl, by decide +kernel, by decide +kernel⟩
set_option maxHeartbeats 4000000 in
theorem D_law_clamped  (T : Txt K mg) : Def P w K mg base CX0 (1) "_law_clamped" s__law_clamped ["_law_number"] (Sp1 pClamp) := by
  obtain ⟨f, fd, m, F⟩ := T.f__law_clamped.ex
  refine ⟨f, fd, m, F.kp, F.bindsN (ps := ["_law_number"]) (fun _ _ _ _ _ _ us hl => match us, hl with | [_], _ => rfl), ?_, F⟩
  refine F.ok (CX := CX0) sc__law_clamped len1 (fun cdv A outer s H vs Q E hr h => ?_)
  obtain ⟨v0, rfl, h⟩ := h
  refine ⟨_, PSs.nox (pss_one (ps_ret (pe_callB (call_max0 rfl) (by rfl) T.b_max (by decide +kernel) (pa_cons (pe_un un_neg0 (pe_op op_pow0 pe_int pe_int)) (pa_cons (pe_callB (call_min0 rfl) (by rfl) T.b_min (by decide +kernel) (pa_cons (pe_op op_pow0 pe_int pe_int) (pa_cons (pv 0) pa_nil))) pa_nil))))), ?_⟩
  try dsimp only [cxOf, Cx.nox, Cx.wish]
  rw [show start N__law_clamped [v0] = [some v0] from rfl]
  obtain ⟨i, rfl, k⟩ := h
  walk_at "go"
  exact k _ (by constructor <;> split <;> split <;> omega) (fun z => by split <;> split <;> omega)
abbrev N__law_near : List Str := ["_law_store_here", "_law_pool"]
theorem sc__law_near : FnScope N__law_near ["_law_store_here", "_law_pool"] (defScope s__law_near) := ⟨rfl, rfl, rfl, by decide +kernel, rfl, by decide +kernel, by decide +kernel⟩
set_option maxHeartbeats 4000000 in
theorem D_law_near  (T : Txt K mg) : Def P w K mg base CX0 (4) "_law_near" s__law_near ["_law_store_here", "_law_pool"] (Sp2 (pNear K)) := by
  obtain ⟨f, fd, m, F⟩ := T.f__law_near.ex
  refine ⟨f, fd, m, F.kp, F.bindsN (ps := ["_law_store_here", "_law_pool"]) (fun _ _ _ _ _ _ us hl => match us, hl with | [_, _], _ => rfl), ?_, F⟩
  obtain ⟨f_law_clamped, fd_law_clamped, m_law_clamped, kp_law_clamped, b_law_clamped, G_law_clamped, F_law_clamped⟩ := (D_law_clamped (P := P) (w := w) (base := base) T).ex
  obtain ⟨f_law_pick, fd_law_pick, m_law_pick, kp_law_pick, b_law_pick, G_law_pick, F_law_pick⟩ := (D_law_pick (P := P) (w := w) (base := base) T).ex
  obtain ⟨f_law_take, fd_law_take, m_law_take, kp_law_take, b_law_take, G_law_take, F_law_take⟩ := (D_law_take (P := P) (w := w) (base := base) T).ex
  refine F.ok (CX := CX0) sc__law_near len2 (fun cdv A outer s H vs Q E hr h => ?_)
  obtain ⟨v0, v1, rfl, h⟩ := h
  refine ⟨_, PSs.nox (pss_one (ps_ret (pe_call G_law_clamped (hr.mono (by first | decide | omega)) (by rfl) m_law_clamped kp_law_clamped b_law_clamped .nil pass0 (pa_cons (pe_op op_addU (pe_call G_law_pick (hr.mono (by first | decide | omega)) (by rfl) m_law_pick kp_law_pick b_law_pick .nil pass0 (pa_cons (pv 0) (pa_cons (pv 1) pa_nil))) (pe_ix ix_U (pe_lst (pa_cons pe_int (pa_cons pe_int (pa_cons pe_int (pa_cons (pe_un un_neg0 pe_int) pa_nil))))) (pe_call G_law_take (hr.mono (by first | decide | omega)) (by rfl) m_law_take kp_law_take b_law_take .nil pass0 (pa_cons (pv 0) (pa_cons pe_int pa_nil))) (fun _ _ => rfl))) pa_nil)))), ?_⟩
  try dsimp only [cxOf, Cx.nox, Cx.wish]
  rw [show start N__law_near [v0, v1] = [some v0, some v1] from rfl]
  obtain ⟨c, M, p, ns, rfl, rfl, ok, hp, hM, hl0, hl1, hn, k⟩ := h
  walk_at "go"
  refine ⟨c, M, rfl, ok, .inr ⟨p, _, rfl, hp, hM, by rw [List.length_map]; omega, by rw [List.length_map]; omega, fun r H1 hr d1 ok1 => ?_⟩⟩
  obtain ⟨n, rfl, hn1⟩ := int_mem hr
  walk_at "go"
  refine ⟨by show 4 ≤ sizeLine; decide, fun q hq => ?_⟩
  walk_at "go"
  refine take_go (ok1.new hq) (by decide) (by decide) fun r2 H2 a2 b2 d2 ok2 => ?_
  have g := d2.st _ _ (Ok.ne ok1 (ok1.notM hq)) upd_same
  obtain ⟨z, hz⟩ : ∃ z : Int, atI [V.int 0, V.int 0, V.int 1, V.int (-1)] r2 = some (.int z) := by
    rcases (show r2 = 0 ∨ r2 = 1 ∨ r2 = 2 ∨ r2 = 3 by omega) with e | e | e | e <;> subst e
    · exact ⟨0, by rfl⟩
    · exact ⟨0, by rfl⟩
    · exact ⟨1, by rfl⟩
    · exact ⟨-1, by rfl⟩
  refine go_ixL (SqL.of g) hz ?_
  walk_at "go"
  refine ⟨_, rfl, fun r hr _ => ?_⟩
  exact k _ _ ⟨r, rfl, hr⟩ ((d1.trans (Dx.new hq)).trans d2) ok2
end
end Q
namespace Q
open PySem PySem.Spec PyProof.Rows L2
section
variable {P : Program} {w : World} {K : PySem.W.Frag} {mg : Str → Option Value} {base : Heap}
theorem D_law_take_3 (T : Txt K mg) (B : TxtB K mg base) : Def P w K mg base CX0 (2) "_law_take" s__law_take ["_law_store_here", "_law_many"] (Lift3 K (TT K) 2 qTake) := Def.imp (D_law_take T) br_take
theorem D_law_pick_3 (T : Txt K mg) (B : TxtB K mg base) : Def P w K mg base CX0 (3) "_law_pick" s__law_pick ["_law_store_here", "_law_items"] (Lift3 K (TT K) 2 qPick) := Def.imp (D_law_pick T) br_pick
theorem D_law_shuffled_3 (T : Txt K mg) (B : TxtB K mg base) : Def P w K mg base CX0 (3) "_law_shuffled" s__law_shuffled ["_law_store_here", "_law_items"] (Lift3 K (TT K) 2 qShuf) := Def.imp (D_law_shuffled T) br_shuf
theorem D_law_clamped_3 (T : Txt K mg) (B : TxtB K mg base) : Def P w K mg base CX0 (1) "_law_clamped" s__law_clamped ["_law_number"] (Lift3 K (TT K) 1 qClamp) := Def.imp (D_law_clamped T) br_clamp
theorem D_law_near_3 (T : Txt K mg) (B : TxtB K mg base) : Def P w K mg base CX0 (4) "_law_near" s__law_near ["_law_store_here", "_law_pool"] (Lift3 K (TT K) 2 qNear) := Def.imp (D_law_near T) br_near
abbrev N__law_bar : List Str := ["_law_store_here", "_law_pool", "_law_kind"]
theorem sc__law_bar : FnScope N__law_bar ["_law_store_here", "_law_pool"] (defScope s__law_bar) := ⟨rfl, rfl, rfl, by decide +kernel, rfl, by decide +kernel, by decide +kernel⟩
def EndO (o : Option Int) : Prop := ∀ i, o = some i → InR i
def qBar : P3v := fun ds Q _ => ∃ ns : List Int, ds = [.store, .lst (ns.map D.int)] ∧ 0 < ns.length ∧ ns.length ≤ 100000 ∧ (∀ n ∈ ns, InR n) ∧ ∀ o, EndO o → Q (.d (dEnd3 o))
set_option maxHeartbeats 4000000 in
theorem D_law_bar  (T : Txt K mg) (B : TxtB K mg base) : Def P w K mg base CX0 (5) "_law_bar" s__law_bar ["_law_store_here", "_law_pool"] (Lift3 K (TT K) 2 qBar) := by
  obtain ⟨f, fd, m, F⟩ := T.f__law_bar.ex
  refine ⟨f, fd, m, F.kp, F.bindsN (ps := ["_law_store_here", "_law_pool"]) (fun _ _ _ _ _ _ us hl => match us, hl with | [_, _], _ => rfl), ?_, F⟩
  obtain ⟨f_law_near, fd_law_near, m_law_near, kp_law_near, b_law_near, G_law_near, F_law_near⟩ := (D_law_near_3 (P := P) (w := w) (base := base) T B).ex
  obtain ⟨f_law_pick, fd_law_pick, m_law_pick, kp_law_pick, b_law_pick, G_law_pick, F_law_pick⟩ := (D_law_pick_3 (P := P) (w := w) (base := base) T B).ex
  obtain ⟨f_law_take, fd_law_take, m_law_take, kp_law_take, b_law_take, G_law_take, F_law_take⟩ := (D_law_take_3 (P := P) (w := w) (base := base) T B).ex
  refine F.ok (CX := CX0) sc__law_bar lift_len (fun cdv A outer s H vs Q E hr h => ?_)
  refine ⟨_, PSs.nox (pss_cons (ps_set (i := 2) sc__law_bar.nd rfl (Or.inl rfl) (pe_call G_law_take (hr.mono (by first | decide | omega)) (by rfl) m_law_take kp_law_take b_law_take .nil pass0 (pa_cons (pv 0) (pa_cons pe_int pa_nil))))
      (pss_cons (ps_if (pt_cmpR op_ltU (pv 2) pe_int (nomark _)) (pss_one (ps_ret pe_non)) pss_nil)
      (pss_cons (ps_if (pt_cmpR (op_eqP hr.units : OpR _ (compareOp .Eq) (rEqP K)) (pv 2) pe_int (nomark _)) (pss_one (ps_ret (pe_call G_law_near (hr.mono (by first | decide | omega)) (by rfl) m_law_near kp_law_near b_law_near .nil pass0 (pa_cons (pv 0) (pa_cons (pv 1) pa_nil))))) pss_nil)
      (pss_one (ps_ret (pe_call G_law_pick (hr.mono (by first | decide | omega)) (by rfl) m_law_pick kp_law_pick b_law_pick .nil pass0 (pa_cons (pv 0) (pa_cons (pv 1) pa_nil)))))))), ?_⟩
  refine enter3 (m := 1) h rfl (fun M3 c3 A3 H3 => (s3_seq (s3_set (e3_call0 (a3_cons e3_var (a3_cons e3_c a3_nil)) defs_nil) g3_name)
      (s3_seq (s3_if (t3_test (e3_op O3_lt e3_var e3_c)) (s3_ret e3_c) s3_next)
      (s3_seq (s3_if (t3_test (e3_op O3_eq e3_var e3_c)) (s3_ret (e3_call0 (a3_cons e3_var (a3_cons e3_var a3_nil)) defs_nil)) s3_next)
      (s3_ret (e3_call0 (a3_cons e3_var (a3_cons e3_var a3_nil)) defs_nil)))))) (fun ds Q3 X3 hn hp => ?_)
  obtain ⟨ns, rfl, h1, h2, h3, q⟩ := hp
  walk_at "g3"
  refine k_take (by decide) (by decide) fun r r0 r1 => ?_
  walk_at "g3"
  refine k_dec (fun e => ?_) (fun e => ?_)
  · walk_at "g3"
    exact q none fun i z => nomatch z
  walk_at "g3"
  refine k_dec (fun e => ?_) (fun e => ?_)
  · walk_at "g3"
    refine ⟨ns, rfl, h1, h2, h3, fun i hi => ?_⟩
    walk_at "g3"
    exact q (some i) fun j z => by cases z; exact hi
  walk_at "g3"
  refine .inr ⟨_, rfl, by rw [List.length_map]; exact h1, by rw [List.length_map]; exact h2, fun x hx => ?_⟩
  obtain ⟨i, hi, rfl⟩ := List.mem_map.mp hx
  walk_at "g3"
  exact q (some i) fun j z => by cases z; exact h3 i hi
end
end Q
namespace Q
open PySem PySem.Spec PyProof.Rows L2
section
variable {P : Program} {w : World} {K : PySem.W.Frag} {mg : Str → Option Value} {base : Heap}
abbrev N_is_name : List Str := ["text", "sign"]
theorem sc_is_name : FnScope N_is_name ["text"] (defScope s_is_name) := ⟨rfl, rfl, rfl, by decide +kernel, rfl, by decide +kernel, by decide +kernel⟩
set_option maxHeartbeats 4000000 in
theorem Dis_name  (T : Txt K mg) : Def P w K mg base CX0 (1) "is_name" s_is_name ["text"] (Sp1 pIsName) := by
  obtain ⟨f, fd, m, F⟩ := T.f_is_name.ex
  refine ⟨f, fd, m, F.kp, F.bindsN (ps := ["text"]) (fun _ _ _ _ _ _ us hl => match us, hl with | [_], _ => rfl), ?_, F⟩
  obtain ⟨tc_LETTERS, ec_LETTERS⟩ := T.c_LETTERS
  obtain ⟨tc_LONGEST_NAME, ec_LONGEST_NAME⟩ := T.c_LONGEST_NAME
  obtain ⟨tc_SIGNS, ec_SIGNS⟩ := T.c_SIGNS
  refine F.ok (CX := CX0) sc_is_name len1 (fun cdv A outer s H vs Q E hr h => ?_)
  obtain ⟨v0, rfl, h⟩ := h
  refine ⟨_, PSs.nox (pss_cons (ps_if (PW.pt (pw_or (pt_cmpR op_ltU (pe_callB call_lenU (by rfl) T.b_len (by decide +kernel) (pa_cons (pv 0) pa_nil)) pe_int (nomark _)) (pw_or (pt_cmpR op_gt0 (pe_callB call_lenU (by rfl) T.b_len (by decide +kernel) (pa_cons (pv 0) pa_nil)) (pe_glob (v := .int 8) (by rfl) ec_LONGEST_NAME ⟨_, rfl⟩) (nomark _)) (pw_or1 (pt_cmpR op_niU (pe_ix ix_U (pv 0) pe_int (fun _ _ => rfl)) (pe_glob (v := .str letS) (by rfl) ec_LETTERS ⟨_, rfl⟩) (by rfl)))))) (pss_one (ps_ret pe_bl)) pss_nil)
      (pss_cons (ps_for PassesOwn.never rfl (pi_str (pv 0)) (pg_name (i := 1) sc_is_name.nd rfl (Or.inl rfl)) (pss_one (ps_if (pt_cmpR op_niU (pv 1) (pe_glob (v := .str signS) (by rfl) ec_SIGNS ⟨_, rfl⟩) (by rfl)) (pss_one (ps_ret pe_bl)) pss_nil)))
      (pss_one (ps_ret pe_bl)))), ?_⟩
  try dsimp only [cxOf, Cx.nox, Cx.wish]
  rw [show start N_is_name [v0] = [some v0, none] from rfl]
  obtain ⟨x, rfl, hx, k⟩ := h
  walk_at "go"
  refine go_dec (fun h1 => ?_) (fun h1 => ?_)
  · walk_at "go"
    rw [← nm_short (x := x) (by omega)]
    exact k
  walk_at "go"
  refine go_dec (fun h2 => ?_) (fun h2 => ?_)
  · walk_at "go"
    rw [← nm_long h2]
    exact k
  walk_at "go"
  obtain ⟨c, hc⟩ := pick_ix (z := x) (r := 0) (by decide) (by omega)
  refine go_ixS (size_ok hx) hc ?_
  walk_at "go"
  refine go_ndec (fun h3 => ?_) (fun h3 => ?_)
  · walk_at "go"
    rw [← nm_head hc h3]
    exact k
  walk_at "go"
  refine for_s (fun i σ' H' => ∃ v, H' = H ∧ σ' = [some (.str x), v] ∧ ∀ (j d : Nat), j < i → x.cps.toList[j]? = some d → d ∈ signS.cps.toList) ⟨none, rfl, rfl, fun j d hj => absurd hj (Nat.not_lt_zero _)⟩ ?_ ?_
  · rintro i d σ' H' hd ⟨v, rfl, rfl, hall⟩
    walk_at "go"
    refine go_ndec (fun h4 => ?_) (fun h4 => ?_)
    · walk_at "go"
      rw [← nm_sign hd h4]
      exact k
    walk_at "go"
    refine ⟨_, rfl, rfl, fun j e hj he => ?_⟩
    by_cases q : j = i
    · subst q
      rw [hd] at he
      cases he
      exact h4
    · exact hall j e (by omega) he
  · rintro σ' H' ⟨v, rfl, rfl, hall⟩
    walk_at "go"
    rw [← nm_yes h1 h2 (fun c' hc' => by rw [hc] at hc'; cases hc'; exact h3) fun j d hd => hall j d (by have := (List.getElem?_eq_some_iff.mp hd).1; simpa [Str.length] using this) hd]
    exact k
theorem Dis_name_3 (T : Txt K mg) (B : TxtB K mg base) : Def P w K mg base CX0 (1) "is_name" s_is_name ["text"] (Lift3 K (TT K) 1 qIsName) := Def.imp (Dis_name T) br_isName
abbrev N_check_name : List Str := ["text"]
theorem sc_check_name : FnScope N_check_name ["text"] (defScope s_check_name) := ⟨rfl, rfl, rfl, by decide +kernel, rfl, by decide +kernel, by decide +kernel⟩
set_option maxHeartbeats 4000000 in
theorem Dcheck_name  (T : Txt K mg) (B : TxtB K mg base) : Def P w K mg base (L2.CX P w) (3) "check_name" s_check_name ["text"] (Lift3 K (TT K) 1 (qCheckName K)) := by
  obtain ⟨f, fd, m, F⟩ := T.f_check_name.ex
  refine ⟨f, fd, m, F.kp, F.bindsN (ps := ["text"]) (fun _ _ _ _ _ _ us hl => match us, hl with | [_], _ => rfl), ?_, F⟩
  obtain ⟨fis_name, fdis_name, mis_name, kpis_name, bis_name, Gis_name, Fis_name⟩ := (Dis_name_3 (P := P) (w := w) (base := base) T B).ex
  obtain ⟨fdi_BadName, bi_BadName, Gi_BadName⟩ := (Di_BadName (P := P) (w := w) (base := base) T)
  refine F.ok (CX := (L2.CX P w)) sc_check_name lift_len (fun cdv A outer s H vs Q E hr h => ?_)
  refine ⟨_, (pss_cons (ps_if (pt_not (pt_val (pe_call Gis_name (hr.mono (by first | decide | omega)) (by rfl) mis_name kpis_name bis_name .nil pass0 (pa_cons (pv 0) pa_nil)))) (pss_one (ps_raise rfl (takes_of rfl rfl rfl rfl) (pmk_oex T.x_BadName.oex T.i_BadName.ini T.i_BadName.ty Gi_BadName (hr.mono (by first | decide | omega)) bi_BadName .nil pass0 (by rfl) T.g_BadName (pa_cons (pv 0) pa_nil)))) pss_nil)
      (pss_one (ps_ret (pv 0)))), ?_⟩
  refine enter3 (m := 0) h rfl (fun M3 c3 A3 H3 => (s3_seq (s3_if (t3_not (t3_b (e3_call0 (a3_cons e3_var a3_nil) defs_nil))) (s3_raise1 (a3_cons e3_var a3_nil)) s3_next)
      (s3_ret e3_var))) (fun ds Q3 X3 hn hp => ?_)
  obtain ⟨x, rfl, hx, k⟩ := hp
  walk_at "g3"
  refine ⟨x, rfl, hx, ?_⟩
  walk_at "g3"
  refine k_nbool (fun e => ?_) (fun e => ?_)
  · walk_at "g3"
    exact (sc_if k).2 (by rw [e]; decide)
  · walk_at "g3"
    exact (sc_if k).1 e
abbrev N_ordered : List Str := ["names", "text", "seen"]
theorem sc_ordered : FnScope N_ordered ["names"] (defScope s_ordered) := ⟨rfl, rfl, rfl, by decide +kernel, rfl, by decide +kernel, by decide +kernel⟩
set_option maxHeartbeats 4000000 in
theorem Dordered  (T : Txt K mg) (B : TxtB K mg base) : Def P w K mg base (L2.CX P w) (4) "ordered" s_ordered ["names"] (Lift3 K (TT K) 1 (qOrdered K)) := by
  obtain ⟨f, fd, m, F⟩ := T.f_ordered.ex
  refine ⟨f, fd, m, F.kp, F.bindsN (ps := ["names"]) (fun _ _ _ _ _ _ us hl => match us, hl with | [_], _ => rfl), ?_, F⟩
  obtain ⟨fcheck_name, fdcheck_name, mcheck_name, kpcheck_name, bcheck_name, Gcheck_name, Fcheck_name⟩ := (Dcheck_name (P := P) (w := w) (base := base) T B).ex
  obtain ⟨fdi_Doubled, bi_Doubled, Gi_Doubled⟩ := (Di_Doubled (P := P) (w := w) (base := base) T)
  refine F.ok (CX := (L2.CX P w)) sc_ordered lift_len (fun cdv A outer s H vs Q E hr h => ?_)
  refine ⟨_, (pss_cons (ps_for (passes_of rfl) rfl (pi_seq (pv 0)) (pg_name (i := 1) sc_ordered.nd rfl (Or.inl rfl)) (pss_one (ps_expr (pe_call Gcheck_name (hr.mono (by first | decide | omega)) (by rfl) mcheck_name kpcheck_name bcheck_name .nil (passes_call (takes_of rfl rfl rfl rfl) (fun _ _ _ _ z => z)) (pa_cons (pv 1) pa_nil)))))
      (pss_cons (ps_set (i := 2) sc_ordered.nd rfl (Or.inl rfl) pe_dnewK)
      (pss_cons (ps_for (passes_of rfl) rfl (pi_seq (pv 0)) (pg_name (i := 1) sc_ordered.nd rfl (Or.inl rfl)) (pss_cons (ps_if (pt_cmp (pc_din (hu_of hr) (pv 1) (pv 2))) (pss_one (ps_raise rfl (takes_of rfl rfl rfl rfl) (pmk_oex T.x_Doubled.oex T.i_Doubled.ini T.i_Doubled.ty Gi_Doubled (hr.mono (by first | decide | omega)) bi_Doubled .nil pass0 (by rfl) T.g_Doubled (pa_cons (pv 1) pa_nil)))) pss_nil)
      (pss_one (ps_dput (hu_of hr) (pv 2) (pv 1) pe_bl rfl))))
      (pss_one (ps_ret (pe_callB (cr_sortedA : CallR _ (.builtin "sorted") (rSortedA K)) (by rfl) T.b_sorted (by decide +kernel) (pa_cons (pv 0) pa_nil))))))), ?_⟩
  refine enter3 (m := 2) h rfl (fun M3 c3 A3 H3 => (s3_seq (s3_for (i3_seq e3_var) g3_name (s3_drop (e3_call (a3_cons e3_var a3_nil) defs_nil)))
      (s3_seq (s3_own f3_dnew)
      (s3_seq (s3_for (i3_seq e3_var) g3_name (s3_seq (s3_if (t3_b (e3_din e3_var e3_var)) (s3_raise1 (a3_cons e3_var a3_nil)) s3_next)
      (s3_dput e3_var e3_c)))
      (s3_retF (f3_cb FC3_sortedA (a3_cons e3_var a3_nil))))))) (fun ds Q3 X3 hn hp => ?_)
  obtain ⟨d, xs, rfl, hd, hl, hx, k⟩ := hp
  walk_at "g3"
  refine k_asQ hd ?_
  refine for3_scan (R := XE K X3) (fun x => D.str x) (fun o => [some (.d d), o, none]) erName xs (fun x hm o nx h => ?_) none ((Sc.or k).mono fun k o => ?_)
  · walk_at "g3"
    exact ⟨x, rfl, by have := hx x hm; omega, h.mono fun h => h⟩
  walk_at "g3"
  refine k_asQ hd ?_
  refine for3_scanS (R := XE K X3) (fun x => D.str x) (fun o seen => [some (.d d), o, some (.od (namesK seen))]) (fun seen x => if x ∈ seen then some ("Doubled", [("name", .str x)]) else none) (fun seen x => seen ++ [x]) (fun n seen => seen.length = n) xs.length xs [] 0 (by omega) rfl (fun x hm o b n nx hN hI h => ?_) o ?_
  · walk_at "g3"
    rw [namesK_val]
    refine k_dec (fun e => ?_) (fun e => ?_)
    · walk_at "g3"
      exact (sc_ifn h).2 e
    · walk_at "g3"
      rw [namesK_put e, namesK_len]
      exact ⟨by omega, (sc_ifn h).1 e (by rw [List.length_append, hI]; rfl)⟩
  · rw [dup_scan, foldl_names]
    refine k.mono fun k o => ?_
    walk_at "g3"
    exact k_sortS (seqW_d hd) ⟨True.intro, k⟩
abbrev N_is_number : List Str := ["value"]
theorem sc_is_number : FnScope N_is_number ["value"] (defScope s_is_number) := ⟨rfl, rfl, rfl, by decide +kernel, rfl, by decide +kernel, by decide +kernel⟩
set_option maxHeartbeats 4000000 in
theorem Dis_number  (T : Txt K mg) (B : TxtB K mg base) : Def P w K mg base CX0 (1) "is_number" s_is_number ["value"] (Lift3 K (TT K) 1 qIsNumber) := by
  obtain ⟨f, fd, m, F⟩ := T.f_is_number.ex
  refine ⟨f, fd, m, F.kp, F.bindsN (ps := ["value"]) (fun _ _ _ _ _ _ us hl => match us, hl with | [_], _ => rfl), ?_, F⟩
  obtain ⟨tc_LIMIT, ec_LIMIT⟩ := T.c_LIMIT
  have cf_Span := T.cl_Span
  have tf_Span := T.ty_Span
  have cf_Web := T.cl_Web
  have tf_Web := T.ty_Web
  have xf_BadName := T.x_BadName.isx
  have xf_Doubled := T.x_Doubled.isx
  have xf_BadNumber := T.x_BadNumber.isx
  have xf_BadSpan := T.x_BadSpan.isx
  have xf_SelfBond := T.x_SelfBond.isx
  have xf_Unknown := T.x_Unknown.isx
  have xf_OutOfRange := T.x_OutOfRange.isx
  refine F.ok (CX := CX0) sc_is_number lift_len (fun cdv A outer s H vs Q E hr h => ?_)
  refine ⟨_, PSs.nox (pss_cons (ps_if (PW.pt (pw_or (pt_not (pt_val (pe_callB (call_isi : CallR _ (.builtin "isinstance") (rIsi K)) (by rfl) T.b_isinstance (by decide +kernel) (pa_cons (pv 0) (pa_cons (pe_bltn (v := .ty "int") (by rfl) T.b_int (by decide +kernel) rfl) pa_nil))))) (pw_or1 (pt_val (pe_callB (call_isi : CallR _ (.builtin "isinstance") (rIsi K)) (by rfl) T.b_isinstance (by decide +kernel) (pa_cons (pv 0) (pa_cons (pe_bltn (v := .ty "bool") (by rfl) T.b_bool (by decide +kernel) rfl) pa_nil))))))) (pss_one (ps_ret pe_bl)) pss_nil)
      (pss_one (ps_ret (pe_chain op_leU op_leU (pe_un un_neg0 (pe_glob (v := .int 1000000000000) (by rfl) ec_LIMIT ⟨_, rfl⟩)) (pv 0) (pe_glob (v := .int 1000000000000) (by rfl) ec_LIMIT ⟨_, rfl⟩))))), ?_⟩
  refine enter3 (m := 0) h rfl (fun M3 c3 A3 H3 => (s3_seq (s3_if (t3_or (t3_not (t3_b (e3_cb c3_isiK (a3_cons e3_var (a3_cons e3_c a3_nil))))) (t3_b (e3_cb c3_isiK (a3_cons e3_var (a3_cons e3_c a3_nil))))) (s3_ret e3_c) s3_next)
      (s3_ret (e3_chain O3_le O3_le (e3_un U3_neg e3_c) e3_var e3_c)))) (fun ds Q3 X3 hn hp => ?_)
  obtain ⟨x, rfl, hf, q⟩ := hp
  cases x with
  | non => walk_at "g3"; exact q
  | bl b => walk_at "g3"; exact q
  | str x => walk_at "g3"; exact q
  | int i =>
    walk_at "g3"
    refine k_dec (fun e1 => ?_) (fun e1 => ?_)
    · walk_at "g3"
      have e : isNumD (.int i) = decide (i ≤ 1000000000000) := decide_eq_decide.mpr ⟨fun z => z.2, fun z => ⟨e1, z⟩⟩
      rw [e] at q
      exact q
    · walk_at "g3"
      have e : isNumD (.int i) = false := decide_eq_false fun z => e1 z.1
      rw [e] at q
      exact q
  | _ => exact hf.elim
abbrev N_check_number : List Str := ["value"]
theorem sc_check_number : FnScope N_check_number ["value"] (defScope s_check_number) := ⟨rfl, rfl, rfl, by decide +kernel, rfl, by decide +kernel, by decide +kernel⟩
set_option maxHeartbeats 4000000 in
theorem Dcheck_number  (T : Txt K mg) (B : TxtB K mg base) : Def P w K mg base (L2.CX P w) (3) "check_number" s_check_number ["value"] (Lift3 K (TT K) 1 (qCheckNumber K)) := by
  obtain ⟨f, fd, m, F⟩ := T.f_check_number.ex
  refine ⟨f, fd, m, F.kp, F.bindsN (ps := ["value"]) (fun _ _ _ _ _ _ us hl => match us, hl with | [_], _ => rfl), ?_, F⟩
  obtain ⟨fis_number, fdis_number, mis_number, kpis_number, bis_number, Gis_number, Fis_number⟩ := (Dis_number (P := P) (w := w) (base := base) T B).ex
  obtain ⟨fdi_BadNumber, bi_BadNumber, Gi_BadNumber⟩ := (Di_BadNumber (P := P) (w := w) (base := base) T)
  refine F.ok (CX := (L2.CX P w)) sc_check_number lift_len (fun cdv A outer s H vs Q E hr h => ?_)
  refine ⟨_, (pss_cons (ps_if (pt_not (pt_val (pe_call Gis_number (hr.mono (by first | decide | omega)) (by rfl) mis_number kpis_number bis_number .nil pass0 (pa_cons (pv 0) pa_nil)))) (pss_one (ps_raise rfl (takes_of rfl rfl rfl rfl) (pmk_oex T.x_BadNumber.oex T.i_BadNumber.ini T.i_BadNumber.ty Gi_BadNumber (hr.mono (by first | decide | omega)) bi_BadNumber .nil pass0 (by rfl) T.g_BadNumber (pa_cons (pv 0) pa_nil)))) pss_nil)
      (pss_one (ps_ret (pv 0)))), ?_⟩
  refine enter3 (m := 0) h rfl (fun M3 c3 A3 H3 => (s3_seq (s3_if (t3_not (t3_b (e3_call0 (a3_cons e3_var a3_nil) defs_nil))) (s3_raise1 (a3_cons e3_var a3_nil)) s3_next)
      (s3_ret e3_var))) (fun ds Q3 X3 hn hp => ?_)
  obtain ⟨x, rfl, hf, k⟩ := hp
  walk_at "g3"
  refine ⟨x, rfl, hf, ?_⟩
  walk_at "g3"
  refine k_nbool (fun e => ?_) (fun e => ?_)
  · walk_at "g3"
    exact (sc_if k).2 (by rw [e]; decide)
  · walk_at "g3"
    exact (sc_if k).1 e
abbrev N_check_end : List Str := ["value"]
theorem sc_check_end : FnScope N_check_end ["value"] (defScope s_check_end) := ⟨rfl, rfl, rfl, by decide +kernel, rfl, by decide +kernel, by decide +kernel⟩
set_option maxHeartbeats 4000000 in
theorem Dcheck_end  (T : Txt K mg) (B : TxtB K mg base) : Def P w K mg base (L2.CX P w) (4) "check_end" s_check_end ["value"] (Lift3 K (TT K) 1 (qCheckOpen K)) := by
  obtain ⟨f, fd, m, F⟩ := T.f_check_end.ex
  refine ⟨f, fd, m, F.kp, F.bindsN (ps := ["value"]) (fun _ _ _ _ _ _ us hl => match us, hl with | [_], _ => rfl), ?_, F⟩
  obtain ⟨fcheck_number, fdcheck_number, mcheck_number, kpcheck_number, bcheck_number, Gcheck_number, Fcheck_number⟩ := (Dcheck_number (P := P) (w := w) (base := base) T B).ex
  refine F.ok (CX := (L2.CX P w)) sc_check_end lift_len (fun cdv A outer s H vs Q E hr h => ?_)
  refine ⟨_, (pss_one (ps_if (pt_cmpR op_isnot0 (pv 0) pe_non (nomark _)) (pss_one (ps_expr (pe_call Gcheck_number (hr.mono (by first | decide | omega)) (by rfl) mcheck_number kpcheck_number bcheck_number .nil (passes_call (takes_of rfl rfl rfl rfl) (fun _ _ _ _ z => z)) (pa_cons (pv 0) pa_nil)))) pss_nil)), ?_⟩
  refine enter3 (m := 0) h rfl (fun M3 c3 A3 H3 => (s3_if (t3_test (e3_op O3_isnot e3_var e3_c)) (s3_drop (e3_call (a3_cons e3_var a3_nil) defs_nil)) s3_next)) (fun ds Q3 X3 hn hp => ?_)
  obtain ⟨x, rfl, hf, k⟩ := hp
  have key : x ≠ .non → erOpen x = erNum x := fun z => by cases x <;> first | rfl | exact absurd rfl z
  cases x with
  | non => walk_at "g3"; exact k.ok
  | bl b =>
    walk_at "g3"
    refine ⟨_, rfl, hf, ?_⟩
    rw [key (fun z => nomatch z)] at k
    refine k.mono fun k => ?_
    walk_at "g3"
    exact k
  | str x =>
    walk_at "g3"
    refine ⟨_, rfl, hf, ?_⟩
    rw [key (fun z => nomatch z)] at k
    refine k.mono fun k => ?_
    walk_at "g3"
    exact k
  | int i =>
    walk_at "g3"
    refine ⟨_, rfl, hf, ?_⟩
    rw [key (fun z => nomatch z)] at k
    refine k.mono fun k => ?_
    walk_at "g3"
    exact k
  | _ => exact hf.elim
abbrev N_check_open : List Str := ["value"]
theorem sc_check_open : FnScope N_check_open ["value"] (defScope s_check_open) := ⟨rfl, rfl, rfl, by decide +kernel, rfl, by decide +kernel, by decide +kernel⟩
set_option maxHeartbeats 4000000 in
theorem Dcheck_open  (T : Txt K mg) (B : TxtB K mg base) : Def P w K mg base (L2.CX P w) (4) "check_open" s_check_open ["value"] (Lift3 K (TT K) 1 (qCheckOpen K)) := by
  obtain ⟨f, fd, m, F⟩ := T.f_check_open.ex
  refine ⟨f, fd, m, F.kp, F.bindsN (ps := ["value"]) (fun _ _ _ _ _ _ us hl => match us, hl with | [_], _ => rfl), ?_, F⟩
  obtain ⟨fcheck_number, fdcheck_number, mcheck_number, kpcheck_number, bcheck_number, Gcheck_number, Fcheck_number⟩ := (Dcheck_number (P := P) (w := w) (base := base) T B).ex
  refine F.ok (CX := (L2.CX P w)) sc_check_open lift_len (fun cdv A outer s H vs Q E hr h => ?_)
  refine ⟨_, (pss_one (ps_if (pt_cmpR op_isnot0 (pv 0) pe_non (nomark _)) (pss_one (ps_expr (pe_call Gcheck_number (hr.mono (by first | decide | omega)) (by rfl) mcheck_number kpcheck_number bcheck_number .nil (passes_call (takes_of rfl rfl rfl rfl) (fun _ _ _ _ z => z)) (pa_cons (pv 0) pa_nil)))) pss_nil)), ?_⟩
  refine enter3 (m := 0) h rfl (fun M3 c3 A3 H3 => (s3_if (t3_test (e3_op O3_isnot e3_var e3_c)) (s3_drop (e3_call (a3_cons e3_var a3_nil) defs_nil)) s3_next)) (fun ds Q3 X3 hn hp => ?_)
  obtain ⟨x, rfl, hf, k⟩ := hp
  have key : x ≠ .non → erOpen x = erNum x := fun z => by cases x <;> first | rfl | exact absurd rfl z
  cases x with
  | non => walk_at "g3"; exact k.ok
  | bl b =>
    walk_at "g3"
    refine ⟨_, rfl, hf, ?_⟩
    rw [key (fun z => nomatch z)] at k
    refine k.mono fun k => ?_
    walk_at "g3"
    exact k
  | str x =>
    walk_at "g3"
    refine ⟨_, rfl, hf, ?_⟩
    rw [key (fun z => nomatch z)] at k
    refine k.mono fun k => ?_
    walk_at "g3"
    exact k
  | int i =>
    walk_at "g3"
    refine ⟨_, rfl, hf, ?_⟩
    rw [key (fun z => nomatch z)] at k
    refine k.mono fun k => ?_
    walk_at "g3"
    exact k
  | _ => exact hf.elim
abbrev N_check_count : List Str := ["count", "low", "high"]
theorem sc_check_count : FnScope N_check_count ["count", "low", "high"] (defScope s_check_count) := ⟨rfl, rfl, rfl, by decide +kernel, rfl, by decide +kernel, by decide +kernel⟩
set_option maxHeartbeats 4000000 in
theorem Dcheck_count  (T : Txt K mg) (B : TxtB K mg base) : Def P w K mg base (L2.CX P w) (3) "check_count" s_check_count ["count", "low", "high"] (Lift3 K (TT K) 3 (qCheckCount K)) := by
  obtain ⟨f, fd, m, F⟩ := T.f_check_count.ex
  refine ⟨f, fd, m, F.kp, F.bindsN (ps := ["count", "low", "high"]) (fun _ _ _ _ _ _ us hl => match us, hl with | [_, _, _], _ => rfl), ?_, F⟩
  obtain ⟨fdi_OutOfRange, bi_OutOfRange, Gi_OutOfRange⟩ := (Di_OutOfRange (P := P) (w := w) (base := base) T)
  refine F.ok (CX := (L2.CX P w)) sc_check_count lift_len (fun cdv A outer s H vs Q E hr h => ?_)
  refine ⟨_, (pss_one (ps_if (PW.pt (pw_or (pt_cmpR op_ltU (pv 0) (pv 1) (nomark _)) (pw_or1 (pt_cmpR op_gtU (pv 0) (pv 2) (nomark _))))) (pss_one (ps_raise rfl (takes_of rfl rfl rfl rfl) (pmk_oex T.x_OutOfRange.oex T.i_OutOfRange.ini T.i_OutOfRange.ty Gi_OutOfRange (hr.mono (by first | decide | omega)) bi_OutOfRange .nil pass0 (by rfl) T.g_OutOfRange (pa_cons (pv 0) (pa_cons (pv 1) (pa_cons (pv 2) pa_nil)))))) pss_nil)), ?_⟩
  refine enter3 (m := 0) h rfl (fun M3 c3 A3 H3 => (s3_if (t3_or (t3_test (e3_op O3_lt e3_var e3_var)) (t3_test (e3_op O3_gt e3_var e3_var))) (s3_raise3 (a3_cons e3_var (a3_cons e3_var (a3_cons e3_var a3_nil)))) s3_next)) (fun ds Q3 X3 hn hp => ?_)
  obtain ⟨n, lo, hi, rfl, k⟩ := hp
  walk_at "g3"
  refine k_dec (fun e => ?_) (fun e => ?_)
  · walk_at "g3"
    exact (sc_ifn k).2 (.inl e)
  walk_at "g3"
  refine k_dec (fun e2 => ?_) (fun e2 => ?_)
  · walk_at "g3"
    exact (sc_ifn k).2 (.inr e2)
  walk_at "g3"
  exact (sc_ifn k).1 (fun z => z.elim e e2)
abbrev N_check_known : List Str := ["name", "known"]
theorem sc_check_known : FnScope N_check_known ["name", "known"] (defScope s_check_known) := ⟨rfl, rfl, rfl, by decide +kernel, rfl, by decide +kernel, by decide +kernel⟩
set_option maxHeartbeats 4000000 in
theorem Dcheck_known  (T : Txt K mg) (B : TxtB K mg base) : Def P w K mg base (L2.CX P w) (3) "check_known" s_check_known ["name", "known"] (Lift3 K (TT K) 2 (qCheckKnown K)) := by
  obtain ⟨f, fd, m, F⟩ := T.f_check_known.ex
  refine ⟨f, fd, m, F.kp, F.bindsN (ps := ["name", "known"]) (fun _ _ _ _ _ _ us hl => match us, hl with | [_, _], _ => rfl), ?_, F⟩
  obtain ⟨fdi_Unknown, bi_Unknown, Gi_Unknown⟩ := (Di_Unknown (P := P) (w := w) (base := base) T)
  refine F.ok (CX := (L2.CX P w)) sc_check_known lift_len (fun cdv A outer s H vs Q E hr h => ?_)
  refine ⟨_, (pss_one (ps_if (pt_cmp (pc_dnotin (hu_of hr) (pv 0) (pv 1))) (pss_one (ps_raise rfl (takes_of rfl rfl rfl rfl) (pmk_oex T.x_Unknown.oex T.i_Unknown.ini T.i_Unknown.ty Gi_Unknown (hr.mono (by first | decide | omega)) bi_Unknown .nil pass0 (by rfl) T.g_Unknown (pa_cons (pv 0) pa_nil)))) pss_nil)), ?_⟩
  refine enter3 (m := 0) h rfl (fun M3 c3 A3 H3 => (s3_if (t3_b (e3_dni e3_var e3_var)) (s3_raise1 (a3_cons e3_var a3_nil)) s3_next)) (fun ds Q3 X3 hn hp => ?_)
  obtain ⟨x, kvs, rfl, k1, k2⟩ := hp
  walk_at "g3"
  refine k_nbool (fun e => ?_) (fun e => ?_)
  · walk_at "g3"
    exact k2 e
  · walk_at "g3"
    exact k1 e
end
end Q
namespace Q
open PySem PySem.Spec PyProof.Rows L2
section
variable {P : Program} {w : World} {K : PySem.W.Frag} {mg : Str → Option Value} {base : Heap}
abbrev N_Span___init__ : List Str := ["self", "low", "high"]
theorem sc_Span___init__ : FnScope N_Span___init__ ["self", "low", "high"] (defScope s_Span___init__) := ⟨rfl, rfl, rfl, by decide +kernel, rfl, by decide +kernel, by decide +kernel⟩
set_option maxHeartbeats 4000000 in
theorem DSpan___init__  (T : Txt K mg) (B : TxtB K mg base) : MDef P w K mg base (L2.CX P w) (5) (He.ma K (gA K "Span") "__init__") "__init__" "Span.__init__" s_Span___init__ [V.non, V.non] ["self", "low", "high"] (LiftI K (TT K) (gA K "Span") 2 (qSpanInit K)) := by
  obtain ⟨fd, F⟩ := T.f_Span___init__
  refine ⟨fd, ?_, F⟩
  obtain ⟨fcheck_end, fdcheck_end, mcheck_end, kpcheck_end, bcheck_end, Gcheck_end, Fcheck_end⟩ := (Dcheck_end (P := P) (w := w) (base := base) T B).ex
  obtain ⟨fdi_BadSpan, bi_BadSpan, Gi_BadSpan⟩ := (Di_BadSpan (P := P) (w := w) (base := base) T)
  have cf_Span := T.cl_Span
  have nf_Span_low := T.no_Span "low" (by decide +kernel)
  have nf_Span_high := T.no_Span "high" (by decide +kernel)
  refine F.ok (CX := (L2.CX P w)) sc_Span___init__ init_len (fun cdv A outer s H vs Q E hr h => ?_)
  refine ⟨_, (pss_cons (ps_expr (pe_call Gcheck_end (hr.mono (by first | decide | omega)) (by rfl) mcheck_end kpcheck_end bcheck_end .nil (passes_call (takes_of rfl rfl rfl rfl) (fun _ _ _ _ z => z)) (pa_cons (pv 1) pa_nil)))
      (pss_cons (ps_expr (pe_call Gcheck_end (hr.mono (by first | decide | omega)) (by rfl) mcheck_end kpcheck_end bcheck_end .nil (passes_call (takes_of rfl rfl rfl rfl) (fun _ _ _ _ z => z)) (pa_cons (pv 2) pa_nil)))
      (pss_cons (ps_if (PW.pt (pw_and (pt_cmpR op_isnot0 (pv 1) pe_non (nomark _)) (pw_and (pt_cmpR op_isnot0 (pv 2) pe_non (nomark _)) (pw_and1 (pt_cmpR op_gtU (pv 1) (pv 2) (nomark _)))))) (pss_one (ps_raise rfl (takes_of rfl rfl rfl rfl) (pmk_oex T.x_BadSpan.oex T.i_BadSpan.ini T.i_BadSpan.ty Gi_BadSpan (hr.mono (by first | decide | omega)) bi_BadSpan .nil pass0 (by rfl) T.g_BadSpan (pa_cons (pv 1) (pa_cons (pv 2) pa_nil))))) pss_nil)
      (pss_cons (ps_fld (pv 0) (pv 1) rfl)
      (pss_one (ps_fld (pv 0) (pv 2) rfl)))))), ?_⟩
  refine enterI (m := 0) h rfl (fun M3 c3 A3 H3 => (s3_seq (s3_drop (e3_call (a3_cons e3_var a3_nil) defs_nil))
      (s3_seq (s3_drop (e3_call (a3_cons e3_var a3_nil) defs_nil))
      (s3_seq (s3_if (t3_and (t3_test (e3_op O3_isnot e3_var e3_c)) (t3_and (t3_test (e3_op O3_isnot e3_var e3_c)) (t3_test (e3_op O3_gt e3_var e3_var)))) (s3_raise2 (a3_cons e3_var (a3_cons e3_var a3_nil))) s3_next)
      (s3_seq (s3_sfldK e3_var)
      (s3_sfldK e3_var)))))) (fun ds Q3 X3 hn hp => ?_)
  obtain ⟨lo, hi, rfl, h1, h2, k⟩ := hp
  walk_at "g3"
  refine ⟨lo, rfl, h1, (Sc.or k).mono' fun e1 k => ?_⟩
  walk_at "g3"
  refine ⟨hi, rfl, h2, (Sc.or k).mono' fun e2 k => ?_⟩
  walk_at "g3"
  rcases open_ok e1 with rfl | ⟨l, rfl, _⟩ <;> rcases open_ok e2 with rfl | ⟨r, rfl, _⟩
  · walk_at "g3"
    exact ⟨_, rfl, k.ok⟩
  · walk_at "g3"
    exact ⟨_, rfl, k.ok⟩
  · walk_at "g3"
    exact ⟨_, rfl, k.ok⟩
  · walk_at "g3"
    refine k_dec (fun e => ?_) (fun e => ?_)
    · walk_at "g3"
      exact (sc_ifn k).2 e
    · walk_at "g3"
      exact ⟨_, rfl, (sc_ifn k).1 e⟩
abbrev N_check_ends : List Str := ["lamps", "bonds", "known", "row"]
theorem sc_check_ends : FnScope N_check_ends ["lamps", "bonds"] (defScope s_check_ends) := ⟨rfl, rfl, rfl, by decide +kernel, rfl, by decide +kernel, by decide +kernel⟩
set_option maxHeartbeats 4000000 in
theorem Dcheck_ends  (T : Txt K mg) (B : TxtB K mg base) : Def P w K mg base (L2.CX P w) (4) "check_ends" s_check_ends ["lamps", "bonds"] (Lift3B K (TT K) 2 [true, true] (qCheckEnds K)) := by
  obtain ⟨f, fd, m, F⟩ := T.f_check_ends.ex
  refine ⟨f, fd, m, F.kp, F.bindsN (ps := ["lamps", "bonds"]) (fun _ _ _ _ _ _ us hl => match us, hl with | [_, _], _ => rfl), ?_, F⟩
  obtain ⟨fcheck_known, fdcheck_known, mcheck_known, kpcheck_known, bcheck_known, Gcheck_known, Fcheck_known⟩ := (Dcheck_known (P := P) (w := w) (base := base) T B).ex
  obtain ⟨fdi_SelfBond, bi_SelfBond, Gi_SelfBond⟩ := (Di_SelfBond (P := P) (w := w) (base := base) T)
  refine F.ok (CX := (L2.CX P w)) sc_check_ends lift_lenB (fun cdv A outer s H vs Q E hr h => ?_)
  refine ⟨_, (pss_cons (ps_setDc (i := 2) (own := [("row", 3)]) (g := gName 3) (tt := tYes) rfl sc_check_ends.nd rfl rfl (sw_trueD rfl rfl rfl (by decide +kernel)) (pi_seq (pv 0)) (blkOk_by (own := [("row", 3)]) (N := N_check_ends) (sc := defScope s_check_ends) (by decide +kernel)) (fun _ _ _ _ _ => (pg_name (i := 3) sc_check_ends.nd rfl (Or.inl rfl))) (fun _ _ _ _ _ => pts_nil) (fun _ _ _ _ _ => (pe_ix (ix_U : IxR _ (rIx K)) (pv 3) pe_int (fun _ _ => rfl))) (fun _ _ _ _ _ => pe_bl))
      (pss_cons (ps_for (passes_of rfl) rfl (pi_seq (pv 1)) (pg_name (i := 3) sc_check_ends.nd rfl (Or.inl rfl)) (pss_one (ps_if (pt_cmpR (op_eqP hr.units : OpR _ (compareOp .Eq) (rEqP K)) (pe_ix (ix_U : IxR _ (rIx K)) (pv 3) pe_int (fun _ _ => rfl)) (pe_ix (ix_U : IxR _ (rIx K)) (pv 3) pe_int (fun _ _ => rfl)) (nomark _)) (pss_one (ps_raise rfl (takes_of rfl rfl rfl rfl) (pmk_oex T.x_SelfBond.oex T.i_SelfBond.ini T.i_SelfBond.ty Gi_SelfBond (hr.mono (by first | decide | omega)) bi_SelfBond .nil pass0 (by rfl) T.g_SelfBond (pa_cons (pe_ix (ix_U : IxR _ (rIx K)) (pv 3) pe_int (fun _ _ => rfl)) pa_nil)))) pss_nil)))
      (pss_one (ps_for (passes_of rfl) rfl (pi_seq (pv 1)) (pg_name (i := 3) sc_check_ends.nd rfl (Or.inl rfl)) (pss_cons (ps_expr (pe_call Gcheck_known (hr.mono (by first | decide | omega)) (by rfl) mcheck_known kpcheck_known bcheck_known .nil (passes_call (takes_of rfl rfl rfl rfl) (fun _ _ _ _ z => z)) (pa_cons (pe_ix (ix_U : IxR _ (rIx K)) (pv 3) pe_int (fun _ _ => rfl)) (pa_cons (pv 2) pa_nil))))
      (pss_one (ps_expr (pe_call Gcheck_known (hr.mono (by first | decide | omega)) (by rfl) mcheck_known kpcheck_known bcheck_known .nil (passes_call (takes_of rfl rfl rfl rfl) (fun _ _ _ _ z => z)) (pa_cons (pe_ix (ix_U : IxR _ (rIx K)) (pv 3) pe_int (fun _ _ => rfl)) (pa_cons (pv 2) pa_nil)))))))))), ?_⟩
  refine enter3B (m := 2) h rfl (fun M3 c3 A3 H3 => (s3_seq (s3_set (e3_fresh (f3_dc (i3_seq e3_var) g3_name (gin_name (by decide)) t3_yes (e3_op O3_ix e3_var e3_c) e3_c)) g3_name)
      (s3_seq (s3_for (i3_seq e3_var) g3_name (s3_if (t3_test (e3_op O3_eq (e3_op O3_ix e3_var e3_c) (e3_op O3_ix e3_var e3_c))) (s3_raise1 (a3_cons (e3_op O3_ix e3_var e3_c) a3_nil)) s3_next))
      (s3_for (i3_seq e3_var) g3_name (s3_seq (s3_drop (e3_call (a3_cons (e3_op O3_ix e3_var e3_c) (a3_cons e3_var a3_nil)) defs_nil))
      (s3_drop (e3_call (a3_cons (e3_op O3_ix e3_var e3_c) (a3_cons e3_var a3_nil)) defs_nil))))))) (fun ds Q3 X3 hn hp => ?_)
  obtain ⟨dl, db, ls, bs, rfl, hl, hb, k⟩ := hp
  walk_at "g3"
  refine rows_goB hl.rows fun pl el hpl => ?_
  refine dc3_fm (fun p : D × LampR => p.1) (fun p => .inr p.2.1) (fun _ => .bl true) pl [] (fun p hp RK R h => ?_) (by have := hl.len; rw [el, List.length_map] at this; simp; omega) ?_
  · walk_at "g3"
    refine k_ixQ (hpl p hp) rfl ?_
    walk_at "g3"
    exact h
  walk_at "g3"
  have hk : ∀ x, (valD (putsD [] (pl.map fun p => (Sum.inr p.2.1, D.bl true))) (.inr x)).isSome = decide (x ∈ ls.map (·.1)) := fun x => by
    have e1 : (pl.map (·.2)).map (·.1) = pl.map fun p => p.2.1 := by rw [List.map_map]; rfl
    have z := namesK_puts (pl.map fun p => p.2.1) [] x
    rw [List.map_map] at z
    rw [el, e1]
    exact z
  generalize putsD [] (pl.map fun p => (Sum.inr p.2.1, D.bl true)) = kd at hk
  refine rows_goB hb.rows fun pb eb hpb => ?_
  refine for3_scan (R := XE K X3) (fun p : D × BondR => p.1) (fun o => [some (.bw dl), some (.bw db), some (.d (.dic kd)), o]) (fun p => erSelf p.2) pb (fun p hp o nx h => ?_) none ?_
  · walk_at "g3"
    refine k_ixQ (hpb p hp) rfl ?_
    walk_at "g3"
    refine k_ixQ (hpb p hp) rfl ?_
    walk_at "g3"
    refine k_dec (fun e => ?_) (fun e => ?_)
    · walk_at "g3"
      refine k_ixQ (hpb p hp) rfl ?_
      walk_at "g3"
      exact (sc_ifn h).2 e
    · walk_at "g3"
      exact (sc_ifn h).1 e
  have k := Sc.or k
  rw [eb, find_map] at k
  refine k.mono fun k o => ?_
  walk_at "g3"
  refine rows_goB hb.rows fun pc ec hpc => ?_
  rw [← eb, ec, find_map] at k
  refine for3_scan (R := XE K X3) (fun p : D × BondR => p.1) (fun o => [some (.bw dl), some (.bw db), some (.d (.dic kd)), o]) (fun p => (erKnown p.2.a (ls.map (·.1))).or (erKnown p.2.b (ls.map (·.1)))) pc (fun p hp o nx h => ?_) o (k.mono fun k o => ?_)
  · have h := Sc.or h
    walk_at "g3"
    refine k_ixQ (hpc p hp) rfl ?_
    walk_at "g3"
    refine ⟨_, _, rfl, sc_known (hk _) (h.mono fun h => ?_)⟩
    walk_at "g3"
    refine k_ixQ (hpc p hp) rfl ?_
    walk_at "g3"
    refine ⟨_, _, rfl, sc_known (hk _) (h.mono fun h => ?_)⟩
    walk_at "g3"
    exact h
  · walk_at "g3"
    exact k
abbrev N_kept_bond : List Str := ["row", "name", "first", "second", "low", "high"]
theorem sc_kept_bond : FnScope N_kept_bond ["row"] (defScope s_kept_bond) := ⟨rfl, rfl, rfl, by decide +kernel, rfl, by decide +kernel, by decide +kernel⟩
set_option maxHeartbeats 4000000 in
theorem Dkept_bond  (T : Txt K mg) (B : TxtB K mg base) : Def P w K mg base CX0 (1) "kept_bond" s_kept_bond ["row"] (Lift3 K (TT K) 1 qKeptBond) := by
  obtain ⟨f, fd, m, F⟩ := T.f_kept_bond.ex
  refine ⟨f, fd, m, F.kp, F.bindsN (ps := ["row"]) (fun _ _ _ _ _ _ us hl => match us, hl with | [_], _ => rfl), ?_, F⟩
  refine F.ok (CX := CX0) sc_kept_bond lift_len (fun cdv A outer s H vs Q E hr h => ?_)
  refine ⟨_, PSs.nox (pss_cons (ps_asg (pv 0) (pg_seq rfl (pgs_cons (pg_name (i := 1) sc_kept_bond.nd rfl (Or.inl rfl)) (pgs_cons (pg_name (i := 2) sc_kept_bond.nd rfl (Or.inl rfl)) (pgs_cons (pg_name (i := 3) sc_kept_bond.nd rfl (Or.inl rfl)) (pgs_cons (pg_name (i := 4) sc_kept_bond.nd rfl (Or.inl rfl)) (pgs_cons (pg_name (i := 5) sc_kept_bond.nd rfl (Or.inl rfl)) pgs_nil)))))))
      (pss_cons (ps_if (pt_cmpR op_ltU (pv 3) (pv 2) (nomark _)) (pss_one (ps_ret (pe_tup (pa_cons (pv 1) (pa_cons (pv 3) (pa_cons (pv 2) (pa_cons (pv 4) (pa_cons (pv 5) pa_nil)))))))) pss_nil)
      (pss_one (ps_ret (pe_tup (pa_cons (pv 1) (pa_cons (pv 2) (pa_cons (pv 3) (pa_cons (pv 4) (pa_cons (pv 5) pa_nil)))))))))), ?_⟩
  refine enter3 (m := 5) h rfl (fun M3 c3 A3 H3 => (s3_seq (s3_set e3_var (g3_seq (g3_cons g3_name (g3_cons g3_name (g3_cons g3_name (g3_cons g3_name (g3_cons g3_name g3_nil)))))))
      (s3_seq (s3_if (t3_test (e3_op O3_lt e3_var e3_var)) (s3_ret (e3_tup (a3_cons e3_var (a3_cons e3_var (a3_cons e3_var (a3_cons e3_var (a3_cons e3_var a3_nil))))))) s3_next)
      (s3_ret (e3_tup (a3_cons e3_var (a3_cons e3_var (a3_cons e3_var (a3_cons e3_var (a3_cons e3_var a3_nil)))))))))) (fun ds Q3 X3 hn hp => ?_)
  obtain ⟨d, b, rfl, hd, q⟩ := hp
  unfold bondRow at hd
  walk_at "g3"
  refine k_gseq hd rfl ?_
  walk_at "g3"
  refine k_dec (fun e => ?_) (fun e => ?_)
  · walk_at "g3"
    rw [show ordB b = ⟨b.n, b.b, b.a, b.lo, b.hi⟩ from if_pos (decide_eq_true e)] at q
    exact q
  · walk_at "g3"
    rw [show ordB b = b from if_neg (by rw [ltS, decide_eq_false e]; decide)] at q
    exact q
abbrev N_arms_at : List Str := ["lamp", "bond_rows", "row"]
theorem sc_arms_at : FnScope N_arms_at ["lamp", "bond_rows"] (defScope s_arms_at) := ⟨rfl, rfl, rfl, by decide +kernel, rfl, by decide +kernel, by decide +kernel⟩
set_option maxHeartbeats 4000000 in
theorem Darms_at  (T : Txt K mg) (B : TxtB K mg base) : Def P w K mg base CX0 (1) "arms_at" s_arms_at ["lamp", "bond_rows"] (Lift3 K (TT K) 2 qArmsAt) := by
  obtain ⟨f, fd, m, F⟩ := T.f_arms_at.ex
  refine ⟨f, fd, m, F.kp, F.bindsN (ps := ["lamp", "bond_rows"]) (fun _ _ _ _ _ _ us hl => match us, hl with | [_, _], _ => rfl), ?_, F⟩
  refine F.ok (CX := CX0) sc_arms_at lift_len (fun cdv A outer s H vs Q E hr h => ?_)
  refine ⟨_, PSs.nox (pss_one (ps_ret (pe_lc (own := [("row", 2)]) (g := gName 2) rfl sc_arms_at.nd (pi_seq (pv 1)) (blkOk_by (own := [("row", 2)]) (N := N_arms_at) (sc := defScope s_arms_at) (by decide +kernel)) (fun _ _ _ _ _ => (pg_name (i := 2) sc_arms_at.nd rfl (Or.inl rfl))) (fun _ _ _ _ _ => (pts_one (PW.pt (pw_or (pt_cmpR (op_eqP hr.units : OpR _ (compareOp .Eq) (rEqP K)) (pv 0) (pe_ix (ix_U : IxR _ (rIx K)) (pv 2) pe_int (fun _ _ => rfl)) (nomark _)) (pw_or1 (pt_cmpR (op_eqP hr.units : OpR _ (compareOp .Eq) (rEqP K)) (pv 0) (pe_ix (ix_U : IxR _ (rIx K)) (pv 2) pe_int (fun _ _ => rfl)) (nomark _))))))) (fun _ _ _ _ _ => (pe_ix (ix_U : IxR _ (rIx K)) (pv 2) pe_int (fun _ _ => rfl)))))), ?_⟩
  refine enter3 (m := 1) h rfl (fun M3 c3 A3 H3 => (s3_retF (f3_lc (i3_seq e3_var) g3_name (gin_name (by decide)) (t3_or (t3_test (e3_op O3_eq e3_var (e3_op O3_ix e3_var e3_c))) (t3_test (e3_op O3_eq e3_var (e3_op O3_ix e3_var e3_c)))) (e3_op O3_ix e3_var e3_c)))) (fun ds Q3 X3 hn hp => ?_)
  obtain ⟨x, bs, rfl, hl, q⟩ := hp
  walk_at "g3"
  refine lc3_filter (fun b : BondR => D.tup (bondRow b)) (fun b => .str b.n) (fun b => decide (x = b.a) || decide (x = b.b)) bs (fun b hb QD R h1 h2 => ?_) (by omega) ?_
  · walk_at "g3"
    refine k_dec (fun e => ?_) (fun e => ?_)
    · walk_at "g3"
      exact h1 (by rw [decide_eq_true e]; rfl)
    walk_at "g3"
    refine k_dec (fun e2 => ?_) (fun e2 => ?_)
    · walk_at "g3"
      exact h1 (by rw [decide_eq_true e2, Bool.or_true])
    · exact h2 (by rw [decide_eq_false e, decide_eq_false e2]; rfl)
  · walk_at "g3"
    exact q
abbrev N_check_rows : List Str := ["lamps", "bonds", "row"]
theorem sc_check_rows : FnScope N_check_rows ["lamps", "bonds"] (defScope s_check_rows) := ⟨rfl, rfl, rfl, by decide +kernel, rfl, by decide +kernel, by decide +kernel⟩
set_option maxHeartbeats 4000000 in
theorem Dcheck_rows  (T : Txt K mg) (B : TxtB K mg base) : Def P w K mg base (L2.CX P w) (7) "check_rows" s_check_rows ["lamps", "bonds"] (Lift3B K (TT K) 2 [true, true] (qCheckRows K)) := by
  obtain ⟨f, fd, m, F⟩ := T.f_check_rows.ex
  refine ⟨f, fd, m, F.kp, F.bindsN (ps := ["lamps", "bonds"]) (fun _ _ _ _ _ _ us hl => match us, hl with | [_, _], _ => rfl), ?_, F⟩
  obtain ⟨fdSpan___init__, GSpan___init__, FSpan___init__⟩ := (DSpan___init__ (P := P) (w := w) (base := base) T B).ex
  obtain ⟨ds_Span___init___2, vd0, bd_Span___init___2⟩ := FSpan___init__.binds1 (ps := ["self", "low", "high"]) 3 2 (by first | decide | exact List.cons_ne_nil _ _) rfl (fun _ _ _ _ _ _ _ us its h1 h2 => match us, its, h1, h2 with | [_, _, _], [_, _], _, _ => ⟨_, rfl, rfl⟩)
  have vd_Span___init___2 : Vals [] ds_Span___init___2 := vd0
  obtain ⟨fcheck_count, fdcheck_count, mcheck_count, kpcheck_count, bcheck_count, Gcheck_count, Fcheck_count⟩ := (Dcheck_count (P := P) (w := w) (base := base) T B).ex
  obtain ⟨fcheck_ends, fdcheck_ends, mcheck_ends, kpcheck_ends, bcheck_ends, Gcheck_ends, Fcheck_ends⟩ := (Dcheck_ends (P := P) (w := w) (base := base) T B).ex
  obtain ⟨fcheck_name, fdcheck_name, mcheck_name, kpcheck_name, bcheck_name, Gcheck_name, Fcheck_name⟩ := (Dcheck_name (P := P) (w := w) (base := base) T B).ex
  obtain ⟨fcheck_open, fdcheck_open, mcheck_open, kpcheck_open, bcheck_open, Gcheck_open, Fcheck_open⟩ := (Dcheck_open (P := P) (w := w) (base := base) T B).ex
  obtain ⟨fordered, fdordered, mordered, kpordered, bordered, Gordered, Fordered⟩ := (Dordered (P := P) (w := w) (base := base) T B).ex
  obtain ⟨tc_MOST_BONDS, ec_MOST_BONDS⟩ := T.c_MOST_BONDS
  obtain ⟨tc_MOST_LAMPS, ec_MOST_LAMPS⟩ := T.c_MOST_LAMPS
  refine F.ok (CX := (L2.CX P w)) sc_check_rows lift_lenB (fun cdv A outer s H vs Q E hr h => ?_)
  refine ⟨_, (pss_cons (ps_for (passes_of rfl) rfl (pi_seq (pv 0)) (pg_name (i := 2) sc_check_rows.nd rfl (Or.inl rfl)) (pss_one (ps_expr (pe_call Gcheck_name (hr.mono (by first | decide | omega)) (by rfl) mcheck_name kpcheck_name bcheck_name .nil (passes_call (takes_of rfl rfl rfl rfl) (fun _ _ _ _ z => z)) (pa_cons (pe_ix (ix_U : IxR _ (rIx K)) (pv 2) pe_int (fun _ _ => rfl)) pa_nil)))))
      (pss_cons (ps_for (passes_of rfl) rfl (pi_seq (pv 1)) (pg_name (i := 2) sc_check_rows.nd rfl (Or.inl rfl)) (pss_one (ps_expr (pe_call Gcheck_name (hr.mono (by first | decide | omega)) (by rfl) mcheck_name kpcheck_name bcheck_name .nil (passes_call (takes_of rfl rfl rfl rfl) (fun _ _ _ _ z => z)) (pa_cons (pe_ix (ix_U : IxR _ (rIx K)) (pv 2) pe_int (fun _ _ => rfl)) pa_nil)))))
      (pss_cons (ps_for (passes_of rfl) rfl (pi_seq (pv 0)) (pg_name (i := 2) sc_check_rows.nd rfl (Or.inl rfl)) (pss_one (ps_expr (pe_call Gcheck_open (hr.mono (by first | decide | omega)) (by rfl) mcheck_open kpcheck_open bcheck_open .nil (passes_call (takes_of rfl rfl rfl rfl) (fun _ _ _ _ z => z)) (pa_cons (pe_ix (ix_U : IxR _ (rIx K)) (pv 2) pe_int (fun _ _ => rfl)) pa_nil)))))
      (pss_cons (ps_for (passes_of rfl) rfl (pi_seq (pv 1)) (pg_name (i := 2) sc_check_rows.nd rfl (Or.inl rfl)) (pss_cons (ps_expr (pe_call Gcheck_open (hr.mono (by first | decide | omega)) (by rfl) mcheck_open kpcheck_open bcheck_open .nil (passes_call (takes_of rfl rfl rfl rfl) (fun _ _ _ _ z => z)) (pa_cons (pe_ix (ix_U : IxR _ (rIx K)) (pv 2) pe_int (fun _ _ => rfl)) pa_nil)))
      (pss_one (ps_expr (pe_call Gcheck_open (hr.mono (by first | decide | omega)) (by rfl) mcheck_open kpcheck_open bcheck_open .nil (passes_call (takes_of rfl rfl rfl rfl) (fun _ _ _ _ z => z)) (pa_cons (pe_ix (ix_U : IxR _ (rIx K)) (pv 2) pe_int (fun _ _ => rfl)) pa_nil))))))
      (pss_cons (ps_for (passes_of rfl) rfl (pi_seq (pv 1)) (pg_name (i := 2) sc_check_rows.nd rfl (Or.inl rfl)) (pss_one (ps_expr (pe_make T.mk_Span GSpan___init__ (hr.mono (by first | decide | omega)) (by rfl) T.g_Span bd_Span___init___2 vd_Span___init___2 (passes_call (takes_of rfl rfl rfl rfl) (fun _ _ _ _ z => z)) (pa_cons (pe_ix (ix_U : IxR _ (rIx K)) (pv 2) pe_int (fun _ _ => rfl)) (pa_cons (pe_ix (ix_U : IxR _ (rIx K)) (pv 2) pe_int (fun _ _ => rfl)) pa_nil))))))
      (pss_cons (ps_expr (pe_call Gordered (hr.mono (by first | decide | omega)) (by rfl) mordered kpordered bordered .nil (passes_call (takes_of rfl rfl rfl rfl) (fun _ _ _ _ z => z)) (pa_cons (pe_lc (own := [("row", 2)]) (g := gName 2) (tt := tYes) rfl sc_check_rows.nd (pi_seq (pv 0)) (blkOk_by (own := [("row", 2)]) (N := N_check_rows) (sc := defScope s_check_rows) (by decide +kernel)) (fun _ _ _ _ _ => (pg_name (i := 2) sc_check_rows.nd rfl (Or.inl rfl))) (fun _ _ _ _ _ => pts_nil) (fun _ _ _ _ _ => (pe_ix (ix_U : IxR _ (rIx K)) (pv 2) pe_int (fun _ _ => rfl)))) pa_nil)))
      (pss_cons (ps_expr (pe_call Gordered (hr.mono (by first | decide | omega)) (by rfl) mordered kpordered bordered .nil (passes_call (takes_of rfl rfl rfl rfl) (fun _ _ _ _ z => z)) (pa_cons (pe_lc (own := [("row", 2)]) (g := gName 2) (tt := tYes) rfl sc_check_rows.nd (pi_seq (pv 1)) (blkOk_by (own := [("row", 2)]) (N := N_check_rows) (sc := defScope s_check_rows) (by decide +kernel)) (fun _ _ _ _ _ => (pg_name (i := 2) sc_check_rows.nd rfl (Or.inl rfl))) (fun _ _ _ _ _ => pts_nil) (fun _ _ _ _ _ => (pe_ix (ix_U : IxR _ (rIx K)) (pv 2) pe_int (fun _ _ => rfl)))) pa_nil)))
      (pss_cons (ps_expr (pe_call Gcheck_ends (hr.mono (by first | decide | omega)) (by rfl) mcheck_ends kpcheck_ends bcheck_ends .nil (passes_call (takes_of rfl rfl rfl rfl) (fun _ _ _ _ z => z)) (pa_cons (pv 0) (pa_cons (pv 1) pa_nil))))
      (pss_cons (ps_expr (pe_call Gcheck_count (hr.mono (by first | decide | omega)) (by rfl) mcheck_count kpcheck_count bcheck_count .nil (passes_call (takes_of rfl rfl rfl rfl) (fun _ _ _ _ z => z)) (pa_cons (pe_callB (call_lenU : CallR _ (.builtin "len") (rLenU K)) (by rfl) T.b_len (by decide +kernel) (pa_cons (pv 0) pa_nil)) (pa_cons pe_int (pa_cons (pe_glob (v := .int 10) (by rfl) ec_MOST_LAMPS ⟨_, rfl⟩) pa_nil)))))
      (pss_one (ps_expr (pe_call Gcheck_count (hr.mono (by first | decide | omega)) (by rfl) mcheck_count kpcheck_count bcheck_count .nil (passes_call (takes_of rfl rfl rfl rfl) (fun _ _ _ _ z => z)) (pa_cons (pe_callB (call_lenU : CallR _ (.builtin "len") (rLenU K)) (by rfl) T.b_len (by decide +kernel) (pa_cons (pv 1) pa_nil)) (pa_cons pe_int (pa_cons (pe_glob (v := .int 16) (by rfl) ec_MOST_BONDS ⟨_, rfl⟩) pa_nil))))))))))))))), ?_⟩
  refine enter3B (m := 1) h rfl (fun M3 c3 A3 H3 => (s3_seq (s3_for (i3_seq e3_var) g3_name (s3_drop (e3_call (a3_cons (e3_op O3_ix e3_var e3_c) a3_nil) defs_nil)))
      (s3_seq (s3_for (i3_seq e3_var) g3_name (s3_drop (e3_call (a3_cons (e3_op O3_ix e3_var e3_c) a3_nil) defs_nil)))
      (s3_seq (s3_for (i3_seq e3_var) g3_name (s3_drop (e3_call (a3_cons (e3_op O3_ix e3_var e3_c) a3_nil) defs_nil)))
      (s3_seq (s3_for (i3_seq e3_var) g3_name (s3_seq (s3_drop (e3_call (a3_cons (e3_op O3_ix e3_var e3_c) a3_nil) defs_nil))
      (s3_drop (e3_call (a3_cons (e3_op O3_ix e3_var e3_c) a3_nil) defs_nil))))
      (s3_seq (s3_for (i3_seq e3_var) g3_name (s3_drop (e3_make (a3_cons (e3_op O3_ix e3_var e3_c) (a3_cons (e3_op O3_ix e3_var e3_c) a3_nil)) defs_nil)))
      (s3_seq (s3_drop (e3_call (a3_cons (e3_fresh (f3_lc (i3_seq e3_var) g3_name (gin_name (by decide)) t3_yes (e3_op O3_ix e3_var e3_c))) a3_nil) defs_nil))
      (s3_seq (s3_drop (e3_call (a3_cons (e3_fresh (f3_lc (i3_seq e3_var) g3_name (gin_name (by decide)) t3_yes (e3_op O3_ix e3_var e3_c))) a3_nil) defs_nil))
      (s3_seq (s3_drop (e3_callB (a3_cons e3_var (a3_cons e3_var a3_nil)) defs_nil))
      (s3_seq (s3_drop (e3_call (a3_cons (e3_cb C3_len (a3_cons e3_var a3_nil)) (a3_cons e3_c (a3_cons e3_c a3_nil))) defs_nil))
      (s3_drop (e3_call (a3_cons (e3_cb C3_len (a3_cons e3_var a3_nil)) (a3_cons e3_c (a3_cons e3_c a3_nil))) defs_nil)))))))))))) (fun ds Q3 X3 hn hp => ?_)
  obtain ⟨dl, db, ls, bs, rfl, hl, hb, k⟩ := hp
  have hLl := hl.len
  have hLb := hb.len
  unfold rowsErr at k
  walk_at "g3"
  refine rows_goB hl.rows fun p1 e1 h1 => ?_
  refine for3_scan (R := XE K X3) (fun p : D × LampR => p.1) (fun o => [some (.bw dl), some (.bw db), o]) (fun p => erName p.2.1) p1 (fun p hp o nx h => ?_) none ((sc_rows e1 (Sc.or k)).mono fun k o => ?_)
  · walk_at "g3"
    refine k_ixQ (h1 p hp) rfl ?_
    walk_at "g3"
    refine ⟨_, rfl, by have := (hl.ok _ (rows_mem e1 hp)).1; omega, h.mono fun h => ?_⟩
    walk_at "g3"
    exact h
  walk_at "g3"
  refine rows_goB hb.rows fun p2 e2 h2 => ?_
  refine for3_scan (R := XE K X3) (fun p : D × BondR => p.1) (fun o => [some (.bw dl), some (.bw db), o]) (fun p => erName p.2.n) p2 (fun p hp o nx h => ?_) o ((sc_rows e2 (Sc.or k)).mono fun k o => ?_)
  · walk_at "g3"
    refine k_ixQ (h2 p hp) rfl ?_
    walk_at "g3"
    refine ⟨_, rfl, by have := (hb.ok _ (rows_mem e2 hp)).1; omega, h.mono fun h => ?_⟩
    walk_at "g3"
    exact h
  walk_at "g3"
  refine rows_goB hl.rows fun p3 e3 h3 => ?_
  refine for3_scan (R := XE K X3) (fun p : D × LampR => p.1) (fun o => [some (.bw dl), some (.bw db), o]) (fun p => erOpen p.2.2) p3 (fun p hp o nx h => ?_) o ((sc_rows e3 (Sc.or k)).mono fun k o => ?_)
  · walk_at "g3"
    refine k_ixQ (h3 p hp) rfl ?_
    walk_at "g3"
    refine ⟨_, rfl, (hl.ok _ (rows_mem e3 hp)).2, h.mono fun h => ?_⟩
    walk_at "g3"
    exact h
  walk_at "g3"
  refine rows_goB hb.rows fun p4 e4 h4 => ?_
  refine for3_scan (R := XE K X3) (fun p : D × BondR => p.1) (fun o => [some (.bw dl), some (.bw db), o]) (fun p => (erOpen p.2.lo).or (erOpen p.2.hi)) p4 (fun p hp o nx h => ?_) o ((sc_rows e4 (Sc.or k)).mono fun k o => ?_)
  · walk_at "g3"
    have h := Sc.or h
    refine k_ixQ (h4 p hp) rfl ?_
    walk_at "g3"
    refine ⟨_, rfl, (hb.ok _ (rows_mem e4 hp)).2.2.2.1, h.mono fun h => ?_⟩
    walk_at "g3"
    refine k_ixQ (h4 p hp) rfl ?_
    walk_at "g3"
    refine ⟨_, rfl, (hb.ok _ (rows_mem e4 hp)).2.2.2.2, h.mono fun h => ?_⟩
    walk_at "g3"
    exact h
  walk_at "g3"
  refine rows_goB hb.rows fun p5 e5 h5 => ?_
  refine for3_scan (R := XE K X3) (fun p : D × BondR => p.1) (fun o => [some (.bw dl), some (.bw db), o]) (fun p => erSpan p.2.lo p.2.hi) p5 (fun p hp o nx h => ?_) o ((sc_rows e5 (Sc.or k)).mono fun k o => ?_)
  · walk_at "g3"
    refine k_ixQ (h5 p hp) rfl ?_
    walk_at "g3"
    refine k_ixQ (h5 p hp) rfl ?_
    walk_at "g3"
    refine ⟨_, _, rfl, (hb.ok _ (rows_mem e5 hp)).2.2.2.1, (hb.ok _ (rows_mem e5 hp)).2.2.2.2, h.mono fun h => ?_⟩
    walk_at "g3"
    exact h
  walk_at "g3"
  refine rows_goB hl.rows fun p6 e6 h6 => ?_
  refine lc3_map (fun p : D × LampR => p.1) (fun p => .str p.2.1) p6 (fun p hp QD R h => ?_) (by rw [e6, List.length_map] at hLl; omega) ?_
  · walk_at "g3"
    refine k_ixQ (h6 p hp) rfl ?_
    walk_at "g3"
    exact h
  walk_at "g3"
  refine ⟨_, ls.map (·.1), rfl, by rw [e6, List.map_map, List.map_map]; rfl, by rw [List.length_map]; exact hLl, fun x hx => ?_, (Sc.or k).mono fun k => ?_⟩
  · obtain ⟨y, hy, rfl⟩ := List.mem_map.mp hx
    exact (hl.ok y hy).1
  walk_at "g3"
  refine rows_goB hb.rows fun p7 e7 h7 => ?_
  refine lc3_map (fun p : D × BondR => p.1) (fun p => .str p.2.n) p7 (fun p hp QD R h => ?_) (by rw [e7, List.length_map] at hLb; omega) ?_
  · walk_at "g3"
    refine k_ixQ (h7 p hp) rfl ?_
    walk_at "g3"
    exact h
  walk_at "g3"
  refine ⟨_, bs.map (·.n), rfl, by rw [e7, List.map_map, List.map_map]; rfl, by rw [List.length_map]; exact hLb, fun x hx => ?_, (Sc.or k).mono fun k => ?_⟩
  · obtain ⟨y, hy, rfl⟩ := List.mem_map.mp hx
    exact (hb.ok y hy).1
  walk_at "g3"
  refine ⟨dl, db, ls, bs, rfl, hl, hb, (Sc.or k).mono fun k => ?_⟩
  walk_at "g3"
  refine rows_lenB hl.rows ?_
  walk_at "g3"
  refine ⟨_, _, _, rfl, (Sc.or k).mono fun k => ?_⟩
  walk_at "g3"
  refine rows_lenB hb.rows ?_
  walk_at "g3"
  refine ⟨_, _, _, rfl, k.mono fun k => ?_⟩
  walk_at "g3"
  exact k
end
end Q
namespace Q
open PySem PySem.Spec PyProof.Rows L2
section
variable {P : Program} {w : World} {K : PySem.W.Frag} {mg : Str → Option Value} {base : Heap}
abbrev N_Web___init__ : List Str := ["self", "lamps", "bonds", "row", "lamp"]
theorem sc_Web___init__ : FnScope N_Web___init__ ["self", "lamps", "bonds"] (defScope s_Web___init__) := ⟨rfl, rfl, rfl, by decide +kernel, rfl, by decide +kernel, by decide +kernel⟩
set_option maxHeartbeats 4000000 in
theorem DWeb___init__  (T : Txt K mg) (B : TxtB K mg base) : MDef P w K mg base (L2.CX P w) (8) (He.ma K (gA K "Web") "__init__") "__init__" "Web.__init__" s_Web___init__ [V.ref (He.dflAt ("Web", some "__init__") 0 K)] ["self", "lamps", "bonds"] (LiftIB K (TT K) (gA K "Web") 2 [true, true] (qWebInit K)) := by
  obtain ⟨fd, F⟩ := T.f_Web___init__
  refine ⟨fd, ?_, F⟩
  obtain ⟨fdSpan___init__, GSpan___init__, FSpan___init__⟩ := (DSpan___init__ (P := P) (w := w) (base := base) T B).ex
  obtain ⟨ds_Span___init___2, vd0, bd_Span___init___2⟩ := FSpan___init__.binds1 (ps := ["self", "low", "high"]) 3 2 (by first | decide | exact List.cons_ne_nil _ _) rfl (fun _ _ _ _ _ _ _ us its h1 h2 => match us, its, h1, h2 with | [_, _, _], [_, _], _, _ => ⟨_, rfl, rfl⟩)
  have vd_Span___init___2 : Vals [] ds_Span___init___2 := vd0
  obtain ⟨farms_at, fdarms_at, marms_at, kparms_at, barms_at, Garms_at, Farms_at⟩ := (Darms_at (P := P) (w := w) (base := base) T B).ex
  obtain ⟨fcheck_rows, fdcheck_rows, mcheck_rows, kpcheck_rows, bcheck_rows, Gcheck_rows, Fcheck_rows⟩ := (Dcheck_rows (P := P) (w := w) (base := base) T B).ex
  obtain ⟨fkept_bond, fdkept_bond, mkept_bond, kpkept_bond, bkept_bond, Gkept_bond, Fkept_bond⟩ := (Dkept_bond (P := P) (w := w) (base := base) T B).ex
  have cf_Web := T.cl_Web
  have nf_Web_own_lamp_rows := T.no_Web "own_lamp_rows" (by decide +kernel)
  have nf_Web_own_bond_rows := T.no_Web "own_bond_rows" (by decide +kernel)
  have nf_Web_own_lamps := T.no_Web "own_lamps" (by decide +kernel)
  have nf_Web_own_ceilings := T.no_Web "own_ceilings" (by decide +kernel)
  have nf_Web_own_ends := T.no_Web "own_ends" (by decide +kernel)
  have nf_Web_own_spans := T.no_Web "own_spans" (by decide +kernel)
  have nf_Web_own_arms := T.no_Web "own_arms" (by decide +kernel)
  refine fund_okC F (CX := (L2.CX P w)) sc_Web___init__ init_lenB (fun cdv A outer s H vs Q E hc hr h => ?_)
  refine ⟨_, (pss_cons (ps_expr (pe_call Gcheck_rows (hr.mono (by first | decide | omega)) (by rfl) mcheck_rows kpcheck_rows bcheck_rows .nil (passes_call (takes_of rfl rfl rfl rfl) (fun _ _ _ _ z => z)) (pa_cons (pv 1) (pa_cons (pv 2) pa_nil))))
      (pss_cons (ps_fld (pv 0) (pe_sortRow (T := TT K) (kr := 0) (by rfl) T.b_sorted (by decide +kernel) (pa_cons (pe_lc (own := [("row", 3)]) (g := gName 3) (tt := tYes) rfl sc_Web___init__.nd (pi_seq (pv 1)) (blkOk_by (own := [("row", 3)]) (N := N_Web___init__) (sc := defScope s_Web___init__) (by decide +kernel)) (fun _ _ _ _ _ => (pg_name (i := 3) sc_Web___init__.nd rfl (Or.inl rfl))) (fun _ _ _ _ _ => pts_nil) (fun _ _ _ _ _ => (pe_tup (pa_cons (pe_ix (ix_U : IxR _ (rIx K)) (pv 3) pe_int (fun _ _ => rfl)) (pa_cons (pe_ix (ix_U : IxR _ (rIx K)) (pv 3) pe_int (fun _ _ => rfl)) pa_nil))))) pa_nil) B.tab (B.code hc) (List.mem_singleton.mpr rfl) (fun p hp _ => by rw [List.mem_singleton.mp hp]; rfl) (hr.mono (by omega)) rfl rfl rfl rfl (by decide +kernel) (by decide +kernel) rfl (fun _ _ _ _ _ _ => rfl)) rfl)
      (pss_cons (ps_fld (pv 0) (pe_sortRow (T := TT K) (kr := 0) (by rfl) T.b_sorted (by decide +kernel) (pa_cons (pe_lc (own := [("row", 3)]) (g := gName 3) (tt := tYes) rfl sc_Web___init__.nd (pi_seq (pv 2)) (blkOk_by (own := [("row", 3)]) (N := N_Web___init__) (sc := defScope s_Web___init__) (by decide +kernel)) (fun _ _ _ _ _ => (pg_name (i := 3) sc_Web___init__.nd rfl (Or.inl rfl))) (fun _ _ _ _ _ => pts_nil) (fun _ _ _ _ _ => (pe_call Gkept_bond (hr.mono (by first | decide | omega)) (by rfl) mkept_bond kpkept_bond bkept_bond .nil pass0 (pa_cons (pv 3) pa_nil)))) pa_nil) B.tab (B.code hc) (List.mem_singleton.mpr rfl) (fun p hp _ => by rw [List.mem_singleton.mp hp]; rfl) (hr.mono (by omega)) rfl rfl rfl rfl (by decide +kernel) (by decide +kernel) rfl (fun _ _ _ _ _ _ => rfl)) rfl)
      (pss_cons (ps_fld (pv 0) (pe_lc (own := [("row", 3)]) (g := gName 3) (tt := tYes) rfl sc_Web___init__.nd (pi_seq (pe_fldK (K := K) rfl (pv 0) rfl)) (blkOk_by (own := [("row", 3)]) (N := N_Web___init__) (sc := defScope s_Web___init__) (by decide +kernel)) (fun _ _ _ _ _ => (pg_name (i := 3) sc_Web___init__.nd rfl (Or.inl rfl))) (fun _ _ _ _ _ => pts_nil) (fun _ _ _ _ _ => (pe_ix (ix_U : IxR _ (rIx K)) (pv 3) pe_int (fun _ _ => rfl)))) rfl)
      (pss_cons (ps_fld (pv 0) (pe_dc (own := [("row", 3)]) (g := gName 3) (tt := tYes) rfl sc_Web___init__.nd (pi_seq (pe_fldK (K := K) rfl (pv 0) rfl)) (blkOk_by (own := [("row", 3)]) (N := N_Web___init__) (sc := defScope s_Web___init__) (by decide +kernel)) (fun _ _ _ _ _ => (pg_name (i := 3) sc_Web___init__.nd rfl (Or.inl rfl))) (fun _ _ _ _ _ => pts_nil) (fun _ _ _ _ _ => (pe_ix (ix_U : IxR _ (rIx K)) (pv 3) pe_int (fun _ _ => rfl))) (fun _ _ _ _ _ => (pe_ix (ix_U : IxR _ (rIx K)) (pv 3) pe_int (fun _ _ => rfl)))) rfl)
      (pss_cons (ps_fld (pv 0) (pe_dc (own := [("row", 3)]) (g := gName 3) (tt := tYes) rfl sc_Web___init__.nd (pi_seq (pe_fldK (K := K) rfl (pv 0) rfl)) (blkOk_by (own := [("row", 3)]) (N := N_Web___init__) (sc := defScope s_Web___init__) (by decide +kernel)) (fun _ _ _ _ _ => (pg_name (i := 3) sc_Web___init__.nd rfl (Or.inl rfl))) (fun _ _ _ _ _ => pts_nil) (fun _ _ _ _ _ => (pe_ix (ix_U : IxR _ (rIx K)) (pv 3) pe_int (fun _ _ => rfl))) (fun _ _ _ _ _ => (pe_tup (pa_cons (pe_ix (ix_U : IxR _ (rIx K)) (pv 3) pe_int (fun _ _ => rfl)) (pa_cons (pe_ix (ix_U : IxR _ (rIx K)) (pv 3) pe_int (fun _ _ => rfl)) pa_nil))))) rfl)
      (pss_cons (ps_fld (pv 0) (pe_dc (own := [("row", 3)]) (g := gName 3) (tt := tYes) rfl sc_Web___init__.nd (pi_seq (pe_fldK (K := K) rfl (pv 0) rfl)) (blkOk_by (own := [("row", 3)]) (N := N_Web___init__) (sc := defScope s_Web___init__) (by decide +kernel)) (fun _ _ _ _ _ => (pg_name (i := 3) sc_Web___init__.nd rfl (Or.inl rfl))) (fun _ _ _ _ _ => pts_nil) (fun _ _ _ _ _ => (pe_ix (ix_U : IxR _ (rIx K)) (pv 3) pe_int (fun _ _ => rfl))) (fun _ _ _ _ _ => (pe_make T.mk_Span GSpan___init__ (hr.mono (by first | decide | omega)) (by rfl) T.g_Span bd_Span___init___2 vd_Span___init___2 passL (pa_cons (pe_ix (ix_U : IxR _ (rIx K)) (pv 3) pe_int (fun _ _ => rfl)) (pa_cons (pe_ix (ix_U : IxR _ (rIx K)) (pv 3) pe_int (fun _ _ => rfl)) pa_nil))))) rfl)
      (pss_one (ps_fld (pv 0) (pe_dc (own := [("lamp", 4)]) (g := gName 4) (tt := tYes) rfl sc_Web___init__.nd (pi_seq (pe_fldK (K := K) rfl (pv 0) rfl)) (blkOk_by (own := [("lamp", 4)]) (N := N_Web___init__) (sc := defScope s_Web___init__) (by decide +kernel)) (fun _ _ _ _ _ => (pg_name (i := 4) sc_Web___init__.nd rfl (Or.inl rfl))) (fun _ _ _ _ _ => pts_nil) (fun _ _ _ _ _ => (pv 4)) (fun _ _ _ _ _ => (pe_call Garms_at (hr.mono (by first | decide | omega)) (by rfl) marms_at kparms_at barms_at .nil pass0 (pa_cons (pv 4) (pa_cons (pe_fldK (K := K) rfl (pv 0) rfl) pa_nil))))) rfl))))))))), ?_⟩
  refine enterIB (m := 2) h rfl (fun M3 c3 A3 H3 => (s3_seq (s3_drop (e3_callB (a3_cons e3_var (a3_cons e3_var a3_nil)) defs_nil))
      (s3_seq (s3_sfldK (e3_fresh (f3_sortRow (a3_cons (e3_fresh (f3_lc (i3_seq e3_var) g3_name (gin_name (by decide)) t3_yes (e3_tup (a3_cons (e3_op O3_ix e3_var e3_c) (a3_cons (e3_op O3_ix e3_var e3_c) a3_nil))))) a3_nil))))
      (s3_seq (s3_sfldK (e3_fresh (f3_sortRow (a3_cons (e3_fresh (f3_lc (i3_seq e3_var) g3_name (gin_name (by decide)) t3_yes (e3_call0 (a3_cons e3_var a3_nil) defs_nil))) a3_nil))))
      (s3_seq (s3_sfldK (e3_fresh (f3_lc (i3_seq (e3_fldK e3_var)) g3_name (gin_name (by decide)) t3_yes (e3_op O3_ix e3_var e3_c))))
      (s3_seq (s3_sfldK (e3_fresh (f3_dc (i3_seq (e3_fldK e3_var)) g3_name (gin_name (by decide)) t3_yes (e3_op O3_ix e3_var e3_c) (e3_op O3_ix e3_var e3_c))))
      (s3_seq (s3_sfldK (e3_fresh (f3_dc (i3_seq (e3_fldK e3_var)) g3_name (gin_name (by decide)) t3_yes (e3_op O3_ix e3_var e3_c) (e3_tup (a3_cons (e3_op O3_ix e3_var e3_c) (a3_cons (e3_op O3_ix e3_var e3_c) a3_nil))))))
      (s3_seq (s3_sfldK (e3_fresh (f3_dc (i3_seq (e3_fldK e3_var)) g3_name (gin_name (by decide)) t3_yes (e3_op O3_ix e3_var e3_c) (e3_make0 (a3_cons (e3_op O3_ix e3_var e3_c) (a3_cons (e3_op O3_ix e3_var e3_c) a3_nil)) defs_nil))))
      (s3_sfldK (e3_fresh (f3_dc (i3_seq (e3_fldK e3_var)) g3_name (gin_name (by decide)) t3_yes e3_var (e3_call0 (a3_cons e3_var (a3_cons (e3_fldK e3_var) a3_nil)) defs_nil)))))))))))) (fun ds Q3 X3 hn hp => ?_)
  obtain ⟨dl, db, ls, bs, rfl, hl, hb, k⟩ := hp
  have hLl := hl.len
  have hLb := hb.len
  walk_at "g3"
  refine ⟨dl, db, ls, bs, rfl, hl, hb, k.mono' fun ok k => ?_⟩
  have R := rows_right.mp ok
  have kl := R.l10
  have kb := R.b16
  have nl := nodup_lk (kept_names R.ld)
  have nb := nodup_bk (kept_bnames R.bd)
  have sp : ∀ b ∈ keptB bs, erSpan (dEnd3 b.lo) (dEnd3 b.hi) = none := fun b hb' => by
    obtain ⟨r, hr, rfl⟩ := kept_mem_b hb'
    have h := R.sp r hr
    have h' := h
    unfold erSpan at h'
    simp only [or_none] at h'
    rw [ordT_lo, ordT_hi]
    show erSpan (dEnd3 (toO r.lo)) (dEnd3 (toO r.hi)) = none
    rw [toO_ok h'.1, toO_ok h'.2.1]
    exact h
  walk_at "g3"
  refine rows_goB hl.rows fun p1 e1 h1 => ?_
  refine lc3_map (fun p : D × LampR => p.1) (fun p => .tup [.str p.2.1, p.2.2]) p1 (fun p hp QD R h => ?_) (by rw [e1, List.length_map] at hLl; omega) ?_
  · walk_at "g3"
    refine k_ixQ (h1 p hp) rfl ?_
    walk_at "g3"
    refine k_ixQ (h1 p hp) rfl ?_
    walk_at "g3"
    exact h
  walk_at "g3"
  have E1 : (p1.map fun p => D.tup [.str p.2.1, p.2.2]) = (ls.map tL).map lampD := by
    rw [e1, List.map_map, List.map_map]
    refine List.map_congr_left fun p hp => ?_
    show D.tup [.str p.2.1, p.2.2] = D.tup [.str p.2.1, dEnd3 (toO p.2.2)]
    rw [toO_ok (R.lo _ (rows_mem e1 hp))]
  rw [E1]
  refine k_srow (fun x hx => ?_) ?_
  · obtain ⟨l, _, rfl⟩ := List.mem_map.mp hx
    rfl
  rw [sort_lamps]
  walk_at "g3"
  refine rows_goB hb.rows fun p2 e2 h2 => ?_
  refine lc3_map (fun p : D × BondR => p.1) (fun p => .tup (bondRow (ordB p.2))) p2 (fun p hp QD R h => ?_) (by rw [e2, List.length_map] at hLb; omega) ?_
  · walk_at "g3"
    refine ⟨_, p.2, rfl, h2 p hp, ?_⟩
    walk_at "g3"
    exact h
  walk_at "g3"
  have E2 : (p2.map fun p => D.tup (bondRow (ordB p.2))) = (bs.map fun b => ordT (tB b)).map bondD := by
    rw [e2, List.map_map, List.map_map]
    refine List.map_congr_left fun p hp => ?_
    have h' := R.sp _ (rows_mem e2 hp)
    unfold erSpan at h'
    simp only [or_none] at h'
    show D.tup (bondRow (ordB p.2)) = bondD (ordT (tB p.2))
    rw [← tB_ord]
    show D.tup [.str _, .str _, .str _, (ordB p.2).lo, (ordB p.2).hi] = D.tup [.str _, .str _, .str _, dEnd3 (toO (ordB p.2).lo), dEnd3 (toO (ordB p.2).hi)]
    have l1 : (ordB p.2).lo = p.2.lo := by unfold ordB; split <;> rfl
    have l2 : (ordB p.2).hi = p.2.hi := by unfold ordB; split <;> rfl
    rw [l1, l2, toO_ok h'.1, toO_ok h'.2.1]
    rfl
  rw [E2]
  refine k_srow (fun x hx => ?_) ?_
  · obtain ⟨l, _, rfl⟩ := List.mem_map.mp hx
    rfl
  rw [sort_bonds]
  walk_at "g3"
  refine lc3_map lampD (fun l => .str l.1) (keptL ls) (fun l _ QD R h => ?_) (by rw [kept_len]; omega) ?_
  · walk_at "g3"
    refine k_ixQ rfl rfl ?_
    walk_at "g3"
    exact h
  walk_at "g3"
  refine dc3_map lampD (fun l => .inr l.1) (fun l => dEnd3 l.2) (keptL ls) (fun l _ RK R h => ?_) nl (by rw [kept_len]; omega) ?_
  · walk_at "g3"
    refine k_ixQ rfl rfl ?_
    walk_at "g3"
    refine k_ixQ rfl rfl ?_
    walk_at "g3"
    exact h
  walk_at "g3"
  refine dc3_map bondD (fun b => .inr b.n) (fun b => .tup [.str b.a, .str b.b]) (keptB bs) (fun b _ RK R h => ?_) nb (by rw [kept_blen]; omega) ?_
  · walk_at "g3"
    refine k_ixQ rfl rfl ?_
    walk_at "g3"
    refine k_ixQ rfl rfl ?_
    walk_at "g3"
    refine k_ixQ rfl rfl ?_
    walk_at "g3"
    exact h
  walk_at "g3"
  refine dc3_map bondD (fun b => .inr b.n) (fun b => spanD K b.lo b.hi) (keptB bs) (fun b hb' RK R h => ?_) nb (by rw [kept_blen]; omega) ?_
  · walk_at "g3"
    refine k_ixQ rfl rfl ?_
    walk_at "g3"
    refine k_ixQ rfl rfl ?_
    walk_at "g3"
    refine k_ixQ rfl rfl ?_
    walk_at "g3"
    refine ⟨_, _, rfl, by cases b.lo <;> exact True.intro, by cases b.hi <;> exact True.intro, Sc.of ?_ (sp b hb')⟩
    walk_at "g3"
    exact h
  walk_at "g3"
  refine dc3_map (fun l : LampT => D.str l.1) (fun l => .inr l.1) (fun l => .lst ((armsT l.1 (keptB bs)).map D.str)) (keptL ls) (fun l _ RK R h => ?_) nl (by rw [kept_len]; omega) ?_
  · walk_at "g3"
    refine ⟨l.1, (keptB bs).map rB, by rw [List.map_map]; rfl, by rw [List.length_map, kept_blen]; omega, ?_⟩
    walk_at "g3"
    have e : (((keptB bs).map rB).filter fun b => decide (l.1 = b.a) || decide (l.1 = b.b)).map (fun b => D.str b.n) = (armsT l.1 (keptB bs)).map D.str := by
      unfold armsT
      rw [List.filter_map, List.map_map, List.map_map]
      rfl
    rw [e]
    exact h
  walk_at "g3"
  exact ⟨_, rfl, k⟩
end
end Q
namespace Q
open PySem PySem.Spec PyProof.Rows L2
section
variable {P : Program} {w : World} {K : PySem.W.Frag} {mg : Str → Option Value} {base : Heap}
abbrev N_Web_lamp_rows : List Str := ["self"]
theorem sc_Web_lamp_rows : FnScope N_Web_lamp_rows ["self"] (defScope s_Web_lamp_rows) := ⟨rfl, rfl, rfl, by decide +kernel, rfl, by decide +kernel, by decide +kernel⟩
set_option maxHeartbeats 4000000 in
theorem DWeb_lamp_rows  (T : Txt K mg) (B : TxtB K mg base) : MDef P w K mg base CX0 (1) (propG K (gA K "Web") "lamp_rows") "lamp_rows" "Web.lamp_rows" s_Web_lamp_rows [] ["self"] (Lift3 K (TT K) 1 (qLampRows K)) := by
  obtain ⟨fd, F⟩ := T.f_Web_lamp_rows
  refine ⟨fd, ?_, F⟩
  have cf_Web := T.cl_Web
  have nf_Web_own_lamp_rows := T.no_Web "own_lamp_rows" (by decide +kernel)
  refine F.ok (CX := CX0) sc_Web_lamp_rows lift_len (fun cdv A outer s H vs Q E hr h => ?_)
  refine ⟨_, PSs.nox (pss_one (ps_ret (pe_callTy (call_list0 : CallR _ (.type "list") (rList0 K)) (by rfl) T.b_list (by decide +kernel) (pa_cons (pe_fldK (K := K) rfl (pv 0) rfl) pa_nil)))), ?_⟩
  refine enter3 (m := 0) h rfl (fun M3 c3 A3 H3 => (s3_retF (f3_cb FC3_list (a3_cons (e3_fldK e3_var) a3_nil)))) (fun ds Q3 X3 hn hp => ?_)
  obtain ⟨ls, bs, rfl, q⟩ := hp
  unfold webD webF
  walk_at "g3"
  exact q
abbrev N_Web_bond_rows : List Str := ["self"]
theorem sc_Web_bond_rows : FnScope N_Web_bond_rows ["self"] (defScope s_Web_bond_rows) := ⟨rfl, rfl, rfl, by decide +kernel, rfl, by decide +kernel, by decide +kernel⟩
set_option maxHeartbeats 4000000 in
theorem DWeb_bond_rows  (T : Txt K mg) (B : TxtB K mg base) : MDef P w K mg base CX0 (1) (propG K (gA K "Web") "bond_rows") "bond_rows" "Web.bond_rows" s_Web_bond_rows [] ["self"] (Lift3 K (TT K) 1 (qBondRows K)) := by
  obtain ⟨fd, F⟩ := T.f_Web_bond_rows
  refine ⟨fd, ?_, F⟩
  have cf_Web := T.cl_Web
  have nf_Web_own_bond_rows := T.no_Web "own_bond_rows" (by decide +kernel)
  refine F.ok (CX := CX0) sc_Web_bond_rows lift_len (fun cdv A outer s H vs Q E hr h => ?_)
  refine ⟨_, PSs.nox (pss_one (ps_ret (pe_callTy (call_list0 : CallR _ (.type "list") (rList0 K)) (by rfl) T.b_list (by decide +kernel) (pa_cons (pe_fldK (K := K) rfl (pv 0) rfl) pa_nil)))), ?_⟩
  refine enter3 (m := 0) h rfl (fun M3 c3 A3 H3 => (s3_retF (f3_cb FC3_list (a3_cons (e3_fldK e3_var) a3_nil)))) (fun ds Q3 X3 hn hp => ?_)
  obtain ⟨ls, bs, rfl, q⟩ := hp
  unfold webD webF
  walk_at "g3"
  exact q
abbrev N_Web_with_span : List Str := ["self", "bond", "low", "high", "fresh", "rows", "first", "second", "row"]
theorem sc_Web_with_span : FnScope N_Web_with_span ["self", "bond", "low", "high"] (defScope s_Web_with_span) := ⟨rfl, rfl, rfl, by decide +kernel, rfl, by decide +kernel, by decide +kernel⟩
set_option maxHeartbeats 4000000 in
theorem DWeb_with_span  (T : Txt K mg) (B : TxtB K mg base) : MDef P w K mg base (L2.CX P w) (10) (He.ma K (gA K "Web") "with_span") "with_span" "Web.with_span" s_Web_with_span [] ["self", "bond", "low", "high"] (Lift3 K (TT K) 4 (qWithSpan K)) := by
  obtain ⟨fd, F⟩ := T.f_Web_with_span
  refine ⟨fd, ?_, F⟩
  obtain ⟨fdSpan___init__, GSpan___init__, FSpan___init__⟩ := (DSpan___init__ (P := P) (w := w) (base := base) T B).ex
  obtain ⟨ds_Span___init___2, vd0, bd_Span___init___2⟩ := FSpan___init__.binds1 (ps := ["self", "low", "high"]) 3 2 (by first | decide | exact List.cons_ne_nil _ _) rfl (fun _ _ _ _ _ _ _ us its h1 h2 => match us, its, h1, h2 with | [_, _, _], [_, _], _, _ => ⟨_, rfl, rfl⟩)
  have vd_Span___init___2 : Vals [] ds_Span___init___2 := vd0
  obtain ⟨fdWeb___init__, GWeb___init__, FWeb___init__⟩ := (DWeb___init__ (P := P) (w := w) (base := base) T B).ex
  obtain ⟨ds_Web___init___2, vd0, bd_Web___init___2⟩ := FWeb___init__.binds1 (ps := ["self", "lamps", "bonds"]) 3 1 (by first | decide | exact List.cons_ne_nil _ _) rfl (fun _ _ _ _ _ _ _ us its h1 h2 => match us, its, h1, h2 with | [_, _, _], [_], _, _ => ⟨_, rfl, rfl⟩)
  have vd_Web___init___2 : Vals [] ds_Web___init___2 := vd0
  obtain ⟨fcheck_known, fdcheck_known, mcheck_known, kpcheck_known, bcheck_known, Gcheck_known, Fcheck_known⟩ := (Dcheck_known (P := P) (w := w) (base := base) T B).ex
  have cf_Span := T.cl_Span
  have nf_Span_low := T.no_Span "low" (by decide +kernel)
  have nf_Span_high := T.no_Span "high" (by decide +kernel)
  have cf_Web := T.cl_Web
  have nf_Web_own_lamp_rows := T.no_Web "own_lamp_rows" (by decide +kernel)
  have nf_Web_own_bond_rows := T.no_Web "own_bond_rows" (by decide +kernel)
  have nf_Web_own_ends := T.no_Web "own_ends" (by decide +kernel)
  refine F.ok (CX := (L2.CX P w)) sc_Web_with_span lift_len (fun cdv A outer s H vs Q E hr h => ?_)
  refine ⟨_, (pss_cons (ps_set (i := 4) sc_Web_with_span.nd rfl (Or.inl rfl) (pe_make T.mk_Span GSpan___init__ (hr.mono (by first | decide | omega)) (by rfl) T.g_Span bd_Span___init___2 vd_Span___init___2 (passes_call (takes_of rfl rfl rfl rfl) (fun _ _ _ _ z => z)) (pa_cons (pv 2) (pa_cons (pv 3) pa_nil))))
      (pss_cons (ps_expr (pe_call Gcheck_known (hr.mono (by first | decide | omega)) (by rfl) mcheck_known kpcheck_known bcheck_known .nil (passes_call (takes_of rfl rfl rfl rfl) (fun _ _ _ _ z => z)) (pa_cons (pv 1) (pa_cons (pe_fldK (K := K) rfl (pv 0) rfl) pa_nil))))
      (pss_cons (ps_setLc (i := 5) (own := [("row", 8)]) (g := gName 8) rfl sc_Web_with_span.nd rfl rfl (sw_true rfl rfl rfl (by decide +kernel)) (pi_seq (pe_fldK (K := K) rfl (pv 0) rfl)) (blkOk_by (own := [("row", 8)]) (N := N_Web_with_span) (sc := defScope s_Web_with_span) (by decide +kernel)) (fun _ _ _ _ _ => (pg_name (i := 8) sc_Web_with_span.nd rfl (Or.inl rfl))) (fun _ _ _ _ _ => (pts_one (pt_cmpR (op_neP hr.units : OpR _ (compareOp .NotEq) (rNeP K)) (pe_ix (ix_U : IxR _ (rIx K)) (pv 8) pe_int (fun _ _ => rfl)) (pv 1) (nomark _)))) (fun _ _ _ _ _ => (pv 8)))
      (pss_cons (ps_asg (pe_dget (hu_of hr) (pe_fldK (K := K) rfl (pv 0) rfl) (pv 1) (fun _ _ => rfl)) (pg_seq rfl (pgs_cons (pg_name (i := 6) sc_Web_with_span.nd rfl (Or.inl rfl)) (pgs_cons (pg_name (i := 7) sc_Web_with_span.nd rfl (Or.inl rfl)) pgs_nil))))
      (pss_one (ps_ret (pe_make T.mk_Web GWeb___init__ (hr.mono (by first | decide | omega)) (by rfl) T.g_Web bd_Web___init___2 vd_Web___init___2 (passes_call (takes_of rfl rfl rfl rfl) (fun _ _ _ _ z => z)) (pa_cons (pe_fldK (K := K) rfl (pv 0) rfl) (pa_cons (pe_op (op_addU : OpR _ (binaryOp .Add) (rAddU K)) (pv 5) (pe_lst (pa_cons (pe_tup (pa_cons (pv 1) (pa_cons (pv 6) (pa_cons (pv 7) (pa_cons (pe_fldK (K := K) rfl (pv 4) rfl) (pa_cons (pe_fldK (K := K) rfl (pv 4) rfl) pa_nil)))))) pa_nil))) pa_nil))))))))), ?_⟩
  refine enter3 (m := 5) h rfl (fun M3 c3 A3 H3 => (s3_seq (s3_set (e3_make (a3_cons e3_var (a3_cons e3_var a3_nil)) defs_nil) g3_name)
      (s3_seq (s3_drop (e3_call (a3_cons e3_var (a3_cons (e3_fldK e3_var) a3_nil)) defs_nil))
      (s3_seq (s3_set (e3_fresh (f3_lc (i3_seq (e3_fldK e3_var)) g3_name (gin_name (by decide)) (t3_test (e3_op O3_ne (e3_op O3_ix e3_var e3_c) e3_var)) e3_var)) g3_name)
      (s3_seq (s3_set (e3_dget (e3_fldK e3_var) e3_var) (g3_seq (g3_cons g3_name (g3_cons g3_name g3_nil))))
      (s3_ret (e3_makeB (a3_cons (e3_fldK e3_var) (a3_cons (e3_op O3_add e3_var (e3_fresh (f3_lst (a3_cons (e3_tup (a3_cons e3_var (a3_cons e3_var (a3_cons e3_var (a3_cons (e3_fldK e3_var) (a3_cons (e3_fldK e3_var) a3_nil)))))) a3_nil)))) a3_nil)) defs_nil))))))) (fun ds Q3 X3 hn hp => ?_)
  obtain ⟨ls, bs, x, lo, hi, rfl, ok, f1, f2, k⟩ := hp
  have hl := ok.b16
  unfold webD webF
  walk_at "g3"
  refine ⟨lo, hi, rfl, f1, f2, k.mono' fun e0 k => ?_⟩
  have eo := e0
  unfold erSpan at eo
  simp only [or_none] at eo
  have e1 : dEnd3 (toO lo) = lo := toO_ok eo.1
  have e2 : dEnd3 (toO hi) = hi := toO_ok eo.2.1
  unfold spanF
  walk_at "g3"
  have ev : valD (endsK bs) (.inr x) = (bondAt bs x).map (fun b : BondT => D.tup [.str b.a, .str b.b]) := valD_find _ _ x _
  refine ⟨x, _, rfl, ?_⟩
  rw [ev]
  have k2 := onO_map (f := (fun b : BondT => D.tup [.str b.a, .str b.b])) k
  refine ⟨fun z => ?_, k2.2⟩
  obtain ⟨a, ea, k⟩ := k2.1 z
  walk_at "g3"
  refine lc3_filter bondD bondD (fun b => !decide (b.n = x)) bs (fun b _ QD R h1 h2 => ?_) (by omega) ?_
  · walk_at "g3"
    refine k_ixQ rfl rfl ?_
    walk_at "g3"
    refine k_ndec (fun e => ?_) (fun e => ?_)
    · walk_at "g3"
      exact h1 (by rw [decide_eq_false e]; rfl)
    · exact h2 (by rw [decide_eq_true e]; rfl)
  walk_at "g3"
  rw [ev, ea]
  refine ⟨_, rfl, ?_⟩
  walk_at "g3"
  refine k_gsT rfl ?_
  walk_at "g3"
  have hf := List.length_filter_le (fun b : BondT => !decide (b.n = x)) bs
  refine k_addLL (by rw [List.length_map]; show _ + 1 ≤ 100000; omega) ?_
  walk_at "g3"
  have sp2 : erSpan (dEnd3 (toO lo)) (dEnd3 (toO hi)) = none := by rw [e1, e2]; exact e0
  have ks := kept_span ok (bondAt_mem ea) (bondAt_name ea) sp2
  have eD : (bs.filter fun b => !decide (b.n = x)).map bondD ++ [D.tup [.str x, .str a.a, .str a.b, lo, hi]] = (offB bs x ++ [BondT.mk x a.a a.b (toO lo) (toO hi)]).map bondD := by
    rw [List.map_append]
    show _ = _ ++ [D.tup [.str x, .str a.a, .str a.b, dEnd3 (toO lo), dEnd3 (toO hi)]]
    rw [e1, e2]
    rfl
  refine ⟨_, _, ls.map rL, (offB bs x ++ [BondT.mk x a.a a.b (toO lo) (toO hi)]).map rB, congrArg (fun z => [D.lst (ls.map lampD), D.lst z]) eD, ok.passL, bonds_pass ?_ (fun b hb => ?_), Sc.of ?_ ks.1⟩
  · unfold offB
    rw [List.length_append]
    show _ + 1 ≤ 1000
    omega
  · rcases List.mem_append.mp hb with hb | hb
    · exact ok.lens b (List.mem_filter.mp hb).1
    · rw [List.mem_singleton.mp hb]
      have := ok.lens a (bondAt_mem ea)
      rw [bondAt_name ea] at this
      exact this
  · rw [ok.kl, ks.2]
    exact ⟨True.intro, k⟩
abbrev N_Web_with_bond : List Str := ["self", "name", "first", "second", "low", "high"]
theorem sc_Web_with_bond : FnScope N_Web_with_bond ["self", "name", "first", "second", "low", "high"] (defScope s_Web_with_bond) := ⟨rfl, rfl, rfl, by decide +kernel, rfl, by decide +kernel, by decide +kernel⟩
set_option maxHeartbeats 4000000 in
theorem DWeb_with_bond  (T : Txt K mg) (B : TxtB K mg base) : MDefK P w K mg base (L2.CX P w) (10) (He.ma K (gA K "Web") "with_bond") "with_bond" "Web.with_bond" s_Web_with_bond [] [("low", V.non), ("high", V.non)] ["self", "name", "first", "second", "low", "high"] (Lift3 K (TT K) 6 (qWithBond K)) := by
  obtain ⟨fd, F⟩ := T.f_Web_with_bond
  refine ⟨fd, ?_, F⟩
  obtain ⟨fdWeb___init__, GWeb___init__, FWeb___init__⟩ := (DWeb___init__ (P := P) (w := w) (base := base) T B).ex
  obtain ⟨ds_Web___init___2, vd0, bd_Web___init___2⟩ := FWeb___init__.binds1 (ps := ["self", "lamps", "bonds"]) 3 1 (by first | decide | exact List.cons_ne_nil _ _) rfl (fun _ _ _ _ _ _ _ us its h1 h2 => match us, its, h1, h2 with | [_, _, _], [_], _, _ => ⟨_, rfl, rfl⟩)
  have vd_Web___init___2 : Vals [] ds_Web___init___2 := vd0
  have cf_Web := T.cl_Web
  have nf_Web_own_lamp_rows := T.no_Web "own_lamp_rows" (by decide +kernel)
  have nf_Web_own_bond_rows := T.no_Web "own_bond_rows" (by decide +kernel)
  refine F.ok (CX := (L2.CX P w)) sc_Web_with_bond lift_len (fun cdv A outer s H vs Q E hr h => ?_)
  refine ⟨_, (pss_one (ps_ret (pe_make T.mk_Web GWeb___init__ (hr.mono (by first | decide | omega)) (by rfl) T.g_Web bd_Web___init___2 vd_Web___init___2 (passes_call (takes_of rfl rfl rfl rfl) (fun _ _ _ _ z => z)) (pa_cons (pe_fldK (K := K) rfl (pv 0) rfl) (pa_cons (pe_op (op_addU : OpR _ (binaryOp .Add) (rAddU K)) (pe_fldK (K := K) rfl (pv 0) rfl) (pe_lst (pa_cons (pe_tup (pa_cons (pv 1) (pa_cons (pv 2) (pa_cons (pv 3) (pa_cons (pv 4) (pa_cons (pv 5) pa_nil)))))) pa_nil))) pa_nil))))), ?_⟩
  refine enter3 (m := 0) h rfl (fun M3 c3 A3 H3 => (s3_ret (e3_makeB (a3_cons (e3_fldK e3_var) (a3_cons (e3_op O3_add (e3_fldK e3_var) (e3_fresh (f3_lst (a3_cons (e3_tup (a3_cons e3_var (a3_cons e3_var (a3_cons e3_var (a3_cons e3_var (a3_cons e3_var a3_nil)))))) a3_nil)))) a3_nil)) defs_nil))) (fun ds Q3 X3 hn hp => ?_)
  obtain ⟨ls, bs, n, a, b, lo, hi, rfl, ok, h1, h2, h3, f1, f2, k⟩ := hp
  unfold webD webF
  walk_at "g3"
  have hl := ok.b16
  refine k_addLL (by rw [List.length_map]; show _ + 1 ≤ 100000; omega) ?_
  walk_at "g3"
  refine ⟨_, _, ls.map rL, bs.map rB ++ [BondR.mk n a b lo hi], rfl, ok.passL, bonds_snoc (r := BondR.mk n a b lo hi) (by omega) ok.lens ⟨h1, h2, h3, f1, f2⟩, k.mono fun k => ?_⟩
  rw [ok.kl]
  exact ⟨True.intro, k⟩
end
end Q
namespace Q
open PySem PySem.Spec PyProof.Rows L2
section
variable {P : Program} {w : World} {K : PySem.W.Frag} {mg : Str → Option Value} {base : Heap}
abbrev N__law_name : List Str := ["_law_store_here", "_law_letters", "_law_signs", "_law_kind", "_law_length", "_law_name_here", "_law_k"]
theorem sc__law_name : FnScope N__law_name ["_law_store_here"] (defScope s__law_name) := ⟨rfl, rfl, rfl, by decide +kernel, rfl, by decide +kernel, by decide +kernel⟩
set_option maxHeartbeats 4000000 in
theorem D_law_name_n  (T : Txt K mg) : Def P w K mg base CX0 (3) "_law_name" s__law_name ["_law_store_here"] (Sp1 (pDraw IsNameT)) := by
  obtain ⟨f, fd, m, F⟩ := T.f__law_name.ex
  refine ⟨f, fd, m, F.kp, F.bindsN (ps := ["_law_store_here"]) (fun _ _ _ _ _ _ us hl => match us, hl with | [_], _ => rfl), ?_, F⟩
  obtain ⟨f_law_take, fd_law_take, m_law_take, kp_law_take, b_law_take, G_law_take, F_law_take⟩ := (D_law_take (P := P) (w := w) (base := base) T).ex
  refine F.ok (CX := CX0) sc__law_name len1 (fun cdv A outer s H vs Q E hr h => ?_)
  obtain ⟨v0, rfl, h⟩ := h
  refine ⟨_, PSs.nox (pss_cons (ps_set (i := 1) sc__law_name.nd rfl (Or.inl rfl) pe_str)
      (pss_cons (ps_set (i := 2) sc__law_name.nd rfl (Or.inl rfl) (pe_op op_addU (pv 1) pe_str))
      (pss_cons (ps_set (i := 3) sc__law_name.nd rfl (Or.inl rfl) (pe_call G_law_take (hr.mono (by first | decide | omega)) (by rfl) m_law_take kp_law_take b_law_take .nil pass0 (pa_cons (pv 0) (pa_cons pe_int pa_nil))))
      (pss_cons (ps_set (i := 4) sc__law_name.nd rfl (Or.inl rfl) (pe_op op_addU pe_int (pe_call G_law_take (hr.mono (by first | decide | omega)) (by rfl) m_law_take kp_law_take b_law_take .nil pass0 (pa_cons (pv 0) (pa_cons pe_int pa_nil)))))
      (C8.pss_cut (ps_if (pt_cmpR op_ltU (pv 3) pe_int (nomark _)) (pss_one (ps_set (i := 4) sc__law_name.nd rfl (Or.inl rfl) (pe_ix ix_U (pe_lst (pa_cons pe_int (pa_cons pe_int (pa_cons pe_int pa_nil)))) (pv 3) (fun _ _ => rfl)))) pss_nil)
      (pss_cons (ps_set (i := 5) sc__law_name.nd rfl (Or.inl rfl) (pe_ix ix_U (pv 1) (pe_call G_law_take (hr.mono (by first | decide | omega)) (by rfl) m_law_take kp_law_take b_law_take .nil pass0 (pa_cons (pv 0) (pa_cons pe_int pa_nil))) (fun _ _ => rfl)))
      (pss_cons (ps_for PassesOwn.never rfl (pi_range1 (by rfl) T.b_range (pa_cons (pe_op op_sub0 (pv 4) pe_int) pa_nil)) (pg_name (i := 6) sc__law_name.nd rfl (Or.inl rfl)) (pss_one (ps_set (i := 5) sc__law_name.nd rfl (Or.inl rfl) (pe_op op_addU (pv 5) (pe_ix ix_U (pv 2) (pe_call G_law_take (hr.mono (by first | decide | omega)) (by rfl) m_law_take kp_law_take b_law_take .nil pass0 (pa_cons (pv 0) (pa_cons pe_int pa_nil))) (fun _ _ => rfl))))))
      (pss_one (ps_ret (pv 5)))))))))), ?_⟩
  try dsimp only [cxOf, Cx.nox, Cx.wish]
  rw [show start N__law_name [v0] = [some v0, none, none, none, none, none, none] from rfl]
  obtain ⟨c, M, rfl, ok, k⟩ := h
  walk_at "go"
  rw [letS_is, signS_is]
  generalize hl : letS = L
  generalize hsg : signS = S
  have hL : L.length = 26 := by
    rw [← hl]
    decide +kernel
  have hS : S.length = 36 := by
    rw [← hsg]
    decide +kernel
  refine take_go ok (by decide) (by decide) fun r1 H1 a1 b1 d1 ok1 => ?_
  walk_at "go"
  refine take_go ok1 (by decide) (by decide) fun r2 H2 a2 b2 d2 ok2 => ?_
  walk_at "go"
  refine ⟨fun σ' H' => ∃ n : Int, 1 ≤ n ∧ n ≤ 8 ∧ Dx (Only1 c) H H' ∧ Ok M H' c ∧ σ' = [some (.ref c), some (.str L), some (.str S), some (.int r1), some (.int n), none, none], ?_, ?_⟩
  · walk_at "go"
    refine go_dec (fun h3 => ?_) (fun _ => ?_)
    · walk_at "go"
      refine ⟨by show 3 ≤ sizeLine; decide, fun p hp => ?_⟩
      walk_at "go"
      have d3 : Dx (Only1 c) H2 (upd H2 p (.lst [V.int 1, V.int 2, V.int 8])) := Dx.new hp
      obtain ⟨n, hn, g1, g2⟩ : ∃ n : Int, atI [V.int 1, V.int 2, V.int 8] r1 = some (.int n) ∧ 1 ≤ n ∧ n ≤ 8 := by
        rcases (show r1 = 0 ∨ r1 = 1 ∨ r1 = 2 by omega) with e | e | e
        · subst e
          exact ⟨1, by rfl, by decide, by decide⟩
        · subst e
          exact ⟨2, by rfl, by decide, by decide⟩
        · subst e
          exact ⟨8, by rfl, by decide, by decide⟩
      refine go_ixL (SqL.of upd_same) hn ?_
      walk_at "go"
      exact ⟨n, g1, g2, (d1.trans d2).trans d3, ok2.new hp, rfl⟩
    · walk_at "go"
      exact ⟨1 + r2, by omega, by omega, d1.trans d2, ok2, rfl⟩
  · rintro σ' H3 ⟨n, hn1, hn2, d3, ok3, rfl⟩
    walk_at "go"
    refine take_go ok3 (by decide) (by decide) fun r4 H4 a4 b4 d4 ok4 => ?_
    obtain ⟨ch, hch, hcm⟩ := pick_mem (z := L) a4 (by omega)
    refine go_ixS (size_ok (by omega)) hch ?_
    walk_at "go"
    refine for_r (by omega) (fun i σ' H' => ∃ (x : Str) (v : Option V) (r : List Nat), x.cps.toList = ch :: r ∧ r.length = i ∧ (∀ d ∈ r, d ∈ S.cps.toList) ∧ Dx (Only1 c) H H' ∧ Ok M H' c ∧ σ' = [some (.ref c), some (.str L), some (.str S), some (.int r1), some (.int n), some (.str x), v]) ⟨_, none, [], rfl, rfl, fun d hd => (List.not_mem_nil hd).elim, d3.trans d4, ok4, rfl⟩ ?_ ?_
    · rintro i σ' H5 hi ⟨x, v, r, hx, hrl, hrs, d5, ok5, rfl⟩
      walk_at "go"
      refine take_go ok5 (by decide) (by decide) fun r6 H6 a6 b6 d6 ok6 => ?_
      obtain ⟨ch2, hch2, hcm2⟩ := pick_mem (z := S) a6 (by omega)
      have hxl : x.length = r.length + 1 := by
        have e : x.cps.toList.length = x.length := by simp [Str.length]
        rw [← e, hx]
        rfl
      refine go_ixS (size_ok (by omega)) hch2 ?_
      walk_at "go"
      exact ⟨_, _, r ++ [ch2], by rw [str_app, hx]; rfl, by rw [List.length_append, hrl]; rfl, fun d hd => (List.mem_append.mp hd).elim (hrs d) fun z => by rw [List.mem_singleton.mp z]; exact hcm2, d5.trans d6, ok6, rfl⟩
    · rintro σ' H5 ⟨x, v, r, hx, hrl, hrs, d5, ok5, rfl⟩
      walk_at "go"
      have hxl : x.length = r.length + 1 := by
        have e : x.cps.toList.length = x.length := by simp [Str.length]
        rw [← e, hx]
        rfl
      exact k _ _ ⟨x, rfl, isNm_mk hx (by omega) (by rw [hl]; exact hcm) (by rw [hsg]; exact hrs), by omega, by omega⟩ d5 ok5
theorem D_law_name_3 (T : Txt K mg) (B : TxtB K mg base) : Def P w K mg base CX0 (3) "_law_name" s__law_name ["_law_store_here"] (Lift3 K (TT K) 1 qName) := Def.imp (D_law_name_n T) br_name
abbrev N__law_ends : List Str := ["_law_store_here", "_law_pool", "_law_kind", "_law_one", "_law_other"]
theorem sc__law_ends : FnScope N__law_ends ["_law_store_here", "_law_pool"] (defScope s__law_ends) := ⟨rfl, rfl, rfl, by decide +kernel, rfl, by decide +kernel, by decide +kernel⟩
set_option maxHeartbeats 4000000 in
theorem D_law_ends  (T : Txt K mg) (B : TxtB K mg base) : Def P w K mg base CX0 (5) "_law_ends" s__law_ends ["_law_store_here", "_law_pool"] (Lift3 K (TT K) 2 qEndsOf) := by
  obtain ⟨f, fd, m, F⟩ := T.f__law_ends.ex
  refine ⟨f, fd, m, F.kp, F.bindsN (ps := ["_law_store_here", "_law_pool"]) (fun _ _ _ _ _ _ us hl => match us, hl with | [_, _], _ => rfl), ?_, F⟩
  obtain ⟨f_law_near, fd_law_near, m_law_near, kp_law_near, b_law_near, G_law_near, F_law_near⟩ := (D_law_near_3 (P := P) (w := w) (base := base) T B).ex
  obtain ⟨f_law_take, fd_law_take, m_law_take, kp_law_take, b_law_take, G_law_take, F_law_take⟩ := (D_law_take_3 (P := P) (w := w) (base := base) T B).ex
  refine F.ok (CX := CX0) sc__law_ends lift_len (fun cdv A outer s H vs Q E hr h => ?_)
  refine ⟨_, PSs.nox (pss_cons (ps_set (i := 2) sc__law_ends.nd rfl (Or.inl rfl) (pe_call G_law_take (hr.mono (by first | decide | omega)) (by rfl) m_law_take kp_law_take b_law_take .nil pass0 (pa_cons (pv 0) (pa_cons pe_int pa_nil))))
      (pss_cons (ps_if (pt_cmpR op_ltU (pv 2) pe_int (nomark _)) (pss_one (ps_ret (pe_tup (pa_cons pe_non (pa_cons pe_non pa_nil))))) pss_nil)
      (pss_cons (ps_set (i := 3) sc__law_ends.nd rfl (Or.inl rfl) (pe_call G_law_near (hr.mono (by first | decide | omega)) (by rfl) m_law_near kp_law_near b_law_near .nil pass0 (pa_cons (pv 0) (pa_cons (pv 1) pa_nil))))
      (pss_cons (ps_if (pt_cmpR (op_eqP hr.units : OpR _ (compareOp .Eq) (rEqP K)) (pv 2) pe_int (nomark _)) (pss_one (ps_ret (pe_tup (pa_cons pe_non (pa_cons (pv 3) pa_nil))))) pss_nil)
      (pss_cons (ps_if (pt_cmpR (op_eqP hr.units : OpR _ (compareOp .Eq) (rEqP K)) (pv 2) pe_int (nomark _)) (pss_one (ps_ret (pe_tup (pa_cons (pv 3) (pa_cons pe_non pa_nil))))) pss_nil)
      (pss_cons (ps_if (pt_cmpR (op_eqP hr.units : OpR _ (compareOp .Eq) (rEqP K)) (pv 2) pe_int (nomark _)) (pss_one (ps_ret (pe_tup (pa_cons (pv 3) (pa_cons (pv 3) pa_nil))))) pss_nil)
      (pss_cons (ps_set (i := 4) sc__law_ends.nd rfl (Or.inl rfl) (pe_call G_law_near (hr.mono (by first | decide | omega)) (by rfl) m_law_near kp_law_near b_law_near .nil pass0 (pa_cons (pv 0) (pa_cons (pv 1) pa_nil))))
      (pss_one (ps_ret (pe_tup (pa_cons (pe_callB ((call_minT rfl) : CallR _ (.builtin "min") rMinT) (by rfl) T.b_min (by decide +kernel) (pa_cons (pv 3) (pa_cons (pv 4) pa_nil))) (pa_cons (pe_callB ((call_maxT rfl) : CallR _ (.builtin "max") rMaxT) (by rfl) T.b_max (by decide +kernel) (pa_cons (pv 3) (pa_cons (pv 4) pa_nil))) pa_nil)))))))))))), ?_⟩
  refine enter3 (m := 3) h rfl (fun M3 c3 A3 H3 => (s3_seq (s3_set (e3_call0 (a3_cons e3_var (a3_cons e3_c a3_nil)) defs_nil) g3_name)
      (s3_seq (s3_if (t3_test (e3_op O3_lt e3_var e3_c)) (s3_ret (e3_tup (a3_cons e3_c (a3_cons e3_c a3_nil)))) s3_next)
      (s3_seq (s3_set (e3_call0 (a3_cons e3_var (a3_cons e3_var a3_nil)) defs_nil) g3_name)
      (s3_seq (s3_if (t3_test (e3_op O3_eq e3_var e3_c)) (s3_ret (e3_tup (a3_cons e3_c (a3_cons e3_var a3_nil)))) s3_next)
      (s3_seq (s3_if (t3_test (e3_op O3_eq e3_var e3_c)) (s3_ret (e3_tup (a3_cons e3_var (a3_cons e3_c a3_nil)))) s3_next)
      (s3_seq (s3_if (t3_test (e3_op O3_eq e3_var e3_c)) (s3_ret (e3_tup (a3_cons e3_var (a3_cons e3_var a3_nil)))) s3_next)
      (s3_seq (s3_set (e3_call0 (a3_cons e3_var (a3_cons e3_var a3_nil)) defs_nil) g3_name)
      (s3_ret (e3_tup (a3_cons (e3_cb C3_minT (a3_cons e3_var (a3_cons e3_var a3_nil))) (a3_cons (e3_cb C3_maxT (a3_cons e3_var (a3_cons e3_var a3_nil))) a3_nil)))))))))))) (fun ds Q3 X3 hn hp => ?_)
  obtain ⟨ns, rfl, h1, h2, h3, q⟩ := hp
  walk_at "g3"
  refine k_take (by decide) (by decide) fun r r0 r1 => ?_
  walk_at "g3"
  refine k_dec (fun e => ?_) (fun e => ?_)
  · walk_at "g3"
    exact q none none (span_ok (fun i z => nomatch z) (fun i z => nomatch z) fun i j z => nomatch z)
  walk_at "g3"
  refine ⟨ns, rfl, h1, h2, h3, fun i hi => ?_⟩
  walk_at "g3"
  refine k_dec (fun e => ?_) (fun e => ?_)
  · walk_at "g3"
    exact q none (some i) (span_ok (fun i z => nomatch z) (fun j z => by cases z; exact hi) fun i j z => nomatch z)
  walk_at "g3"
  refine k_dec (fun e => ?_) (fun e => ?_)
  · walk_at "g3"
    exact q (some i) none (span_ok (fun j z => by cases z; exact hi) (fun i z => nomatch z) fun i j _ z => nomatch z)
  walk_at "g3"
  refine k_dec (fun e => ?_) (fun e => ?_)
  · walk_at "g3"
    exact q (some i) (some i) (span_ok (fun j z => by cases z; exact hi) (fun j z => by cases z; exact hi) fun a b z z' => by cases z; cases z'; exact Int.le_refl _)
  walk_at "g3"
  refine ⟨ns, rfl, h1, h2, h3, fun j hj => ?_⟩
  walk_at "g3"
  refine k_minTI ?_
  walk_at "g3"
  refine k_maxTI ?_
  walk_at "g3"
  refine q (some (if j < i then j else i)) (some (if j > i then j else i)) (span_ok (fun k z => ?_) (fun k z => ?_) fun a b z z' => ?_)
  · cases z; split <;> assumption
  · cases z; split <;> assumption
  · cases z; cases z'; split <;> split <;> omega
abbrev N__law_unused : List Str := ["_law_used", "_law_k"]
theorem sc__law_unused : FnScope N__law_unused ["_law_used"] (defScope s__law_unused) := ⟨rfl, rfl, rfl, by decide +kernel, rfl, by decide +kernel, by decide +kernel⟩
set_option maxHeartbeats 4000000 in
theorem D_law_unused  (T : Txt K mg) (B : TxtB K mg base) : Def P w K mg base CX0 (1) "_law_unused" s__law_unused ["_law_used"] (Lift3 K (TT K) 1 qUnused) := by
  obtain ⟨f, fd, m, F⟩ := T.f__law_unused.ex
  refine ⟨f, fd, m, F.kp, F.bindsN (ps := ["_law_used"]) (fun _ _ _ _ _ _ us hl => match us, hl with | [_], _ => rfl), ?_, F⟩
  refine F.ok (CX := CX0) sc__law_unused lift_len (fun cdv A outer s H vs Q E hr h => ?_)
  refine ⟨_, PSs.nox (pss_cons (ps_for PassesOwn.never rfl (pi_range1 (by rfl) T.b_range (pa_cons (pe_op (op_addU : OpR _ (binaryOp .Add) (rAddU K)) (pe_callB (call_lenU : CallR _ (.builtin "len") (rLenU K)) (by rfl) T.b_len (by decide +kernel) (pa_cons (pv 0) pa_nil)) pe_int) pa_nil)) (pg_name (i := 1) sc__law_unused.nd rfl (Or.inl rfl)) (pss_one (ps_if (pt_cmpR (op_niU : OpR _ (compareOp .NotIn) (rNiU K)) (pe_op (op_addU : OpR _ (binaryOp .Add) (rAddU K)) pe_str (pe_callTy (call_strI : CallR _ (.type "str") rStrI) (by rfl) T.b_str (by decide +kernel) (pa_cons (pv 1) pa_nil))) (pv 0) (by rfl)) (pss_one (ps_ret (pe_op (op_addU : OpR _ (binaryOp .Add) (rAddU K)) pe_str (pe_callTy (call_strI : CallR _ (.type "str") rStrI) (by rfl) T.b_str (by decide +kernel) (pa_cons (pv 1) pa_nil))))) pss_nil)))
      (pss_one (ps_ret pe_str))), ?_⟩
  refine enter3 (m := 1) h rfl (fun M3 c3 A3 H3 => (s3_seq (s3_for (i3_r1 (a3_cons (e3_op O3_add (e3_cb C3_len (a3_cons e3_var a3_nil)) e3_c) a3_nil)) g3_name (s3_if (t3_test (e3_op O3_ni (e3_op O3_add e3_c (e3_cb C3_str (a3_cons e3_var a3_nil))) e3_var)) (s3_ret (e3_op O3_add e3_c (e3_cb C3_str (a3_cons e3_var a3_nil)))) s3_next))
      (s3_ret e3_c))) (fun ds Q3 X3 hn hp => ?_)
  obtain ⟨xs, rfl, hl, q⟩ := hp
  have lx : (Str.ofString "x").length = 1 := by decide +kernel
  walk_at "g3"
  rw [List.length_map, show ((xs.length : Int) + 1) = ((xs.length + 1 : Nat) : Int) from by omega]
  refine k_r1 (by omega) ?_
  rw [rg_toNat]
  refine for3_inv (fun k : Nat => D.int (k : Int)) (fun pre S => ∃ o, S = [some (.d (.lst (xs.map D.str))), o] ∧ ∀ j ∈ pre, numT "x" j ∈ xs) (List.range (xs.length + 1)) _ [] _ rfl ⟨none, rfl, fun _ z => absurd z (by simp)⟩ (fun pre k post S nx e hI h => ?_) (fun S hI => ?_)
  · obtain ⟨o, rfl, hI⟩ := hI
    have hk := (range_at e).2
    have hlen := numT_len (s := "x") (n := k) (by omega)
    have hlen2 : (Str.ofString "x" ++ Str.ofString (toString (k : Int))).length ≤ 1 + 9 := by rw [← lx]; exact hlen
    rw [length_append] at hlen2
    walk_at "g3"
    refine k_niSL ?_
    walk_at "g3"
    refine k_ndec (fun z => ?_) (fun z => ?_)
    · walk_at "g3"
      exact q _ (x_names k (by omega)) z
    · walk_at "g3"
      refine h _ ⟨_, rfl, fun j hj => ?_⟩
      rcases List.mem_append.mp hj with hj | hj
      · exact hI j hj
      · rw [List.mem_singleton.mp hj]; exact z
  · obtain ⟨o, rfl, hI⟩ := hI
    have := free_le (s := "x") (xs := xs) (n := xs.length + 1) fun j hj => hI j (List.mem_range.mpr hj)
    omega
abbrev N__law_fresh_names : List Str := ["_law_store_here", "_law_many", "_law_used", "_law_names_here", "_law_k", "_law_name_here"]
theorem sc__law_fresh_names : FnScope N__law_fresh_names ["_law_store_here", "_law_many", "_law_used"] (defScope s__law_fresh_names) := ⟨rfl, rfl, rfl, by decide +kernel, rfl, by decide +kernel, by decide +kernel⟩
set_option maxHeartbeats 4000000 in
theorem D_law_fresh_names  (T : Txt K mg) (B : TxtB K mg base) : Def P w K mg base CX0 (4) "_law_fresh_names" s__law_fresh_names ["_law_store_here", "_law_many", "_law_used"] (Lift3 K (TT K) 3 qFresh) := by
  obtain ⟨f, fd, m, F⟩ := T.f__law_fresh_names.ex
  refine ⟨f, fd, m, F.kp, F.bindsN (ps := ["_law_store_here", "_law_many", "_law_used"]) (fun _ _ _ _ _ _ us hl => match us, hl with | [_, _, _], _ => rfl), ?_, F⟩
  obtain ⟨f_law_name, fd_law_name, m_law_name, kp_law_name, b_law_name, G_law_name, F_law_name⟩ := (D_law_name_3 (P := P) (w := w) (base := base) T B).ex
  obtain ⟨f_law_unused, fd_law_unused, m_law_unused, kp_law_unused, b_law_unused, G_law_unused, F_law_unused⟩ := (D_law_unused (P := P) (w := w) (base := base) T B).ex
  refine F.ok (CX := CX0) sc__law_fresh_names lift_len (fun cdv A outer s H vs Q E hr h => ?_)
  refine ⟨_, PSs.nox (pss_cons (ps_set (i := 3) sc__law_fresh_names.nd rfl (Or.inl rfl) (pe_lst pa_nil))
      (pss_cons (ps_for PassesOwn.never rfl (pi_range1 (by rfl) T.b_range (pa_cons (pv 1) pa_nil)) (pg_name (i := 4) sc__law_fresh_names.nd rfl (Or.inl rfl)) (pss_cons (ps_set (i := 5) sc__law_fresh_names.nd rfl (Or.inl rfl) (pe_call G_law_name (hr.mono (by first | decide | omega)) (by rfl) m_law_name kp_law_name b_law_name .nil pass0 (pa_cons (pv 0) pa_nil)))
      (pss_cons (ps_if (PW.pt (pw_or (pt_cmpR (op_inU : OpR _ (compareOp .In) (rInU K)) (pv 5) (pv 2) (by rfl)) (pw_or1 (pt_cmpR (op_inU : OpR _ (compareOp .In) (rInU K)) (pv 5) (pv 3) (by rfl))))) (pss_one (ps_set (i := 5) sc__law_fresh_names.nd rfl (Or.inl rfl) (pe_call G_law_unused (hr.mono (by first | decide | omega)) (by rfl) m_law_unused kp_law_unused b_law_unused .nil pass0 (pa_cons (pe_op (op_addU : OpR _ (binaryOp .Add) (rAddU K)) (pe_callTy (call_list0 : CallR _ (.type "list") (rList0 K)) (by rfl) T.b_list (by decide +kernel) (pa_cons (pv 2) pa_nil)) (pv 3)) pa_nil)))) pss_nil)
      (pss_one (ps_expr (pe_bm PySem.F.plainAttrs_list PySem.F.slot_list_append PySem.F.type_list_append mt_append (pv 3) (pa_cons (pv 5) pa_nil)))))))
      (pss_one (ps_ret (pv 3))))), ?_⟩
  refine enter3 (m := 3) h rfl (fun M3 c3 A3 H3 => (s3_seq (s3_own (f3_lst a3_nil))
      (s3_seq (s3_for (i3_r1 (a3_cons e3_var a3_nil)) g3_name (s3_seq (s3_set (e3_call0 (a3_cons e3_var a3_nil) defs_nil) g3_name)
      (s3_seq (s3_if (t3_or (t3_test (e3_op O3_in e3_var e3_var)) (t3_test (e3_op O3_in e3_var e3_var))) (s3_set (e3_call0 (a3_cons (e3_op O3_add (e3_fresh (f3_cb FC3_list (a3_cons e3_var a3_nil))) e3_var) a3_nil) defs_nil) g3_name) s3_next)
      (s3_app e3_var))))
      (s3_ret e3_var)))) (fun ds Q3 X3 hn hp => ?_)
  obtain ⟨n, us, rfl, hn, hu, q⟩ := hp
  walk_at "g3"
  rw [rg_toNat]
  refine for3_inv (fun k : Nat => D.int (k : Int)) (fun pre S => ∃ (ys : List Str) (o1 o2 : Option W), S = [some (.d .store), some (.d (.int n)), some (.d (.lst (us.map D.str))), some (.ol (ys.map D.str)), o1, o2] ∧ ys.length = pre.length ∧ ys.Nodup ∧ ∀ x ∈ ys, isNm x = true ∧ ¬ x ∈ us) (List.range n) _ [] _ rfl
    ⟨[], none, none, rfl, rfl, List.nodup_nil, fun _ z => absurd z (by simp)⟩ (fun pre k post S nx e hI h => ?_) (fun S hI => ?_)
  · obtain ⟨ys, o1, o2, rfl, hl, nd, hy⟩ := hI
    have hk := (range_at e).2
    have hk2 := (range_at e).1
    walk_at "g3"
    refine ⟨rfl, fun x hx _ _ => ?_⟩
    have fin : ∀ z, isNm z = true → ¬ z ∈ us → ¬ z ∈ ys → nx [some (.d .store), some (.d (.int n)), some (.d (.lst (us.map D.str))), some (.ol (ys.map D.str ++ [.str z])), some (.d (.int k)), some (.d (.str z))] := fun z h1 h2 h3 =>
      h _ ⟨ys ++ [z], _, _, by rw [List.map_append]; rfl, by rw [List.length_append, List.length_append, hl]; rfl, List.nodup_append.mpr ⟨nd, List.pairwise_singleton _ z, fun a ha b hb w => h3 (by rw [List.mem_singleton.mp hb] at w; rw [← w]; exact ha)⟩, fun y hy' => by
        rcases List.mem_append.mp hy' with w | w
        · exact hy y w
        · rw [List.mem_singleton.mp w]; exact ⟨h1, h2⟩⟩
    walk_at "g3"
    refine k_inSL ?_
    walk_at "g3"
    refine k_dec (fun z1 => ?_) (fun z1 => ?_)
    · walk_at "g3"
      refine k_addLO (xs := us.map D.str) (by rw [List.length_map, List.length_map]; omega) ?_
      walk_at "g3"
      refine ⟨us ++ ys, by rw [List.map_append], by rw [List.length_append]; omega, fun z h1 h2 => ?_⟩
      walk_at "g3"
      exact ⟨by rw [List.length_map]; omega, fin z h1 (fun w => h2 (List.mem_append_left _ w)) (fun w => h2 (List.mem_append_right _ w))⟩
    walk_at "g3"
    refine k_inSO ?_
    walk_at "g3"
    refine k_dec (fun z2 => ?_) (fun z2 => ?_)
    · walk_at "g3"
      refine k_addLO (xs := us.map D.str) (by rw [List.length_map, List.length_map]; omega) ?_
      walk_at "g3"
      refine ⟨us ++ ys, by rw [List.map_append], by rw [List.length_append]; omega, fun z h1 h2 => ?_⟩
      walk_at "g3"
      exact ⟨by rw [List.length_map]; omega, fin z h1 (fun w => h2 (List.mem_append_left _ w)) (fun w => h2 (List.mem_append_right _ w))⟩
    · walk_at "g3"
      exact ⟨by rw [List.length_map]; omega, fin x hx z1 z2⟩
  · obtain ⟨ys, o1, o2, rfl, hl, nd, hy⟩ := hI
    walk_at "g3"
    rw [List.length_range] at hl
    exact q ys hl nd hy
abbrev N__law_names : List Str := ["_law_store_here", "_law_many", "_law_letters", "_law_family", "_law_start", "_law_stem", "_law_at", "_law_names_here", "_law_k", "_law_name_here"]
theorem sc__law_names : FnScope N__law_names ["_law_store_here", "_law_many"] (defScope s__law_names) := ⟨rfl, rfl, rfl, by decide +kernel, rfl, by decide +kernel, by decide +kernel⟩
set_option maxHeartbeats 4000000 in
theorem D_law_names  (T : Txt K mg) (B : TxtB K mg base) : Def P w K mg base CX0 (5) "_law_names" s__law_names ["_law_store_here", "_law_many"] (Lift3 K (TT K) 2 qNames) := by
  obtain ⟨f, fd, m, F⟩ := T.f__law_names.ex
  refine ⟨f, fd, m, F.kp, F.bindsN (ps := ["_law_store_here", "_law_many"]) (fun _ _ _ _ _ _ us hl => match us, hl with | [_, _], _ => rfl), ?_, F⟩
  obtain ⟨f_law_fresh_names, fd_law_fresh_names, m_law_fresh_names, kp_law_fresh_names, b_law_fresh_names, G_law_fresh_names, F_law_fresh_names⟩ := (D_law_fresh_names (P := P) (w := w) (base := base) T B).ex
  obtain ⟨f_law_name, fd_law_name, m_law_name, kp_law_name, b_law_name, G_law_name, F_law_name⟩ := (D_law_name_3 (P := P) (w := w) (base := base) T B).ex
  obtain ⟨f_law_shuffled, fd_law_shuffled, m_law_shuffled, kp_law_shuffled, b_law_shuffled, G_law_shuffled, F_law_shuffled⟩ := (D_law_shuffled_3 (P := P) (w := w) (base := base) T B).ex
  obtain ⟨f_law_take, fd_law_take, m_law_take, kp_law_take, b_law_take, G_law_take, F_law_take⟩ := (D_law_take_3 (P := P) (w := w) (base := base) T B).ex
  refine F.ok (CX := CX0) sc__law_names lift_len (fun cdv A outer s H vs Q E hr h => ?_)
  refine ⟨_, PSs.nox (pss_cons (ps_set (i := 2) sc__law_names.nd rfl (Or.inl rfl) pe_str)
      (pss_cons (ps_set (i := 3) sc__law_names.nd rfl (Or.inl rfl) (pe_call G_law_take (hr.mono (by first | decide | omega)) (by rfl) m_law_take kp_law_take b_law_take .nil pass0 (pa_cons (pv 0) (pa_cons pe_int pa_nil))))
      (pss_cons (ps_set (i := 4) sc__law_names.nd rfl (Or.inl rfl) (pe_call G_law_take (hr.mono (by first | decide | omega)) (by rfl) m_law_take kp_law_take b_law_take .nil pass0 (pa_cons (pv 0) (pa_cons pe_int pa_nil))))
      (pss_cons (ps_if (pt_cmpR (op_eqP hr.units : OpR _ (compareOp .Eq) (rEqP K)) (pv 3) pe_int (nomark _)) (pss_one (ps_ret (pe_call G_law_fresh_names (hr.mono (by first | decide | omega)) (by rfl) m_law_fresh_names kp_law_fresh_names b_law_fresh_names .nil pass0 (pa_cons (pv 0) (pa_cons (pv 1) (pa_cons (pe_lst pa_nil) pa_nil)))))) pss_nil)
      (pss_cons (ps_set (i := 5) sc__law_names.nd rfl (Or.inl rfl) (pe_call G_law_name (hr.mono (by first | decide | omega)) (by rfl) m_law_name kp_law_name b_law_name .nil pass0 (pa_cons (pv 0) pa_nil)))
      (pss_cons (ps_set (i := 6) sc__law_names.nd rfl (Or.inl rfl) (pe_call G_law_take (hr.mono (by first | decide | omega)) (by rfl) m_law_take kp_law_take b_law_take .nil pass0 (pa_cons (pv 0) (pa_cons (pe_callB (call_lenU : CallR _ (.builtin "len") (rLenU K)) (by rfl) T.b_len (by decide +kernel) (pa_cons (pv 5) pa_nil)) pa_nil))))
      (pss_cons (ps_set (i := 7) sc__law_names.nd rfl (Or.inl rfl) (pe_lst pa_nil))
      (pss_cons (ps_for PassesOwn.never rfl (pi_range1 (by rfl) T.b_range (pa_cons (pv 1) pa_nil)) (pg_name (i := 8) sc__law_names.nd rfl (Or.inl rfl)) (pss_cons (ps_set (i := 9) sc__law_names.nd rfl (Or.inl rfl) (pe_ix (ix_U : IxR _ (rIx K)) (pv 2) (pe_op op_mod0 (pe_callTy call_int0 (by rfl) T.b_int (by decide +kernel) (pa_cons (pe_op (op_addU : OpR _ (binaryOp .Add) (rAddU K)) (pv 4) (pv 8)) pa_nil)) pe_int) (fun _ _ => rfl)))
      (pss_cons (ps_if (pt_cmpR (op_eqP hr.units : OpR _ (compareOp .Eq) (rEqP K)) (pv 3) pe_int (nomark _)) (pss_one (ps_set (i := 9) sc__law_names.nd rfl (Or.inl rfl) (pe_op (op_addU : OpR _ (binaryOp .Add) (rAddU K)) (pe_op (op_addU : OpR _ (binaryOp .Add) (rAddU K)) (pe_slice sl_str (pv 5) po_none (po_some (pv 6))) (pv 9)) (pe_slice sl_str (pv 5) (po_some (pe_op (op_addU : OpR _ (binaryOp .Add) (rAddU K)) (pv 6) pe_int)) po_none)))) pss_nil)
      (pss_cons (ps_if (pt_cmpR (op_eqP hr.units : OpR _ (compareOp .Eq) (rEqP K)) (pv 3) pe_int (nomark _)) (pss_one (ps_set (i := 9) sc__law_names.nd rfl (Or.inl rfl) (pe_op (op_addU : OpR _ (binaryOp .Add) (rAddU K)) (pe_slice sl_str (pv 5) po_none (po_some pe_int)) (pe_callTy (call_strI : CallR _ (.type "str") rStrI) (by rfl) T.b_str (by decide +kernel) (pa_cons (pe_op (op_addU : OpR _ (binaryOp .Add) (rAddU K)) (pe_op (op_addU : OpR _ (binaryOp .Add) (rAddU K)) (pe_op op_mod0 (pe_callTy call_int0 (by rfl) T.b_int (by decide +kernel) (pa_cons (pv 4) pa_nil)) pe_int) pe_int) (pe_op (op_mulU : OpR _ (binaryOp .Mult) rMulU) (pv 8) (pe_op (op_addU : OpR _ (binaryOp .Add) (rAddU K)) pe_int (pe_op op_mod0 (pe_callTy call_int0 (by rfl) T.b_int (by decide +kernel) (pa_cons (pv 4) pa_nil)) pe_int)))) pa_nil))))) pss_nil)
      (pss_cons (ps_if (pt_cmpR (op_eqP hr.units : OpR _ (compareOp .Eq) (rEqP K)) (pv 3) pe_int (nomark _)) (pss_one (ps_set (i := 9) sc__law_names.nd rfl (Or.inl rfl) (pe_op (op_mulU : OpR _ (binaryOp .Mult) rMulU) (pe_ix (ix_U : IxR _ (rIx K)) (pv 2) (pe_op op_mod0 (pe_callTy call_int0 (by rfl) T.b_int (by decide +kernel) (pa_cons (pe_op (op_addU : OpR _ (binaryOp .Add) (rAddU K)) (pv 4) (pe_op op_div0 (pv 8) pe_int)) pa_nil)) pe_int) (fun _ _ => rfl)) (pe_op (op_addU : OpR _ (binaryOp .Add) (rAddU K)) pe_int (pe_op op_mod0 (pe_callTy call_int0 (by rfl) T.b_int (by decide +kernel) (pa_cons (pv 8) pa_nil)) pe_int))))) pss_nil)
      (pss_one (ps_expr (pe_bm PySem.F.plainAttrs_list PySem.F.slot_list_append PySem.F.type_list_append mt_append (pv 7) (pa_cons (pv 9) pa_nil)))))))))
      (pss_one (ps_ret (pe_call G_law_shuffled (hr.mono (by first | decide | omega)) (by rfl) m_law_shuffled kp_law_shuffled b_law_shuffled .nil pass0 (pa_cons (pv 0) (pa_cons (pv 7) pa_nil))))))))))))), ?_⟩
  refine enter3 (m := 8) h rfl (fun M3 c3 A3 H3 => (s3_seq (s3_set e3_c g3_name)
      (s3_seq (s3_set (e3_call0 (a3_cons e3_var (a3_cons e3_c a3_nil)) defs_nil) g3_name)
      (s3_seq (s3_set (e3_call0 (a3_cons e3_var (a3_cons e3_c a3_nil)) defs_nil) g3_name)
      (s3_seq (s3_if (t3_test (e3_op O3_eq e3_var e3_c)) (s3_ret (e3_call0 (a3_cons e3_var (a3_cons e3_var (a3_cons (e3_fresh (f3_lst a3_nil)) a3_nil))) defs_nil)) s3_next)
      (s3_seq (s3_set (e3_call0 (a3_cons e3_var a3_nil) defs_nil) g3_name)
      (s3_seq (s3_set (e3_call0 (a3_cons e3_var (a3_cons (e3_cb C3_len (a3_cons e3_var a3_nil)) a3_nil)) defs_nil) g3_name)
      (s3_seq (s3_own (f3_lst a3_nil))
      (s3_seq (s3_for (i3_r1 (a3_cons e3_var a3_nil)) g3_name (s3_seq (s3_set (e3_op O3_ix e3_var (e3_op O3_mod (e3_cb C3_int (a3_cons (e3_op O3_add e3_var e3_var) a3_nil)) e3_c)) g3_name)
      (s3_seq (s3_if (t3_test (e3_op O3_eq e3_var e3_c)) (s3_set (e3_op O3_add (e3_op O3_add (e3_sl SLO_S e3_var p3_none (p3_part e3_var)) e3_var) (e3_sl SLO_S e3_var (p3_part (e3_op O3_add e3_var e3_c)) p3_none)) g3_name) s3_next)
      (s3_seq (s3_if (t3_test (e3_op O3_eq e3_var e3_c)) (s3_set (e3_op O3_add (e3_sl SLO_S e3_var p3_none (p3_part e3_c)) (e3_cb C3_str (a3_cons (e3_op O3_add (e3_op O3_add (e3_op O3_mod (e3_cb C3_int (a3_cons e3_var a3_nil)) e3_c) e3_c) (e3_op O3_mulU e3_var (e3_op O3_add e3_c (e3_op O3_mod (e3_cb C3_int (a3_cons e3_var a3_nil)) e3_c)))) a3_nil))) g3_name) s3_next)
      (s3_seq (s3_if (t3_test (e3_op O3_eq e3_var e3_c)) (s3_set (e3_op O3_mulU (e3_op O3_ix e3_var (e3_op O3_mod (e3_cb C3_int (a3_cons (e3_op O3_add e3_var (e3_op O3_div e3_var e3_c)) a3_nil)) e3_c)) (e3_op O3_add e3_c (e3_op O3_mod (e3_cb C3_int (a3_cons e3_var a3_nil)) e3_c))) g3_name) s3_next)
      (s3_app e3_var))))))
      (s3_frz (i := 7) (s3_ret (e3_call0 (a3_cons e3_var (a3_cons e3_var a3_nil)) defs_nil)))))))))))) (fun ds Q3 X3 hn hp => ?_)
  obtain ⟨n, rfl, hn, q⟩ := hp
  have lL : letS.length = 26 := by decide +kernel
  walk_at "g3"
  refine k_take (by decide) (by decide) fun fam fam0 fam1 => ?_
  walk_at "g3"
  refine k_take (by decide) (by decide) fun st0 s0 s1 => ?_
  walk_at "g3"
  refine k_dec (fun e => ?_) (fun e => ?_)
  · walk_at "g3"
    refine ⟨n, [], rfl, by omega, Nat.zero_le _, fun xs h1 h2 h3 => ?_⟩
    walk_at "g3"
    exact q xs h1 h2 fun x hx => (h3 x hx).1
  walk_at "g3"
  refine ⟨rfl, fun stem hs hl1 hl2 => ?_⟩
  walk_at "g3"
  refine k_take (by omega) (by omega) fun at_ a0 a1 => ?_
  walk_at "g3"
  rw [rg_toNat]
  refine for3_inv (fun k : Nat => D.int (k : Int)) (fun pre S => ∃ o1 o2, S = [some (.d .store), some (.d (.int n)), some (.d (.str (Str.ofString "abcdefghijklmnopqrstuvwxyz"))), some (.d (.int fam)), some (.d (.int st0)), some (.d (.str stem)), some (.d (.int at_)), some (.ol ((pre.map (nmF fam st0 stem at_)).map D.str)), o1, o2]) (List.range n) _ [] _ rfl ⟨none, none, rfl⟩ (fun pre k post S nx e hI h => ?_) (fun S hI => ?_)
  · obtain ⟨o1, o2, rfl⟩ := hI
    obtain ⟨hk1, hk⟩ := range_at e
    have fin : ∀ z, z = nmF fam st0 stem at_ k → nx [some (.d .store), some (.d (.int n)), some (.d (.str (Str.ofString "abcdefghijklmnopqrstuvwxyz"))), some (.d (.int fam)), some (.d (.int st0)), some (.d (.str stem)), some (.d (.int at_)), some (.ol ((pre.map (nmF fam st0 stem at_)).map D.str ++ [.str z])), some (.d (.int k)), some (.d (.str z))] := fun z hz => by
      subst hz
      exact h _ ⟨_, _, by rw [List.map_append, List.map_append]; rfl⟩
    have hc1 := cutS_length stem none (some at_)
    have hc2 := cutS_length stem (some (at_ + 1)) none
    have hc3 := cutS_length stem none (some 2)
    obtain ⟨m2, hm2, em2⟩ := num2 (start := st0) (k := k) s0 (by omega)
    walk_at "g3"
    refine k_ixS (s := letS) (by decide +kernel) (at_let (by omega) (by omega)) ?_
    walk_at "g3"
    by_cases f1 : fam = 1
    · subst f1
      refine k_dec (fun _ => ?_) (fun z => absurd rfl z)
      walk_at "g3"
      refine k_dec (fun z => absurd z (by decide)) (fun _ => ?_)
      walk_at "g3"
      refine k_dec (fun z => absurd z (by decide)) (fun _ => ?_)
      walk_at "g3"
      exact ⟨by rw [List.length_map, List.length_map]; omega, fin _ (by unfold nmF; rfl)⟩
    by_cases f2 : fam = 2
    · subst f2
      refine k_dec (fun z => absurd z (by decide)) (fun _ => ?_)
      walk_at "g3"
      refine k_dec (fun _ => ?_) (fun z => absurd rfl z)
      walk_at "g3"
      rw [em2]
      have hd := (dig_ok m2 hm2).1
      rw [str_len] at hd
      refine k_addS (by omega) ?_
      walk_at "g3"
      refine k_dec (fun z => absurd z (by decide)) (fun _ => ?_)
      walk_at "g3"
      exact ⟨by rw [List.length_map, List.length_map]; omega, fin _ (by unfold nmF; rw [if_neg (by decide), if_pos rfl, em2])⟩
    by_cases f4 : fam = 4
    · subst f4
      refine k_dec (fun z => absurd z (by decide)) (fun _ => ?_)
      walk_at "g3"
      refine k_dec (fun z => absurd z (by decide)) (fun _ => ?_)
      walk_at "g3"
      refine k_dec (fun _ => ?_) (fun z => absurd rfl z)
      walk_at "g3"
      refine k_ixS (s := letS) (by decide +kernel) (at_let (by omega) (by omega)) ?_
      walk_at "g3"
      refine k_mulS (by omega) (by omega) (by show 1 ≤ 1000; decide) ?_
      walk_at "g3"
      exact ⟨by rw [List.length_map, List.length_map]; omega, fin _ (by unfold nmF; rw [if_pos rfl]; rfl)⟩
    · refine k_dec (fun z => absurd z f1) (fun _ => ?_)
      walk_at "g3"
      refine k_dec (fun z => absurd z f2) (fun _ => ?_)
      walk_at "g3"
      refine k_dec (fun z => absurd z f4) (fun _ => ?_)
      walk_at "g3"
      exact ⟨by rw [List.length_map, List.length_map]; omega, fin _ (by unfold nmF; rw [if_neg f4, if_neg f2, if_neg f1]; rfl)⟩
  · obtain ⟨o1, o2, rfl⟩ := hI
    walk_at "g3"
    refine ⟨_, rfl, by rw [List.length_map, List.length_map, List.length_range]; omega, fun ys hy => ?_⟩
    walk_at "g3"
    obtain ⟨zs, hz, rfl⟩ := perm_str hy
    refine q zs (by rw [hz.length_eq, List.length_map, List.length_range]) (hz.nodup_iff.mpr (nmF_nodup s0 hs a0 (by omega))) fun x hx => ?_
    obtain ⟨k, hk, rfl⟩ := List.mem_map.mp (hz.mem_iff.mp hx)
    exact nmF_ok s0 hs a0 a1 (by have := List.mem_range.mp hk; omega)
end
end Q
namespace Q
open PySem PySem.Spec PyProof.Rows L2
section
variable {P : Program} {w : World} {K : PySem.W.Frag} {mg : Str → Option Value} {base : Heap}
abbrev N__law_kept_rows : List Str := ["_law_plan", "_law_edges_here", "_law_edge"]
theorem sc__law_kept_rows : FnScope N__law_kept_rows ["_law_plan"] (defScope s__law_kept_rows) := ⟨rfl, rfl, rfl, by decide +kernel, rfl, by decide +kernel, by decide +kernel⟩
set_option maxHeartbeats 4000000 in
theorem D_law_kept_rows  (T : Txt K mg) (B : TxtB K mg base) : Def P w K mg base CX0 (1) "_law_kept_rows" s__law_kept_rows ["_law_plan"] (Lift3 K (TT K) 1 qKeptRows) := by
  obtain ⟨f, fd, m, F⟩ := T.f__law_kept_rows.ex
  refine ⟨f, fd, m, F.kp, F.bindsN (ps := ["_law_plan"]) (fun _ _ _ _ _ _ us hl => match us, hl with | [_], _ => rfl), ?_, F⟩
  refine F.ok (CX := CX0) sc__law_kept_rows lift_len (fun cdv A outer s H vs Q E hr h => ?_)
  refine ⟨_, PSs.nox (pss_cons (ps_setLc (i := 1) (own := [("_law_edge", 2)]) (g := gName 2) (tt := tYes) rfl sc__law_kept_rows.nd rfl rfl (sw_true rfl rfl rfl (by decide +kernel)) (pi_seq (pe_ix (ix_U : IxR _ (rIx K)) (pv 0) pe_int (fun _ _ => rfl))) (blkOk_by (own := [("_law_edge", 2)]) (N := N__law_kept_rows) (sc := defScope s__law_kept_rows) (by decide +kernel)) (fun _ _ _ _ _ => (pg_name (i := 2) sc__law_kept_rows.nd rfl (Or.inl rfl))) (fun _ _ _ _ _ => pts_nil) (fun _ _ _ _ _ => (pe_tup (pa_cons (pe_ix (ix_U : IxR _ (rIx K)) (pv 2) pe_int (fun _ _ => rfl)) (pa_cons (pe_callB ((call_minT rfl) : CallR _ (.builtin "min") rMinT) (by rfl) T.b_min (by decide +kernel) (pa_cons (pe_ix (ix_U : IxR _ (rIx K)) (pv 2) pe_int (fun _ _ => rfl)) (pa_cons (pe_ix (ix_U : IxR _ (rIx K)) (pv 2) pe_int (fun _ _ => rfl)) pa_nil))) (pa_cons (pe_callB ((call_maxT rfl) : CallR _ (.builtin "max") rMaxT) (by rfl) T.b_max (by decide +kernel) (pa_cons (pe_ix (ix_U : IxR _ (rIx K)) (pv 2) pe_int (fun _ _ => rfl)) (pa_cons (pe_ix (ix_U : IxR _ (rIx K)) (pv 2) pe_int (fun _ _ => rfl)) pa_nil))) (pa_cons (pe_ix (ix_U : IxR _ (rIx K)) (pv 2) pe_int (fun _ _ => rfl)) (pa_cons (pe_ix (ix_U : IxR _ (rIx K)) (pv 2) pe_int (fun _ _ => rfl)) pa_nil))))))))
      (pss_one (ps_ret (pe_lst (pa_cons (pe_callB (cr_sortedA : CallR _ (.builtin "sorted") (rSortedA K)) (by rfl) T.b_sorted (by decide +kernel) (pa_cons (pe_ix (ix_U : IxR _ (rIx K)) (pv 0) pe_int (fun _ _ => rfl)) pa_nil)) (pa_cons (pe_callB (cr_sortedA : CallR _ (.builtin "sorted") (rSortedA K)) (by rfl) T.b_sorted (by decide +kernel) (pa_cons (pv 1) pa_nil)) pa_nil)))))), ?_⟩
  refine enter3 (m := 2) h rfl (fun M3 c3 A3 H3 => (s3_seq (s3_set (e3_fresh (f3_lc (i3_seq (e3_op O3_ix e3_var e3_c)) g3_name (gin_name (by decide)) t3_yes (e3_tup (a3_cons (e3_op O3_ix e3_var e3_c) (a3_cons (e3_cb C3_minT (a3_cons (e3_op O3_ix e3_var e3_c) (a3_cons (e3_op O3_ix e3_var e3_c) a3_nil))) (a3_cons (e3_cb C3_maxT (a3_cons (e3_op O3_ix e3_var e3_c) (a3_cons (e3_op O3_ix e3_var e3_c) a3_nil))) (a3_cons (e3_op O3_ix e3_var e3_c) (a3_cons (e3_op O3_ix e3_var e3_c) a3_nil)))))))) g3_name)
      (s3_retF (f3_lst (a3_cons (e3_fresh (f3_cb FC3_sortedA (a3_cons (e3_op O3_ix e3_var e3_c) a3_nil))) (a3_cons (e3_fresh (f3_cb FC3_sortedA (a3_cons e3_var a3_nil))) a3_nil)))))) (fun ds Q3 X3 hn hp => ?_)
  obtain ⟨ns, es, r, rfl, h1, h2, d1, d2, q⟩ := hp
  unfold planD
  walk_at "g3"
  refine k_ixL at_c1 ?_
  walk_at "g3"
  refine lc3_map bondD (fun b => bondD (ordT b)) es (fun b _ QD R h => ?_) (by omega) ?_
  · walk_at "g3"
    refine k_ixQ rfl rfl ?_
    walk_at "g3"
    refine k_ixQ rfl rfl ?_
    walk_at "g3"
    refine k_ixQ rfl rfl ?_
    walk_at "g3"
    refine k_minTS ?_
    walk_at "g3"
    refine k_ixQ rfl rfl ?_
    walk_at "g3"
    refine k_ixQ rfl rfl ?_
    walk_at "g3"
    refine k_maxTS ?_
    walk_at "g3"
    refine k_ixQ rfl rfl ?_
    walk_at "g3"
    refine k_ixQ rfl rfl ?_
    walk_at "g3"
    rw [ordT_row]
    exact h
  walk_at "g3"
  refine k_ixL at_c0 ?_
  walk_at "g3"
  refine k_sortT rfl (lamps_keyed ns) (by rw [keys_lamps]; exact nodup_some d1) ?_
  rw [sort_lamps]
  walk_at "g3"
  rw [show (es.map fun b => bondD (ordT b)) = (es.map ordT).map bondD from by rw [List.map_map]; rfl]
  refine k_sortT rfl (bonds_keyed _) (by rw [keys_bonds, ordT_names]; exact nodup_some d2) ?_
  rw [sort_bonds]
  walk_at "g3"
  exact q
abbrev N__law_edges : List Str := ["_law_store_here", "_law_posts", "_law_labels", "_law_pool", "_law_edges_here", "_law_chain", "_law_k", "_law_one", "_law_other", "_law_ends_here", "_law_kept", "_law_span"]
theorem sc__law_edges : FnScope N__law_edges ["_law_store_here", "_law_posts", "_law_labels", "_law_pool"] (defScope s__law_edges) := ⟨rfl, rfl, rfl, by decide +kernel, rfl, by decide +kernel, by decide +kernel⟩
set_option maxHeartbeats 4000000 in
theorem D_law_edges  (T : Txt K mg) (B : TxtB K mg base) : Def P w K mg base CX0 (6) "_law_edges" s__law_edges ["_law_store_here", "_law_posts", "_law_labels", "_law_pool"] (Lift3 K (TT K) 4 qEdgesW) := by
  obtain ⟨f, fd, m, F⟩ := T.f__law_edges.ex
  refine ⟨f, fd, m, F.kp, F.bindsN (ps := ["_law_store_here", "_law_posts", "_law_labels", "_law_pool"]) (fun _ _ _ _ _ _ us hl => match us, hl with | [_, _, _, _], _ => rfl), ?_, F⟩
  obtain ⟨f_law_ends, fd_law_ends, m_law_ends, kp_law_ends, b_law_ends, G_law_ends, F_law_ends⟩ := (D_law_ends (P := P) (w := w) (base := base) T B).ex
  obtain ⟨f_law_pick, fd_law_pick, m_law_pick, kp_law_pick, b_law_pick, G_law_pick, F_law_pick⟩ := (D_law_pick_3 (P := P) (w := w) (base := base) T B).ex
  obtain ⟨f_law_take, fd_law_take, m_law_take, kp_law_take, b_law_take, G_law_take, F_law_take⟩ := (D_law_take_3 (P := P) (w := w) (base := base) T B).ex
  refine F.ok (CX := CX0) sc__law_edges lift_len (fun cdv A outer s H vs Q E hr h => ?_)
  refine ⟨_, PSs.nox (pss_cons (ps_set (i := 4) sc__law_edges.nd rfl (Or.inl rfl) (pe_lst pa_nil))
      (pss_cons (ps_if (pt_cmpR op_ltU (pe_callB (call_lenU : CallR _ (.builtin "len") (rLenU K)) (by rfl) T.b_len (by decide +kernel) (pa_cons (pv 1) pa_nil)) pe_int (nomark _)) (pss_one (ps_ret (pv 4))) pss_nil)
      (pss_cons (ps_set (i := 5) sc__law_edges.nd rfl (Or.inl rfl) (pe_cmpR (op_eqP hr.units : OpR _ (compareOp .Eq) (rEqP K)) (pe_call G_law_take (hr.mono (by first | decide | omega)) (by rfl) m_law_take kp_law_take b_law_take .nil pass0 (pa_cons (pv 0) (pa_cons pe_int pa_nil))) pe_int (nomark _)))
      (pss_cons (ps_for PassesOwn.never rfl (pi_range1 (by rfl) T.b_range (pa_cons (pe_callB (call_lenU : CallR _ (.builtin "len") (rLenU K)) (by rfl) T.b_len (by decide +kernel) (pa_cons (pv 2) pa_nil)) pa_nil)) (pg_name (i := 6) sc__law_edges.nd rfl (Or.inl rfl)) (pss_cons (ps_set (i := 7) sc__law_edges.nd rfl (Or.inl rfl) (pe_call G_law_take (hr.mono (by first | decide | omega)) (by rfl) m_law_take kp_law_take b_law_take .nil pass0 (pa_cons (pv 0) (pa_cons (pe_callB (call_lenU : CallR _ (.builtin "len") (rLenU K)) (by rfl) T.b_len (by decide +kernel) (pa_cons (pv 1) pa_nil)) pa_nil))))
      (pss_cons (ps_set (i := 8) sc__law_edges.nd rfl (Or.inl rfl) (pe_op op_mod0 (pe_callTy call_int0 (by rfl) T.b_int (by decide +kernel) (pa_cons (pe_op (op_addU : OpR _ (binaryOp .Add) (rAddU K)) (pe_op (op_addU : OpR _ (binaryOp .Add) (rAddU K)) (pv 7) pe_int) (pe_call G_law_take (hr.mono (by first | decide | omega)) (by rfl) m_law_take kp_law_take b_law_take .nil pass0 (pa_cons (pv 0) (pa_cons (pe_op op_sub0 (pe_callB (call_lenU : CallR _ (.builtin "len") (rLenU K)) (by rfl) T.b_len (by decide +kernel) (pa_cons (pv 1) pa_nil)) pe_int) pa_nil)))) pa_nil)) (pe_callB (call_lenU : CallR _ (.builtin "len") (rLenU K)) (by rfl) T.b_len (by decide +kernel) (pa_cons (pv 1) pa_nil))))
      (pss_cons (ps_if (PW.pt (pw_and (pt_val (pv 5)) (pw_and1 (pt_cmpR op_ltU (pe_op (op_addU : OpR _ (binaryOp .Add) (rAddU K)) (pv 6) pe_int) (pe_callB (call_lenU : CallR _ (.builtin "len") (rLenU K)) (by rfl) T.b_len (by decide +kernel) (pa_cons (pv 1) pa_nil)) (nomark _))))) (pss_cons (ps_set (i := 7) sc__law_edges.nd rfl (Or.inl rfl) (pe_op (op_addU : OpR _ (binaryOp .Add) (rAddU K)) (pv 6) pe_int))
      (pss_one (ps_set (i := 8) sc__law_edges.nd rfl (Or.inl rfl) (pe_op op_mod0 (pe_callTy call_int0 (by rfl) T.b_int (by decide +kernel) (pa_cons (pv 8) pa_nil)) (pe_op (op_addU : OpR _ (binaryOp .Add) (rAddU K)) (pv 6) pe_int))))) pss_nil)
      (pss_cons (ps_set (i := 9) sc__law_edges.nd rfl (Or.inl rfl) (pe_lst (pa_cons (pe_ix (ix_U : IxR _ (rIx K)) (pv 1) (pv 7) (fun _ _ => rfl)) (pa_cons (pe_ix (ix_U : IxR _ (rIx K)) (pv 1) (pv 8) (fun _ _ => rfl)) pa_nil))))
      (pss_cons (ps_if (PW.pt (pw_and (pt_cmpR op_gtU (pv 6) pe_int (nomark _)) (pw_and1 (pt_cmpR (op_eqP hr.units : OpR _ (compareOp .Eq) (rEqP K)) (pe_call G_law_take (hr.mono (by first | decide | omega)) (by rfl) m_law_take kp_law_take b_law_take .nil pass0 (pa_cons (pv 0) (pa_cons pe_int pa_nil))) pe_int (nomark _))))) (pss_cons (ps_set (i := 10) sc__law_edges.nd rfl (Or.inl rfl) (pe_call G_law_pick (hr.mono (by first | decide | omega)) (by rfl) m_law_pick kp_law_pick b_law_pick .nil pass0 (pa_cons (pv 0) (pa_cons (pv 4) pa_nil))))
      (pss_one (ps_set (i := 9) sc__law_edges.nd rfl (Or.inl rfl) (pe_lst (pa_cons (pe_ix (ix_U : IxR _ (rIx K)) (pv 10) pe_int (fun _ _ => rfl)) (pa_cons (pe_ix (ix_U : IxR _ (rIx K)) (pv 10) pe_int (fun _ _ => rfl)) pa_nil)))))) pss_nil)
      (pss_cons (ps_set (i := 11) sc__law_edges.nd rfl (Or.inl rfl) (pe_call G_law_ends (hr.mono (by first | decide | omega)) (by rfl) m_law_ends kp_law_ends b_law_ends .nil pass0 (pa_cons (pv 0) (pa_cons (pv 3) pa_nil))))
      (pss_one (ps_expr (pe_bm PySem.F.plainAttrs_list PySem.F.slot_list_append PySem.F.type_list_append mt_append (pv 4) (pa_cons (pe_tup (pa_cons (pe_ix (ix_U : IxR _ (rIx K)) (pv 2) (pv 6) (fun _ _ => rfl)) (pa_cons (pe_ix (ix_U : IxR _ (rIx K)) (pv 9) pe_int (fun _ _ => rfl)) (pa_cons (pe_ix (ix_U : IxR _ (rIx K)) (pv 9) pe_int (fun _ _ => rfl)) (pa_cons (pe_ix (ix_U : IxR _ (rIx K)) (pv 11) pe_int (fun _ _ => rfl)) (pa_cons (pe_ix (ix_U : IxR _ (rIx K)) (pv 11) pe_int (fun _ _ => rfl)) pa_nil)))))) pa_nil)))))))))))
      (pss_one (ps_ret (pv 4))))))), ?_⟩
  refine enter3 (m := 8) h rfl (fun M3 c3 A3 H3 => (s3_seq (s3_own (f3_lst a3_nil))
      (s3_seq (s3_if (t3_test (e3_op O3_lt (e3_cb C3_len (a3_cons e3_var a3_nil)) e3_c)) (s3_ret e3_var) s3_next)
      (s3_seq (s3_set (e3_op O3_eq (e3_call0 (a3_cons e3_var (a3_cons e3_c a3_nil)) defs_nil) e3_c) g3_name)
      (s3_seq (s3_for (i3_r1 (a3_cons (e3_cb C3_len (a3_cons e3_var a3_nil)) a3_nil)) g3_name (s3_seq (s3_set (e3_call0 (a3_cons e3_var (a3_cons (e3_cb C3_len (a3_cons e3_var a3_nil)) a3_nil)) defs_nil) g3_name)
      (s3_seq (s3_set (e3_op O3_mod (e3_cb C3_int (a3_cons (e3_op O3_add (e3_op O3_add e3_var e3_c) (e3_call0 (a3_cons e3_var (a3_cons (e3_op O3_sub (e3_cb C3_len (a3_cons e3_var a3_nil)) e3_c) a3_nil)) defs_nil)) a3_nil)) (e3_cb C3_len (a3_cons e3_var a3_nil))) g3_name)
      (s3_seq (s3_if (t3_and (t3_b e3_var) (t3_test (e3_op O3_lt (e3_op O3_add e3_var e3_c) (e3_cb C3_len (a3_cons e3_var a3_nil))))) (s3_seq (s3_set (e3_op O3_add e3_var e3_c) g3_name)
      (s3_set (e3_op O3_mod (e3_cb C3_int (a3_cons e3_var a3_nil)) (e3_op O3_add e3_var e3_c)) g3_name)) s3_next)
      (s3_seq (s3_set (e3_fresh (f3_lst (a3_cons (e3_op O3_ix e3_var e3_var) (a3_cons (e3_op O3_ix e3_var e3_var) a3_nil)))) g3_name)
      (s3_seq (s3_if (t3_and (t3_test (e3_op O3_gt e3_var e3_c)) (t3_test (e3_op O3_eq (e3_call0 (a3_cons e3_var (a3_cons e3_c a3_nil)) defs_nil) e3_c))) (s3_seq (s3_set e3_pickO g3_name)
      (s3_set (e3_fresh (f3_lst (a3_cons (e3_op O3_ix e3_var e3_c) (a3_cons (e3_op O3_ix e3_var e3_c) a3_nil)))) g3_name)) s3_next)
      (s3_seq (s3_set (e3_call0 (a3_cons e3_var (a3_cons e3_var a3_nil)) defs_nil) g3_name)
      (s3_app (e3_tup (a3_cons (e3_op O3_ix e3_var e3_var) (a3_cons (e3_op O3_ix e3_var e3_c) (a3_cons (e3_op O3_ix e3_var e3_c) (a3_cons (e3_op O3_ix e3_var e3_c) (a3_cons (e3_op O3_ix e3_var e3_c) a3_nil))))))))))))))
      (s3_ret e3_var)))))) (fun ds Q3 X3 hn hp => ?_)
  obtain ⟨ps, lb, ns, rfl, hp10, hl16, hn0, hn1, hnr, q⟩ := hp
  walk_at "g3"
  rw [List.length_map]
  refine k_dec (fun e => ?_) (fun e => ?_)
  · walk_at "g3"
    exact q [] (by rw [if_neg (by omega)]; rfl) (fun _ z => absurd z (by simp))
  walk_at "g3"
  refine k_take (by decide) (by decide) fun rc c0 c1 => ?_
  walk_at "g3"
  rw [List.length_map]
  refine k_r1 (by omega) ?_
  rw [rg_toNat]
  refine for3_inv (fun k : Nat => D.int (k : Int)) (fun pre S => ∃ (es : List BondT) (o6 o7 o8 o9 o10 o11 : Option W), S = [some (.d .store), some (.d (.lst (ps.map D.str))), some (.d (.lst (lb.map D.str))), some (.d (.lst (ns.map D.int))), some (.ol (es.map bondD)), some (.d (.bl (decide (rc = 0)))), o6, o7, o8, o9, o10, o11] ∧ es.map (·.n) = lb.take pre.length ∧ ∀ b ∈ es, EdgeW ps b) (List.range lb.length) _ [] _ rfl
    ⟨[], none, none, none, none, none, none, rfl, rfl, fun _ z => absurd z (by simp)⟩ (fun pre k post S nx ee hI h => ?_) (fun S hI => ?_)
  · obtain ⟨es, o6, o7, o8, o9, o10, o11, rfl, hnm, hok⟩ := hI
    obtain ⟨hk1, hk⟩ := range_at ee
    have hlm : (ps.map D.str).length = ps.length := List.length_map _
    have hlb : (lb.map D.str).length = lb.length := List.length_map _
    have hel : es.length = k := by
      have := congrArg List.length hnm
      rw [List.length_map, List.length_take] at this
      omega
    obtain ⟨l, hl, al, gl⟩ := at_str (ps := lb) (i := (k : Int)) (by omega) (by omega)
    have hnm2 : lb.take pre.length ++ [l] = lb.take (pre ++ [k]).length := by
      rw [List.length_append, List.length_singleton, List.take_add_one, ← hk1]
      congr 1
      rw [Int.toNat_natCast] at gl
      rw [gl]
      rfl
    have fin : ∀ (x y : Str) (lo hi : Option Int) (o6 o7 o8 o9 o10 o11 : Option W), EdgeW ps ⟨l, x, y, lo, hi⟩ → nx [some (.d .store), some (.d (.lst (ps.map D.str))), some (.d (.lst (lb.map D.str))), some (.d (.lst (ns.map D.int))), some (.ol (es.map bondD ++ [.tup [.str l, .str x, .str y, dEnd3 lo, dEnd3 hi]])), some (.d (.bl (decide (rc = 0)))), o6, o7, o8, o9, o10, o11] := fun x y lo hi o6 o7 o8 o9 o10 o11 he =>
      h _ ⟨es ++ [⟨l, x, y, lo, hi⟩], _, _, _, _, _, _, by rw [List.map_append]; rfl, by rw [List.map_append, hnm]; exact hnm2, fun b hb => by
        rcases List.mem_append.mp hb with hb | hb
        · exact hok b hb
        · rw [List.mem_singleton.mp hb]; exact he⟩
    walk_at "g3"
    refine k_take (by omega) (by omega) fun r1 a0 a1 => ?_
    walk_at "g3"
    refine k_take (by omega) (by omega) fun r2 b0 b1 => ?_
    walk_at "g3"
    have ho := other_ne (r := r1) (s := r2) (n := ps.length) a0 (by omega) b0 (by omega)
    rw [hlm]
    generalize (r1 + 1 + r2) % (ps.length : Int) = j0 at ho ⊢
    refine k_dec (fun z => ?_) (fun z => ?_)
    · walk_at "g3"
      refine k_dec (fun z2 => ?_) (fun z2 => ?_)
      · walk_at "g3"
        have m0 : 0 ≤ j0 % ((k : Int) + 1) := Int.emod_nonneg _ (by omega)
        have m1 : j0 % ((k : Int) + 1) < (k : Int) + 1 := Int.emod_lt_of_pos _ (by omega)
        generalize j0 % ((k : Int) + 1) = j1 at m0 m1 ⊢
        obtain ⟨x, hx, ax, gx⟩ := at_str (ps := ps) (i := (k : Int) + 1) (by omega) (by omega)
        obtain ⟨y, hy, ay, gy⟩ := at_str (ps := ps) (i := j1) m0 (by omega)
        have nxy : ps.Nodup → x ≠ y := fun nd => at_ne nd (i := (k : Int) + 1) (j := j1) (by omega) m0 gx gy (by omega)
        refine k_ixL ax ?_
        walk_at "g3"
        refine k_ixL ay ?_
        walk_at "g3"
        refine k_dec (fun w1 => ?_) (fun w1 => ?_)
        · walk_at "g3"
          refine k_take (by decide) (by decide) fun r3 d0 d1 => ?_
          walk_at "g3"
          refine k_dec (fun w2 => ?_) (fun w2 => ?_)
          · walk_at "g3"
            refine ⟨rfl, es.map bondD, rfl, by rw [List.length_map]; omega, by rw [List.length_map]; omega, fun x hx => ?_, fun x hx => ?_⟩
            · obtain ⟨b, _, rfl⟩ := List.mem_map.mp hx
              exact flat_bond b
            obtain ⟨b, hb, rfl⟩ := List.mem_map.mp hx
            have hbk := hok b hb
            walk_at "g3"
            refine k_ixQ rfl rfl ?_
            walk_at "g3"
            refine k_ixQ rfl rfl ?_
            walk_at "g3"
            refine ⟨ns, rfl, hn0, hn1, hnr, fun lo hi hs => ?_⟩
            walk_at "g3"
            refine k_ixL al ?_
            walk_at "g3"
            refine k_ixL rfl ?_
            walk_at "g3"
            refine k_ixL rfl ?_
            walk_at "g3"
            exact ⟨by rw [List.length_map]; omega, fin b.b b.a lo hi _ _ _ _ _ _ ⟨hbk.kb, hbk.ka, fun nd => Ne.symm (hbk.ne nd), hs⟩⟩
          · walk_at "g3"
            refine ⟨ns, rfl, hn0, hn1, hnr, fun lo hi hs => ?_⟩
            walk_at "g3"
            refine k_ixL al ?_
            walk_at "g3"
            refine k_ixL rfl ?_
            walk_at "g3"
            refine k_ixL rfl ?_
            walk_at "g3"
            exact ⟨by rw [List.length_map]; omega, fin x y lo hi _ _ _ _ _ _ ⟨hx, hy, nxy, hs⟩⟩
        · walk_at "g3"
          refine ⟨ns, rfl, hn0, hn1, hnr, fun lo hi hs => ?_⟩
          walk_at "g3"
          refine k_ixL al ?_
          walk_at "g3"
          refine k_ixL rfl ?_
          walk_at "g3"
          refine k_ixL rfl ?_
          walk_at "g3"
          exact ⟨by rw [List.length_map]; omega, fin x y lo hi _ _ _ _ _ _ ⟨hx, hy, nxy, hs⟩⟩
      · walk_at "g3"
        obtain ⟨x, hx, ax, gx⟩ := at_str (ps := ps) (i := r1) a0 (by omega)
        obtain ⟨y, hy, ay, gy⟩ := at_str (ps := ps) (i := j0) ho.1 ho.2.1
        have nxy : ps.Nodup → x ≠ y := fun nd => at_ne nd a0 ho.1 gx gy ho.2.2
        refine k_ixL ax ?_
        walk_at "g3"
        refine k_ixL ay ?_
        walk_at "g3"
        refine k_dec (fun w1 => ?_) (fun w1 => ?_)
        · walk_at "g3"
          refine k_take (by decide) (by decide) fun r3 d0 d1 => ?_
          walk_at "g3"
          refine k_dec (fun w2 => ?_) (fun w2 => ?_)
          · walk_at "g3"
            refine ⟨rfl, es.map bondD, rfl, by rw [List.length_map]; omega, by rw [List.length_map]; omega, fun x hx => ?_, fun x hx => ?_⟩
            · obtain ⟨b, _, rfl⟩ := List.mem_map.mp hx
              exact flat_bond b
            obtain ⟨b, hb, rfl⟩ := List.mem_map.mp hx
            have hbk := hok b hb
            walk_at "g3"
            refine k_ixQ rfl rfl ?_
            walk_at "g3"
            refine k_ixQ rfl rfl ?_
            walk_at "g3"
            refine ⟨ns, rfl, hn0, hn1, hnr, fun lo hi hs => ?_⟩
            walk_at "g3"
            refine k_ixL al ?_
            walk_at "g3"
            refine k_ixL rfl ?_
            walk_at "g3"
            refine k_ixL rfl ?_
            walk_at "g3"
            exact ⟨by rw [List.length_map]; omega, fin b.b b.a lo hi _ _ _ _ _ _ ⟨hbk.kb, hbk.ka, fun nd => Ne.symm (hbk.ne nd), hs⟩⟩
          · walk_at "g3"
            refine ⟨ns, rfl, hn0, hn1, hnr, fun lo hi hs => ?_⟩
            walk_at "g3"
            refine k_ixL al ?_
            walk_at "g3"
            refine k_ixL rfl ?_
            walk_at "g3"
            refine k_ixL rfl ?_
            walk_at "g3"
            exact ⟨by rw [List.length_map]; omega, fin x y lo hi _ _ _ _ _ _ ⟨hx, hy, nxy, hs⟩⟩
        · walk_at "g3"
          refine ⟨ns, rfl, hn0, hn1, hnr, fun lo hi hs => ?_⟩
          walk_at "g3"
          refine k_ixL al ?_
          walk_at "g3"
          refine k_ixL rfl ?_
          walk_at "g3"
          refine k_ixL rfl ?_
          walk_at "g3"
          exact ⟨by rw [List.length_map]; omega, fin x y lo hi _ _ _ _ _ _ ⟨hx, hy, nxy, hs⟩⟩
    · walk_at "g3"
      obtain ⟨x, hx, ax, gx⟩ := at_str (ps := ps) (i := r1) a0 (by omega)
      obtain ⟨y, hy, ay, gy⟩ := at_str (ps := ps) (i := j0) ho.1 ho.2.1
      have nxy : ps.Nodup → x ≠ y := fun nd => at_ne nd a0 ho.1 gx gy ho.2.2
      refine k_ixL ax ?_
      walk_at "g3"
      refine k_ixL ay ?_
      walk_at "g3"
      refine k_dec (fun w1 => ?_) (fun w1 => ?_)
      · walk_at "g3"
        refine k_take (by decide) (by decide) fun r3 d0 d1 => ?_
        walk_at "g3"
        refine k_dec (fun w2 => ?_) (fun w2 => ?_)
        · walk_at "g3"
          refine ⟨rfl, es.map bondD, rfl, by rw [List.length_map]; omega, by rw [List.length_map]; omega, fun x hx => ?_, fun x hx => ?_⟩
          · obtain ⟨b, _, rfl⟩ := List.mem_map.mp hx
            exact flat_bond b
          obtain ⟨b, hb, rfl⟩ := List.mem_map.mp hx
          have hbk := hok b hb
          walk_at "g3"
          refine k_ixQ rfl rfl ?_
          walk_at "g3"
          refine k_ixQ rfl rfl ?_
          walk_at "g3"
          refine ⟨ns, rfl, hn0, hn1, hnr, fun lo hi hs => ?_⟩
          walk_at "g3"
          refine k_ixL al ?_
          walk_at "g3"
          refine k_ixL rfl ?_
          walk_at "g3"
          refine k_ixL rfl ?_
          walk_at "g3"
          exact ⟨by rw [List.length_map]; omega, fin b.b b.a lo hi _ _ _ _ _ _ ⟨hbk.kb, hbk.ka, fun nd => Ne.symm (hbk.ne nd), hs⟩⟩
        · walk_at "g3"
          refine ⟨ns, rfl, hn0, hn1, hnr, fun lo hi hs => ?_⟩
          walk_at "g3"
          refine k_ixL al ?_
          walk_at "g3"
          refine k_ixL rfl ?_
          walk_at "g3"
          refine k_ixL rfl ?_
          walk_at "g3"
          exact ⟨by rw [List.length_map]; omega, fin x y lo hi _ _ _ _ _ _ ⟨hx, hy, nxy, hs⟩⟩
      · walk_at "g3"
        refine ⟨ns, rfl, hn0, hn1, hnr, fun lo hi hs => ?_⟩
        walk_at "g3"
        refine k_ixL al ?_
        walk_at "g3"
        refine k_ixL rfl ?_
        walk_at "g3"
        refine k_ixL rfl ?_
        walk_at "g3"
        exact ⟨by rw [List.length_map]; omega, fin x y lo hi _ _ _ _ _ _ ⟨hx, hy, nxy, hs⟩⟩
  · obtain ⟨es, o6, o7, o8, o9, o10, o11, rfl, hnm, hok⟩ := hI
    walk_at "g3"
    rw [List.length_range, List.take_length] at hnm
    exact q es (by rw [if_pos (by omega)]; exact hnm) hok
end
end Q
namespace Q
open PySem PySem.Spec PyProof.Rows L2
section
variable {P : Program} {w : World} {K : PySem.W.Frag} {mg : Str → Option Value} {base : Heap}
abbrev N__law_alike : List Str := ["_law_left", "_law_right", "_law_k"]
theorem sc__law_alike : FnScope N__law_alike ["_law_left", "_law_right"] (defScope s__law_alike) := ⟨rfl, rfl, rfl, by decide +kernel, rfl, by decide +kernel, by decide +kernel⟩
set_option maxHeartbeats 4000000 in
theorem D_law_alike_0  (T : Txt K mg) (B : TxtB K mg base) : Def P w K mg base CX0 (1) "_law_alike" s__law_alike ["_law_left", "_law_right"] (Lift3 K (TT K) 2 qAlikeF) := by
  obtain ⟨f, fd, m, F⟩ := T.f__law_alike.ex
  refine ⟨f, fd, m, F.kp, F.bindsN (ps := ["_law_left", "_law_right"]) (fun _ _ _ _ _ _ us hl => match us, hl with | [_, _], _ => rfl), ?_, F⟩
  have cf_Span := T.cl_Span
  have tf_Span := T.ty_Span
  have cf_Web := T.cl_Web
  have tf_Web := T.ty_Web
  have xf_BadName := T.x_BadName.isx
  have xf_Doubled := T.x_Doubled.isx
  have xf_BadNumber := T.x_BadNumber.isx
  have xf_BadSpan := T.x_BadSpan.isx
  have xf_SelfBond := T.x_SelfBond.isx
  have xf_Unknown := T.x_Unknown.isx
  have xf_OutOfRange := T.x_OutOfRange.isx
  refine F.ok (CX := CX0) sc__law_alike lift_len (fun cdv A outer s H vs Q E hr h => ?_)
  refine ⟨_, PSs.nox (pss_cons (ps_if (PW.pt (pw_and (pt_val (pe_callB call_isiT (by rfl) T.b_isinstance (by decide +kernel) (pa_cons (pv 0) (pa_cons (pe_tup (pa_cons (pe_bltn (v := .ty "list") (by rfl) T.b_list (by decide +kernel) rfl) (pa_cons (pe_bltn (v := .ty "tuple") (by rfl) T.b_tuple (by decide +kernel) rfl) pa_nil))) pa_nil)))) (pw_and1 (pt_val (pe_callB call_isiT (by rfl) T.b_isinstance (by decide +kernel) (pa_cons (pv 1) (pa_cons (pe_tup (pa_cons (pe_bltn (v := .ty "list") (by rfl) T.b_list (by decide +kernel) rfl) (pa_cons (pe_bltn (v := .ty "tuple") (by rfl) T.b_tuple (by decide +kernel) rfl) pa_nil))) pa_nil))))))) (pss_cons ps_never
      (pss_one ps_never)) pss_nil)
      (pss_cons (ps_if (PW.pt (pw_or (pt_cmpR op_is0 (pv 0) pe_non (nomark _)) (pw_or1 (pt_cmpR op_is0 (pv 1) pe_non (nomark _))))) (pss_one (ps_ret (pe_and (pe_cmpR op_is0 (pv 0) pe_non (nomark _)) (pe_one (pe_cmpR op_is0 (pv 1) pe_non (nomark _)))))) pss_nil)
      (pss_cons (ps_if (PW.pt (pw_or (pt_cmpR (op_neP hr.units : OpR _ (compareOp .NotEq) (rNeP K)) (pe_callB (call_isi : CallR _ (.builtin "isinstance") (rIsi K)) (by rfl) T.b_isinstance (by decide +kernel) (pa_cons (pv 0) (pa_cons (pe_bltn (v := .ty "bool") (by rfl) T.b_bool (by decide +kernel) rfl) pa_nil))) (pe_callB (call_isi : CallR _ (.builtin "isinstance") (rIsi K)) (by rfl) T.b_isinstance (by decide +kernel) (pa_cons (pv 1) (pa_cons (pe_bltn (v := .ty "bool") (by rfl) T.b_bool (by decide +kernel) rfl) pa_nil))) (nomark _)) (pw_or1 (pt_cmpR (op_neP hr.units : OpR _ (compareOp .NotEq) (rNeP K)) (pe_callB (call_isi : CallR _ (.builtin "isinstance") (rIsi K)) (by rfl) T.b_isinstance (by decide +kernel) (pa_cons (pv 0) (pa_cons (pe_bltn (v := .ty "int") (by rfl) T.b_int (by decide +kernel) rfl) pa_nil))) (pe_callB (call_isi : CallR _ (.builtin "isinstance") (rIsi K)) (by rfl) T.b_isinstance (by decide +kernel) (pa_cons (pv 1) (pa_cons (pe_bltn (v := .ty "int") (by rfl) T.b_int (by decide +kernel) rfl) pa_nil))) (nomark _))))) (pss_one (ps_ret pe_bl)) pss_nil)
      (pss_one (ps_ret (pe_and (pe_cmpR (op_eqP hr.units : OpR _ (compareOp .Eq) (rEqP K)) (pe_callB (call_isi : CallR _ (.builtin "isinstance") (rIsi K)) (by rfl) T.b_isinstance (by decide +kernel) (pa_cons (pv 0) (pa_cons (pe_bltn (v := .ty "str") (by rfl) T.b_str (by decide +kernel) rfl) pa_nil))) (pe_callB (call_isi : CallR _ (.builtin "isinstance") (rIsi K)) (by rfl) T.b_isinstance (by decide +kernel) (pa_cons (pv 1) (pa_cons (pe_bltn (v := .ty "str") (by rfl) T.b_str (by decide +kernel) rfl) pa_nil))) (nomark _)) (pe_and (pe_callB call_isiT (by rfl) T.b_isinstance (by decide +kernel) (pa_cons (pv 0) (pa_cons (pe_tup (pa_cons (pe_bltn (v := .ty "int") (by rfl) T.b_int (by decide +kernel) rfl) (pa_cons (pe_bltn (v := .ty "str") (by rfl) T.b_str (by decide +kernel) rfl) pa_nil))) pa_nil))) (pe_one (pe_cmpR (op_eqP hr.units : OpR _ (compareOp .Eq) (rEqP K)) (pv 0) (pv 1) (nomark _)))))))))), ?_⟩
  refine enter3 (m := 1) h rfl (fun M3 c3 A3 H3 => (s3_seq (s3_if (t3_and (t3_b (e3_isiTK e3_var (a3_cons e3_c (a3_cons e3_c a3_nil)))) (t3_b (e3_isiTK e3_var (a3_cons e3_c (a3_cons e3_c a3_nil))))) (s3_seq s3_never
      s3_never) s3_next)
      (s3_seq (s3_if (t3_or (t3_test (e3_op O3_is e3_var e3_c)) (t3_test (e3_op O3_is e3_var e3_c))) (s3_ret (e3_andV (e3_op O3_is e3_var e3_c) (e3_op O3_is e3_var e3_c))) s3_next)
      (s3_seq (s3_if (t3_or (t3_test (e3_op O3_ne (e3_cb c3_isiK (a3_cons e3_var (a3_cons e3_c a3_nil))) (e3_cb c3_isiK (a3_cons e3_var (a3_cons e3_c a3_nil))))) (t3_test (e3_op O3_ne (e3_cb c3_isiK (a3_cons e3_var (a3_cons e3_c a3_nil))) (e3_cb c3_isiK (a3_cons e3_var (a3_cons e3_c a3_nil)))))) (s3_ret e3_c) s3_next)
      (s3_ret (e3_andV (e3_op O3_eq (e3_cb c3_isiK (a3_cons e3_var (a3_cons e3_c a3_nil))) (e3_cb c3_isiK (a3_cons e3_var (a3_cons e3_c a3_nil)))) (e3_andV (e3_isiTK e3_var (a3_cons e3_c (a3_cons e3_c a3_nil))) (e3_op O3_eq e3_var e3_var)))))))) (fun ds Q3 X3 hn hp => ?_)
  obtain ⟨x, rfl, hx, q⟩ := hp
  cases x with
  | non =>
    walk_at "g3"
    repeat (refine k_ndec (fun z => absurd rfl z) (fun _ => ?_); walk_at "g3")
    exact q
  | bl b =>
    walk_at "g3"
    repeat (refine k_ndec (fun z => absurd rfl z) (fun _ => ?_); walk_at "g3")
    refine k_dec (fun _ => ?_) (fun z => absurd rfl z)
    walk_at "g3"
    rw [decide_eq_true rfl]
    exact q
  | int i =>
    walk_at "g3"
    repeat (refine k_ndec (fun z => absurd rfl z) (fun _ => ?_); walk_at "g3")
    refine k_dec (fun _ => ?_) (fun z => absurd rfl z)
    walk_at "g3"
    rw [decide_eq_true rfl]
    exact q
  | str s =>
    walk_at "g3"
    repeat (refine k_ndec (fun z => absurd rfl z) (fun _ => ?_); walk_at "g3")
    refine k_dec (fun _ => ?_) (fun z => absurd rfl z)
    walk_at "g3"
    rw [decide_eq_true rfl]
    exact q
  | _ => cases hx
set_option maxHeartbeats 4000000 in
theorem D_law_alike_s {n : Nat} (T : Txt K mg) (B : TxtB K mg base) (ih_law_alike : Def P w K mg base CX0 (n + 1) "_law_alike" s__law_alike ["_law_left", "_law_right"] (Lift3 K (TT K) 2 (qAlike n))) : Def P w K mg base CX0 (n + 2) "_law_alike" s__law_alike ["_law_left", "_law_right"] (Lift3 K (TT K) 2 (qAlikeS n)) := by
  obtain ⟨f, fd, m, F⟩ := T.f__law_alike.ex
  refine ⟨f, fd, m, F.kp, F.bindsN (ps := ["_law_left", "_law_right"]) (fun _ _ _ _ _ _ us hl => match us, hl with | [_, _], _ => rfl), ?_, F⟩
  obtain ⟨f_law_alike, fd_law_alike, m_law_alike, kp_law_alike, b_law_alike, G_law_alike, F_law_alike⟩ := (ih_law_alike).ex
  have cf_Span := T.cl_Span
  have tf_Span := T.ty_Span
  have cf_Web := T.cl_Web
  have tf_Web := T.ty_Web
  have xf_BadName := T.x_BadName.isx
  have xf_Doubled := T.x_Doubled.isx
  have xf_BadNumber := T.x_BadNumber.isx
  have xf_BadSpan := T.x_BadSpan.isx
  have xf_SelfBond := T.x_SelfBond.isx
  have xf_Unknown := T.x_Unknown.isx
  have xf_OutOfRange := T.x_OutOfRange.isx
  refine F.ok (CX := CX0) sc__law_alike lift_len (fun cdv A outer s H vs Q E hr h => ?_)
  refine ⟨_, PSs.nox (pss_cons (ps_if (PW.pt (pw_and (pt_val (pe_callB call_isiT (by rfl) T.b_isinstance (by decide +kernel) (pa_cons (pv 0) (pa_cons (pe_tup (pa_cons (pe_bltn (v := .ty "list") (by rfl) T.b_list (by decide +kernel) rfl) (pa_cons (pe_bltn (v := .ty "tuple") (by rfl) T.b_tuple (by decide +kernel) rfl) pa_nil))) pa_nil)))) (pw_and1 (pt_val (pe_callB call_isiT (by rfl) T.b_isinstance (by decide +kernel) (pa_cons (pv 1) (pa_cons (pe_tup (pa_cons (pe_bltn (v := .ty "list") (by rfl) T.b_list (by decide +kernel) rfl) (pa_cons (pe_bltn (v := .ty "tuple") (by rfl) T.b_tuple (by decide +kernel) rfl) pa_nil))) pa_nil))))))) (pss_cons (ps_if (PW.pt (pw_or (pt_cmpR (op_neP hr.units : OpR _ (compareOp .NotEq) (rNeP K)) (pe_callB (call_lenU : CallR _ (.builtin "len") (rLenU K)) (by rfl) T.b_len (by decide +kernel) (pa_cons (pv 0) pa_nil)) (pe_callB (call_lenU : CallR _ (.builtin "len") (rLenU K)) (by rfl) T.b_len (by decide +kernel) (pa_cons (pv 1) pa_nil)) (nomark _)) (pw_or1 (pt_cmpR (op_neP hr.units : OpR _ (compareOp .NotEq) (rNeP K)) (pe_callB (call_isi : CallR _ (.builtin "isinstance") (rIsi K)) (by rfl) T.b_isinstance (by decide +kernel) (pa_cons (pv 0) (pa_cons (pe_bltn (v := .ty "list") (by rfl) T.b_list (by decide +kernel) rfl) pa_nil))) (pe_callB (call_isi : CallR _ (.builtin "isinstance") (rIsi K)) (by rfl) T.b_isinstance (by decide +kernel) (pa_cons (pv 1) (pa_cons (pe_bltn (v := .ty "list") (by rfl) T.b_list (by decide +kernel) rfl) pa_nil))) (nomark _))))) (pss_one (ps_ret pe_bl)) pss_nil)
      (pss_one (ps_ret (pe_cmpR (op_eqP hr.units : OpR _ (compareOp .Eq) (rEqP K)) (pe_callB (call_lenU : CallR _ (.builtin "len") (rLenU K)) (by rfl) T.b_len (by decide +kernel) (pa_cons (pe_lc (own := [("_law_k", 2)]) (g := gName 2) rfl sc__law_alike.nd (pi_range1 (by rfl) T.b_range (pa_cons (pe_callB (call_lenU : CallR _ (.builtin "len") (rLenU K)) (by rfl) T.b_len (by decide +kernel) (pa_cons (pv 0) pa_nil)) pa_nil)) (blkOk_by (own := [("_law_k", 2)]) (N := N__law_alike) (sc := defScope s__law_alike) (by decide +kernel)) (fun _ _ _ _ _ => (pg_name (i := 2) sc__law_alike.nd rfl (Or.inl rfl))) (fun _ _ _ _ _ => (pts_one (pt_not (pt_val (pe_call G_law_alike (hr.mono (by first | decide | omega)) (by rfl) m_law_alike kp_law_alike b_law_alike .nil pass0 (pa_cons (pe_ix (ix_U : IxR _ (rIx K)) (pv 0) (pv 2) (fun _ _ => rfl)) (pa_cons (pe_ix (ix_U : IxR _ (rIx K)) (pv 1) (pv 2) (fun _ _ => rfl)) pa_nil))))))) (fun _ _ _ _ _ => (pv 2))) pa_nil)) pe_int (nomark _))))) pss_nil)
      (pss_cons (ps_if (PW.pt (pw_or (pt_cmpR op_is0 (pv 0) pe_non (nomark _)) (pw_or1 (pt_cmpR op_is0 (pv 1) pe_non (nomark _))))) (pss_one (ps_ret (pe_and (pe_cmpR op_is0 (pv 0) pe_non (nomark _)) (pe_one (pe_cmpR op_is0 (pv 1) pe_non (nomark _)))))) pss_nil)
      (pss_cons (ps_if (PW.pt (pw_or (pt_cmpR (op_neP hr.units : OpR _ (compareOp .NotEq) (rNeP K)) (pe_callB (call_isi : CallR _ (.builtin "isinstance") (rIsi K)) (by rfl) T.b_isinstance (by decide +kernel) (pa_cons (pv 0) (pa_cons (pe_bltn (v := .ty "bool") (by rfl) T.b_bool (by decide +kernel) rfl) pa_nil))) (pe_callB (call_isi : CallR _ (.builtin "isinstance") (rIsi K)) (by rfl) T.b_isinstance (by decide +kernel) (pa_cons (pv 1) (pa_cons (pe_bltn (v := .ty "bool") (by rfl) T.b_bool (by decide +kernel) rfl) pa_nil))) (nomark _)) (pw_or1 (pt_cmpR (op_neP hr.units : OpR _ (compareOp .NotEq) (rNeP K)) (pe_callB (call_isi : CallR _ (.builtin "isinstance") (rIsi K)) (by rfl) T.b_isinstance (by decide +kernel) (pa_cons (pv 0) (pa_cons (pe_bltn (v := .ty "int") (by rfl) T.b_int (by decide +kernel) rfl) pa_nil))) (pe_callB (call_isi : CallR _ (.builtin "isinstance") (rIsi K)) (by rfl) T.b_isinstance (by decide +kernel) (pa_cons (pv 1) (pa_cons (pe_bltn (v := .ty "int") (by rfl) T.b_int (by decide +kernel) rfl) pa_nil))) (nomark _))))) (pss_one (ps_ret pe_bl)) pss_nil)
      (pss_one (ps_ret (pe_and (pe_cmpR (op_eqP hr.units : OpR _ (compareOp .Eq) (rEqP K)) (pe_callB (call_isi : CallR _ (.builtin "isinstance") (rIsi K)) (by rfl) T.b_isinstance (by decide +kernel) (pa_cons (pv 0) (pa_cons (pe_bltn (v := .ty "str") (by rfl) T.b_str (by decide +kernel) rfl) pa_nil))) (pe_callB (call_isi : CallR _ (.builtin "isinstance") (rIsi K)) (by rfl) T.b_isinstance (by decide +kernel) (pa_cons (pv 1) (pa_cons (pe_bltn (v := .ty "str") (by rfl) T.b_str (by decide +kernel) rfl) pa_nil))) (nomark _)) (pe_and (pe_callB call_isiT (by rfl) T.b_isinstance (by decide +kernel) (pa_cons (pv 0) (pa_cons (pe_tup (pa_cons (pe_bltn (v := .ty "int") (by rfl) T.b_int (by decide +kernel) rfl) (pa_cons (pe_bltn (v := .ty "str") (by rfl) T.b_str (by decide +kernel) rfl) pa_nil))) pa_nil))) (pe_one (pe_cmpR (op_eqP hr.units : OpR _ (compareOp .Eq) (rEqP K)) (pv 0) (pv 1) (nomark _)))))))))), ?_⟩
  refine enter3 (m := 1) h rfl (fun M3 c3 A3 H3 => (s3_seq (s3_if (t3_and (t3_b (e3_isiTK e3_var (a3_cons e3_c (a3_cons e3_c a3_nil)))) (t3_b (e3_isiTK e3_var (a3_cons e3_c (a3_cons e3_c a3_nil))))) (s3_seq (s3_if (t3_or (t3_test (e3_op O3_ne (e3_cb C3_len (a3_cons e3_var a3_nil)) (e3_cb C3_len (a3_cons e3_var a3_nil)))) (t3_test (e3_op O3_ne (e3_cb c3_isiK (a3_cons e3_var (a3_cons e3_c a3_nil))) (e3_cb c3_isiK (a3_cons e3_var (a3_cons e3_c a3_nil)))))) (s3_ret e3_c) s3_next)
      (s3_ret (e3_op O3_eq (e3_cb C3_len (a3_cons (e3_fresh (f3_lc (i3_r1 (a3_cons (e3_cb C3_len (a3_cons e3_var a3_nil)) a3_nil)) g3_name (gin_name (by decide)) (t3_not (t3_b (e3_call0 (a3_cons (e3_op O3_ix e3_var e3_var) (a3_cons (e3_op O3_ix e3_var e3_var) a3_nil)) defs_nil))) e3_var)) a3_nil)) e3_c))) s3_next)
      (s3_seq (s3_if (t3_or (t3_test (e3_op O3_is e3_var e3_c)) (t3_test (e3_op O3_is e3_var e3_c))) (s3_ret (e3_andV (e3_op O3_is e3_var e3_c) (e3_op O3_is e3_var e3_c))) s3_next)
      (s3_seq (s3_if (t3_or (t3_test (e3_op O3_ne (e3_cb c3_isiK (a3_cons e3_var (a3_cons e3_c a3_nil))) (e3_cb c3_isiK (a3_cons e3_var (a3_cons e3_c a3_nil))))) (t3_test (e3_op O3_ne (e3_cb c3_isiK (a3_cons e3_var (a3_cons e3_c a3_nil))) (e3_cb c3_isiK (a3_cons e3_var (a3_cons e3_c a3_nil)))))) (s3_ret e3_c) s3_next)
      (s3_ret (e3_andV (e3_op O3_eq (e3_cb c3_isiK (a3_cons e3_var (a3_cons e3_c a3_nil))) (e3_cb c3_isiK (a3_cons e3_var (a3_cons e3_c a3_nil)))) (e3_andV (e3_isiTK e3_var (a3_cons e3_c (a3_cons e3_c a3_nil))) (e3_op O3_eq e3_var e3_var)))))))) (fun ds Q3 X3 hn hp => ?_)
  obtain ⟨x, xs, rfl, hx, hl, ha, q⟩ := hp
  have hk : ∀ k : Nat, k < xs.length → ∃ y, atI xs (k : Int) = some y ∧ alD n y = true := fun k h => ⟨xs[k], atI_of (by omega) (List.getElem?_eq_getElem h), ha _ (List.getElem_mem h)⟩
  rcases hx with rfl | rfl
  all_goals
    walk_at "g3"
    repeat (refine k_ndec (fun z => absurd rfl z) (fun _ => ?_); walk_at "g3")
    rw [rg_toNat]
    refine lc3_none (fun k : Nat => D.int (k : Int)) (List.range xs.length) (fun k hk' QD R h => ?_) (by rw [List.length_range]; omega) ?_
    · obtain ⟨y, ey, ay⟩ := hk k (List.mem_range.mp hk')
      walk_at "g3"
      refine k_ixQ rfl ey ?_
      walk_at "g3"
      refine k_ixQ rfl ey ?_
      walk_at "g3"
      refine ⟨y, rfl, ay, ?_⟩
      walk_at "g3"
      exact h
    · walk_at "g3"
      exact q
theorem D_law_alike (T : Txt K mg) (B : TxtB K mg base) : ∀ n : Nat, Def P w K mg base CX0 (n + 1) "_law_alike" s__law_alike ["_law_left", "_law_right"] (Lift3 K (TT K) 2 (qAlike n))
  | 0 => def_or (D_law_alike_0 T B) (D_law_alike_0 T B) (Nat.le_refl _) (Nat.le_refl _) alike_zero
  | n + 1 => def_or (D_law_alike_0 T B) (D_law_alike_s T B (D_law_alike T B n)) (by omega) (Nat.le_refl _) alike_succ
end
end Q
namespace Q
open PySem PySem.Spec PyProof.Rows L2
section
variable {P : Program} {w : World} {K : PySem.W.Frag} {mg : Str → Option Value} {base : Heap}
abbrev N__law_bad_number : List Str := ["_law_store_here", "_law_keyed", "_law_far", "_law_kind"]
theorem sc__law_bad_number : FnScope N__law_bad_number ["_law_store_here", "_law_keyed"] (defScope s__law_bad_number) := ⟨rfl, rfl, rfl, by decide +kernel, rfl, by decide +kernel, by decide +kernel⟩
/-- items of the menu -/
def badsB (xs : List V) : Bool := xs.all fun v => match v with
  | .int i => (decide (i < -1000000000000) || decide (1000000000000 < i)) && (decide (-1000000000000000000000000000000 ≤ i) && decide (i ≤ 1000000000000000000000000000000))
  | _ => false
theorem bads_of {xs : List V} {v : V} (h : badsB xs = true) (hv : v ∈ xs) : ∃ i : Int, v = .int i ∧ (i < -1000000000000 ∨ 1000000000000 < i) ∧ -1000000000000000000000000000000 ≤ i ∧ i ≤ 1000000000000000000000000000000 := by
  have q := List.all_eq_true.mp h v hv
  cases v with
  | int i =>
    obtain ⟨q1, q2⟩ := Bool.and_eq_true_iff.mp q
    obtain ⟨q2, q3⟩ := Bool.and_eq_true_iff.mp q2
    refine ⟨i, rfl, ?_, of_decide_eq_true q2, of_decide_eq_true q3⟩
    rcases Bool.or_eq_true_iff.mp q1 with z | z
    · exact .inl (of_decide_eq_true z)
    · exact .inr (of_decide_eq_true z)
  | _ => exact nomatch q
set_option maxHeartbeats 4000000 in
theorem D_law_bad_number  (T : Txt K mg) : Def P w K mg base CX0 (4) "_law_bad_number" s__law_bad_number ["_law_store_here", "_law_keyed"] (Sp2 pBadNumber) := by
  obtain ⟨f, fd, m, F⟩ := T.f__law_bad_number.ex
  refine ⟨f, fd, m, F.kp, F.bindsN (ps := ["_law_store_here", "_law_keyed"]) (fun _ _ _ _ _ _ us hl => match us, hl with | [_, _], _ => rfl), ?_, F⟩
  obtain ⟨f_law_pick, fd_law_pick, m_law_pick, kp_law_pick, b_law_pick, G_law_pick, F_law_pick⟩ := (D_law_pick (P := P) (w := w) (base := base) T).ex
  obtain ⟨f_law_take, fd_law_take, m_law_take, kp_law_take, b_law_take, G_law_take, F_law_take⟩ := (D_law_take (P := P) (w := w) (base := base) T).ex
  refine F.ok (CX := CX0) sc__law_bad_number len2 (fun cdv A outer s H vs Q E hr h => ?_)
  obtain ⟨v0, v1, rfl, h⟩ := h
  refine ⟨_, PSs.nox (pss_cons (ps_set (i := 2) sc__law_bad_number.nd rfl (Or.inl rfl) (pe_lst (pa_cons (pe_op op_addU (pe_op op_pow0 pe_int pe_int) pe_int) (pa_cons (pe_op op_sub0 (pe_un un_neg0 (pe_op op_pow0 pe_int pe_int)) pe_int) (pa_cons (pe_op op_pow0 pe_int pe_int) (pa_cons (pe_un un_neg0 (pe_op op_pow0 pe_int pe_int)) (pa_cons (pe_op op_addU (pe_op op_addU (pe_op op_pow0 pe_int pe_int) pe_int) (pe_call G_law_take (hr.mono (by first | decide | omega)) (by rfl) m_law_take kp_law_take b_law_take .nil pass0 (pa_cons (pv 0) (pa_cons (pe_op op_pow0 pe_int pe_int) pa_nil)))) pa_nil)))))))
      (pss_cons (ps_set (i := 3) sc__law_bad_number.nd rfl (Or.inl rfl) (pe_call G_law_take (hr.mono (by first | decide | omega)) (by rfl) m_law_take kp_law_take b_law_take .nil pass0 (pa_cons (pv 0) (pa_cons pe_int pa_nil))))
      (pss_cons (ps_if (PW.pt (pw_or (pt_val (pv 1)) (pw_or1 (pt_cmpR op_eq (pv 3) pe_int (nomark _))))) (pss_one (ps_ret (pe_call G_law_pick (hr.mono (by first | decide | omega)) (by rfl) m_law_pick kp_law_pick b_law_pick .nil pass0 (pa_cons (pv 0) (pa_cons (pv 2) pa_nil))))) pss_nil)
      (pss_one (ps_ret (pe_cmpR op_eq (pv 3) pe_int (nomark _))))))), ?_⟩
  try dsimp only [cxOf, Cx.nox, Cx.wish]
  rw [show start N__law_bad_number [v0, v1] = [some v0, some v1, none, none] from rfl]
  obtain ⟨c, M, kb, rfl, rfl, ok, k⟩ := h
  walk_at "go"
  refine take_go ok (by decide) (by decide) fun r1 H1 a1 b1 d1 ok1 => ?_
  walk_at "go"
  refine ⟨by show 5 ≤ sizeLine; decide, fun p hp => ?_⟩
  walk_at "go"
  refine take_go (ok1.new hp) (by decide) (by decide) fun r2 H2 a2 b2 d2 ok2 => ?_
  have g := d2.st _ _ (Ok.ne ok1 (ok1.notM hp)) upd_same
  have d02 := (d1.trans (Dx.new hp)).trans d2
  have pick : ∀ {E : XK}, pPick K (.ref c) (.ref p) H2 Q E := fun {E} => ⟨c, M, rfl, ok2, .inr ⟨p, _, rfl, SqL.of g, ok1.notM hp, by show 0 < 5; decide, by show 5 ≤ 100000; decide, fun r H' hr d ok' => by
    have hb : ∃ i : Int, r = .int i ∧ (i < -1000000000000 ∨ 1000000000000 < i) ∧ -1000000000000000000000000000000 ≤ i ∧ i ≤ 1000000000000000000000000000000 := by
      simp only [List.mem_cons, List.not_mem_nil, or_false] at hr
      rcases hr with e | e | e | e | e
      all_goals exact ⟨_, e, by omega⟩
    obtain ⟨i, e, hi⟩ := hb
    exact k _ _ ⟨.inl ⟨i, e, hi⟩, fun _ => ⟨i, e⟩⟩ (d02.trans d) ok'⟩⟩
  walk_at "go"
  refine go_bool (fun _ => ?_) (fun e => ?_)
  · walk_at "go"
    exact pick
  walk_at "go"
  refine go_dec (fun _ => ?_) (fun _ => ?_)
  · walk_at "go"
    exact pick
  walk_at "go"
  exact k _ _ ⟨.inr ⟨_, rfl⟩, fun z => by rw [e] at z; exact nomatch z⟩ d02 ok2
theorem D_law_bad_number_3 (T : Txt K mg) (B : TxtB K mg base) : Def P w K mg base CX0 (4) "_law_bad_number" s__law_bad_number ["_law_store_here", "_law_keyed"] (Lift3 K (TT K) 2 qBadNum) := Def.imp (D_law_bad_number T) br_badNum
set_option maxHeartbeats 4000000 in
theorem D_law_name  (T : Txt K mg) : Def P w K mg base CX0 (3) "_law_name" s__law_name ["_law_store_here"] (Sp1 (pDraw (IsText 1 8))) := by
  obtain ⟨f, fd, m, F⟩ := T.f__law_name.ex
  refine ⟨f, fd, m, F.kp, F.bindsN (ps := ["_law_store_here"]) (fun _ _ _ _ _ _ us hl => match us, hl with | [_], _ => rfl), ?_, F⟩
  obtain ⟨f_law_take, fd_law_take, m_law_take, kp_law_take, b_law_take, G_law_take, F_law_take⟩ := (D_law_take (P := P) (w := w) (base := base) T).ex
  refine F.ok (CX := CX0) sc__law_name len1 (fun cdv A outer s H vs Q E hr h => ?_)
  obtain ⟨v0, rfl, h⟩ := h
  refine ⟨_, PSs.nox (pss_cons (ps_set (i := 1) sc__law_name.nd rfl (Or.inl rfl) pe_str)
      (pss_cons (ps_set (i := 2) sc__law_name.nd rfl (Or.inl rfl) (pe_op op_addU (pv 1) pe_str))
      (pss_cons (ps_set (i := 3) sc__law_name.nd rfl (Or.inl rfl) (pe_call G_law_take (hr.mono (by first | decide | omega)) (by rfl) m_law_take kp_law_take b_law_take .nil pass0 (pa_cons (pv 0) (pa_cons pe_int pa_nil))))
      (pss_cons (ps_set (i := 4) sc__law_name.nd rfl (Or.inl rfl) (pe_op op_addU pe_int (pe_call G_law_take (hr.mono (by first | decide | omega)) (by rfl) m_law_take kp_law_take b_law_take .nil pass0 (pa_cons (pv 0) (pa_cons pe_int pa_nil)))))
      (C8.pss_cut (ps_if (pt_cmpR op_ltU (pv 3) pe_int (nomark _)) (pss_one (ps_set (i := 4) sc__law_name.nd rfl (Or.inl rfl) (pe_ix ix_U (pe_lst (pa_cons pe_int (pa_cons pe_int (pa_cons pe_int pa_nil)))) (pv 3) (fun _ _ => rfl)))) pss_nil)
      (pss_cons (ps_set (i := 5) sc__law_name.nd rfl (Or.inl rfl) (pe_ix ix_U (pv 1) (pe_call G_law_take (hr.mono (by first | decide | omega)) (by rfl) m_law_take kp_law_take b_law_take .nil pass0 (pa_cons (pv 0) (pa_cons pe_int pa_nil))) (fun _ _ => rfl)))
      (pss_cons (ps_for PassesOwn.never rfl (pi_range1 (by rfl) T.b_range (pa_cons (pe_op op_sub0 (pv 4) pe_int) pa_nil)) (pg_name (i := 6) sc__law_name.nd rfl (Or.inl rfl)) (pss_one (ps_set (i := 5) sc__law_name.nd rfl (Or.inl rfl) (pe_op op_addU (pv 5) (pe_ix ix_U (pv 2) (pe_call G_law_take (hr.mono (by first | decide | omega)) (by rfl) m_law_take kp_law_take b_law_take .nil pass0 (pa_cons (pv 0) (pa_cons pe_int pa_nil))) (fun _ _ => rfl))))))
      (pss_one (ps_ret (pv 5)))))))))), ?_⟩
  try dsimp only [cxOf, Cx.nox, Cx.wish]
  rw [show start N__law_name [v0] = [some v0, none, none, none, none, none, none] from rfl]
  obtain ⟨c, M, rfl, ok, k⟩ := h
  walk_at "go"
  generalize hl : (Str.ofString "abcdefghijklmnopqrstuvwxyz") = L
  generalize hsg : L ++ Str.ofString "0123456789" = S
  have hL : L.length = 26 := by
    rw [← hl]
    decide +kernel
  have hS : S.length = 36 := by
    rw [← hsg, ← hl]
    decide +kernel
  refine take_go ok (by decide) (by decide) fun r1 H1 a1 b1 d1 ok1 => ?_
  walk_at "go"
  refine take_go ok1 (by decide) (by decide) fun r2 H2 a2 b2 d2 ok2 => ?_
  walk_at "go"
  refine ⟨fun σ' H' => ∃ n : Int, 1 ≤ n ∧ n ≤ 8 ∧ Dx (Only1 c) H H' ∧ Ok M H' c ∧ σ' = [some (.ref c), some (.str L), some (.str S), some (.int r1), some (.int n), none, none], ?_, ?_⟩
  · walk_at "go"
    refine go_dec (fun h3 => ?_) (fun _ => ?_)
    · walk_at "go"
      refine ⟨by show 3 ≤ sizeLine; decide, fun p hp => ?_⟩
      walk_at "go"
      have d3 : Dx (Only1 c) H2 (upd H2 p (.lst [V.int 1, V.int 2, V.int 8])) := Dx.new hp
      obtain ⟨n, hn, g1, g2⟩ : ∃ n : Int, atI [V.int 1, V.int 2, V.int 8] r1 = some (.int n) ∧ 1 ≤ n ∧ n ≤ 8 := by
        rcases (show r1 = 0 ∨ r1 = 1 ∨ r1 = 2 by omega) with e | e | e
        · subst e
          exact ⟨1, by rfl, by decide, by decide⟩
        · subst e
          exact ⟨2, by rfl, by decide, by decide⟩
        · subst e
          exact ⟨8, by rfl, by decide, by decide⟩
      refine go_ixL (SqL.of upd_same) hn ?_
      walk_at "go"
      exact ⟨n, g1, g2, (d1.trans d2).trans d3, ok2.new hp, rfl⟩
    · walk_at "go"
      exact ⟨1 + r2, by omega, by omega, d1.trans d2, ok2, rfl⟩
  · rintro σ' H3 ⟨n, hn1, hn2, d3, ok3, rfl⟩
    walk_at "go"
    refine take_go ok3 (by decide) (by decide) fun r4 H4 a4 b4 d4 ok4 => ?_
    obtain ⟨ch, hch⟩ := pick_ix (z := L) a4 (by omega)
    refine go_ixS (size_ok (by omega)) hch ?_
    walk_at "go"
    refine for_r (by omega) (fun i σ' H' => ∃ (x : Str) (v : Option V), x.length = i + 1 ∧ Dx (Only1 c) H H' ∧ Ok M H' c ∧ σ' = [some (.ref c), some (.str L), some (.str S), some (.int r1), some (.int n), some (.str x), v]) ⟨_, none, len_one ch, d3.trans d4, ok4, rfl⟩ ?_ ?_
    · rintro i σ' H5 hi ⟨x, v, hx, d5, ok5, rfl⟩
      walk_at "go"
      refine take_go ok5 (by decide) (by decide) fun r6 H6 a6 b6 d6 ok6 => ?_
      obtain ⟨ch2, hch2⟩ := pick_ix (z := S) a6 (by omega)
      refine go_ixS (size_ok (by omega)) hch2 ?_
      walk_at "go"
      exact ⟨_, _, by rw [length_append, len_one, hx], d5.trans d6, ok6, rfl⟩
    · rintro σ' H5 ⟨x, v, hx, d5, ok5, rfl⟩
      walk_at "go"
      exact k _ _ ⟨x, rfl, by omega, by omega⟩ d5 ok5
abbrev N__law_bad_name : List Str := ["_law_store_here", "_law_menu", "_law_kind", "_law_name_here", "_law_at"]
theorem sc__law_bad_name : FnScope N__law_bad_name ["_law_store_here"] (defScope s__law_bad_name) := ⟨rfl, rfl, rfl, by decide +kernel, rfl, by decide +kernel, by decide +kernel⟩
set_option maxHeartbeats 4000000 in
theorem D_law_bad_name  (T : Txt K mg) : Def P w K mg base CX0 (4) "_law_bad_name" s__law_bad_name ["_law_store_here"] (Sp1 (pDraw (IsText 0 20))) := by
  obtain ⟨f, fd, m, F⟩ := T.f__law_bad_name.ex
  refine ⟨f, fd, m, F.kp, F.bindsN (ps := ["_law_store_here"]) (fun _ _ _ _ _ _ us hl => match us, hl with | [_], _ => rfl), ?_, F⟩
  obtain ⟨f_law_name, fd_law_name, m_law_name, kp_law_name, b_law_name, G_law_name, F_law_name⟩ := (D_law_name (P := P) (w := w) (base := base) T).ex
  obtain ⟨f_law_pick, fd_law_pick, m_law_pick, kp_law_pick, b_law_pick, G_law_pick, F_law_pick⟩ := (D_law_pick (P := P) (w := w) (base := base) T).ex
  obtain ⟨f_law_take, fd_law_take, m_law_take, kp_law_take, b_law_take, G_law_take, F_law_take⟩ := (D_law_take (P := P) (w := w) (base := base) T).ex
  refine F.ok (CX := CX0) sc__law_bad_name len1 (fun cdv A outer s H vs Q E hr h => ?_)
  obtain ⟨v0, rfl, h⟩ := h
  refine ⟨_, PSs.nox (pss_cons (ps_set (i := 1) sc__law_bad_name.nd rfl (Or.inl rfl) (pe_lst (pa_cons pe_str (pa_cons pe_str (pa_cons pe_str (pa_cons pe_str (pa_cons pe_str (pa_cons pe_str (pa_cons pe_str (pa_cons pe_str (pa_cons pe_str (pa_cons pe_str (pa_cons pe_str (pa_cons pe_str (pa_cons pe_str (pa_cons pe_str pa_nil))))))))))))))))
      (pss_cons (ps_set (i := 2) sc__law_bad_name.nd rfl (Or.inl rfl) (pe_call G_law_take (hr.mono (by first | decide | omega)) (by rfl) m_law_take kp_law_take b_law_take .nil pass0 (pa_cons (pv 0) (pa_cons pe_int pa_nil))))
      (pss_cons (ps_if (pt_cmpR op_eq (pv 2) pe_int (nomark _)) (pss_one (ps_ret (pe_call G_law_pick (hr.mono (by first | decide | omega)) (by rfl) m_law_pick kp_law_pick b_law_pick .nil pass0 (pa_cons (pv 0) (pa_cons (pv 1) pa_nil))))) pss_nil)
      (pss_cons (ps_set (i := 3) sc__law_bad_name.nd rfl (Or.inl rfl) (pe_call G_law_name (hr.mono (by first | decide | omega)) (by rfl) m_law_name kp_law_name b_law_name .nil pass0 (pa_cons (pv 0) pa_nil)))
      (pss_cons (ps_if (pt_cmpR op_eq (pv 2) pe_int (nomark _)) (pss_one (ps_ret (pe_op op_addU (pv 3) (pe_slice sl_str pe_str po_none (po_some (pe_op op_sub0 pe_int (pe_callB call_lenU (by rfl) T.b_len (by decide +kernel) (pa_cons (pv 3) pa_nil)))))))) pss_nil)
      (pss_cons (ps_set (i := 4) sc__law_bad_name.nd rfl (Or.inl rfl) (pe_call G_law_take (hr.mono (by first | decide | omega)) (by rfl) m_law_take kp_law_take b_law_take .nil pass0 (pa_cons (pv 0) (pa_cons (pe_op op_addU (pe_callB call_lenU (by rfl) T.b_len (by decide +kernel) (pa_cons (pv 3) pa_nil)) pe_int) pa_nil))))
      (pss_one (ps_ret (pe_op op_addU (pe_op op_addU (pe_slice sl_str (pv 3) po_none (po_some (pv 4))) (pe_call G_law_pick (hr.mono (by first | decide | omega)) (by rfl) m_law_pick kp_law_pick b_law_pick .nil pass0 (pa_cons (pv 0) (pa_cons pe_str pa_nil)))) (pe_slice sl_str (pv 3) (po_some (pv 4)) po_none)))))))))), ?_⟩
  try dsimp only [cxOf, Cx.nox, Cx.wish]
  rw [show start N__law_bad_name [v0] = [some v0, none, none, none, none] from rfl]
  obtain ⟨c, M, rfl, ok, k⟩ := h
  walk_at "go"
  refine ⟨by show 14 ≤ sizeLine; decide, fun p hp => ?_⟩
  walk_at "go"
  generalize hxs : ([V.str _, V.str _, V.str _, V.str _, V.str _, V.str _, V.str _, V.str _, V.str _, V.str _, V.str _, V.str _, V.str _, V.str _] : List V) = xs
  have hx : textsB 20 xs = true ∧ xs.length = 14 := by
    rw [← hxs]
    decide +kernel
  have hpM : ¬ M p := ok.notM hp
  have d0 : Dx (Only1 c) H (upd H p (.lst xs)) := Dx.new hp
  have ok0 := ok.new (o := .lst xs) hp
  have hp0 : (upd H p (.lst xs)) p = some (.lst xs) := upd_same
  generalize upd H p (.lst xs) = H0 at d0 ok0 hp0
  refine take_go ok0 (by decide) (by decide) fun r1 H1 a1 b1 d1 ok1 => ?_
  have hp1 : H1 p = some (.lst xs) := (ok0.sub d1).st _ _ hpM hp0
  have d01 := d0.trans d1
  walk_at "go"
  refine go_dec (fun _ => ?_) (fun _ => ?_)
  · walk_at "go"
    refine ⟨c, M, rfl, ok1, .inr ⟨p, xs, rfl, SqL.of hp1, hpM, by omega, by omega, fun r H' hr d ok' => ?_⟩⟩
    exact k _ _ (texts_ok hx.1 hr) (d01.trans d) ok'
  walk_at "go"
  refine ⟨c, M, rfl, ok1, fun r H2 hr d2 ok2 => ?_⟩
  obtain ⟨x, rfl, hx1, hx2⟩ := hr
  have d02 := d01.trans d2
  walk_at "go"
  refine go_dec (fun _ => ?_) (fun _ => ?_)
  · walk_at "go"
    have hc := cutS_length (Str.ofString "0123456789") none (some (9 - (x.length : Int)))
    have hd : (Str.ofString "0123456789").length = 10 := by decide +kernel
    rw [hd] at hc
    walk_at "go"
    exact k _ _ ⟨_, rfl, Nat.zero_le _, by rw [length_append]; omega⟩ d02 ok2
  walk_at "go"
  refine take_go ok2 (by omega) (by omega) fun r3 H3 a3 b3 d3 ok3 => ?_
  walk_at "go"
  have hc1 := cutS_length x none (some r3)
  refine ⟨c, M, rfl, ok3, .inl ⟨_, rfl, by decide +kernel, by decide +kernel, fun y H4 hy d4 ok4 => ?_⟩⟩
  obtain ⟨y, rfl, hy1, hy2⟩ := one_sign hy
  walk_at "go"
  have hc2 := cutS_length x (some r3) none
  walk_at "go"
  exact k _ _ ⟨_, rfl, Nat.zero_le _, by rw [length_append, length_append]; omega⟩ ((d02.trans d3).trans d4) ok4
theorem D_law_bad_name_3 (T : Txt K mg) (B : TxtB K mg base) : Def P w K mg base CX0 (4) "_law_bad_name" s__law_bad_name ["_law_store_here"] (Lift3 K (TT K) 1 (qText 0 20)) := Def.imp (D_law_bad_name T) br_text
abbrev N__law_is_name : List Str := ["_law_text", "_law_sign"]
theorem sc__law_is_name : FnScope N__law_is_name ["_law_text"] (defScope s__law_is_name) := ⟨rfl, rfl, rfl, by decide +kernel, rfl, by decide +kernel, by decide +kernel⟩
set_option maxHeartbeats 4000000 in
theorem D_law_is_name  (T : Txt K mg) : Def P w K mg base CX0 (1) "_law_is_name" s__law_is_name ["_law_text"] (Sp1 pIsName) := by
  obtain ⟨f, fd, m, F⟩ := T.f__law_is_name.ex
  refine ⟨f, fd, m, F.kp, F.bindsN (ps := ["_law_text"]) (fun _ _ _ _ _ _ us hl => match us, hl with | [_], _ => rfl), ?_, F⟩
  refine F.ok (CX := CX0) sc__law_is_name len1 (fun cdv A outer s H vs Q E hr h => ?_)
  obtain ⟨v0, rfl, h⟩ := h
  refine ⟨_, PSs.nox (pss_cons (ps_if (PW.pt (pw_or (pt_cmpR op_ltU (pe_callB call_lenU (by rfl) T.b_len (by decide +kernel) (pa_cons (pv 0) pa_nil)) pe_int (nomark _)) (pw_or (pt_cmpR op_gt0 (pe_callB call_lenU (by rfl) T.b_len (by decide +kernel) (pa_cons (pv 0) pa_nil)) pe_int (nomark _)) (pw_or1 (pt_cmpR op_niU (pe_ix ix_U (pv 0) pe_int (fun _ _ => rfl)) pe_str (by rfl)))))) (pss_one (ps_ret pe_bl)) pss_nil)
      (pss_cons (ps_for PassesOwn.never rfl (pi_str (pv 0)) (pg_name (i := 1) sc__law_is_name.nd rfl (Or.inl rfl)) (pss_one (ps_if (pt_cmpR op_niU (pv 1) pe_str (by rfl)) (pss_one (ps_ret pe_bl)) pss_nil)))
      (pss_one (ps_ret pe_bl)))), ?_⟩
  try dsimp only [cxOf, Cx.nox, Cx.wish]
  rw [show start N__law_is_name [v0] = [some v0, none] from rfl]
  obtain ⟨x, rfl, hx, k⟩ := h
  walk_at "go"
  refine go_dec (fun h1 => ?_) (fun h1 => ?_)
  · walk_at "go"
    rw [← nm_short (x := x) (by omega)]
    exact k
  walk_at "go"
  refine go_dec (fun h2 => ?_) (fun h2 => ?_)
  · walk_at "go"
    rw [← nm_long h2]
    exact k
  walk_at "go"
  obtain ⟨c, hc⟩ := pick_ix (z := x) (r := 0) (by decide) (by omega)
  refine go_ixS (size_ok hx) hc ?_
  walk_at "go"
  refine go_ndec (fun h3 => ?_) (fun h3 => ?_)
  · walk_at "go"
    rw [← nm_head hc h3]
    exact k
  walk_at "go"
  refine for_s (fun i σ' H' => ∃ v, H' = H ∧ σ' = [some (.str x), v] ∧ ∀ (j d : Nat), j < i → x.cps.toList[j]? = some d → d ∈ signS.cps.toList) ⟨none, rfl, rfl, fun j d hj => absurd hj (Nat.not_lt_zero _)⟩ ?_ ?_
  · rintro i d σ' H' hd ⟨v, rfl, rfl, hall⟩
    walk_at "go"
    refine go_ndec (fun h4 => ?_) (fun h4 => ?_)
    · walk_at "go"
      rw [← nm_sign hd h4]
      exact k
    walk_at "go"
    refine ⟨_, rfl, rfl, fun j e hj he => ?_⟩
    by_cases q : j = i
    · subst q
      rw [hd] at he
      cases he
      exact h4
    · exact hall j e (by omega) he
  · rintro σ' H' ⟨v, rfl, rfl, hall⟩
    walk_at "go"
    rw [← nm_yes h1 h2 (fun c' hc' => by rw [hc] at hc'; cases hc'; exact h3) fun j d hd => hall j d (by have := (List.getElem?_eq_some_iff.mp hd).1; simpa [Str.length] using this) hd]
    exact k
theorem D_law_is_name_3 (T : Txt K mg) (B : TxtB K mg base) : Def P w K mg base CX0 (1) "_law_is_name" s__law_is_name ["_law_text"] (Lift3 K (TT K) 1 qIsName) := Def.imp (D_law_is_name T) br_isName
abbrev N__law_is_number : List Str := ["_law_value"]
theorem sc__law_is_number : FnScope N__law_is_number ["_law_value"] (defScope s__law_is_number) := ⟨rfl, rfl, rfl, by decide +kernel, rfl, by decide +kernel, by decide +kernel⟩
set_option maxHeartbeats 4000000 in
theorem D_law_is_number  (T : Txt K mg) (B : TxtB K mg base) : Def P w K mg base CX0 (1) "_law_is_number" s__law_is_number ["_law_value"] (Lift3 K (TT K) 1 qIsNumber) := by
  obtain ⟨f, fd, m, F⟩ := T.f__law_is_number.ex
  refine ⟨f, fd, m, F.kp, F.bindsN (ps := ["_law_value"]) (fun _ _ _ _ _ _ us hl => match us, hl with | [_], _ => rfl), ?_, F⟩
  have cf_Span := T.cl_Span
  have tf_Span := T.ty_Span
  have cf_Web := T.cl_Web
  have tf_Web := T.ty_Web
  have xf_BadName := T.x_BadName.isx
  have xf_Doubled := T.x_Doubled.isx
  have xf_BadNumber := T.x_BadNumber.isx
  have xf_BadSpan := T.x_BadSpan.isx
  have xf_SelfBond := T.x_SelfBond.isx
  have xf_Unknown := T.x_Unknown.isx
  have xf_OutOfRange := T.x_OutOfRange.isx
  refine F.ok (CX := CX0) sc__law_is_number lift_len (fun cdv A outer s H vs Q E hr h => ?_)
  refine ⟨_, PSs.nox (pss_one (ps_ret (pe_and (pe_callB (call_isi : CallR _ (.builtin "isinstance") (rIsi K)) (by rfl) T.b_isinstance (by decide +kernel) (pa_cons (pv 0) (pa_cons (pe_bltn (v := .ty "int") (by rfl) T.b_int (by decide +kernel) rfl) pa_nil))) (pe_and (pe_not (pe_callB (call_isi : CallR _ (.builtin "isinstance") (rIsi K)) (by rfl) T.b_isinstance (by decide +kernel) (pa_cons (pv 0) (pa_cons (pe_bltn (v := .ty "bool") (by rfl) T.b_bool (by decide +kernel) rfl) pa_nil)))) (pe_one (pe_chain op_leU op_leU (pe_un un_neg0 (pe_op op_pow0 pe_int pe_int)) (pv 0) (pe_op op_pow0 pe_int pe_int))))))), ?_⟩
  refine enter3 (m := 0) h rfl (fun M3 c3 A3 H3 => (s3_ret (e3_andV (e3_cb c3_isiK (a3_cons e3_var (a3_cons e3_c a3_nil))) (e3_andV (e3_notV (e3_cb c3_isiK (a3_cons e3_var (a3_cons e3_c a3_nil)))) (e3_chain O3_le O3_le (e3_un U3_neg (e3_op O3_pow e3_c e3_c)) e3_var (e3_op O3_pow e3_c e3_c)))))) (fun ds Q3 X3 hn hp => ?_)
  obtain ⟨x, rfl, hf, q⟩ := hp
  cases x with
  | non => walk_at "g3"; exact q
  | bl b => walk_at "g3"; exact q
  | str x => walk_at "g3"; exact q
  | int i =>
    walk_at "g3"
    refine k_dec (fun e1 => ?_) (fun e1 => ?_)
    · walk_at "g3"
      have e : isNumD (.int i) = decide (i ≤ 1000000000000) := decide_eq_decide.mpr ⟨fun z => z.2, fun z => ⟨e1, z⟩⟩
      rw [e] at q
      exact q
    · walk_at "g3"
      have e : isNumD (.int i) = false := decide_eq_false fun z => e1 z.1
      rw [e] at q
      exact q
  | _ => exact hf.elim
abbrev N__law_first_double : List Str := ["_law_items", "_law_k"]
theorem sc__law_first_double : FnScope N__law_first_double ["_law_items"] (defScope s__law_first_double) := ⟨rfl, rfl, rfl, by decide +kernel, rfl, by decide +kernel, by decide +kernel⟩
set_option maxHeartbeats 4000000 in
theorem D_law_first_double  (T : Txt K mg) (B : TxtB K mg base) : Def P w K mg base CX0 (1) "_law_first_double" s__law_first_double ["_law_items"] (Lift3 K (TT K) 1 qFirstDouble) := by
  obtain ⟨f, fd, m, F⟩ := T.f__law_first_double.ex
  refine ⟨f, fd, m, F.kp, F.bindsN (ps := ["_law_items"]) (fun _ _ _ _ _ _ us hl => match us, hl with | [_], _ => rfl), ?_, F⟩
  refine F.ok (CX := CX0) sc__law_first_double lift_len (fun cdv A outer s H vs Q E hr h => ?_)
  refine ⟨_, PSs.nox (pss_cons (ps_for PassesOwn.never rfl (pi_range1 (by rfl) T.b_range (pa_cons (pe_callB (call_lenU : CallR _ (.builtin "len") (rLenU K)) (by rfl) T.b_len (by decide +kernel) (pa_cons (pv 0) pa_nil)) pa_nil)) (pg_name (i := 1) sc__law_first_double.nd rfl (Or.inl rfl)) (pss_one (ps_if (pt_cmpR (op_inU : OpR _ (compareOp .In) (rInU K)) (pe_ix (ix_U : IxR _ (rIx K)) (pv 0) (pv 1) (fun _ _ => rfl)) (pe_slice sl_list (pv 0) po_none (po_some (pv 1))) (by rfl)) (pss_one (ps_ret (pe_ix (ix_U : IxR _ (rIx K)) (pv 0) (pv 1) (fun _ _ => rfl)))) pss_nil)))
      (pss_one (ps_ret pe_non))), ?_⟩
  refine enter3 (m := 1) h rfl (fun M3 c3 A3 H3 => (s3_seq (s3_for (i3_r1 (a3_cons (e3_cb C3_len (a3_cons e3_var a3_nil)) a3_nil)) g3_name (s3_if (t3_test (e3_op O3_in (e3_op O3_ix e3_var e3_var) (e3_fresh (f3_sl SLF_L e3_var p3_none (p3_part e3_var))))) (s3_ret (e3_op O3_ix e3_var e3_var)) s3_next))
      (s3_ret e3_c))) (fun ds Q3 X3 hn hp => ?_)
  obtain ⟨xs, rfl, hl, q⟩ := hp
  walk_at "g3"
  rw [List.length_map]
  refine k_r1 (by omega) ?_
  rw [rg_toNat]
  refine for3_inv (fun k : Nat => D.int (k : Int)) (fun pre S => ∃ o, S = [some (.d (.lst (xs.map D.str))), o] ∧ dupS [] xs = dupS (xs.take pre.length) (xs.drop pre.length)) (List.range xs.length) _ [] _ rfl ⟨none, rfl, rfl⟩ (fun pre k post S nx e hI h => ?_) (fun S hI => ?_)
  · obtain ⟨o, rfl, hI⟩ := hI
    obtain ⟨hk1, hk⟩ := range_at e
    obtain ⟨x, hx, ax, gx⟩ := at_str (ps := xs) (i := (k : Int)) (by omega) (by omega)
    walk_at "g3"
    refine k_ixL ax ?_
    walk_at "g3"
    rw [cutD_to (by omega)]
    rw [Int.toNat_natCast] at gx ⊢
    rw [← List.map_take]
    walk_at "g3"
    refine k_inSL ?_
    have ed : xs.drop pre.length = x :: xs.drop (pre.length + 1) := by
      rw [← hk1]
      obtain ⟨l1, g1⟩ := List.getElem?_eq_some_iff.mp gx
      rw [List.drop_eq_getElem_cons l1, g1]
    have et : xs.take (pre ++ [k]).length = xs.take pre.length ++ [x] := by
      rw [List.length_append, List.length_singleton, List.take_add_one, ← hk1, gx]
      rfl
    walk_at "g3"
    refine k_dec (fun z => ?_) (fun z => ?_)
    · walk_at "g3"
      refine k_ixL ax ?_
      walk_at "g3"
      have : dupS [] xs = some x := by
        rw [hI, ed]
        unfold dupS
        rw [if_pos (by rw [← hk1]; exact z)]
      rw [this] at q
      exact q
    · walk_at "g3"
      refine h _ ⟨_, rfl, ?_⟩
      rw [hI, ed, et, List.length_append, List.length_singleton]
      conv => lhs; unfold dupS
      rw [if_neg (by rw [← hk1]; exact z)]
  · obtain ⟨o, rfl, hI⟩ := hI
    walk_at "g3"
    rw [List.length_range, List.drop_length] at hI
    rw [hI] at q
    exact q
end
end Q
namespace Q
open PySem PySem.Spec PyProof.Rows L2
section
variable {P : Program} {w : World} {K : PySem.W.Frag} {mg : Str → Option Value} {base : Heap}
abbrev N__law_stranger : List Str := ["_law_store_here", "_law_used", "_law_name_here", "_law_kind"]
theorem sc__law_stranger : FnScope N__law_stranger ["_law_store_here", "_law_used"] (defScope s__law_stranger) := ⟨rfl, rfl, rfl, by decide +kernel, rfl, by decide +kernel, by decide +kernel⟩
set_option maxHeartbeats 4000000 in
theorem D_law_stranger  (T : Txt K mg) (B : TxtB K mg base) : Def P w K mg base CX0 (5) "_law_stranger" s__law_stranger ["_law_store_here", "_law_used"] (Lift3 K (TT K) 2 qStranger) := by
  obtain ⟨f, fd, m, F⟩ := T.f__law_stranger.ex
  refine ⟨f, fd, m, F.kp, F.bindsN (ps := ["_law_store_here", "_law_used"]) (fun _ _ _ _ _ _ us hl => match us, hl with | [_, _], _ => rfl), ?_, F⟩
  obtain ⟨f_law_bad_name, fd_law_bad_name, m_law_bad_name, kp_law_bad_name, b_law_bad_name, G_law_bad_name, F_law_bad_name⟩ := (D_law_bad_name_3 (P := P) (w := w) (base := base) T B).ex
  obtain ⟨f_law_name, fd_law_name, m_law_name, kp_law_name, b_law_name, G_law_name, F_law_name⟩ := (D_law_name_3 (P := P) (w := w) (base := base) T B).ex
  obtain ⟨f_law_pick, fd_law_pick, m_law_pick, kp_law_pick, b_law_pick, G_law_pick, F_law_pick⟩ := (D_law_pick_3 (P := P) (w := w) (base := base) T B).ex
  obtain ⟨f_law_take, fd_law_take, m_law_take, kp_law_take, b_law_take, G_law_take, F_law_take⟩ := (D_law_take_3 (P := P) (w := w) (base := base) T B).ex
  obtain ⟨f_law_unused, fd_law_unused, m_law_unused, kp_law_unused, b_law_unused, G_law_unused, F_law_unused⟩ := (D_law_unused (P := P) (w := w) (base := base) T B).ex
  refine F.ok (CX := CX0) sc__law_stranger lift_len (fun cdv A outer s H vs Q E hr h => ?_)
  refine ⟨_, PSs.nox (pss_cons (ps_set (i := 2) sc__law_stranger.nd rfl (Or.inl rfl) (pe_call G_law_name (hr.mono (by first | decide | omega)) (by rfl) m_law_name kp_law_name b_law_name .nil pass0 (pa_cons (pv 0) pa_nil)))
      (pss_cons (ps_set (i := 3) sc__law_stranger.nd rfl (Or.inl rfl) (pe_call G_law_take (hr.mono (by first | decide | omega)) (by rfl) m_law_take kp_law_take b_law_take .nil pass0 (pa_cons (pv 0) (pa_cons pe_int pa_nil))))
      (pss_cons (ps_if (pt_cmpR (op_eqP hr.units : OpR _ (compareOp .Eq) (rEqP K)) (pv 3) pe_int (nomark _)) (pss_one (ps_set (i := 2) sc__law_stranger.nd rfl (Or.inl rfl) (pe_call G_law_bad_name (hr.mono (by first | decide | omega)) (by rfl) m_law_bad_name kp_law_bad_name b_law_bad_name .nil pass0 (pa_cons (pv 0) pa_nil)))) pss_nil)
      (pss_cons (ps_if (PW.pt (pw_and (pt_cmpR (op_eqP hr.units : OpR _ (compareOp .Eq) (rEqP K)) (pv 3) pe_int (nomark _)) (pw_and1 (pt_cmpR op_gtU (pe_callB (call_lenU : CallR _ (.builtin "len") (rLenU K)) (by rfl) T.b_len (by decide +kernel) (pa_cons (pv 1) pa_nil)) pe_int (nomark _))))) (pss_one (ps_set (i := 2) sc__law_stranger.nd rfl (Or.inl rfl) (pe_op (op_addU : OpR _ (binaryOp .Add) (rAddU K)) (pe_call G_law_pick (hr.mono (by first | decide | omega)) (by rfl) m_law_pick kp_law_pick b_law_pick .nil pass0 (pa_cons (pv 0) (pa_cons (pv 1) pa_nil))) (pe_call G_law_pick (hr.mono (by first | decide | omega)) (by rfl) m_law_pick kp_law_pick b_law_pick .nil pass0 (pa_cons (pv 0) (pa_cons pe_str pa_nil)))))) pss_nil)
      (pss_cons (ps_if (pt_cmpR (op_inU : OpR _ (compareOp .In) (rInU K)) (pv 2) (pv 1) (by rfl)) (pss_one (ps_ret (pe_call G_law_unused (hr.mono (by first | decide | omega)) (by rfl) m_law_unused kp_law_unused b_law_unused .nil pass0 (pa_cons (pv 1) pa_nil)))) pss_nil)
      (pss_one (ps_ret (pv 2)))))))), ?_⟩
  refine enter3 (m := 2) h rfl (fun M3 c3 A3 H3 => (s3_seq (s3_set (e3_call0 (a3_cons e3_var a3_nil) defs_nil) g3_name)
      (s3_seq (s3_set (e3_call0 (a3_cons e3_var (a3_cons e3_c a3_nil)) defs_nil) g3_name)
      (s3_seq (s3_if (t3_test (e3_op O3_eq e3_var e3_c)) (s3_set (e3_call0 (a3_cons e3_var a3_nil) defs_nil) g3_name) s3_next)
      (s3_seq (s3_if (t3_and (t3_test (e3_op O3_eq e3_var e3_c)) (t3_test (e3_op O3_gt (e3_cb C3_len (a3_cons e3_var a3_nil)) e3_c))) (s3_set (e3_op O3_add (e3_call0 (a3_cons e3_var (a3_cons e3_var a3_nil)) defs_nil) (e3_call0 (a3_cons e3_var (a3_cons e3_c a3_nil)) defs_nil)) g3_name) s3_next)
      (s3_seq (s3_if (t3_test (e3_op O3_in e3_var e3_var)) (s3_ret (e3_call0 (a3_cons e3_var a3_nil) defs_nil)) s3_next)
      (s3_ret e3_var))))))) (fun ds Q3 X3 hn hp => ?_)
  obtain ⟨us, n, rfl, hu, hul, n20, n80, q⟩ := hp
  have lx : ∀ x : Str, isNm x = true → x.length ≤ n + 1 := fun x hx => by
    have := nm_len hx
    omega
  walk_at "g3"
  refine ⟨rfl, fun x hx l1 l8 => ?_⟩
  walk_at "g3"
  refine k_take (by decide) (by decide) fun r r0 r1 => ?_
  walk_at "g4"
  refine k_dec (fun e1 => ?_) (fun e1 => ?_)
  · walk_at "g3"
    refine ⟨rfl, fun y y0 y20 => ?_⟩
    walk_at "g4"
    refine k_inSL ?_
    walk_at "g3"
    refine k_dec (fun z => ?_) (fun z => ?_)
    · walk_at "g3"
      refine ⟨us, rfl, by omega, fun x hx _ => ?_⟩
      walk_at "g3"
      exact q x (lx x hx)
    · walk_at "g3"
      exact q y (by omega)
  · walk_at "g4"
    refine k_dec (fun e2 => ?_) (fun e2 => ?_)
    · walk_at "g3"
      refine k_dec (fun e3 => ?_) (fun e3 => ?_)
      · rw [List.length_map] at e3
        walk_at "g3"
        refine k_pickL (by omega) (by omega) fun y hy => ?_
        have := hul y hy
        walk_at "g3"
        refine k_pickZ (by decide +kernel) (by decide +kernel) fun c hc => ?_
        have ly : (y ++ c).length ≤ n + 1 := by rw [length_append]; omega
        walk_at "g3"
        refine k_inSL ?_
        walk_at "g3"
        refine k_dec (fun z => ?_) (fun z => ?_)
        · walk_at "g3"
          refine ⟨us, rfl, by omega, fun x hx _ => ?_⟩
          walk_at "g3"
          exact q x (lx x hx)
        · walk_at "g3"
          exact q _ ly
      · walk_at "g3"
        refine k_inSL ?_
        walk_at "g3"
        refine k_dec (fun z => ?_) (fun z => ?_)
        · walk_at "g3"
          refine ⟨us, rfl, by omega, fun x hx _ => ?_⟩
          walk_at "g3"
          exact q x (lx x hx)
        · walk_at "g3"
          exact q _ (lx x hx)
    · walk_at "g3"
      refine k_inSL ?_
      walk_at "g3"
      refine k_dec (fun z => ?_) (fun z => ?_)
      · walk_at "g3"
        refine ⟨us, rfl, by omega, fun x hx _ => ?_⟩
        walk_at "g3"
        exact q x (lx x hx)
      · walk_at "g3"
        exact q _ (lx x hx)
abbrev N__law_web_due : List Str := ["_law_nodes", "_law_edges_here", "_law_posts", "_law_labels", "_law_edge", "_law_name_here", "_law_values", "_law_value", "_law_told", "_law_end", "_law_node"]
theorem sc__law_web_due : FnScope N__law_web_due ["_law_nodes", "_law_edges_here"] (defScope s__law_web_due) := ⟨rfl, rfl, rfl, by decide +kernel, rfl, by decide +kernel, by decide +kernel⟩
set_option maxHeartbeats 4000000 in
theorem D_law_web_due  (T : Txt K mg) (B : TxtB K mg base) : Def P w K mg base CX0 (2) "_law_web_due" s__law_web_due ["_law_nodes", "_law_edges_here"] (Lift3 K (TT K) 2 qWebDue) := by
  obtain ⟨f, fd, m, F⟩ := T.f__law_web_due.ex
  refine ⟨f, fd, m, F.kp, F.bindsN (ps := ["_law_nodes", "_law_edges_here"]) (fun _ _ _ _ _ _ us hl => match us, hl with | [_, _], _ => rfl), ?_, F⟩
  obtain ⟨f_law_first_double, fd_law_first_double, m_law_first_double, kp_law_first_double, b_law_first_double, G_law_first_double, F_law_first_double⟩ := (D_law_first_double (P := P) (w := w) (base := base) T B).ex
  obtain ⟨f_law_is_name, fd_law_is_name, m_law_is_name, kp_law_is_name, b_law_is_name, G_law_is_name, F_law_is_name⟩ := (D_law_is_name_3 (P := P) (w := w) (base := base) T B).ex
  obtain ⟨f_law_is_number, fd_law_is_number, m_law_is_number, kp_law_is_number, b_law_is_number, G_law_is_number, F_law_is_number⟩ := (D_law_is_number (P := P) (w := w) (base := base) T B).ex
  refine F.ok (CX := CX0) sc__law_web_due lift_len (fun cdv A outer s H vs Q E hr h => ?_)
  refine ⟨_, PSs.nox (pss_cons (ps_setLc (i := 2) (own := [("_law_node", 10)]) (g := gName 10) (tt := tYes) rfl sc__law_web_due.nd rfl rfl (sw_true rfl rfl rfl (by decide +kernel)) (pi_seq (pv 0)) (blkOk_by (own := [("_law_node", 10)]) (N := N__law_web_due) (sc := defScope s__law_web_due) (by decide +kernel)) (fun _ _ _ _ _ => (pg_name (i := 10) sc__law_web_due.nd rfl (Or.inl rfl))) (fun _ _ _ _ _ => pts_nil) (fun _ _ _ _ _ => (pe_ix (ix_U : IxR _ (rIx K)) (pv 10) pe_int (fun _ _ => rfl))))
      (pss_cons (ps_setLc (i := 3) (own := [("_law_edge", 4)]) (g := gName 4) (tt := tYes) rfl sc__law_web_due.nd rfl rfl (sw_true rfl rfl rfl (by decide +kernel)) (pi_seq (pv 1)) (blkOk_by (own := [("_law_edge", 4)]) (N := N__law_web_due) (sc := defScope s__law_web_due) (by decide +kernel)) (fun _ _ _ _ _ => (pg_name (i := 4) sc__law_web_due.nd rfl (Or.inl rfl))) (fun _ _ _ _ _ => pts_nil) (fun _ _ _ _ _ => (pe_ix (ix_U : IxR _ (rIx K)) (pv 4) pe_int (fun _ _ => rfl))))
      (pss_cons (ps_for PassesOwn.never rfl (pi_seq (pe_op (op_addU : OpR _ (binaryOp .Add) (rAddU K)) (pv 2) (pv 3))) (pg_name (i := 5) sc__law_web_due.nd rfl (Or.inl rfl)) (pss_one (ps_if (pt_not (pt_val (pe_call G_law_is_name (hr.mono (by first | decide | omega)) (by rfl) m_law_is_name kp_law_is_name b_law_is_name .nil pass0 (pa_cons (pv 5) pa_nil)))) (pss_one (ps_ret (pe_tup (pa_cons pe_str (pa_cons (pv 5) pa_nil))))) pss_nil)))
      (pss_cons (ps_setLc (i := 6) (own := [("_law_node", 10)]) (g := gName 10) (tt := tYes) rfl sc__law_web_due.nd rfl rfl (sw_true rfl rfl rfl (by decide +kernel)) (pi_seq (pv 0)) (blkOk_by (own := [("_law_node", 10)]) (N := N__law_web_due) (sc := defScope s__law_web_due) (by decide +kernel)) (fun _ _ _ _ _ => (pg_name (i := 10) sc__law_web_due.nd rfl (Or.inl rfl))) (fun _ _ _ _ _ => pts_nil) (fun _ _ _ _ _ => (pe_ix (ix_U : IxR _ (rIx K)) (pv 10) pe_int (fun _ _ => rfl))))
      (pss_cons (ps_for PassesOwn.never rfl (pi_seq (pv 1)) (pg_name (i := 4) sc__law_web_due.nd rfl (Or.inl rfl)) (pss_one (ps_set (i := 6) sc__law_web_due.nd rfl (Or.inl rfl) (pe_op (op_addU : OpR _ (binaryOp .Add) (rAddU K)) (pv 6) (pe_lst (pa_cons (pe_ix (ix_U : IxR _ (rIx K)) (pv 4) pe_int (fun _ _ => rfl)) (pa_cons (pe_ix (ix_U : IxR _ (rIx K)) (pv 4) pe_int (fun _ _ => rfl)) pa_nil)))))))
      (pss_cons (ps_for PassesOwn.never rfl (pi_seq (pv 6)) (pg_name (i := 7) sc__law_web_due.nd rfl (Or.inl rfl)) (pss_one (ps_if (PW.pt (pw_and (pt_cmpR op_isnot0 (pv 7) pe_non (nomark _)) (pw_and1 (pt_not (pt_val (pe_call G_law_is_number (hr.mono (by first | decide | omega)) (by rfl) m_law_is_number kp_law_is_number b_law_is_number .nil pass0 (pa_cons (pv 7) pa_nil))))))) (pss_one (ps_ret (pe_tup (pa_cons pe_str (pa_cons (pv 7) pa_nil))))) pss_nil)))
      (pss_cons (ps_for PassesOwn.never rfl (pi_seq (pv 1)) (pg_name (i := 4) sc__law_web_due.nd rfl (Or.inl rfl)) (pss_one (ps_if (PW.pt (pw_and (pt_cmpR op_isnot0 (pe_ix (ix_U : IxR _ (rIx K)) (pv 4) pe_int (fun _ _ => rfl)) pe_non (nomark _)) (pw_and (pt_cmpR op_isnot0 (pe_ix (ix_U : IxR _ (rIx K)) (pv 4) pe_int (fun _ _ => rfl)) pe_non (nomark _)) (pw_and1 (pt_cmpR op_gtU (pe_ix (ix_U : IxR _ (rIx K)) (pv 4) pe_int (fun _ _ => rfl)) (pe_ix (ix_U : IxR _ (rIx K)) (pv 4) pe_int (fun _ _ => rfl)) (nomark _)))))) (pss_one (ps_ret (pe_tup (pa_cons pe_str (pa_cons (pe_ix (ix_U : IxR _ (rIx K)) (pv 4) pe_int (fun _ _ => rfl)) (pa_cons (pe_ix (ix_U : IxR _ (rIx K)) (pv 4) pe_int (fun _ _ => rfl)) pa_nil)))))) pss_nil)))
      (pss_cons (ps_for PassesOwn.never rfl (pi_seq (pe_lst (pa_cons (pv 2) (pa_cons (pv 3) pa_nil)))) (pg_name (i := 8) sc__law_web_due.nd rfl (Or.inl rfl)) (pss_one (ps_if (pt_cmpR op_isnot0 (pe_call G_law_first_double (hr.mono (by first | decide | omega)) (by rfl) m_law_first_double kp_law_first_double b_law_first_double .nil pass0 (pa_cons (pv 8) pa_nil)) pe_non (nomark _)) (pss_one (ps_ret (pe_tup (pa_cons pe_str (pa_cons (pe_call G_law_first_double (hr.mono (by first | decide | omega)) (by rfl) m_law_first_double kp_law_first_double b_law_first_double .nil pass0 (pa_cons (pv 8) pa_nil)) pa_nil))))) pss_nil)))
      (pss_cons (ps_for PassesOwn.never rfl (pi_seq (pv 1)) (pg_name (i := 4) sc__law_web_due.nd rfl (Or.inl rfl)) (pss_one (ps_if (pt_cmpR (op_eqP hr.units : OpR _ (compareOp .Eq) (rEqP K)) (pe_ix (ix_U : IxR _ (rIx K)) (pv 4) pe_int (fun _ _ => rfl)) (pe_ix (ix_U : IxR _ (rIx K)) (pv 4) pe_int (fun _ _ => rfl)) (nomark _)) (pss_one (ps_ret (pe_tup (pa_cons pe_str (pa_cons (pe_ix (ix_U : IxR _ (rIx K)) (pv 4) pe_int (fun _ _ => rfl)) pa_nil))))) pss_nil)))
      (pss_cons (ps_for PassesOwn.never rfl (pi_seq (pv 1)) (pg_name (i := 4) sc__law_web_due.nd rfl (Or.inl rfl)) (pss_one (ps_for PassesOwn.never rfl (pi_seq (pe_lst (pa_cons (pe_ix (ix_U : IxR _ (rIx K)) (pv 4) pe_int (fun _ _ => rfl)) (pa_cons (pe_ix (ix_U : IxR _ (rIx K)) (pv 4) pe_int (fun _ _ => rfl)) pa_nil)))) (pg_name (i := 9) sc__law_web_due.nd rfl (Or.inl rfl)) (pss_one (ps_if (pt_cmpR (op_niU : OpR _ (compareOp .NotIn) (rNiU K)) (pv 9) (pv 2) (by rfl)) (pss_one (ps_ret (pe_tup (pa_cons pe_str (pa_cons (pv 9) pa_nil))))) pss_nil)))))
      (pss_cons (ps_if (PW.pt (pw_or (pt_cmpR op_ltU (pe_callB (call_lenU : CallR _ (.builtin "len") (rLenU K)) (by rfl) T.b_len (by decide +kernel) (pa_cons (pv 0) pa_nil)) pe_int (nomark _)) (pw_or1 (pt_cmpR op_gtU (pe_callB (call_lenU : CallR _ (.builtin "len") (rLenU K)) (by rfl) T.b_len (by decide +kernel) (pa_cons (pv 0) pa_nil)) pe_int (nomark _))))) (pss_one (ps_ret (pe_tup (pa_cons pe_str (pa_cons (pe_callB (call_lenU : CallR _ (.builtin "len") (rLenU K)) (by rfl) T.b_len (by decide +kernel) (pa_cons (pv 0) pa_nil)) (pa_cons pe_int (pa_cons pe_int pa_nil))))))) pss_nil)
      (pss_cons (ps_if (pt_cmpR op_gtU (pe_callB (call_lenU : CallR _ (.builtin "len") (rLenU K)) (by rfl) T.b_len (by decide +kernel) (pa_cons (pv 1) pa_nil)) pe_int (nomark _)) (pss_one (ps_ret (pe_tup (pa_cons pe_str (pa_cons (pe_callB (call_lenU : CallR _ (.builtin "len") (rLenU K)) (by rfl) T.b_len (by decide +kernel) (pa_cons (pv 1) pa_nil)) (pa_cons pe_int (pa_cons pe_int pa_nil))))))) pss_nil)
      (pss_one (ps_ret pe_non)))))))))))))), ?_⟩
  refine enter3 (m := 9) h rfl (fun M3 c3 A3 H3 => (s3_seq (s3_set (e3_fresh (f3_lc (i3_seq e3_var) g3_name (gin_name (by decide)) t3_yes (e3_op O3_ix e3_var e3_c))) g3_name)
      (s3_seq (s3_set (e3_fresh (f3_lc (i3_seq e3_var) g3_name (gin_name (by decide)) t3_yes (e3_op O3_ix e3_var e3_c))) g3_name)
      (s3_seq (s3_for (i3_seq (e3_op O3_add e3_var e3_var)) g3_name (s3_if (t3_not (t3_b (e3_call0 (a3_cons e3_var a3_nil) defs_nil))) (s3_ret (e3_tup (a3_cons e3_c (a3_cons e3_var a3_nil)))) s3_next))
      (s3_seq (s3_set (e3_fresh (f3_lc (i3_seq e3_var) g3_name (gin_name (by decide)) t3_yes (e3_op O3_ix e3_var e3_c))) g3_name)
      (s3_seq (s3_for (i3_seq e3_var) g3_name (s3_set (e3_op O3_add e3_var (e3_fresh (f3_lst (a3_cons (e3_op O3_ix e3_var e3_c) (a3_cons (e3_op O3_ix e3_var e3_c) a3_nil))))) g3_name))
      (s3_seq (s3_for (i3_seq e3_var) g3_name (s3_if (t3_and (t3_test (e3_op O3_isnot e3_var e3_c)) (t3_not (t3_b (e3_call0 (a3_cons e3_var a3_nil) defs_nil)))) (s3_ret (e3_tup (a3_cons e3_c (a3_cons e3_var a3_nil)))) s3_next))
      (s3_seq (s3_for (i3_seq e3_var) g3_name (s3_if (t3_and (t3_test (e3_op O3_isnot (e3_op O3_ix e3_var e3_c) e3_c)) (t3_and (t3_test (e3_op O3_isnot (e3_op O3_ix e3_var e3_c) e3_c)) (t3_test (e3_op O3_gt (e3_op O3_ix e3_var e3_c) (e3_op O3_ix e3_var e3_c))))) (s3_ret (e3_tup (a3_cons e3_c (a3_cons (e3_op O3_ix e3_var e3_c) (a3_cons (e3_op O3_ix e3_var e3_c) a3_nil))))) s3_next))
      (s3_seq (s3_for (i3_seq (e3_fresh (f3_lst (a3_cons e3_var (a3_cons e3_var a3_nil))))) g3_name (s3_if (t3_test (e3_op O3_isnot (e3_call0 (a3_cons e3_var a3_nil) defs_nil) e3_c)) (s3_ret (e3_tup (a3_cons e3_c (a3_cons (e3_call0 (a3_cons e3_var a3_nil) defs_nil) a3_nil)))) s3_next))
      (s3_seq (s3_for (i3_seq e3_var) g3_name (s3_if (t3_test (e3_op O3_eq (e3_op O3_ix e3_var e3_c) (e3_op O3_ix e3_var e3_c))) (s3_ret (e3_tup (a3_cons e3_c (a3_cons (e3_op O3_ix e3_var e3_c) a3_nil)))) s3_next))
      (s3_seq (s3_for (i3_seq e3_var) g3_name (s3_for (i3_seq (e3_fresh (f3_lst (a3_cons (e3_op O3_ix e3_var e3_c) (a3_cons (e3_op O3_ix e3_var e3_c) a3_nil))))) g3_name (s3_if (t3_test (e3_op O3_ni e3_var e3_var)) (s3_ret (e3_tup (a3_cons e3_c (a3_cons e3_var a3_nil)))) s3_next)))
      (s3_seq (s3_if (t3_or (t3_test (e3_op O3_lt (e3_cb C3_len (a3_cons e3_var a3_nil)) e3_c)) (t3_test (e3_op O3_gt (e3_cb C3_len (a3_cons e3_var a3_nil)) e3_c))) (s3_ret (e3_tup (a3_cons e3_c (a3_cons (e3_cb C3_len (a3_cons e3_var a3_nil)) (a3_cons e3_c (a3_cons e3_c a3_nil)))))) s3_next)
      (s3_seq (s3_if (t3_test (e3_op O3_gt (e3_cb C3_len (a3_cons e3_var a3_nil)) e3_c)) (s3_ret (e3_tup (a3_cons e3_c (a3_cons (e3_cb C3_len (a3_cons e3_var a3_nil)) (a3_cons e3_c (a3_cons e3_c a3_nil)))))) s3_next)
      (s3_ret e3_c)))))))))))))) (fun ds Q3 X3 hn hp => ?_)
  obtain ⟨ls, bs, rfl, ok, q⟩ := hp
  have l1 := ok.l
  have l2 := ok.b
  have k := sc_due q
  rw [due_eq] at k
  clear q
  walk_at "g3"
  refine lc3_map lampRD (fun l => .str l.1) ls (fun l hl QD R h => ?_) (by omega) ?_
  · walk_at "g4"
    exact h
  walk_at "g3"
  refine lc3_map bondRD (fun b => .str b.n) bs (fun b hb QD R h => ?_) (by omega) ?_
  · walk_at "g4"
    exact h
  rw [show (ls.map fun l : LampR => D.str l.1) = (ls.map (·.1)).map D.str from by rw [List.map_map]; rfl, show (bs.map fun b : BondR => D.str b.n) = (bs.map (·.n)).map D.str from by rw [List.map_map]; rfl]
  walk_at "g3"
  rw [← List.map_append]
  refine for3_scanI (R := fun e => Q3 (.d (.tup (dueD e)))) D.str (fun S => ∃ o, S = [some (.d (.lst (ls.map lampRD))), some (.d (.lst (bs.map bondRD))), some (.d (.lst ((ls.map (·.1)).map D.str))), some (.d (.lst ((bs.map (·.n)).map D.str))), none, o, none, none, none, none, none]) erName _ _ ⟨_, rfl⟩ (fun x hx S nx hI h => ?_) ((Sc.or k).mono fun k S hI => ?_)
  · obtain ⟨o, rfl⟩ := hI
    have hx1 : x.length ≤ 100 := by
      rcases List.mem_append.mp hx with z | z
      · obtain ⟨l, hl, rfl⟩ := List.mem_map.mp z
        exact (ok.ok l hl).1
      · obtain ⟨b, hb, rfl⟩ := List.mem_map.mp z
        exact (ok.ob b hb).1
    have h' := sc_if h
    walk_at "g3"
    refine ⟨x, rfl, by omega, ?_⟩
    walk_at "g3"
    refine k_nbool (fun z => ?_) (fun z => ?_)
    · walk_at "g3"
      exact h'.2 (by rw [z]; exact fun w => nomatch w)
    · walk_at "g3"
      exact h'.1 z _ ⟨_, rfl⟩
  obtain ⟨o5, rfl⟩ := hI
  walk_at "g3"
  refine lc3_map lampRD (fun l => l.2) ls (fun l hl QD R h => ?_) (by omega) ?_
  · walk_at "g4"
    exact h
  walk_at "g3"
  have lv : ∀ pre : List BondR, (ls.map (·.2) ++ pre.flatMap fun b => [b.lo, b.hi]).length = ls.length + 2 * pre.length := fun pre => by
    rw [List.length_append, List.length_map]
    congr 1
    induction pre with
    | nil => rfl
    | cons b pre ih => rw [List.flatMap_cons, List.length_append, ih]; simp only [List.length_cons, List.length_nil]; omega
  refine for3_inv bondRD (fun pre S => ∃ o, S = [some (.d (.lst (ls.map lampRD))), some (.d (.lst (bs.map bondRD))), some (.d (.lst ((ls.map (·.1)).map D.str))), some (.d (.lst ((bs.map (·.n)).map D.str))), o, o5, some (.d (.lst (ls.map (·.2) ++ pre.flatMap fun b => [b.lo, b.hi]))), none, none, none, none]) bs bs [] _ rfl ⟨none, by rw [List.flatMap_nil, List.append_nil]⟩ (fun pre b post S nx e hI h => ?_) (fun S hI => ?_)
  · obtain ⟨o, rfl⟩ := hI
    have hl := lv pre
    have hb : pre.length ≤ 40 := by
      have := congrArg List.length e
      rw [List.length_append] at this
      omega
    walk_at "g4"
    refine k_addLL (by rw [hl]; show _ + 2 ≤ _; omega) ?_
    walk_at "g4"
    refine h _ ⟨some (.d (bondRD b)), ?_⟩
    rw [List.flatMap_append, List.flatMap_cons, List.flatMap_nil, List.append_nil, List.append_assoc]
  obtain ⟨o4, rfl⟩ := hI
  walk_at "g3"
  rw [show (ls.map (·.2) ++ bs.flatMap fun b => [b.lo, b.hi]) = (valsOf ls bs).map fun x => x from (List.map_id' _).symm]
  refine for3_scanI (R := fun e => Q3 (.d (.tup (dueD e)))) (fun x : D => x) (fun S => ∃ o, S = [some (.d (.lst (ls.map lampRD))), some (.d (.lst (bs.map bondRD))), some (.d (.lst ((ls.map (·.1)).map D.str))), some (.d (.lst ((bs.map (·.n)).map D.str))), o4, o5, some (.d (.lst ((valsOf ls bs).map fun x => x))), o, none, none, none]) erOpen _ _ ⟨_, rfl⟩ (fun x hx S nx hI h => ?_) ((Sc.or k).mono' fun hv k S hI => ?_)
  · obtain ⟨o, rfl⟩ := hI
    have hf := vals_ok ok x hx
    walk_at "g3"
    cases x with
    | non =>
      walk_at "g4"
      exact h.ok _ ⟨_, rfl⟩
    | bl c =>
      have h' := sc_if (c := isNumD (.bl c) = true) (e := ("BadNumber", [("number", .bl c)])) h
      walk_at "g4"
      refine ⟨_, rfl, hf, ?_⟩
      walk_at "g3"
      refine k_nbool (fun z => ?_) (fun z => ?_)
      · walk_at "g3"
        exact h'.2 (by rw [z]; exact fun w => nomatch w)
      · walk_at "g3"
        exact h'.1 z _ ⟨_, rfl⟩
    | int c =>
      have h' := sc_if (c := isNumD (.int c) = true) (e := ("BadNumber", [("number", .int c)])) h
      walk_at "g4"
      refine ⟨_, rfl, hf, ?_⟩
      walk_at "g3"
      refine k_nbool (fun z => ?_) (fun z => ?_)
      · walk_at "g3"
        exact h'.2 (by rw [z]; exact fun w => nomatch w)
      · walk_at "g3"
        exact h'.1 z _ ⟨_, rfl⟩
    | str c =>
      have h' := sc_if (c := isNumD (.str c) = true) (e := ("BadNumber", [("number", .str c)])) h
      walk_at "g4"
      refine ⟨_, rfl, hf, ?_⟩
      walk_at "g3"
      refine k_nbool (fun z => ?_) (fun z => ?_)
      · walk_at "g3"
        exact h'.2 (by rw [z]; exact fun w => nomatch w)
      · walk_at "g3"
        exact h'.1 z _ ⟨_, rfl⟩
    | _ => exact hf.elim
  obtain ⟨o7, rfl⟩ := hI
  have ho := vals_open hv
  generalize some (W.d (.lst ((valsOf ls bs).map fun x => x))) = o6
  clear hv
  walk_at "g3"
  refine for3_scanI (R := fun e => Q3 (.d (.tup (dueD e)))) bondRD (fun S => ∃ o, S = [some (.d (.lst (ls.map lampRD))), some (.d (.lst (bs.map bondRD))), some (.d (.lst ((ls.map (·.1)).map D.str))), some (.d (.lst ((bs.map (·.n)).map D.str))), o, o5, o6, o7, none, none, none]) (fun b => erOrder b.lo b.hi) _ _ ⟨_, rfl⟩ (fun b hb S nx hI h => ?_) ((Sc.or k).mono fun k S hI => ?_)
  · obtain ⟨o, rfl⟩ := hI
    obtain ⟨n, a, c, lo, hi⟩ := b
    have ob := ho _ hb
    rcases open_ok ob.1 with z1 | ⟨i, z1, _⟩ <;> rcases open_ok ob.2 with z2 | ⟨j, z2, _⟩ <;> (dsimp only at z1 z2; subst z1 z2)
    · walk_at "g4"
      exact h.ok _ ⟨_, rfl⟩
    · walk_at "g4"
      exact h.ok _ ⟨_, rfl⟩
    · walk_at "g4"
      exact h.ok _ ⟨_, rfl⟩
    · have h' := sc_ifn h
      walk_at "g4"
      refine k_dec (fun z => ?_) (fun z => ?_)
      · walk_at "g4"
        exact h'.2 (by omega)
      · walk_at "g4"
        exact h'.1 (by omega) _ ⟨_, rfl⟩
  obtain ⟨o4, rfl⟩ := hI
  clear ho
  walk_at "g3"
  walk_at "g3"
  refine for3_scanI (R := fun e => Q3 (.d (.tup (dueD e)))) (as := [ls.map (·.1), bs.map (·.n)]) (fun xs : List Str => D.lst (xs.map D.str)) (fun S => ∃ o, S = [some (.d (.lst (ls.map lampRD))), some (.d (.lst (bs.map bondRD))), some (.d (.lst ((ls.map (·.1)).map D.str))), some (.d (.lst ((bs.map (·.n)).map D.str))), o4, o5, o6, o7, o, none, none]) (erDup []) _ ⟨_, rfl⟩ (fun xs hx S nx hI h => ?_) ((Sc.or k).mono fun k S hI => ?_)
  · obtain ⟨o, rfl⟩ := hI
    have hx1 : xs.length ≤ 1000 := by
      simp only [List.mem_cons, List.not_mem_nil, or_false] at hx
      rcases hx with rfl | rfl <;> rw [List.length_map] <;> omega
    have h' := sc_dup h
    walk_at "g3"
    refine ⟨xs, rfl, hx1, ?_⟩
    cases e : dupS [] xs with
    | none =>
      unfold optS
      walk_at "g3"
      exact h'.1 e _ ⟨_, rfl⟩
    | some x =>
      unfold optS
      walk_at "g3"
      refine ⟨xs, rfl, hx1, ?_⟩
      rw [e]
      unfold optS
      walk_at "g3"
      exact h'.2 x e
  obtain ⟨o8, rfl⟩ := hI
  walk_at "g3"
  refine for3_scanI (R := fun e => Q3 (.d (.tup (dueD e)))) bondRD (fun S => ∃ o, S = [some (.d (.lst (ls.map lampRD))), some (.d (.lst (bs.map bondRD))), some (.d (.lst ((ls.map (·.1)).map D.str))), some (.d (.lst ((bs.map (·.n)).map D.str))), o, o5, o6, o7, o8, none, none]) erSelf _ _ ⟨_, rfl⟩ (fun b hb S nx hI h => ?_) ((Sc.or k).mono fun k S hI => ?_)
  · obtain ⟨o, rfl⟩ := hI
    have h' := sc_ifn h
    walk_at "g4"
    refine k_dec (fun z => ?_) (fun z => ?_)
    · walk_at "g4"
      exact h'.2 z
    · walk_at "g4"
      exact h'.1 z _ ⟨_, rfl⟩
  obtain ⟨o4, rfl⟩ := hI
  walk_at "g3"
  refine for3_scanI (R := fun e => Q3 (.d (.tup (dueD e)))) bondRD (fun S => ∃ o o', S = [some (.d (.lst (ls.map lampRD))), some (.d (.lst (bs.map bondRD))), some (.d (.lst ((ls.map (·.1)).map D.str))), some (.d (.lst ((bs.map (·.n)).map D.str))), o, o5, o6, o7, o8, o', none]) (fun b => ([b.a, b.b] : List Str).findSome? fun x : Str => erKnown x (ls.map (·.1))) _ _ ⟨_, _, rfl⟩ (fun b hb S nx hI h => ?_) ((Sc.or k).mono fun k S hI => ?_)
  · obtain ⟨o, o', rfl⟩ := hI
    walk_at "g4"
    walk_at "g3"
    refine for3_scanI (R := fun e => Q3 (.d (.tup (dueD e)))) (as := [b.a, b.b]) D.str (fun S => ∃ o', S = [some (.d (.lst (ls.map lampRD))), some (.d (.lst (bs.map bondRD))), some (.d (.lst ((ls.map (·.1)).map D.str))), some (.d (.lst ((bs.map (·.n)).map D.str))), some (.d (bondRD b)), o5, o6, o7, o8, o', none]) (fun x => erKnown x (ls.map (·.1))) _ ⟨_, rfl⟩ (fun x hx S nx hI h => ?_) (h.mono fun h S hI => ?_)
    · obtain ⟨o', rfl⟩ := hI
      have h' := sc_if h
      walk_at "g3"
      refine k_niSL ?_
      walk_at "g3"
      refine k_ndec (fun z => ?_) (fun z => ?_)
      · walk_at "g3"
        exact h'.2 z
      · walk_at "g3"
        exact h'.1 z _ ⟨_, rfl⟩
    · obtain ⟨o', rfl⟩ := hI
      walk_at "g3"
      exact h _ ⟨_, _, rfl⟩
  obtain ⟨o4, o9, rfl⟩ := hI
  have k1 := sc_ifn (Sc.or k)
  walk_at "g3"
  rw [List.length_map]
  refine k_dec (fun z => ?_) (fun z => ?_)
  · walk_at "g3"
    rw [List.length_map]
    walk_at "g3"
    exact k1.2 (.inl (by omega))
  walk_at "g3"
  rw [List.length_map]
  refine k_dec (fun z2 => ?_) (fun z2 => ?_)
  · walk_at "g3"
    rw [List.length_map]
    walk_at "g3"
    exact k1.2 (.inr (by omega))
  have k2 := sc_ifn (k1.1 (by omega))
  walk_at "g3"
  rw [List.length_map]
  refine k_dec (fun z3 => ?_) (fun z3 => ?_)
  · walk_at "g3"
    rw [List.length_map]
    walk_at "g3"
    exact k2.2 (.inr (by omega))
  walk_at "g3"
  exact k2.1 (by omega)
end
end Q
namespace Q
open PySem PySem.Spec PyProof.Rows L2
section
variable {P : Program} {w : World} {K : PySem.W.Frag} {mg : Str → Option Value} {base : Heap}
abbrev N__law_bent_edge : List Str := ["_law_store_here", "_law_edges_here", "_law_spot", "_law_pool", "_law_kind", "_law_row", "_law_side"]
theorem sc__law_bent_edge : FnScope N__law_bent_edge ["_law_store_here", "_law_edges_here", "_law_spot", "_law_pool", "_law_kind"] (defScope s__law_bent_edge) := ⟨rfl, rfl, rfl, by decide +kernel, rfl, by decide +kernel, by decide +kernel⟩
set_option maxHeartbeats 4000000 in
theorem D_law_bent_edge  (T : Txt K mg) (B : TxtB K mg base) : Def P w K mg base CX0 (6) "_law_bent_edge" s__law_bent_edge ["_law_store_here", "_law_edges_here", "_law_spot", "_law_pool", "_law_kind"] (Lift3 K (TT K) 5 qBentEdge) := by
  obtain ⟨f, fd, m, F⟩ := T.f__law_bent_edge.ex
  refine ⟨f, fd, m, F.kp, F.bindsN (ps := ["_law_store_here", "_law_edges_here", "_law_spot", "_law_pool", "_law_kind"]) (fun _ _ _ _ _ _ us hl => match us, hl with | [_, _, _, _, _], _ => rfl), ?_, F⟩
  obtain ⟨f_law_bad_name, fd_law_bad_name, m_law_bad_name, kp_law_bad_name, b_law_bad_name, G_law_bad_name, F_law_bad_name⟩ := (D_law_bad_name_3 (P := P) (w := w) (base := base) T B).ex
  obtain ⟨f_law_bad_number, fd_law_bad_number, m_law_bad_number, kp_law_bad_number, b_law_bad_number, G_law_bad_number, F_law_bad_number⟩ := (D_law_bad_number_3 (P := P) (w := w) (base := base) T B).ex
  obtain ⟨f_law_clamped, fd_law_clamped, m_law_clamped, kp_law_clamped, b_law_clamped, G_law_clamped, F_law_clamped⟩ := (D_law_clamped_3 (P := P) (w := w) (base := base) T B).ex
  obtain ⟨f_law_near, fd_law_near, m_law_near, kp_law_near, b_law_near, G_law_near, F_law_near⟩ := (D_law_near_3 (P := P) (w := w) (base := base) T B).ex
  obtain ⟨f_law_pick, fd_law_pick, m_law_pick, kp_law_pick, b_law_pick, G_law_pick, F_law_pick⟩ := (D_law_pick_3 (P := P) (w := w) (base := base) T B).ex
  obtain ⟨f_law_stranger, fd_law_stranger, m_law_stranger, kp_law_stranger, b_law_stranger, G_law_stranger, F_law_stranger⟩ := (D_law_stranger (P := P) (w := w) (base := base) T B).ex
  obtain ⟨f_law_take, fd_law_take, m_law_take, kp_law_take, b_law_take, G_law_take, F_law_take⟩ := (D_law_take_3 (P := P) (w := w) (base := base) T B).ex
  refine F.ok (CX := CX0) sc__law_bent_edge lift_len (fun cdv A outer s H vs Q E hr h => ?_)
  refine ⟨_, PSs.nox (pss_cons (ps_set (i := 5) sc__law_bent_edge.nd rfl (Or.inl rfl) (pe_callTy (call_list0 : CallR _ (.type "list") (rList0 K)) (by rfl) T.b_list (by decide +kernel) (pa_cons (pe_ix (ix_U : IxR _ (rIx K)) (pv 1) (pv 2) (fun _ _ => rfl)) pa_nil)))
      (pss_cons (ps_if (pt_cmpR (op_eqP hr.units : OpR _ (compareOp .Eq) (rEqP K)) (pv 4) pe_int (nomark _)) (pss_one (ps_asg (pe_call G_law_bad_name (hr.mono (by first | decide | omega)) (by rfl) m_law_bad_name kp_law_bad_name b_law_bad_name .nil pass0 (pa_cons (pv 0) pa_nil)) (pg_sub (pv 5) pe_int set_list))) pss_nil)
      (pss_cons (ps_if (pt_cmpR (op_eqP hr.units : OpR _ (compareOp .Eq) (rEqP K)) (pv 4) pe_int (nomark _)) (pss_one (ps_asg (pe_call G_law_bad_number (hr.mono (by first | decide | omega)) (by rfl) m_law_bad_number kp_law_bad_number b_law_bad_number .nil pass0 (pa_cons (pv 0) (pa_cons pe_bl pa_nil))) (pg_sub (pv 5) (pe_op (op_addU : OpR _ (binaryOp .Add) (rAddU K)) pe_int (pe_call G_law_take (hr.mono (by first | decide | omega)) (by rfl) m_law_take kp_law_take b_law_take .nil pass0 (pa_cons (pv 0) (pa_cons pe_int pa_nil)))) set_list))) pss_nil)
      (pss_cons (ps_if (pt_cmpR (op_eqP hr.units : OpR _ (compareOp .Eq) (rEqP K)) (pv 4) pe_int (nomark _)) (pss_cons (ps_asg (pe_call G_law_clamped (hr.mono (by first | decide | omega)) (by rfl) m_law_clamped kp_law_clamped b_law_clamped .nil pass0 (pa_cons (pe_op (op_addU : OpR _ (binaryOp .Add) (rAddU K)) (pe_call G_law_near (hr.mono (by first | decide | omega)) (by rfl) m_law_near kp_law_near b_law_near .nil pass0 (pa_cons (pv 0) (pa_cons (pv 3) pa_nil))) pe_int) pa_nil)) (pg_sub (pv 5) pe_int set_list))
      (pss_one (ps_asg (pe_call G_law_clamped (hr.mono (by first | decide | omega)) (by rfl) m_law_clamped kp_law_clamped b_law_clamped .nil pass0 (pa_cons (pe_op op_sub0 (pe_op op_sub0 (pe_ix (ix_U : IxR _ (rIx K)) (pv 5) pe_int (fun _ _ => rfl)) pe_int) (pe_call G_law_take (hr.mono (by first | decide | omega)) (by rfl) m_law_take kp_law_take b_law_take .nil pass0 (pa_cons (pv 0) (pa_cons pe_int pa_nil)))) pa_nil)) (pg_sub (pv 5) pe_int set_list)))) pss_nil)
      (pss_cons (ps_if (pt_cmpR (op_eqP hr.units : OpR _ (compareOp .Eq) (rEqP K)) (pv 4) pe_int (nomark _)) (pss_one (ps_asg (pe_ix (ix_U : IxR _ (rIx K)) (pe_call G_law_pick (hr.mono (by first | decide | omega)) (by rfl) m_law_pick kp_law_pick b_law_pick .nil pass0 (pa_cons (pv 0) (pa_cons (pv 1) pa_nil))) pe_int (fun _ _ => rfl)) (pg_sub (pv 5) pe_int set_list))) pss_nil)
      (pss_cons (ps_if (pt_cmpR (op_eqP hr.units : OpR _ (compareOp .Eq) (rEqP K)) (pv 4) pe_int (nomark _)) (pss_cons (ps_set (i := 6) sc__law_bent_edge.nd rfl (Or.inl rfl) (pe_op (op_addU : OpR _ (binaryOp .Add) (rAddU K)) pe_int (pe_call G_law_take (hr.mono (by first | decide | omega)) (by rfl) m_law_take kp_law_take b_law_take .nil pass0 (pa_cons (pv 0) (pa_cons pe_int pa_nil)))))
      (pss_one (ps_asg (pe_call G_law_pick (hr.mono (by first | decide | omega)) (by rfl) m_law_pick kp_law_pick b_law_pick .nil pass0 (pa_cons (pv 0) (pa_cons (pe_lst (pa_cons (pe_call G_law_stranger (hr.mono (by first | decide | omega)) (by rfl) m_law_stranger kp_law_stranger b_law_stranger .nil pass0 (pa_cons (pv 0) (pa_cons (pe_lst (pa_cons (pe_ix (ix_U : IxR _ (rIx K)) (pv 5) pe_int (fun _ _ => rfl)) (pa_cons (pe_ix (ix_U : IxR _ (rIx K)) (pv 5) pe_int (fun _ _ => rfl)) pa_nil))) pa_nil))) (pa_cons (pe_ix (ix_U : IxR _ (rIx K)) (pv 5) (pe_op op_sub0 pe_int (pv 6)) (fun _ _ => rfl)) pa_nil))) pa_nil))) (pg_sub (pv 5) (pv 6) set_list)))) pss_nil)
      (pss_one (ps_ret (pe_tup (pa_cons (pe_ix (ix_U : IxR _ (rIx K)) (pv 5) pe_int (fun _ _ => rfl)) (pa_cons (pe_ix (ix_U : IxR _ (rIx K)) (pv 5) pe_int (fun _ _ => rfl)) (pa_cons (pe_ix (ix_U : IxR _ (rIx K)) (pv 5) pe_int (fun _ _ => rfl)) (pa_cons (pe_ix (ix_U : IxR _ (rIx K)) (pv 5) pe_int (fun _ _ => rfl)) (pa_cons (pe_ix (ix_U : IxR _ (rIx K)) (pv 5) pe_int (fun _ _ => rfl)) pa_nil)))))))))))))), ?_⟩
  refine enter3 (m := 2) h rfl (fun M3 c3 A3 H3 => (s3_seq (s3_own (f3_cb FC3_list (a3_cons (e3_op O3_ix e3_var e3_var) a3_nil)))
      (s3_seq (s3_if (t3_test (e3_op O3_eq e3_var e3_c)) (s3_setL (e3_call0 (a3_cons e3_var a3_nil) defs_nil) e3_c) s3_next)
      (s3_seq (s3_if (t3_test (e3_op O3_eq e3_var e3_c)) (s3_setL (e3_call0 (a3_cons e3_var (a3_cons e3_c a3_nil)) defs_nil) (e3_op O3_add e3_c (e3_call0 (a3_cons e3_var (a3_cons e3_c a3_nil)) defs_nil))) s3_next)
      (s3_seq (s3_if (t3_test (e3_op O3_eq e3_var e3_c)) (s3_seq (s3_setL (e3_call0 (a3_cons (e3_op O3_add (e3_call0 (a3_cons e3_var (a3_cons e3_var a3_nil)) defs_nil) e3_c) a3_nil) defs_nil) e3_c)
      (s3_setL (e3_call0 (a3_cons (e3_op O3_sub (e3_op O3_sub (e3_op O3_ix e3_var e3_c) e3_c) (e3_call0 (a3_cons e3_var (a3_cons e3_c a3_nil)) defs_nil)) a3_nil) defs_nil) e3_c)) s3_next)
      (s3_seq (s3_if (t3_test (e3_op O3_eq e3_var e3_c)) (s3_setL (e3_op O3_ix (e3_call0 (a3_cons e3_var (a3_cons e3_var a3_nil)) defs_nil) e3_c) e3_c) s3_next)
      (s3_seq (s3_if (t3_test (e3_op O3_eq e3_var e3_c)) (s3_seq (s3_set (e3_op O3_add e3_c (e3_call0 (a3_cons e3_var (a3_cons e3_c a3_nil)) defs_nil)) g3_name)
      (s3_setL (e3_call0 (a3_cons e3_var (a3_cons (e3_fresh (f3_lst (a3_cons (e3_call0 (a3_cons e3_var (a3_cons (e3_fresh (f3_lst (a3_cons (e3_op O3_ix e3_var e3_c) (a3_cons (e3_op O3_ix e3_var e3_c) a3_nil)))) a3_nil)) defs_nil) (a3_cons (e3_op O3_ix e3_var (e3_op O3_sub e3_c e3_var)) a3_nil)))) a3_nil)) defs_nil) e3_var)) s3_next)
      (s3_ret (e3_tup (a3_cons (e3_op O3_ix e3_var e3_c) (a3_cons (e3_op O3_ix e3_var e3_c) (a3_cons (e3_op O3_ix e3_var e3_c) (a3_cons (e3_op O3_ix e3_var e3_c) (a3_cons (e3_op O3_ix e3_var e3_c) a3_nil)))))))))))))) (fun ds Q3 X3 hn hp => ?_)
  obtain ⟨bs, k, n, ns, kind, b, rfl, hk, hb100, hraw, n20, n80, hpo, q⟩ := hp
  obtain ⟨n0, nM, nR⟩ := hpo
  have hb := hraw b (List.mem_of_getElem? hk)
  have hk2 := (List.getElem?_eq_some_iff.mp hk).1
  have ak : atI (bs.map bondRD) (k : Int) = some (bondRD b) := atI_of (by omega) (by rw [Int.toNat_natCast, List.getElem?_map, hk]; rfl)
  obtain ⟨bn, ba, bb, lo, hi⟩ := b
  obtain ⟨e1, e2, e3, e4, e5⟩ := hb
  dsimp only at e1 e2 e3 e4 e5
  have fin : ∀ (x y z : Str) (l h : D), x.length ≤ n + 1 → y.length ≤ n + 1 → z.length ≤ n + 1 → flat4 l → flat4 h → (kind = 8 ∨ kind = 9 → x = bn ∧ y = ba ∧ z = bb) → Q3 (.d (.tup [.str x, .str y, .str z, l, h])) := fun x y z l h a b c d e f => q ⟨x, y, z, l, h⟩ ⟨a, b, c, d, e⟩ f
  clear q
  walk_at "g3"
  refine k_ixL ak ?_
  unfold bondRD bondRow
  walk_at "g3"
  refine k_dec (fun h7 => ?_) (fun h7 => ?_)
  · walk_at "g4"
    refine ⟨rfl, fun x x0 x20 => ?_⟩
    walk_at "g4"
    exact fin _ _ _ _ _ (by omega) (by omega) (by omega) e4 e5 (fun z => by omega)
  walk_at "g3"
  refine k_dec (fun h8 => ?_) (fun h8 => ?_)
  · walk_at "g4"
    refine ⟨false, rfl, fun v hv _ => ?_⟩
    walk_at "g4"
    refine k_take (by decide) (by decide) fun r r0 r1 => ?_
    obtain rfl | rfl : r = 0 ∨ r = 1 := by omega
    · walk_at "g4"
      exact fin _ _ _ _ _ (by omega) (by omega) (by omega) hv e5 (fun z => ⟨rfl, rfl, rfl⟩)
    · walk_at "g4"
      exact fin _ _ _ _ _ (by omega) (by omega) (by omega) e4 hv (fun z => ⟨rfl, rfl, rfl⟩)
  walk_at "g3"
  refine k_dec (fun h9 => ?_) (fun h9 => ?_)
  · walk_at "g4"
    refine ⟨ns, rfl, n0, by omega, nR, fun i hi => ?_⟩
    walk_at "g4"
    refine ⟨_, rfl, fun r hr _ => ?_⟩
    walk_at "g4"
    refine k_take (by decide) (by decide) fun r2 r20 r21 => ?_
    walk_at "g4"
    refine ⟨_, rfl, fun r3 hr3 _ => ?_⟩
    walk_at "g4"
    exact fin _ _ _ _ _ (by omega) (by omega) (by omega) True.intro True.intro (fun z => ⟨rfl, rfl, rfl⟩)
  walk_at "g3"
  refine k_dec (fun h10 => ?_) (fun h10 => ?_)
  · walk_at "g4"
    refine k_pickL (by omega) (by omega) fun b2 hb2 => ?_
    have := (hraw b2 hb2).1
    walk_at "g4"
    exact fin _ _ _ _ _ (by omega) (by omega) (by omega) e4 e5 (fun z => by omega)
  walk_at "g3"
  refine k_dec (fun h11 => ?_) (fun h11 => ?_)
  · walk_at "g4"
    refine k_take (by decide) (by decide) fun r r0 r1 => ?_
    have hst : ∀ u ∈ [ba, bb], u.length ≤ n := fun u hu => by
      simp only [List.mem_cons, List.not_mem_nil, or_false] at hu
      rcases hu with rfl | rfl <;> assumption
    obtain rfl | rfl : r = 0 ∨ r = 1 := by omega
    · walk_at "g4"
      refine ⟨[ba, bb], n, rfl, by show 2 ≤ 50; decide, hst, n20, n80, fun x hx => ?_⟩
      walk_at "g4"
      refine k_pickL (en := D.str) (as := [x, bb]) (by show 0 < 2; decide) (by show 2 ≤ 100000; decide) fun y hy => ?_
      have hy2 : y.length ≤ n + 1 := by
        simp only [List.mem_cons, List.not_mem_nil, or_false] at hy
        rcases hy with rfl | rfl <;> omega
      walk_at "g4"
      exact fin _ _ _ _ _ (by omega) (by omega) (by omega) e4 e5 (fun z => by omega)
    · walk_at "g4"
      refine ⟨[ba, bb], n, rfl, by show 2 ≤ 50; decide, hst, n20, n80, fun x hx => ?_⟩
      walk_at "g4"
      refine k_pickL (en := D.str) (as := [x, ba]) (by show 0 < 2; decide) (by show 2 ≤ 100000; decide) fun y hy => ?_
      have hy2 : y.length ≤ n + 1 := by
        simp only [List.mem_cons, List.not_mem_nil, or_false] at hy
        rcases hy with rfl | rfl <;> omega
      walk_at "g4"
      exact fin _ _ _ _ _ (by omega) (by omega) (by omega) e4 e5 (fun z => by omega)
  · walk_at "g4"
    exact fin _ _ _ _ _ (by omega) (by omega) (by omega) e4 e5 (fun z => ⟨rfl, rfl, rfl⟩)
end
end Q
namespace Q
open PySem PySem.Spec PyProof.Rows L2
section
variable {P : Program} {w : World} {K : PySem.W.Frag} {mg : Str → Option Value} {base : Heap}
abbrev N__law_bent_web : List Str := ["_law_store_here", "_law_nodes", "_law_edges_here", "_law_pool", "_law_kind", "_law_at", "_law_posts", "_law_row", "_law_spot", "_law_labels", "_law_node", "_law_name_here", "_law_edge"]
theorem sc__law_bent_web : FnScope N__law_bent_web ["_law_store_here", "_law_nodes", "_law_edges_here", "_law_pool"] (defScope s__law_bent_web) := ⟨rfl, rfl, rfl, by decide +kernel, rfl, by decide +kernel, by decide +kernel⟩
set_option maxHeartbeats 4000000 in
theorem D_law_bent_web  (T : Txt K mg) (B : TxtB K mg base) : Def P w K mg base CX0 (7) "_law_bent_web" s__law_bent_web ["_law_store_here", "_law_nodes", "_law_edges_here", "_law_pool"] (Lift3 K (TT K) 4 qBentWeb) := by
  obtain ⟨f, fd, m, F⟩ := T.f__law_bent_web.ex
  refine ⟨f, fd, m, F.kp, F.bindsN (ps := ["_law_store_here", "_law_nodes", "_law_edges_here", "_law_pool"]) (fun _ _ _ _ _ _ us hl => match us, hl with | [_, _, _, _], _ => rfl), ?_, F⟩
  obtain ⟨f_law_bad_name, fd_law_bad_name, m_law_bad_name, kp_law_bad_name, b_law_bad_name, G_law_bad_name, F_law_bad_name⟩ := (D_law_bad_name_3 (P := P) (w := w) (base := base) T B).ex
  obtain ⟨f_law_bad_number, fd_law_bad_number, m_law_bad_number, kp_law_bad_number, b_law_bad_number, G_law_bad_number, F_law_bad_number⟩ := (D_law_bad_number_3 (P := P) (w := w) (base := base) T B).ex
  obtain ⟨f_law_bar, fd_law_bar, m_law_bar, kp_law_bar, b_law_bar, G_law_bar, F_law_bar⟩ := (D_law_bar (P := P) (w := w) (base := base) T B).ex
  obtain ⟨f_law_bent_edge, fd_law_bent_edge, m_law_bent_edge, kp_law_bent_edge, b_law_bent_edge, G_law_bent_edge, F_law_bent_edge⟩ := (D_law_bent_edge (P := P) (w := w) (base := base) T B).ex
  obtain ⟨f_law_edges, fd_law_edges, m_law_edges, kp_law_edges, b_law_edges, G_law_edges, F_law_edges⟩ := (D_law_edges (P := P) (w := w) (base := base) T B).ex
  obtain ⟨f_law_fresh_names, fd_law_fresh_names, m_law_fresh_names, kp_law_fresh_names, b_law_fresh_names, G_law_fresh_names, F_law_fresh_names⟩ := (D_law_fresh_names (P := P) (w := w) (base := base) T B).ex
  obtain ⟨f_law_pick, fd_law_pick, m_law_pick, kp_law_pick, b_law_pick, G_law_pick, F_law_pick⟩ := (D_law_pick_3 (P := P) (w := w) (base := base) T B).ex
  obtain ⟨f_law_take, fd_law_take, m_law_take, kp_law_take, b_law_take, G_law_take, F_law_take⟩ := (D_law_take_3 (P := P) (w := w) (base := base) T B).ex
  refine F.ok (CX := CX0) sc__law_bent_web lift_len (fun cdv A outer s H vs Q E hr h => ?_)
  refine ⟨_, PSs.nox (pss_cons (ps_set (i := 4) sc__law_bent_web.nd rfl (Or.inl rfl) (pe_call G_law_take (hr.mono (by first | decide | omega)) (by rfl) m_law_take kp_law_take b_law_take .nil pass0 (pa_cons (pv 0) (pa_cons pe_int pa_nil))))
      (pss_cons (ps_set (i := 1) sc__law_bent_web.nd rfl (Or.inl rfl) (pe_callTy (call_list0 : CallR _ (.type "list") (rList0 K)) (by rfl) T.b_list (by decide +kernel) (pa_cons (pv 1) pa_nil)))
      (pss_cons (ps_set (i := 2) sc__law_bent_web.nd rfl (Or.inl rfl) (pe_callTy (call_list0 : CallR _ (.type "list") (rList0 K)) (by rfl) T.b_list (by decide +kernel) (pa_cons (pv 2) pa_nil)))
      (pss_cons (ps_set (i := 5) sc__law_bent_web.nd rfl (Or.inl rfl) (pe_call G_law_take (hr.mono (by first | decide | omega)) (by rfl) m_law_take kp_law_take b_law_take .nil pass0 (pa_cons (pv 0) (pa_cons (pe_callB (call_lenU : CallR _ (.builtin "len") (rLenU K)) (by rfl) T.b_len (by decide +kernel) (pa_cons (pv 1) pa_nil)) pa_nil))))
      (pss_cons (ps_if (pt_cmpR (op_eqP hr.units : OpR _ (compareOp .Eq) (rEqP K)) (pv 4) pe_int (nomark _)) (pss_cons (ps_setLc (i := 6) (own := [("_law_node", 10)]) (g := gName 10) (tt := tYes) rfl sc__law_bent_web.nd rfl rfl (sw_true rfl rfl rfl (by decide +kernel)) (pi_seq (pv 1)) (blkOk_by (own := [("_law_node", 10)]) (N := N__law_bent_web) (sc := defScope s__law_bent_web) (by decide +kernel)) (fun _ _ _ _ _ => (pg_name (i := 10) sc__law_bent_web.nd rfl (Or.inl rfl))) (fun _ _ _ _ _ => pts_nil) (fun _ _ _ _ _ => (pe_ix (ix_U : IxR _ (rIx K)) (pv 10) pe_int (fun _ _ => rfl))))
      (pss_one (ps_set (i := 1) sc__law_bent_web.nd rfl (Or.inl rfl) (pe_op (op_addU : OpR _ (binaryOp .Add) (rAddU K)) (pv 1) (pe_lc (own := [("_law_name_here", 11)]) (g := gName 11) (tt := tYes) rfl sc__law_bent_web.nd (pi_seq (pe_call G_law_fresh_names (hr.mono (by first | decide | omega)) (by rfl) m_law_fresh_names kp_law_fresh_names b_law_fresh_names .nil pass0 (pa_cons (pv 0) (pa_cons (pe_op op_sub0 pe_int (pe_callB (call_lenU : CallR _ (.builtin "len") (rLenU K)) (by rfl) T.b_len (by decide +kernel) (pa_cons (pv 1) pa_nil))) (pa_cons (pv 6) pa_nil))))) (blkOk_by (own := [("_law_name_here", 11)]) (N := N__law_bent_web) (sc := defScope s__law_bent_web) (by decide +kernel)) (fun _ _ _ _ _ => (pg_name (i := 11) sc__law_bent_web.nd rfl (Or.inl rfl))) (fun _ _ _ _ _ => pts_nil) (fun _ _ _ _ _ => (pe_tup (pa_cons (pv 11) (pa_cons pe_non pa_nil))))))))) pss_nil)
      (pss_cons (ps_if (pt_cmpR (op_eqP hr.units : OpR _ (compareOp .Eq) (rEqP K)) (pv 4) pe_int (nomark _)) (pss_cons (ps_set (i := 1) sc__law_bent_web.nd rfl (Or.inl rfl) (pe_lst pa_nil))
      (pss_one (ps_if (pt_cmpR (op_eqP hr.units : OpR _ (compareOp .Eq) (rEqP K)) (pe_call G_law_take (hr.mono (by first | decide | omega)) (by rfl) m_law_take kp_law_take b_law_take .nil pass0 (pa_cons (pv 0) (pa_cons pe_int pa_nil))) pe_int (nomark _)) (pss_one (ps_set (i := 2) sc__law_bent_web.nd rfl (Or.inl rfl) (pe_lst pa_nil))) pss_nil))) pss_nil)
      (pss_cons (ps_if (PW.pt (pw_and (pt_cmpR op_gtU (pe_callB (call_lenU : CallR _ (.builtin "len") (rLenU K)) (by rfl) T.b_len (by decide +kernel) (pa_cons (pv 1) pa_nil)) pe_int (nomark _)) (pw_and (pt_cmpR op_gtU (pv 4) pe_int (nomark _)) (pw_and1 (pt_cmpR op_ltU (pv 4) pe_int (nomark _)))))) (pss_cons (ps_set (i := 7) sc__law_bent_web.nd rfl (Or.inl rfl) (pe_ix (ix_U : IxR _ (rIx K)) (pe_lst (pa_cons (pe_tup (pa_cons (pe_call G_law_bad_name (hr.mono (by first | decide | omega)) (by rfl) m_law_bad_name kp_law_bad_name b_law_bad_name .nil pass0 (pa_cons (pv 0) pa_nil)) (pa_cons (pe_ix (ix_U : IxR _ (rIx K)) (pe_ix (ix_U : IxR _ (rIx K)) (pv 1) (pv 5) (fun _ _ => rfl)) pe_int (fun _ _ => rfl)) pa_nil))) (pa_cons (pe_tup (pa_cons (pe_ix (ix_U : IxR _ (rIx K)) (pe_ix (ix_U : IxR _ (rIx K)) (pv 1) (pv 5) (fun _ _ => rfl)) pe_int (fun _ _ => rfl)) (pa_cons (pe_call G_law_bad_number (hr.mono (by first | decide | omega)) (by rfl) m_law_bad_number kp_law_bad_number b_law_bad_number .nil pass0 (pa_cons (pv 0) (pa_cons pe_bl pa_nil))) pa_nil))) (pa_cons (pe_tup (pa_cons (pe_ix (ix_U : IxR _ (rIx K)) (pe_call G_law_pick (hr.mono (by first | decide | omega)) (by rfl) m_law_pick kp_law_pick b_law_pick .nil pass0 (pa_cons (pv 0) (pa_cons (pv 1) pa_nil))) pe_int (fun _ _ => rfl)) (pa_cons pe_non pa_nil))) pa_nil)))) (pe_op op_sub0 (pv 4) pe_int) (fun _ _ => rfl)))
      (pss_one (ps_asg (pv 7) (pg_sub (pv 1) (pv 5) set_list)))) pss_nil)
      (pss_cons (ps_if (PW.pt (pw_and (pt_cmpR (op_eqP hr.units : OpR _ (compareOp .Eq) (rEqP K)) (pv 4) pe_int (nomark _)) (pw_and1 (pt_cmpR op_gtU (pe_callB (call_lenU : CallR _ (.builtin "len") (rLenU K)) (by rfl) T.b_len (by decide +kernel) (pa_cons (pv 1) pa_nil)) pe_int (nomark _))))) (pss_cons (ps_set (i := 8) sc__law_bent_web.nd rfl (Or.inl rfl) (pe_call G_law_take (hr.mono (by first | decide | omega)) (by rfl) m_law_take kp_law_take b_law_take .nil pass0 (pa_cons (pv 0) (pa_cons (pe_op (op_addU : OpR _ (binaryOp .Add) (rAddU K)) (pe_callB (call_lenU : CallR _ (.builtin "len") (rLenU K)) (by rfl) T.b_len (by decide +kernel) (pa_cons (pv 1) pa_nil)) pe_int) pa_nil))))
      (pss_one (ps_set (i := 1) sc__law_bent_web.nd rfl (Or.inl rfl) (pe_op (op_addU : OpR _ (binaryOp .Add) (rAddU K)) (pe_op (op_addU : OpR _ (binaryOp .Add) (rAddU K)) (pe_slice sl_list (pv 1) po_none (po_some (pv 8))) (pe_lst (pa_cons (pe_tup (pa_cons (pe_ix (ix_U : IxR _ (rIx K)) (pe_ix (ix_U : IxR _ (rIx K)) (pv 1) (pv 5) (fun _ _ => rfl)) pe_int (fun _ _ => rfl)) (pa_cons (pe_call G_law_bar (hr.mono (by first | decide | omega)) (by rfl) m_law_bar kp_law_bar b_law_bar .nil pass0 (pa_cons (pv 0) (pa_cons (pv 3) pa_nil))) pa_nil))) pa_nil))) (pe_slice sl_list (pv 1) (po_some (pv 8)) po_none))))) pss_nil)
      (pss_cons (ps_if (PW.pt (pw_and (pt_cmpR (op_eqP hr.units : OpR _ (compareOp .Eq) (rEqP K)) (pv 4) pe_int (nomark _)) (pw_and1 (pt_cmpR op_gtU (pe_callB (call_lenU : CallR _ (.builtin "len") (rLenU K)) (by rfl) T.b_len (by decide +kernel) (pa_cons (pv 1) pa_nil)) pe_int (nomark _))))) (pss_cons (ps_setLc (i := 6) (own := [("_law_node", 10)]) (g := gName 10) (tt := tYes) rfl sc__law_bent_web.nd rfl rfl (sw_true rfl rfl rfl (by decide +kernel)) (pi_seq (pv 1)) (blkOk_by (own := [("_law_node", 10)]) (N := N__law_bent_web) (sc := defScope s__law_bent_web) (by decide +kernel)) (fun _ _ _ _ _ => (pg_name (i := 10) sc__law_bent_web.nd rfl (Or.inl rfl))) (fun _ _ _ _ _ => pts_nil) (fun _ _ _ _ _ => (pe_ix (ix_U : IxR _ (rIx K)) (pv 10) pe_int (fun _ _ => rfl))))
      (pss_cons (ps_set (i := 9) sc__law_bent_web.nd rfl (Or.inl rfl) (pe_call G_law_fresh_names (hr.mono (by first | decide | omega)) (by rfl) m_law_fresh_names kp_law_fresh_names b_law_fresh_names .nil pass0 (pa_cons (pv 0) (pa_cons pe_int (pa_cons (pe_lc (own := [("_law_edge", 12)]) (g := gName 12) (tt := tYes) rfl sc__law_bent_web.nd (pi_seq (pv 2)) (blkOk_by (own := [("_law_edge", 12)]) (N := N__law_bent_web) (sc := defScope s__law_bent_web) (by decide +kernel)) (fun _ _ _ _ _ => (pg_name (i := 12) sc__law_bent_web.nd rfl (Or.inl rfl))) (fun _ _ _ _ _ => pts_nil) (fun _ _ _ _ _ => (pe_ix (ix_U : IxR _ (rIx K)) (pv 12) pe_int (fun _ _ => rfl)))) pa_nil)))))
      (pss_cons (ps_set (i := 2) sc__law_bent_web.nd rfl (Or.inl rfl) (pe_op (op_addU : OpR _ (binaryOp .Add) (rAddU K)) (pv 2) (pe_call G_law_edges (hr.mono (by first | decide | omega)) (by rfl) m_law_edges kp_law_edges b_law_edges .nil pass0 (pa_cons (pv 0) (pa_cons (pe_lst (pa_cons (pe_ix (ix_U : IxR _ (rIx K)) (pv 6) pe_int (fun _ _ => rfl)) (pa_cons (pe_ix (ix_U : IxR _ (rIx K)) (pv 6) (pe_op op_sub0 (pe_callB (call_lenU : CallR _ (.builtin "len") (rLenU K)) (by rfl) T.b_len (by decide +kernel) (pa_cons (pv 6) pa_nil)) pe_int) (fun _ _ => rfl)) pa_nil))) (pa_cons (pv 9) (pa_cons (pv 3) pa_nil)))))))
      (pss_one (ps_set (i := 2) sc__law_bent_web.nd rfl (Or.inl rfl) (pe_slice sl_list (pv 2) po_none (po_some pe_int))))))) pss_nil)
      (pss_cons (ps_if (PW.pt (pw_and (pt_cmpR op_gtU (pv 4) pe_int (nomark _)) (pw_and1 (pt_cmpR op_gtU (pe_callB (call_lenU : CallR _ (.builtin "len") (rLenU K)) (by rfl) T.b_len (by decide +kernel) (pa_cons (pv 2) pa_nil)) pe_int (nomark _))))) (pss_cons (ps_set (i := 8) sc__law_bent_web.nd rfl (Or.inl rfl) (pe_call G_law_take (hr.mono (by first | decide | omega)) (by rfl) m_law_take kp_law_take b_law_take .nil pass0 (pa_cons (pv 0) (pa_cons (pe_callB (call_lenU : CallR _ (.builtin "len") (rLenU K)) (by rfl) T.b_len (by decide +kernel) (pa_cons (pv 2) pa_nil)) pa_nil))))
      (pss_one (ps_asg (pe_call G_law_bent_edge (hr.mono (by first | decide | omega)) (by rfl) m_law_bent_edge kp_law_bent_edge b_law_bent_edge .nil pass0 (pa_cons (pv 0) (pa_cons (pv 2) (pa_cons (pv 8) (pa_cons (pv 3) (pa_cons (pv 4) pa_nil)))))) (pg_sub (pv 2) (pv 8) set_list)))) pss_nil)
      (pss_one (ps_ret (pe_lst (pa_cons (pv 1) (pa_cons (pv 2) pa_nil))))))))))))))), ?_⟩
  refine enter3 (m := 9) h rfl (fun M3 c3 A3 H3 => (s3_seq (s3_set (e3_call0 (a3_cons e3_var (a3_cons e3_c a3_nil)) defs_nil) g3_name)
      (s3_seq (s3_own (f3_cb FC3_list (a3_cons e3_var a3_nil)))
      (s3_seq (s3_own (f3_cb FC3_list (a3_cons e3_var a3_nil)))
      (s3_seq (s3_set (e3_call0 (a3_cons e3_var (a3_cons (e3_cb C3_len (a3_cons e3_var a3_nil)) a3_nil)) defs_nil) g3_name)
      (s3_seq (s3_if (t3_test (e3_op O3_eq e3_var e3_c)) (s3_seq (s3_frz (i := 1) (s3_set (e3_fresh (f3_lc (i3_seq e3_var) g3_name (gin_name (by decide)) t3_yes (e3_op O3_ix e3_var e3_c))) g3_name))
      (s3_set (e3_op O3_add e3_var (e3_fresh (f3_lc (i3_seq (e3_call0 (a3_cons e3_var (a3_cons (e3_op O3_sub e3_c (e3_cb C3_len (a3_cons e3_var a3_nil))) (a3_cons e3_var a3_nil))) defs_nil)) g3_name (gin_name (by decide)) t3_yes (e3_tup (a3_cons e3_var (a3_cons e3_c a3_nil)))))) g3_name)) s3_next)
      (s3_seq (s3_if (t3_test (e3_op O3_eq e3_var e3_c)) (s3_seq (s3_own (f3_lst a3_nil))
      (s3_if (t3_test (e3_op O3_eq (e3_call0 (a3_cons e3_var (a3_cons e3_c a3_nil)) defs_nil) e3_c)) (s3_own (f3_lst a3_nil)) s3_next)) s3_next)
      (s3_seq (s3_if (t3_and (t3_test (e3_op O3_gt (e3_cb C3_len (a3_cons e3_var a3_nil)) e3_c)) (t3_and (t3_test (e3_op O3_gt e3_var e3_c)) (t3_test (e3_op O3_lt e3_var e3_c)))) (s3_seq (s3_set (e3_op O3_ix (e3_fresh (f3_lst (a3_cons (e3_tup (a3_cons (e3_call0 (a3_cons e3_var a3_nil) defs_nil) (a3_cons (e3_op O3_ix (e3_op O3_ix e3_var e3_var) e3_c) a3_nil))) (a3_cons (e3_tup (a3_cons (e3_op O3_ix (e3_op O3_ix e3_var e3_var) e3_c) (a3_cons (e3_call0 (a3_cons e3_var (a3_cons e3_c a3_nil)) defs_nil) a3_nil))) (a3_cons (e3_tup (a3_cons (e3_op O3_ix e3_pickO e3_c) (a3_cons e3_c a3_nil))) a3_nil))))) (e3_op O3_sub e3_var e3_c)) g3_name)
      (s3_setL e3_var e3_var)) s3_next)
      (s3_seq (s3_if (t3_and (t3_test (e3_op O3_eq e3_var e3_c)) (t3_test (e3_op O3_gt (e3_cb C3_len (a3_cons e3_var a3_nil)) e3_c))) (s3_seq (s3_set (e3_call0 (a3_cons e3_var (a3_cons (e3_op O3_add (e3_cb C3_len (a3_cons e3_var a3_nil)) e3_c) a3_nil)) defs_nil) g3_name)
      (s3_set (e3_op O3_add (e3_op O3_add (e3_fresh (f3_sl SLF_L e3_var p3_none (p3_part e3_var))) (e3_fresh (f3_lst (a3_cons (e3_tup (a3_cons (e3_op O3_ix (e3_op O3_ix e3_var e3_var) e3_c) (a3_cons (e3_call0 (a3_cons e3_var (a3_cons e3_var a3_nil)) defs_nil) a3_nil))) a3_nil)))) (e3_fresh (f3_sl SLF_L e3_var (p3_part e3_var) p3_none))) g3_name)) s3_next)
      (s3_seq (s3_if (t3_and (t3_test (e3_op O3_eq e3_var e3_c)) (t3_test (e3_op O3_gt (e3_cb C3_len (a3_cons e3_var a3_nil)) e3_c))) (s3_seq (s3_frz (i := 1) (s3_set (e3_fresh (f3_lc (i3_seq e3_var) g3_name (gin_name (by decide)) t3_yes (e3_op O3_ix e3_var e3_c))) g3_name))
      (s3_seq (s3_frz (i := 2) (s3_set (e3_call0 (a3_cons e3_var (a3_cons e3_c (a3_cons (e3_fresh (f3_lc (i3_seq e3_var) g3_name (gin_name (by decide)) t3_yes (e3_op O3_ix e3_var e3_c))) a3_nil))) defs_nil) g3_name))
      (s3_seq (s3_set (e3_op O3_add e3_var (e3_call0 (a3_cons e3_var (a3_cons (e3_fresh (f3_lst (a3_cons (e3_op O3_ix e3_var e3_c) (a3_cons (e3_op O3_ix e3_var (e3_op O3_sub (e3_cb C3_len (a3_cons e3_var a3_nil)) e3_c)) a3_nil)))) (a3_cons e3_var (a3_cons e3_var a3_nil)))) defs_nil)) g3_name)
      (s3_own (f3_sl SLF_L e3_var p3_none (p3_part e3_c)))))) s3_next)
      (s3_seq (s3_if (t3_and (t3_test (e3_op O3_gt e3_var e3_c)) (t3_test (e3_op O3_gt (e3_cb C3_len (a3_cons e3_var a3_nil)) e3_c))) (s3_seq (s3_set (e3_call0 (a3_cons e3_var (a3_cons (e3_cb C3_len (a3_cons e3_var a3_nil)) a3_nil)) defs_nil) g3_name)
      (s3_setL (e3_lend (a3_cons e3_var (a3_cons e3_var (a3_cons e3_var (a3_cons e3_var (a3_cons e3_var a3_nil)))))) e3_var)) s3_next)
      (s3_frz (i := 1) (s3_frz (i := 2) (s3_retF (f3_lst (a3_cons e3_var (a3_cons e3_var a3_nil))))))))))))))))) (fun ds Q3 X3 hn hp => ?_)
  obtain ⟨ls, bs, ns, n, rfl, hr, n20, n21, hpo, q⟩ := hp
  have hpo' := hpo
  obtain ⟨n0, nM, nR⟩ := hpo'
  have hr1 : RawR (n + 1) ls bs := ⟨by have := hr.l; omega, hr.b, fun l h => (hr.ol l h).mono (by omega), fun b h => (hr.ob b h).mono (by omega)⟩
  obtain ⟨hl, hb, okl, okb⟩ := hr
  walk_at "g3"
  refine k_take (by decide) (by decide) fun kind kd0 kd1 => ?_
  walk_at "g3"
  rw [List.length_map]
  refine k_takeA (by omega) (by omega) fun at_ at0 at1 => ?_
  walk_at "g3"
  refine k_dec (fun h0 => ?_) (fun h0 => ?_)
  · walk_at "g4"
    refine lc3_map lampRD (fun l => .str l.1) ls (fun l hl QD R h => ?_) (by omega) ?_
    · walk_at "g4"
      exact h
    rw [show (ls.map fun l : LampR => D.str l.1) = (ls.map (·.1)).map D.str from by rw [List.map_map]; rfl]
    walk_at "g4"
    rw [List.length_map, show (11 : Int) - (ls.length : Int) = ((11 - ls.length : Nat) : Int) from by omega]
    refine ⟨11 - ls.length, ls.map (·.1), rfl, by omega, by rw [List.length_map]; omega, fun xs hx _ hxn => ?_⟩
    walk_at "g4"
    refine lc3_map D.str (fun x => lampRD (x, .non)) xs (fun x _ QD R h => ?_) (by omega) ?_
    · walk_at "g4"
      exact h
    walk_at "g4"
    have ee : ls.map lampRD ++ xs.map (fun x => lampRD (x, .non)) = (ls ++ xs.map fun x => ((x, .non) : LampR)).map lampRD := by rw [List.map_append, List.map_map]; rfl
    rw [ee]
    have hr2 : RawR (n + 1) (ls ++ xs.map fun x => ((x, .non) : LampR)) bs := ⟨by rw [List.length_append, List.length_map]; omega, hb, fun l hl => by
      rcases List.mem_append.mp hl with z | z
      · exact hr1.ol l z
      · obtain ⟨x, hx, rfl⟩ := List.mem_map.mp z
        exact ⟨by have := nm_len (hxn x hx).1; show x.length ≤ _; omega, True.intro⟩, hr1.ob⟩
    generalize (ls ++ xs.map fun x => ((x, .non) : LampR)) = ls2 at hr2 ⊢
    refine k_dec (fun z => ?_) (fun z => ?_)
    · walk_at "g4"
      exact q ls2 bs hr2
    · walk_at "g4"
      exact q ls2 bs hr2
  walk_at "g3"
  refine k_dec (fun h1 => ?_) (fun h1 => ?_)
  · walk_at "g4"
    refine k_take (by decide) (by decide) fun r r0 r1 => ?_
    walk_at "g3"
    have e0 : RawR (n + 1) [] [] := ⟨by show 0 + 10 ≤ _; omega, Nat.zero_le _, (fun _ z => absurd z (by simp)), fun _ z => absurd z (by simp)⟩
    have e1 : RawR (n + 1) [] bs := ⟨by show 0 + 10 ≤ _; omega, hb, (fun _ z => absurd z (by simp)), hr1.ob⟩
    refine k_dec (fun hh => ?_) (fun hh => ?_)
    · walk_at "g4"
      exact q [] [] e0
    · walk_at "g4"
      exact q [] bs e1
  walk_at "g3"
  rw [List.length_map]
  -- the rest when neither lamps nor bonds are bent any more
  refine k_dec (fun hl0 => ?_) (fun hl0 => ?_)
  · -- some lamps
    have hat : at_.toNat < ls.length := by omega
    obtain ⟨l, hgl⟩ : ∃ l, ls[at_.toNat]? = some l := ⟨_, List.getElem?_eq_getElem hat⟩
    have hgm : l ∈ ls := List.mem_of_getElem? hgl
    have al : atI (ls.map lampRD) at_ = some (lampRD l) := atI_of at0 (by rw [List.getElem?_map, hgl]; rfl)
    have hrl := okl l hgm
    walk_at "g3"
    refine k_dec (fun h2 => ?_) (fun h2 => ?_)
    · walk_at "g3"
      refine k_dec (fun h5 => ?_) (fun h5 => ?_)
      · obtain rfl | rfl | rfl : kind = 2 ∨ kind = 3 ∨ kind = 4 := by omega
        · walk_at "g3"
          refine ⟨rfl, fun x x0 x20 => ?_⟩
          walk_at "g3"
          refine k_ixO al ?_
          walk_at "g4"
          refine k_ixO al ?_
          walk_at "g4"
          refine ⟨false, rfl, fun v hv _ => ?_⟩
          walk_at "g4"
          refine ⟨rfl, _, rfl, by rw [List.length_map]; omega, by rw [List.length_map]; omega, fun y hy => ?_, fun y hy => ?_⟩
          · obtain ⟨l2, hl2, rfl⟩ := List.mem_map.mp hy
            exact flat_lampR (okl l2 hl2)
          obtain ⟨l2, hl2, rfl⟩ := List.mem_map.mp hy
          have hrl2 := okl l2 hl2
          walk_at "g4"
          refine k_setLi at0 (by rw [List.length_map]; omega) ?_
          rw [show ((ls.map lampRD).set at_.toNat (.tup [.str x, l.2])) = _ from set_lampR (l := (x, l.2))]
          have hr2 := hr1.setL (i := at_.toNat) (l := (x, l.2)) ⟨by have := hrl.1; have := hrl2.1; show Str.length x ≤ _; omega, hrl.2⟩
          walk_at "g4"
          exact q _ bs hr2
        · walk_at "g3"
          refine ⟨rfl, fun x x0 x20 => ?_⟩
          walk_at "g3"
          refine k_ixO al ?_
          walk_at "g4"
          refine k_ixO al ?_
          walk_at "g4"
          refine ⟨false, rfl, fun v hv _ => ?_⟩
          walk_at "g4"
          refine ⟨rfl, _, rfl, by rw [List.length_map]; omega, by rw [List.length_map]; omega, fun y hy => ?_, fun y hy => ?_⟩
          · obtain ⟨l2, hl2, rfl⟩ := List.mem_map.mp hy
            exact flat_lampR (okl l2 hl2)
          obtain ⟨l2, hl2, rfl⟩ := List.mem_map.mp hy
          have hrl2 := okl l2 hl2
          walk_at "g4"
          refine k_setLi at0 (by rw [List.length_map]; omega) ?_
          rw [show ((ls.map lampRD).set at_.toNat (.tup [.str l.1, v])) = _ from set_lampR (l := (l.1, v))]
          have hr2 := hr1.setL (i := at_.toNat) (l := (l.1, v)) ⟨by have := hrl.1; have := hrl2.1; show Str.length l.1 ≤ _; omega, hv⟩
          walk_at "g4"
          exact q _ bs hr2
        · walk_at "g3"
          refine ⟨rfl, fun x x0 x20 => ?_⟩
          walk_at "g3"
          refine k_ixO al ?_
          walk_at "g4"
          refine k_ixO al ?_
          walk_at "g4"
          refine ⟨false, rfl, fun v hv _ => ?_⟩
          walk_at "g4"
          refine ⟨rfl, _, rfl, by rw [List.length_map]; omega, by rw [List.length_map]; omega, fun y hy => ?_, fun y hy => ?_⟩
          · obtain ⟨l2, hl2, rfl⟩ := List.mem_map.mp hy
            exact flat_lampR (okl l2 hl2)
          obtain ⟨l2, hl2, rfl⟩ := List.mem_map.mp hy
          have hrl2 := okl l2 hl2
          walk_at "g4"
          refine k_setLi at0 (by rw [List.length_map]; omega) ?_
          rw [show ((ls.map lampRD).set at_.toNat (.tup [.str l2.1, .non])) = _ from set_lampR (l := (l2.1, .non))]
          have hr2 := hr1.setL (i := at_.toNat) (l := (l2.1, .non)) ⟨by have := hrl.1; have := hrl2.1; show Str.length l2.1 ≤ _; omega, True.intro⟩
          walk_at "g4"
          exact q _ bs hr2
      · walk_at "g3"
        refine k_dec (fun h5 => ?_) (fun h5 => ?_)
        · walk_at "g3"
          rw [List.length_map]
          refine k_dec (fun _ => ?_) (fun z => absurd hl0 z)
          walk_at "g3"
          rw [List.length_map]
          refine k_takeA (by omega) (by omega) fun sp sp0 sp1 => ?_
          walk_at "g3"
          refine k_ixO al ?_
          walk_at "g4"
          refine ⟨ns, rfl, n0, by omega, nR, fun o _ => ?_⟩
          walk_at "g4"
          rw [cutD_to sp0]
          refine k_addLL (by rw [List.length_take, List.length_map]; show _ + 1 ≤ _; omega) ?_
          walk_at "g4"
          rw [cutD_from sp0]
          refine k_addLL (by rw [List.length_append, List.length_take, List.length_drop, List.length_map]; show _ + 1 + _ ≤ _; omega) ?_
          rw [show ((ls.map lampRD).take sp.toNat ++ [.tup [.str l.1, dEnd3 o]] ++ (ls.map lampRD).drop sp.toNat) = _ from ins_lampR (l := (l.1, dEnd3 o))]
          have hr2 := RawR.ins (i := sp.toNat) (l := (l.1, dEnd3 o)) ⟨hl, hb, okl, okb⟩ ⟨by have := hrl.1; show Str.length l.1 ≤ _; omega, flat4_end o⟩
          generalize (ls.take sp.toNat ++ [((l.1, dEnd3 o) : LampR)] ++ ls.drop sp.toNat) = ls2 at hr2 ⊢
          walk_at "g4"
          exact q _ _ hr2
        walk_at "g3"
        refine k_dec (fun h7 => ?_) (fun h7 => ?_)
        · walk_at "g3"
          rw [List.length_map]
          refine k_dec (fun hl1 => ?_) (fun hl1 => ?_)
          · walk_at "g3"
            refine lc3_map lampRD (fun l => .str l.1) ls (fun l hl QD R h => ?_) (by omega) ?_
            · walk_at "g4"
              exact h
            rw [show (ls.map fun l : LampR => D.str l.1) = (ls.map (·.1)).map D.str from by rw [List.map_map]; rfl]
            walk_at "g3"
            refine lc3_map bondRD (fun b => .str b.n) bs (fun b hb QD R h => ?_) (by omega) ?_
            · walk_at "g4"
              exact h
            rw [show (bs.map fun b : BondR => D.str b.n) = (bs.map (·.n)).map D.str from by rw [List.map_map]; rfl]
            walk_at "g4"
            refine ⟨17, bs.map (·.n), rfl, by decide, by rw [List.length_map]; omega, fun xs hx _ hxn => ?_⟩
            walk_at "g4"
            have hl2 : (ls.map (·.1)).length = ls.length := List.length_map _
            obtain ⟨p0, hp0, ap0, _⟩ := at_str (ps := ls.map (·.1)) (i := 0) (by omega) (by omega)
            obtain ⟨p1, hp1, ap1, _⟩ := at_str (ps := ls.map (·.1)) (i := (ls.length : Int) - 1) (by omega) (by omega)
            refine k_ixL ap0 ?_
            walk_at "g4"
            rw [List.length_map, hl2]
            refine k_ixL ap1 ?_
            walk_at "g4"
            refine ⟨[p0, p1], xs, ns, rfl, by show 2 ≤ 20; decide, by omega, n0, by omega, nR, fun es hes hee => ?_⟩
            have lp : ∀ x ∈ ls.map (·.1), x.length ≤ n := fun x hx => by
              obtain ⟨y, hy, rfl⟩ := List.mem_map.mp hx
              exact (okl y hy).1
            have hel : es.length = 17 := by
              have := congrArg List.length hes
              rw [List.length_map] at this
              rw [this, if_pos (by show 2 ≤ 2; decide)]
              exact hx
            have her : ∀ b ∈ es.map rB, RawB (n + 1) b := fun b hb => by
              obtain ⟨e, he, rfl⟩ := List.mem_map.mp hb
              have w := hee e he
              have two : ∀ x ∈ [p0, p1], x.length ≤ n := fun x hx => by
                simp only [List.mem_cons, List.not_mem_nil, or_false] at hx
                rcases hx with rfl | rfl
                · exact lp _ hp0
                · exact lp _ hp1
              have en : e.n ∈ xs := by
                have : e.n ∈ es.map (·.n) := List.mem_map.mpr ⟨e, he, rfl⟩
                rw [hes, if_pos (by show 2 ≤ 2; decide)] at this
                exact this
              have l1 := nm_len (hxn _ en).1
              have l2 := two _ w.ka
              have l3 := two _ w.kb
              exact ⟨by show e.n.length ≤ _; omega, by show e.a.length ≤ _; omega, by show e.b.length ≤ _; omega, flat4_end _, flat4_end _⟩
            have ee : bs.map bondRD ++ es.map bondD = (bs ++ es.map rB).map bondRD := by rw [List.map_append, List.map_map]; rfl
            have hr2 := hr1.cut20 her
            walk_at "g4"
            rw [cutD_to (show (0 : Int) ≤ 20 by decide), ee, ← List.map_take]
            exact q _ _ hr2
          · walk_at "g4"
            exact q _ _ hr1
        walk_at "g3"
        refine k_dec (fun h6 => ?_) (fun h6 => ?_)
        · walk_at "g3"
          rw [List.length_map]
          refine k_dec (fun hb0 => ?_) (fun hb0 => ?_)
          · walk_at "g3"
            rw [List.length_map]
            refine k_takeA (by omega) (by omega) fun sp sp0 sp1 => ?_
            obtain ⟨j, rfl⟩ := Int.eq_ofNat_of_zero_le sp0
            have hj : j < bs.length := by omega
            obtain ⟨b, hgb⟩ : ∃ b, bs[j]? = some b := ⟨_, List.getElem?_eq_getElem hj⟩
            walk_at "g4"
            refine ⟨⟨True.intro, lend_bonds (by omega), True.intro, True.intro, True.intro, True.intro⟩, rfl, bs, j, n, ns, kind, b, rfl, hgb, by omega, okb, n20, by omega, hpo, fun b' hb' _ => ⟨_, rfl, by unfold flatU bondRD; rw [show flatT (.tup (bondRow b')) = true from flat_bondR hb', Bool.or_true], ?_⟩⟩
            walk_at "g4"
            refine k_setLi (by omega) (by rw [List.length_map]; omega) ?_
            rw [Int.toNat_natCast, set_bondR]
            walk_at "g4"
            exact q _ _ (hr1.setB hb')
          · walk_at "g4"
            exact q _ _ hr1
        · walk_at "g4"
          exact q _ _ hr1
    · exact absurd h2 (by omega)
  · walk_at "g3"
    refine k_dec (fun h5 => ?_) (fun h5 => ?_)
    · walk_at "g3"
      rw [List.length_map]
      refine k_dec (fun z => absurd z hl0) (fun _ => ?_)
      walk_at "g4"
      exact q _ _ hr1
    walk_at "g3"
    refine k_dec (fun h7 => ?_) (fun h7 => ?_)
    · walk_at "g3"
      rw [List.length_map]
      refine k_dec (fun z => absurd z (by omega)) (fun _ => ?_)
      walk_at "g4"
      exact q _ _ hr1
    walk_at "g3"
    refine k_dec (fun h6 => ?_) (fun h6 => ?_)
    · walk_at "g3"
      rw [List.length_map]
      refine k_dec (fun hb0 => ?_) (fun hb0 => ?_)
      · walk_at "g3"
        rw [List.length_map]
        refine k_takeA (by omega) (by omega) fun sp sp0 sp1 => ?_
        obtain ⟨j, rfl⟩ := Int.eq_ofNat_of_zero_le sp0
        have hj : j < bs.length := by omega
        obtain ⟨b, hgb⟩ : ∃ b, bs[j]? = some b := ⟨_, List.getElem?_eq_getElem hj⟩
        walk_at "g4"
        refine ⟨⟨True.intro, lend_bonds (by omega), True.intro, True.intro, True.intro, True.intro⟩, rfl, bs, j, n, ns, kind, b, rfl, hgb, by omega, okb, n20, by omega, hpo, fun b' hb' _ => ⟨_, rfl, by unfold flatU bondRD; rw [show flatT (.tup (bondRow b')) = true from flat_bondR hb', Bool.or_true], ?_⟩⟩
        walk_at "g4"
        refine k_setLi (by omega) (by rw [List.length_map]; omega) ?_
        rw [Int.toNat_natCast, set_bondR]
        walk_at "g4"
        exact q _ _ (hr1.setB hb')
      · walk_at "g4"
        exact q _ _ hr1
    · walk_at "g4"
      exact q _ _ hr1
end
end Q
namespace Q
open PySem PySem.Spec PyProof.Rows L2
section
variable {P : Program} {w : World} {K : PySem.W.Frag} {mg : Str → Option Value} {base : Heap}
abbrev N__law_asked : List Str := ["_law_k", "_law_nodes", "_law_edges_here", "_law_web", "_law_row", "e", "_law_more"]
theorem sc__law_asked : FnScope N__law_asked ["_law_k", "_law_nodes", "_law_edges_here"] (defScope s__law_asked) := ⟨rfl, rfl, rfl, by decide +kernel, rfl, by decide +kernel, by decide +kernel⟩
set_option maxHeartbeats 4000000 in
theorem D_law_asked  (T : Txt K mg) (B : TxtB K mg base) : Def P w K mg base CX0 (11) "_law_asked" s__law_asked ["_law_k", "_law_nodes", "_law_edges_here"] (Lift3 K (TT K) 3 qAsked7) := by
  obtain ⟨f, fd, m, F⟩ := T.f__law_asked.ex
  refine ⟨f, fd, m, F.kp, F.bindsN (ps := ["_law_k", "_law_nodes", "_law_edges_here"]) (fun _ _ _ _ _ _ us hl => match us, hl with | [_, _, _], _ => rfl), ?_, F⟩
  obtain ⟨fdWeb___init__, GWeb___init__, FWeb___init__⟩ := (DWeb___init__ (P := P) (w := w) (base := base) T B).ex
  obtain ⟨ds_Web___init___2, vd0, bd_Web___init___2⟩ := FWeb___init__.binds1 (ps := ["self", "lamps", "bonds"]) 3 1 (by first | decide | exact List.cons_ne_nil _ _) rfl (fun _ _ _ _ _ _ _ us its h1 h2 => match us, its, h1, h2 with | [_, _, _], [_], _, _ => ⟨_, rfl, rfl⟩)
  have vd_Web___init___2 : Vals [] ds_Web___init___2 := vd0
  obtain ⟨fdWeb_bond_rows, GWeb_bond_rows, FWeb_bond_rows⟩ := (DWeb_bond_rows (P := P) (w := w) (base := base) T B).ex
  have bWeb_bond_rows := FWeb_bond_rows.bindsN (ps := ["self"]) (fun _ _ _ _ _ _ us hl => match us, hl with | [_], _ => rfl)
  obtain ⟨fdWeb_lamp_rows, GWeb_lamp_rows, FWeb_lamp_rows⟩ := (DWeb_lamp_rows (P := P) (w := w) (base := base) T B).ex
  have bWeb_lamp_rows := FWeb_lamp_rows.bindsN (ps := ["self"]) (fun _ _ _ _ _ _ us hl => match us, hl with | [_], _ => rfl)
  obtain ⟨fdWeb_with_bond, GWeb_with_bond, FWeb_with_bond⟩ := (DWeb_with_bond (P := P) (w := w) (base := base) T B).ex
  obtain ⟨fdWeb_with_span, GWeb_with_span, FWeb_with_span⟩ := (DWeb_with_span (P := P) (w := w) (base := base) T B).ex
  have bWeb_with_span := FWeb_with_span.bindsN (ps := ["self", "bond", "low", "high"]) (fun _ _ _ _ _ _ us hl => match us, hl with | [_, _, _, _], _ => rfl)
  have cf_Span := T.cl_Span
  have tf_Span := T.ty_Span
  have nf_Span_low := T.no_Span "low" (by decide +kernel)
  have nf_Span_high := T.no_Span "high" (by decide +kernel)
  have cf_Web := T.cl_Web
  have tf_Web := T.ty_Web
  have xf_BadName := T.x_BadName.isx
  have xf_Doubled := T.x_Doubled.isx
  have xf_BadNumber := T.x_BadNumber.isx
  have xf_BadSpan := T.x_BadSpan.isx
  have xf_SelfBond := T.x_SelfBond.isx
  have xf_Unknown := T.x_Unknown.isx
  have xf_OutOfRange := T.x_OutOfRange.isx
  refine F.ok (CX := CX0) sc__law_asked lift_len (fun cdv A outer s H vs Q E hr h => ?_)
  refine ⟨_, PSs.nox (pss_cons (ps_tryN (Wo := (fun _ _ _ _ => False)) rfl rfl sc__law_asked.nd takes0 (fun W pn xe tk _ => (pss_one (ps_if (pt_cmpR (op_eqP hr.units : OpR _ (compareOp .Eq) (rEqP K)) (pv 0) pe_int (nomark _)) (pss_one (ps_set (i := 3) sc__law_asked.nd rfl (Or.inl rfl) (pe_makeS T.mk_Web GWeb___init__ (hr.mono (by first | decide | omega)) (by rfl) T.g_Web bd_Web___init___2 vd_Web___init___2 (fun s9 => passAt tk s9) (by exact (pa_cons (pv 1) (pa_cons (pv 2) pa_nil)))))) (pss_cons (ps_set (i := 4) sc__law_asked.nd rfl (Or.inl rfl) (pe_ix (ix_U : IxR _ (rIx K)) (pv 2) (pe_op op_sub0 (pe_callB (call_lenU : CallR _ (.builtin "len") (rLenU K)) (by rfl) T.b_len (by decide +kernel) (pa_cons (pv 2) pa_nil)) pe_int) (fun _ _ => rfl)))
      (pss_cons (ps_set (i := 3) sc__law_asked.nd rfl (Or.inl rfl) (pe_makeS T.mk_Web GWeb___init__ (hr.mono (by first | decide | omega)) (by rfl) T.g_Web bd_Web___init___2 vd_Web___init___2 (fun s9 => passAt tk s9) (by exact (pa_cons (pv 1) (pa_cons (pe_op (op_addU : OpR _ (binaryOp .Add) (rAddU K)) (pe_slice (sl_list : SlR _ (rSlL K)) (pv 2) po_none (po_some (pe_op op_sub0 (pe_callB (call_lenU : CallR _ (.builtin "len") (rLenU K)) (by rfl) T.b_len (by decide +kernel) (pa_cons (pv 2) pa_nil)) pe_int))) (pe_slice (sl_list : SlR _ (rSlL K)) (pe_lst (pa_cons (pe_tup (pa_cons (pe_ix (ix_U : IxR _ (rIx K)) (pv 4) pe_int (fun _ _ => rfl)) (pa_cons (pe_ix (ix_U : IxR _ (rIx K)) (pv 4) pe_int (fun _ _ => rfl)) (pa_cons (pe_ix (ix_U : IxR _ (rIx K)) (pv 4) pe_int (fun _ _ => rfl)) (pa_cons pe_non (pa_cons pe_non pa_nil)))))) pa_nil)) po_none (po_some (pe_op op_sub0 (pv 0) pe_int)))) pa_nil)))))
      (pss_one (ps_if (pt_cmpR (op_eqP hr.units : OpR _ (compareOp .Eq) (rEqP K)) (pv 0) pe_int (nomark _)) (pss_one (ps_set (i := 3) sc__law_asked.nd rfl (Or.inl rfl) (pe_methNT (pv 3) T.cl_Web T.c_Web_with_bond GWeb_with_bond (hr.mono (by first | decide | omega)) (kbinds_p (ks := ["low", "high"]) FWeb_with_bond 4 [0, 1, 2, 3, 4, 5] fun _ _ _ _ _ _ us ws hl hm => match us, ws, hl, hm with | [_, _, _, _], [_, _], _, _ => rfl) (fun s9 => passAt tk s9) (by exact (pa_cons (pe_ix (ix_U : IxR _ (rIx K)) (pv 4) pe_int (fun _ _ => rfl)) (pa_cons (pe_ix (ix_U : IxR _ (rIx K)) (pv 4) pe_int (fun _ _ => rfl)) (pa_cons (pe_ix (ix_U : IxR _ (rIx K)) (pv 4) pe_int (fun _ _ => rfl)) pa_nil)))) (by exact (pk_cons (pe_ix (ix_U : IxR _ (rIx K)) (pv 4) pe_int (fun _ _ => rfl)) (pk_cons (pe_ix (ix_U : IxR _ (rIx K)) (pv 4) pe_int (fun _ _ => rfl)) pk_nil)))))) (pss_one (ps_set (i := 3) sc__law_asked.nd rfl (Or.inl rfl) (pe_methT (pv 3) T.cl_Web T.c_Web_with_span GWeb_with_span (hr.mono (by first | decide | omega)) bWeb_with_span (fun s9 => passAt tk s9) (by exact (pa_cons (pe_ix (ix_U : IxR _ (rIx K)) (pv 4) pe_int (fun _ _ => rfl)) (pa_cons (pe_ix (ix_U : IxR _ (rIx K)) (pv 4) pe_int (fun _ _ => rfl)) (pa_cons (pe_ix (ix_U : IxR _ (rIx K)) (pv 4) pe_int (fun _ _ => rfl)) pa_nil)))))))))))))) (.cons (i := 5) rfl rfl ⟨rfl, by decide, Or.inl T.g_BadName⟩ (fun a oe cls d pn hz hf => (pss_one (ps_ret (pe_tup (pa_cons pe_str (pa_cons (pe_xf T.x_BadName.xf (T.i_BadName.no "name" (by decide +kernel)) hz hf (pv 5)) (pa_cons (pe_callB (call_isX hz hf) (by rfl) T.b_isinstance (by decide +kernel) (pa_cons (pv 5) (pa_cons (pe_glob (v := .ref (gA K "OutshinerError")) (by rfl) T.g_OutshinerError rfl) pa_nil))) (pa_cons (pe_callB (call_isX hz hf) (by rfl) T.b_isinstance (by decide +kernel) (pa_cons (pv 5) (pa_cons (pe_tup (pa_cons (pe_glob (v := .ref (gA K "BadNumber")) (by rfl) T.g_BadNumber rfl) (pa_cons (pe_glob (v := .ref (gA K "Doubled")) (by rfl) T.g_Doubled rfl) (pa_cons (pe_glob (v := .ref (gA K "Unknown")) (by rfl) T.g_Unknown rfl) pa_nil)))) pa_nil))) pa_nil)))))))) (.cons (i := 5) rfl rfl ⟨rfl, by decide, Or.inl T.g_BadNumber⟩ (fun a oe cls d pn hz hf => (pss_one (ps_ret (pe_tup (pa_cons pe_str (pa_cons (pe_xf T.x_BadNumber.xf (T.i_BadNumber.no "number" (by decide +kernel)) hz hf (pv 5)) (pa_cons (pe_callB (call_isX hz hf) (by rfl) T.b_isinstance (by decide +kernel) (pa_cons (pv 5) (pa_cons (pe_glob (v := .ref (gA K "OutshinerError")) (by rfl) T.g_OutshinerError rfl) pa_nil))) (pa_cons (pe_callB (call_isX hz hf) (by rfl) T.b_isinstance (by decide +kernel) (pa_cons (pv 5) (pa_cons (pe_tup (pa_cons (pe_glob (v := .ref (gA K "BadSpan")) (by rfl) T.g_BadSpan rfl) (pa_cons (pe_glob (v := .ref (gA K "OutOfRange")) (by rfl) T.g_OutOfRange rfl) pa_nil))) pa_nil))) pa_nil)))))))) (.cons (i := 5) rfl rfl ⟨rfl, by decide, Or.inl T.g_BadSpan⟩ (fun a oe cls d pn hz hf => (pss_one (ps_ret (pe_tup (pa_cons pe_str (pa_cons (pe_xf T.x_BadSpan.xf (T.i_BadSpan.no "low" (by decide +kernel)) hz hf (pv 5)) (pa_cons (pe_xf T.x_BadSpan.xf (T.i_BadSpan.no "high" (by decide +kernel)) hz hf (pv 5)) (pa_cons (pe_callB (call_isX hz hf) (by rfl) T.b_isinstance (by decide +kernel) (pa_cons (pv 5) (pa_cons (pe_glob (v := .ref (gA K "OutshinerError")) (by rfl) T.g_OutshinerError rfl) pa_nil))) (pa_cons (pe_callB (call_isX hz hf) (by rfl) T.b_isinstance (by decide +kernel) (pa_cons (pv 5) (pa_cons (pe_tup (pa_cons (pe_glob (v := .ref (gA K "OutOfRange")) (by rfl) T.g_OutOfRange rfl) (pa_cons (pe_glob (v := .ref (gA K "BadNumber")) (by rfl) T.g_BadNumber rfl) pa_nil))) pa_nil))) pa_nil))))))))) (.cons (i := 5) rfl rfl ⟨rfl, by decide, Or.inl T.g_Doubled⟩ (fun a oe cls d pn hz hf => (pss_one (ps_ret (pe_tup (pa_cons pe_str (pa_cons (pe_xf T.x_Doubled.xf (T.i_Doubled.no "name" (by decide +kernel)) hz hf (pv 5)) (pa_cons (pe_callB (call_isX hz hf) (by rfl) T.b_isinstance (by decide +kernel) (pa_cons (pv 5) (pa_cons (pe_glob (v := .ref (gA K "OutshinerError")) (by rfl) T.g_OutshinerError rfl) pa_nil))) (pa_cons (pe_callB (call_isX hz hf) (by rfl) T.b_isinstance (by decide +kernel) (pa_cons (pv 5) (pa_cons (pe_tup (pa_cons (pe_glob (v := .ref (gA K "BadName")) (by rfl) T.g_BadName rfl) (pa_cons (pe_glob (v := .ref (gA K "SelfBond")) (by rfl) T.g_SelfBond rfl) (pa_cons (pe_glob (v := .ref (gA K "Unknown")) (by rfl) T.g_Unknown rfl) pa_nil)))) pa_nil))) pa_nil)))))))) (.cons (i := 5) rfl rfl ⟨rfl, by decide, Or.inl T.g_SelfBond⟩ (fun a oe cls d pn hz hf => (pss_one (ps_ret (pe_tup (pa_cons pe_str (pa_cons (pe_xf T.x_SelfBond.xf (T.i_SelfBond.no "bond" (by decide +kernel)) hz hf (pv 5)) (pa_cons (pe_callB (call_isX hz hf) (by rfl) T.b_isinstance (by decide +kernel) (pa_cons (pv 5) (pa_cons (pe_glob (v := .ref (gA K "OutshinerError")) (by rfl) T.g_OutshinerError rfl) pa_nil))) (pa_cons (pe_callB (call_isX hz hf) (by rfl) T.b_isinstance (by decide +kernel) (pa_cons (pv 5) (pa_cons (pe_tup (pa_cons (pe_glob (v := .ref (gA K "Doubled")) (by rfl) T.g_Doubled rfl) (pa_cons (pe_glob (v := .ref (gA K "BadName")) (by rfl) T.g_BadName rfl) (pa_cons (pe_glob (v := .ref (gA K "Unknown")) (by rfl) T.g_Unknown rfl) pa_nil)))) pa_nil))) pa_nil)))))))) (.cons (i := 5) rfl rfl ⟨rfl, by decide, Or.inl T.g_Unknown⟩ (fun a oe cls d pn hz hf => (pss_one (ps_ret (pe_tup (pa_cons pe_str (pa_cons (pe_xf T.x_Unknown.xf (T.i_Unknown.no "name" (by decide +kernel)) hz hf (pv 5)) (pa_cons (pe_callB (call_isX hz hf) (by rfl) T.b_isinstance (by decide +kernel) (pa_cons (pv 5) (pa_cons (pe_glob (v := .ref (gA K "OutshinerError")) (by rfl) T.g_OutshinerError rfl) pa_nil))) (pa_cons (pe_callB (call_isX hz hf) (by rfl) T.b_isinstance (by decide +kernel) (pa_cons (pv 5) (pa_cons (pe_tup (pa_cons (pe_glob (v := .ref (gA K "BadName")) (by rfl) T.g_BadName rfl) (pa_cons (pe_glob (v := .ref (gA K "Doubled")) (by rfl) T.g_Doubled rfl) (pa_cons (pe_glob (v := .ref (gA K "SelfBond")) (by rfl) T.g_SelfBond rfl) pa_nil)))) pa_nil))) pa_nil)))))))) (.cons (i := 5) rfl rfl ⟨rfl, by decide, Or.inl T.g_OutOfRange⟩ (fun a oe cls d pn hz hf => (pss_cons (ps_set (i := 6) sc__law_asked.nd rfl (Or.inl rfl) (pe_callB (call_isX hz hf) (by rfl) T.b_isinstance (by decide +kernel) (pa_cons (pv 5) (pa_cons (pe_tup (pa_cons (pe_glob (v := .ref (gA K "BadNumber")) (by rfl) T.g_BadNumber rfl) (pa_cons (pe_glob (v := .ref (gA K "BadSpan")) (by rfl) T.g_BadSpan rfl) (pa_cons (pe_glob (v := .ref (gA K "Doubled")) (by rfl) T.g_Doubled rfl) pa_nil)))) pa_nil))))
      (pss_one (ps_ret (pe_tup (pa_cons pe_str (pa_cons (pe_xf T.x_OutOfRange.xf (T.i_OutOfRange.no "number" (by decide +kernel)) hz hf (pv 5)) (pa_cons (pe_xf T.x_OutOfRange.xf (T.i_OutOfRange.no "low" (by decide +kernel)) hz hf (pv 5)) (pa_cons (pe_xf T.x_OutOfRange.xf (T.i_OutOfRange.no "high" (by decide +kernel)) hz hf (pv 5)) (pa_cons (pe_callB (call_isX hz hf) (by rfl) T.b_isinstance (by decide +kernel) (pa_cons (pv 5) (pa_cons (pe_glob (v := .ref (gA K "OutshinerError")) (by rfl) T.g_OutshinerError rfl) pa_nil))) (pa_cons (pv 6) pa_nil))))))))))) .nil))))))))
      (pss_one (ps_ret (pe_lst (pa_cons (pe_prop (pv 3) T.cl_Web T.c_Web_lamp_rows GWeb_lamp_rows (hr.mono (by first | decide | omega)) bWeb_lamp_rows .nil pass0 (by rfl)) (pa_cons (pe_prop (pv 3) T.cl_Web T.c_Web_bond_rows GWeb_bond_rows (hr.mono (by first | decide | omega)) bWeb_bond_rows .nil pass0 (by rfl)) pa_nil)))))), ?_⟩
  refine enter3 (m := 4) h rfl (fun M3 c3 A3 H3 => (s3_seq (s3_tryNK (fun _ => (s3_if (t3_test (e3_op O3_eq e3_var e3_c)) (s3_set (e3_makeBS (a3_cons e3_var (a3_cons e3_var a3_nil)) defs_nil) g3_name) (s3_seq (s3_set (e3_op O3_ix e3_var (e3_op O3_sub (e3_cb C3_len (a3_cons e3_var a3_nil)) e3_c)) g3_name)
      (s3_seq (s3_set (e3_makeBS (a3_cons e3_var (a3_cons (e3_op O3_add (e3_fresh (f3_sl SLF_L e3_var p3_none (p3_part (e3_op O3_sub (e3_cb C3_len (a3_cons e3_var a3_nil)) e3_c)))) (e3_fresh (f3_sl SLF_L (e3_fresh (f3_lst (a3_cons (e3_tup (a3_cons (e3_op O3_ix e3_var e3_c) (a3_cons (e3_op O3_ix e3_var e3_c) (a3_cons (e3_op O3_ix e3_var e3_c) (a3_cons e3_c (a3_cons e3_c a3_nil)))))) a3_nil))) p3_none (p3_part (e3_op O3_sub e3_var e3_c))))) a3_nil)) defs_nil) g3_name)
      (s3_if (t3_test (e3_op O3_eq e3_var e3_c)) (s3_set (e3_methNT e3_var (a3_cons (e3_op O3_ix e3_var e3_c) (a3_cons (e3_op O3_ix e3_var e3_c) (a3_cons (e3_op O3_ix e3_var e3_c) a3_nil))) (a3_cons (e3_op O3_ix e3_var e3_c) (a3_cons (e3_op O3_ix e3_var e3_c) a3_nil))) g3_name) (s3_set (e3_methT e3_var (a3_cons (e3_op O3_ix e3_var e3_c) (a3_cons (e3_op O3_ix e3_var e3_c) (a3_cons (e3_op O3_ix e3_var e3_c) a3_nil)))) g3_name)))))) (.cons (fun _ _ _ => (s3_ret (e3_tup (a3_cons e3_c (a3_cons (e3_xf e3_var) (a3_cons (e3_isXK e3_var e3_c) (a3_cons (e3_isXTK e3_var (a3_cons e3_c (a3_cons e3_c (a3_cons e3_c a3_nil)))) a3_nil))))))) (.cons (fun _ _ _ => (s3_ret (e3_tup (a3_cons e3_c (a3_cons (e3_xf e3_var) (a3_cons (e3_isXK e3_var e3_c) (a3_cons (e3_isXTK e3_var (a3_cons e3_c (a3_cons e3_c a3_nil))) a3_nil))))))) (.cons (fun _ _ _ => (s3_ret (e3_tup (a3_cons e3_c (a3_cons (e3_xf e3_var) (a3_cons (e3_xf e3_var) (a3_cons (e3_isXK e3_var e3_c) (a3_cons (e3_isXTK e3_var (a3_cons e3_c (a3_cons e3_c a3_nil))) a3_nil)))))))) (.cons (fun _ _ _ => (s3_ret (e3_tup (a3_cons e3_c (a3_cons (e3_xf e3_var) (a3_cons (e3_isXK e3_var e3_c) (a3_cons (e3_isXTK e3_var (a3_cons e3_c (a3_cons e3_c (a3_cons e3_c a3_nil)))) a3_nil))))))) (.cons (fun _ _ _ => (s3_ret (e3_tup (a3_cons e3_c (a3_cons (e3_xf e3_var) (a3_cons (e3_isXK e3_var e3_c) (a3_cons (e3_isXTK e3_var (a3_cons e3_c (a3_cons e3_c (a3_cons e3_c a3_nil)))) a3_nil))))))) (.cons (fun _ _ _ => (s3_ret (e3_tup (a3_cons e3_c (a3_cons (e3_xf e3_var) (a3_cons (e3_isXK e3_var e3_c) (a3_cons (e3_isXTK e3_var (a3_cons e3_c (a3_cons e3_c (a3_cons e3_c a3_nil)))) a3_nil))))))) (.cons (fun _ _ _ => (s3_seq (s3_set (e3_isXTK e3_var (a3_cons e3_c (a3_cons e3_c (a3_cons e3_c a3_nil)))) g3_name)
      (s3_ret (e3_tup (a3_cons e3_c (a3_cons (e3_xf e3_var) (a3_cons (e3_xf e3_var) (a3_cons (e3_xf e3_var) (a3_cons (e3_isXK e3_var e3_c) (a3_cons e3_var a3_nil)))))))))) .nil))))))))
      (s3_retF (f3_lst (a3_cons (e3_prop e3_var) (a3_cons (e3_prop e3_var) a3_nil)))))) (fun ds Q3 X3 hn hp => ?_)
  obtain ⟨k, dl, db, ls, bs, rfl, hL, hB, hk, q⟩ := hp
  have hke : ∀ e, rowsErr ls bs = some e → ErK e := fun e he => erk_rows (fun l hl => (hL.ok l hl).2) (fun b hb => (hB.ok b hb).2.2.2) he
  try dsimp only [frz_d, frz_ol, frz_od, frz_oi, frz_bw, env0B_t, env0B_f, env0B_nil, env0_cons, env0_nil, List.replicate_succ, List.replicate_zero]
  refine k_seq ?_
  refine k_tryH (fun S' => ∃ a b c d e f g : Option W, S' = [a, b, c, d, e, f, g]) (fun e => ErK e ∧ Q3 (.d (.tup (dueD e ++ [.bl true, .bl false])))) (fun S' e hS hq => ?_) (fun XC hX => ?_)
  · obtain ⟨a0, a1, a2, a3, a4, a5, a6, rfl⟩ := hS
    obtain ⟨hk, q⟩ := hq
    cases hk with
    | nm x =>
      unfold XE
      dsimp only
      refine k_hY T.x_BadName.te (fun a dd => ?_)
      walk_at "g3"
      refine k_xf (dd := dd) ?_
      walk_at "g3"
      refine k_kitK T.kb_BadName ?_
      walk_at "g3"
      refine k_kitA T.kt_BadName ?_
      walk_at "g3"
      exact q
    | nb v hv =>
      unfold XE
      dsimp only
      refine k_hN T.e_BadNumber_BadName ?_
      refine k_hY T.x_BadNumber.te (fun a dd => ?_)
      walk_at "g3"
      refine k_xf (dd := dd) ?_
      walk_at "g3"
      refine k_kitK T.kb_BadNumber ?_
      walk_at "g3"
      refine k_kitA T.kt_BadNumber ?_
      walk_at "g3"
      exact q
    | sp l h =>
      unfold XE
      dsimp only
      refine k_hN T.e_BadSpan_BadName ?_
      refine k_hN T.e_BadSpan_BadNumber ?_
      refine k_hY T.x_BadSpan.te (fun a dd => ?_)
      walk_at "g3"
      refine k_xf (dd := dd) ?_
      walk_at "g3"
      refine k_xf (dd := dd) ?_
      walk_at "g3"
      refine k_kitK T.kb_BadSpan ?_
      walk_at "g3"
      refine k_kitA T.kt_BadSpan ?_
      walk_at "g3"
      exact q
    | db x =>
      unfold XE
      dsimp only
      refine k_hN T.e_Doubled_BadName ?_
      refine k_hN T.e_Doubled_BadNumber ?_
      refine k_hN T.e_Doubled_BadSpan ?_
      refine k_hY T.x_Doubled.te (fun a dd => ?_)
      walk_at "g3"
      refine k_xf (dd := dd) ?_
      walk_at "g3"
      refine k_kitK T.kb_Doubled ?_
      walk_at "g3"
      refine k_kitA T.kt_Doubled ?_
      walk_at "g3"
      exact q
    | sb x =>
      unfold XE
      dsimp only
      refine k_hN T.e_SelfBond_BadName ?_
      refine k_hN T.e_SelfBond_BadNumber ?_
      refine k_hN T.e_SelfBond_BadSpan ?_
      refine k_hN T.e_SelfBond_Doubled ?_
      refine k_hY T.x_SelfBond.te (fun a dd => ?_)
      walk_at "g3"
      refine k_xf (dd := dd) ?_
      walk_at "g3"
      refine k_kitK T.kb_SelfBond ?_
      walk_at "g3"
      refine k_kitA T.kt_SelfBond ?_
      walk_at "g3"
      exact q
    | un x =>
      unfold XE
      dsimp only
      refine k_hN T.e_Unknown_BadName ?_
      refine k_hN T.e_Unknown_BadNumber ?_
      refine k_hN T.e_Unknown_BadSpan ?_
      refine k_hN T.e_Unknown_Doubled ?_
      refine k_hN T.e_Unknown_SelfBond ?_
      refine k_hY T.x_Unknown.te (fun a dd => ?_)
      walk_at "g3"
      refine k_xf (dd := dd) ?_
      walk_at "g3"
      refine k_kitK T.kb_Unknown ?_
      walk_at "g3"
      refine k_kitA T.kt_Unknown ?_
      walk_at "g3"
      exact q
    | rg c l h =>
      unfold XE
      dsimp only
      refine k_hN T.e_OutOfRange_BadName ?_
      refine k_hN T.e_OutOfRange_BadNumber ?_
      refine k_hN T.e_OutOfRange_BadSpan ?_
      refine k_hN T.e_OutOfRange_Doubled ?_
      refine k_hN T.e_OutOfRange_SelfBond ?_
      refine k_hN T.e_OutOfRange_Unknown ?_
      refine k_hY T.x_OutOfRange.te (fun a dd => ?_)
      walk_at "g3"
      refine k_kitA T.kt_OutOfRange ?_
      walk_at "g3"
      refine k_xf (dd := dd) ?_
      walk_at "g3"
      refine k_xf (dd := dd) ?_
      walk_at "g3"
      refine k_xf (dd := dd) ?_
      walk_at "g3"
      refine k_kitK T.kb_OutOfRange ?_
      walk_at "g3"
      exact q
  walk_at "g3"
  rcases hk with rfl | ⟨hk, rfl, bs0, b, rfl, hr0, hr1⟩
  · refine k_dec (fun _ => ?_) (fun z => absurd rfl z)
    walk_at "g3"
    refine ⟨dl, db, ls, bs, rfl, hL, hB, fun e0 => ?_, fun e he => ?_⟩
    · have q := q.1 e0
      clear hke
      walk_at "g3"
      refine ⟨_, _, rfl, ?_⟩
      walk_at "g3"
      refine ⟨_, _, rfl, ?_⟩
      walk_at "g3"
      exact q
    · exact hX _ e ⟨_, _, _, _, _, _, _, rfl⟩ ⟨hke e he, q.2 e he⟩
  · have hbk := hB.ok
    have hbl := hB.len
    walk_at "g4"
    rw [List.length_map]
    refine k_ixL last_row ?_
    walk_at "g4"
    rw [List.length_map, cut_last]
    have hb0 : BondsD (.lst (bs0.map bondRD)) bs0 := bonds_raw (by rw [List.length_append] at hbl; omega) fun c hc => hbk c (List.mem_append_left _ hc)
    have hbb := hbk b (List.mem_append_right _ List.mem_cons_self)
    have c0 : ∀ x : D, cutD [x] none (some 0) = [] := fun x => rfl
    have c1 : ∀ x : D, cutD [x] none (some 1) = [x] := fun x => rfl
    rcases hk with rfl | rfl
    · rw [show ((1 : Int) - 1) = 0 from rfl]
      walk_at "g3"
      rw [c0]
      refine k_addLL (by rw [List.length_map]; rw [List.length_append] at hbl; show _ + 0 ≤ _; omega) ?_
      rw [List.append_nil]
      walk_at "g3"
      refine ⟨dl, _, ls, bs0, rfl, hL, hb0, Sc.of ?_ (rows_right.mpr hr0)⟩
      walk_at "g4"
      refine k_mNTQ rfl ?_
      walk_at "g4"
      refine k_mNTA32 ?_ rfl
      refine ⟨keptL ls, keptB bs0, b.n, b.a, b.b, b.lo, b.hi, rfl, kept_ok hr0, hbb.1, hbb.2.1, hbb.2.2.1, hbb.2.2.2.1, hbb.2.2.2.2, ?_⟩
      rw [show rowsErr ((keptL ls).map rL) ((keptB bs0).map rB ++ [BondR.mk b.n b.a b.b b.lo b.hi]) = rowsErr ls (bs0 ++ [b]) from kept_err hr0]
      refine ⟨fun e0 => ?_, fun e he => ?_⟩
      · have q := q.1 e0
        rw [show keptB ((keptB bs0).map rB ++ [BondR.mk b.n b.a b.b b.lo b.hi]) = keptB (bs0 ++ [b]) from kept_one hr0 e0]
        clear hke
        unfold webD
        walk_at "g4"
        refine ⟨_, _, rfl, ?_⟩
        walk_at "g3"
        refine ⟨_, _, rfl, ?_⟩
        walk_at "g3"
        exact q
      · exact hX _ e ⟨_, _, _, _, _, _, _, rfl⟩ ⟨hke e he, q.2 e he⟩
    · have h2 := hr1 rfl
      rw [show ((2 : Int) - 1) = 1 from rfl]
      walk_at "g3"
      rw [c1]
      refine k_addLL (by rw [List.length_map]; rw [List.length_append] at hbl; show _ + 1 ≤ _; simp only [List.length_cons, List.length_nil] at hbl; omega) ?_
      rw [show bs0.map bondRD ++ [.tup [.str b.n, .str b.a, .str b.b, .non, .non]] = (bs0 ++ [(⟨b.n, b.a, b.b, .non, .non⟩ : BondR)]).map bondRD from by rw [List.map_append]; rfl]
      walk_at "g3"
      have hb2 : BondsD (.lst ((bs0 ++ [(⟨b.n, b.a, b.b, .non, .non⟩ : BondR)]).map bondRD)) (bs0 ++ [(⟨b.n, b.a, b.b, .non, .non⟩ : BondR)]) := bonds_raw (by rw [List.length_append] at hbl ⊢; exact hbl) fun c hc => by
        rcases List.mem_append.mp hc with z | z
        · exact hbk c (List.mem_append_left _ z)
        · rw [List.mem_singleton.mp z]; exact ⟨hbb.1, hbb.2.1, hbb.2.2.1, True.intro, True.intro⟩
      refine ⟨dl, _, ls, bs0 ++ [(⟨b.n, b.a, b.b, .non, .non⟩ : BondR)], rfl, hL, hb2, Sc.of ?_ (rows_right.mpr h2)⟩
      obtain ⟨a0, ha0⟩ := span_at h2
      walk_at "g4"
      refine ⟨keptL ls, keptB (bs0 ++ [⟨b.n, b.a, b.b, .non, .non⟩]), b.n, b.lo, b.hi, rfl, kept_ok h2, hbb.2.2.2.1, hbb.2.2.2.2, ?_⟩
      rw [← span_err h2]
      refine ⟨fun e0 => onO_some ha0 ?_, fun e he => ?_⟩
      · have q := q.1 e0
        rw [span_kept h2]
        clear hke
        unfold webD
        walk_at "g4"
        refine ⟨_, _, rfl, ?_⟩
        walk_at "g3"
        refine ⟨_, _, rfl, ?_⟩
        walk_at "g3"
        exact q
      · exact hX _ e ⟨_, _, _, _, _, _, _, rfl⟩ ⟨hke e he, q.2 e he⟩
end
end Q
namespace Q
open PySem PySem.Spec PyProof.Rows L2
section
variable {P : Program} {w : World} {K : PySem.W.Frag} {mg : Str → Option Value} {base : Heap}
abbrev N__law_holds : List Str := ["_law_k", "_law_nodes", "_law_edges_here", "_law_due", "_law_handed", "_law_node", "_law_edge"]
theorem sc__law_holds : FnScope N__law_holds ["_law_k", "_law_nodes", "_law_edges_here"] (defScope s__law_holds) := ⟨rfl, rfl, rfl, by decide +kernel, rfl, by decide +kernel, by decide +kernel⟩
set_option maxHeartbeats 4000000 in
theorem D_law_holds  (T : Txt K mg) (B : TxtB K mg base) : Def P w K mg base CX0 (12) "_law_holds" s__law_holds ["_law_k", "_law_nodes", "_law_edges_here"] (Lift3 K (TT K) 3 qHolds7) := by
  obtain ⟨f, fd, m, F⟩ := T.f__law_holds.ex
  refine ⟨f, fd, m, F.kp, F.bindsN (ps := ["_law_k", "_law_nodes", "_law_edges_here"]) (fun _ _ _ _ _ _ us hl => match us, hl with | [_, _, _], _ => rfl), ?_, F⟩
  obtain ⟨f_law_alike, fd_law_alike, m_law_alike, kp_law_alike, b_law_alike, G_law_alike, F_law_alike⟩ := (D_law_alike (P := P) (w := w) (base := base) T B 5).ex
  obtain ⟨f_law_asked, fd_law_asked, m_law_asked, kp_law_asked, b_law_asked, G_law_asked, F_law_asked⟩ := (D_law_asked (P := P) (w := w) (base := base) T B).ex
  obtain ⟨f_law_kept_rows, fd_law_kept_rows, m_law_kept_rows, kp_law_kept_rows, b_law_kept_rows, G_law_kept_rows, F_law_kept_rows⟩ := (D_law_kept_rows (P := P) (w := w) (base := base) T B).ex
  obtain ⟨f_law_web_due, fd_law_web_due, m_law_web_due, kp_law_web_due, b_law_web_due, G_law_web_due, F_law_web_due⟩ := (D_law_web_due (P := P) (w := w) (base := base) T B).ex
  refine F.ok (CX := CX0) sc__law_holds lift_len (fun cdv A outer s H vs Q E hr h => ?_)
  refine ⟨_, PSs.nox (pss_cons (ps_set (i := 3) sc__law_holds.nd rfl (Or.inl rfl) (pe_call G_law_web_due (hr.mono (by first | decide | omega)) (by rfl) m_law_web_due kp_law_web_due b_law_web_due .nil pass0 (pa_cons (pv 1) (pa_cons (pv 2) pa_nil))))
      (pss_cons (ps_if (pt_cmpR op_is0 (pv 3) pe_non (nomark _)) (pss_one (ps_set (i := 3) sc__law_holds.nd rfl (Or.inl rfl) (pe_call G_law_kept_rows (hr.mono (by first | decide | omega)) (by rfl) m_law_kept_rows kp_law_kept_rows b_law_kept_rows .nil pass0 (pa_cons (pe_lst (pa_cons (pv 1) (pa_cons (pv 2) pa_nil))) pa_nil)))) (pss_one (ps_set (i := 3) sc__law_holds.nd rfl (Or.inl rfl) (pe_op (op_addU : OpR _ (binaryOp .Add) (rAddU K)) (pv 3) (pe_tup (pa_cons pe_bl (pa_cons pe_bl pa_nil)))))))
      (pss_cons (ps_set (i := 4) sc__law_holds.nd rfl (Or.inl rfl) (pe_lst (pa_cons (pe_callTy (call_list0 : CallR _ (.type "list") (rList0 K)) (by rfl) T.b_list (by decide +kernel) (pa_cons (pv 1) pa_nil)) (pa_cons (pe_callTy (call_list0 : CallR _ (.type "list") (rList0 K)) (by rfl) T.b_list (by decide +kernel) (pa_cons (pv 2) pa_nil)) pa_nil))))
      (pss_cons (ps_if (PW.pt (pw_or (pt_not (pt_val (pe_call G_law_alike (hr.mono (by first | decide | omega)) (by rfl) m_law_alike kp_law_alike b_law_alike .nil pass0 (pa_cons (pe_call G_law_asked (hr.mono (by first | decide | omega)) (by rfl) m_law_asked kp_law_asked b_law_asked .nil pass0 (pa_cons (pv 0) (pa_cons (pe_ix (ix_U : IxR _ (rIx K)) (pv 4) pe_int (fun _ _ => rfl)) (pa_cons (pe_ix (ix_U : IxR _ (rIx K)) (pv 4) pe_int (fun _ _ => rfl)) pa_nil)))) (pa_cons (pv 3) pa_nil))))) (pw_or1 (pt_cmpR (op_neP hr.units : OpR _ (compareOp .NotEq) (rNeP K)) (pv 4) (pe_lst (pa_cons (pv 1) (pa_cons (pv 2) pa_nil))) (nomark _))))) (pss_one (ps_ret pe_bl)) pss_nil)
      (pss_cons (ps_if (pt_cmpR op_gtU (pv 0) pe_int (nomark _)) (pss_one (ps_ret pe_bl)) pss_nil)
      (pss_cons (ps_set (i := 4) sc__law_holds.nd rfl (Or.inl rfl) (pe_lst (pa_cons (pe_callTy (call_tupleU : CallR _ (.type "tuple") (rTupleU K)) (by rfl) T.b_tuple (by decide +kernel) (pa_cons (pe_lc (own := [("_law_node", 5)]) (g := gName 5) (tt := tYes) rfl sc__law_holds.nd (pi_seq (pv 1)) (blkOk_by (own := [("_law_node", 5)]) (N := N__law_holds) (sc := defScope s__law_holds) (by decide +kernel)) (fun _ _ _ _ _ => (pg_name (i := 5) sc__law_holds.nd rfl (Or.inl rfl))) (fun _ _ _ _ _ => pts_nil) (fun _ _ _ _ _ => (pe_callTy (call_list0 : CallR _ (.type "list") (rList0 K)) (by rfl) T.b_list (by decide +kernel) (pa_cons (pv 5) pa_nil)))) pa_nil)) (pa_cons (pe_callTy (call_tupleU : CallR _ (.type "tuple") (rTupleU K)) (by rfl) T.b_tuple (by decide +kernel) (pa_cons (pe_lc (own := [("_law_edge", 6)]) (g := gName 6) (tt := tYes) rfl sc__law_holds.nd (pi_seq (pv 2)) (blkOk_by (own := [("_law_edge", 6)]) (N := N__law_holds) (sc := defScope s__law_holds) (by decide +kernel)) (fun _ _ _ _ _ => (pg_name (i := 6) sc__law_holds.nd rfl (Or.inl rfl))) (fun _ _ _ _ _ => pts_nil) (fun _ _ _ _ _ => (pe_callTy (call_list0 : CallR _ (.type "list") (rList0 K)) (by rfl) T.b_list (by decide +kernel) (pa_cons (pv 6) pa_nil)))) pa_nil)) pa_nil))))
      (pss_one (ps_ret (pe_call G_law_alike (hr.mono (by first | decide | omega)) (by rfl) m_law_alike kp_law_alike b_law_alike .nil pass0 (pa_cons (pe_call G_law_asked (hr.mono (by first | decide | omega)) (by rfl) m_law_asked kp_law_asked b_law_asked .nil pass0 (pa_cons (pv 0) (pa_cons (pe_ix (ix_U : IxR _ (rIx K)) (pv 4) pe_int (fun _ _ => rfl)) (pa_cons (pe_ix (ix_U : IxR _ (rIx K)) (pv 4) pe_int (fun _ _ => rfl)) pa_nil)))) (pa_cons (pv 3) pa_nil))))))))))), ?_⟩
  refine enter3 (m := 4) h rfl (fun M3 c3 A3 H3 => (s3_seq (s3_set (e3_call0 (a3_cons e3_var (a3_cons e3_var a3_nil)) defs_nil) g3_name)
      (s3_seq (s3_if (t3_test (e3_op O3_is e3_var e3_c)) (s3_set (e3_call0 (a3_cons (e3_fresh (f3_lst (a3_cons e3_var (a3_cons e3_var a3_nil)))) a3_nil) defs_nil) g3_name) (s3_set (e3_op O3_add e3_var (e3_tup (a3_cons e3_c (a3_cons e3_c a3_nil)))) g3_name))
      (s3_seq (s3_set (e3_fresh (f3_lst (a3_cons (e3_fresh (f3_cb FC3_list (a3_cons e3_var a3_nil))) (a3_cons (e3_fresh (f3_cb FC3_list (a3_cons e3_var a3_nil))) a3_nil)))) g3_name)
      (s3_seq (s3_if (t3_or (t3_not (t3_b (e3_call0 (a3_cons (e3_call0 (a3_cons e3_var (a3_cons (e3_op O3_ix e3_var e3_c) (a3_cons (e3_op O3_ix e3_var e3_c) a3_nil))) defs_nil) (a3_cons e3_var a3_nil)) defs_nil))) (t3_test (e3_op O3_ne e3_var (e3_fresh (f3_lst (a3_cons e3_var (a3_cons e3_var a3_nil))))))) (s3_ret e3_c) s3_next)
      (s3_seq (s3_if (t3_test (e3_op O3_gt e3_var e3_c)) (s3_ret e3_c) s3_next)
      (s3_seq (s3_set (e3_fresh (f3_lst (a3_cons (e3_cb C3_tuple (a3_cons (e3_fresh (f3_lc (i3_seq e3_var) g3_name (gin_name (by decide)) t3_yes (e3_fresh (f3_cb FC3_list (a3_cons e3_var a3_nil))))) a3_nil)) (a3_cons (e3_cb C3_tuple (a3_cons (e3_fresh (f3_lc (i3_seq e3_var) g3_name (gin_name (by decide)) t3_yes (e3_fresh (f3_cb FC3_list (a3_cons e3_var a3_nil))))) a3_nil)) a3_nil)))) g3_name)
      (s3_ret (e3_call0 (a3_cons (e3_call0 (a3_cons e3_var (a3_cons (e3_op O3_ix e3_var e3_c) (a3_cons (e3_op O3_ix e3_var e3_c) a3_nil))) defs_nil) (a3_cons e3_var a3_nil)) defs_nil))))))))) (fun ds Q3 X3 hn hp => ?_)
  obtain ⟨k, ls, bs, n, rfl, hr, hn, hk, q⟩ := hp
  have ok := hr.ok hn
  have hl : ls.length ≤ 30 := ok.l
  have hb : bs.length ≤ 20 := hr.b
  have lo : ∀ l ∈ ls, l.1.length ≤ 1000 ∧ flat4 l.2 := fun l h => ⟨by have := (ok.ok l h).1; omega, (ok.ok l h).2⟩
  have bo : ∀ b ∈ bs, b.n.length ≤ 1000 ∧ b.a.length ≤ 1000 ∧ b.b.length ≤ 1000 ∧ flat4 b.lo ∧ flat4 b.hi := fun b h => by
    obtain ⟨h1, h2, h3, h4, h5⟩ := ok.ob b h
    exact ⟨by omega, by omega, by omega, h4, h5⟩
  have hL := lamps_raw (by omega) lo
  have hB := bonds_raw (by omega) bo
  have hL2 := lampsT_raw (by omega) lo
  have hB2 := bondsT_raw (by omega) bo
  have st := rows_stay ok
  walk_at "g3"
  refine ⟨ls, bs, rfl, ok, ?_⟩
  unfold webDue
  cases he : rowsErr ls bs with
  | none =>
    have hR := rows_right.mp he
    have al : alD 5 (.lst (rowsD (keptL ls) (keptB bs))) = true := al_rows (by rw [kept_len]; omega) (by rw [kept_blen]; omega)
    dsimp only
    walk_at "g3"
    refine ⟨ls.map tL, bs.map tB, [], by rw [hR.tls, hR.tbs]; rfl, by rw [List.length_map]; omega, by rw [List.length_map]; omega, by rw [List.map_map]; exact hR.ld, by rw [List.map_map]; exact hR.bd, ?_⟩
    rw [kept_eqB]
    walk_at "g4"; walk_at "g4"
    refine ⟨k, _, _, ls, bs, rfl, hL, hB, hk.elim .inl fun z => .inr ⟨z.1, rfl, z.2⟩, Sc.of ?_ he⟩
    walk_at "g4"; walk_at "g4"
    refine ⟨_, rfl, al, ?_⟩
    walk_at "g4"; walk_at "g4"
    refine k_neSelf st.1 st.2 ?_
    walk_at "g4"; walk_at "g4"
    refine k_dec (fun hk0 => ?_) (fun hk0 => ?_)
    · walk_at "g4"; walk_at "g4"
      exact q
    have k0 : k = 0 := by
      rcases hk with z | ⟨z | z, _⟩ <;> omega
    walk_at "g4"; walk_at "g4"
    refine lc3_map lampRD (fun l => .lst (lampRow l)) ls (fun l _ QD R h => ?_) (by omega) ?_
    · unfold lampRD
      walk_at "g4"; walk_at "g4"
      exact h
    walk_at "g4"; walk_at "g4"
    refine lc3_map bondRD (fun b => .lst (bondRow b)) bs (fun b _ QD R h => ?_) (by omega) ?_
    · unfold bondRD
      walk_at "g4"; walk_at "g4"
      exact h
    walk_at "g4"; walk_at "g4"
    refine ⟨k, _, _, ls, bs, rfl, hL2, hB2, .inl k0, Sc.of ?_ he⟩
    walk_at "g4"; walk_at "g4"
    refine ⟨_, rfl, al, ?_⟩
    walk_at "g4"; walk_at "g4"
    exact q
  | some e =>
    have hk2 : ErK e := erk_rows (fun l hl => (lo l hl).2) (fun b hb => (bo b hb).2.2.2) he
    have dl := due_len hk2
    have al := al_due hk2 4
    dsimp only
    walk_at "g3"
    refine k_addT dl.2 (by show _ + 2 ≤ _; omega) ?_
    walk_at "g4"; walk_at "g4"
    refine ⟨k, _, _, ls, bs, rfl, hL, hB, hk.elim .inl fun z => .inr ⟨z.1, rfl, z.2⟩, sc_errOf he ?_⟩
    walk_at "g4"; walk_at "g4"
    refine ⟨_, rfl, al, ?_⟩
    walk_at "g4"; walk_at "g4"
    refine k_neSelf st.1 st.2 ?_
    walk_at "g4"; walk_at "g4"
    refine k_dec (fun hk0 => ?_) (fun hk0 => ?_)
    · walk_at "g4"; walk_at "g4"
      exact q
    have k0 : k = 0 := by
      rcases hk with z | ⟨z | z, _⟩ <;> omega
    walk_at "g4"; walk_at "g4"
    refine lc3_map lampRD (fun l => .lst (lampRow l)) ls (fun l _ QD R h => ?_) (by omega) ?_
    · unfold lampRD
      walk_at "g4"; walk_at "g4"
      exact h
    walk_at "g4"; walk_at "g4"
    refine lc3_map bondRD (fun b => .lst (bondRow b)) bs (fun b _ QD R h => ?_) (by omega) ?_
    · unfold bondRD
      walk_at "g4"; walk_at "g4"
      exact h
    walk_at "g4"; walk_at "g4"
    refine ⟨k, _, _, ls, bs, rfl, hL2, hB2, .inl k0, sc_errOf he ?_⟩
    walk_at "g4"; walk_at "g4"
    refine ⟨_, rfl, al, ?_⟩
    walk_at "g4"; walk_at "g4"
    exact q
end
end Q
namespace Q
open PySem PySem.Spec PyProof.Rows L2
section
variable {P : Program} {w : World} {K : PySem.W.Frag} {mg : Str → Option Value} {base : Heap}
abbrev N__law_rows : List Str := ["_law_store_here", "_law_pool", "_law_posts", "_law_labels", "_law_post"]
theorem sc__law_rows : FnScope N__law_rows ["_law_store_here"] (defScope s__law_rows) := ⟨rfl, rfl, rfl, by decide +kernel, rfl, by decide +kernel, by decide +kernel⟩
set_option maxHeartbeats 4000000 in
theorem D_law_rows  (T : Txt K mg) (B : TxtB K mg base) : Def P w K mg base CX0 (7) "_law_rows" s__law_rows ["_law_store_here"] (Lift3 K (TT K) 1 qRows7) := by
  obtain ⟨f, fd, m, F⟩ := T.f__law_rows.ex
  refine ⟨f, fd, m, F.kp, F.bindsN (ps := ["_law_store_here"]) (fun _ _ _ _ _ _ us hl => match us, hl with | [_], _ => rfl), ?_, F⟩
  obtain ⟨f_law_bar, fd_law_bar, m_law_bar, kp_law_bar, b_law_bar, G_law_bar, F_law_bar⟩ := (D_law_bar (P := P) (w := w) (base := base) T B).ex
  obtain ⟨f_law_edges, fd_law_edges, m_law_edges, kp_law_edges, b_law_edges, G_law_edges, F_law_edges⟩ := (D_law_edges (P := P) (w := w) (base := base) T B).ex
  obtain ⟨f_law_names, fd_law_names, m_law_names, kp_law_names, b_law_names, G_law_names, F_law_names⟩ := (D_law_names (P := P) (w := w) (base := base) T B).ex
  obtain ⟨f_law_pick, fd_law_pick, m_law_pick, kp_law_pick, b_law_pick, G_law_pick, F_law_pick⟩ := (D_law_pick_3 (P := P) (w := w) (base := base) T B).ex
  obtain ⟨f_law_take, fd_law_take, m_law_take, kp_law_take, b_law_take, G_law_take, F_law_take⟩ := (D_law_take_3 (P := P) (w := w) (base := base) T B).ex
  refine F.ok (CX := CX0) sc__law_rows lift_len (fun cdv A outer s H vs Q E hr h => ?_)
  refine ⟨_, PSs.nox (pss_cons (ps_set (i := 1) sc__law_rows.nd rfl (Or.inr rfl) (pe_call G_law_pick (hr.mono (by first | decide | omega)) (by rfl) m_law_pick kp_law_pick b_law_pick .nil pass0 (pa_cons (pv 0) (pa_cons (pe_lst (pa_cons (pe_lst (pa_cons (pe_un un_neg0 pe_int) (pa_cons pe_int (pa_cons pe_int pa_nil)))) (pa_cons (pe_lst (pa_cons (pe_un un_neg0 (pe_op op_pow0 pe_int pe_int)) (pa_cons pe_int (pa_cons (pe_op op_pow0 pe_int pe_int) pa_nil)))) (pa_cons (pe_lst (pa_cons (pe_un un_neg0 pe_int) (pa_cons pe_int (pa_cons pe_int (pa_cons pe_int pa_nil))))) pa_nil)))) pa_nil))))
      (pss_cons (ps_set (i := 2) sc__law_rows.nd rfl (Or.inl rfl) (pe_call G_law_names (hr.mono (by first | decide | omega)) (by rfl) m_law_names kp_law_names b_law_names .nil pass0 (pa_cons (pv 0) (pa_cons (pe_ix (ix_U : IxR _ (rIx K)) (pe_lst (pa_cons pe_int (pa_cons pe_int (pa_cons pe_int (pa_cons pe_int (pa_cons pe_int (pa_cons pe_int pa_nil))))))) (pe_call G_law_take (hr.mono (by first | decide | omega)) (by rfl) m_law_take kp_law_take b_law_take .nil pass0 (pa_cons (pv 0) (pa_cons pe_int pa_nil))) (fun _ _ => rfl)) pa_nil))))
      (pss_cons (ps_set (i := 3) sc__law_rows.nd rfl (Or.inl rfl) (pe_call G_law_names (hr.mono (by first | decide | omega)) (by rfl) m_law_names kp_law_names b_law_names .nil pass0 (pa_cons (pv 0) (pa_cons (pe_ix (ix_U : IxR _ (rIx K)) (pe_lst (pa_cons pe_int (pa_cons pe_int (pa_cons pe_int (pa_cons pe_int (pa_cons pe_int (pa_cons pe_int pa_nil))))))) (pe_call G_law_take (hr.mono (by first | decide | omega)) (by rfl) m_law_take kp_law_take b_law_take .nil pass0 (pa_cons (pv 0) (pa_cons pe_int pa_nil))) (fun _ _ => rfl)) pa_nil))))
      (pss_one (ps_ret (pe_lst (pa_cons (pe_lc (own := [("_law_post", 4)]) (g := gName 4) (tt := tYes) rfl sc__law_rows.nd (pi_seq (pv 2)) (blkOk_by (own := [("_law_post", 4)]) (N := N__law_rows) (sc := defScope s__law_rows) (by decide +kernel)) (fun _ _ _ _ _ => (pg_name (i := 4) sc__law_rows.nd rfl (Or.inl rfl))) (fun _ _ _ _ _ => pts_nil) (fun _ _ _ _ _ => (pe_tup (pa_cons (pv 4) (pa_cons (pe_call G_law_bar (hr.mono (by first | decide | omega)) (by rfl) m_law_bar kp_law_bar b_law_bar .nil pass0 (pa_cons (pv 0) (pa_cons (pv 1) pa_nil))) pa_nil))))) (pa_cons (pe_call G_law_edges (hr.mono (by first | decide | omega)) (by rfl) m_law_edges kp_law_edges b_law_edges .nil pass0 (pa_cons (pv 0) (pa_cons (pv 2) (pa_cons (pv 3) (pa_cons (pv 1) pa_nil))))) (pa_cons (pv 1) pa_nil))))))))), ?_⟩
  refine enter3 (m := 4) h rfl (fun M3 c3 A3 H3 => (s3_seq (s3_set (e3_call0 (a3_cons e3_var (a3_cons (e3_fresh (f3_lst (a3_cons (e3_fresh (f3_lst (a3_cons (e3_un U3_neg e3_c) (a3_cons e3_c (a3_cons e3_c a3_nil))))) (a3_cons (e3_fresh (f3_lst (a3_cons (e3_un U3_neg (e3_op O3_pow e3_c e3_c)) (a3_cons e3_c (a3_cons (e3_op O3_pow e3_c e3_c) a3_nil))))) (a3_cons (e3_fresh (f3_lst (a3_cons (e3_un U3_neg e3_c) (a3_cons e3_c (a3_cons e3_c (a3_cons e3_c a3_nil)))))) a3_nil))))) a3_nil)) defs_nil) g3_name)
      (s3_seq (s3_set (e3_call0 (a3_cons e3_var (a3_cons (e3_op O3_ix (e3_fresh (f3_lst (a3_cons e3_c (a3_cons e3_c (a3_cons e3_c (a3_cons e3_c (a3_cons e3_c (a3_cons e3_c a3_nil)))))))) (e3_call0 (a3_cons e3_var (a3_cons e3_c a3_nil)) defs_nil)) a3_nil)) defs_nil) g3_name)
      (s3_seq (s3_set (e3_call0 (a3_cons e3_var (a3_cons (e3_op O3_ix (e3_fresh (f3_lst (a3_cons e3_c (a3_cons e3_c (a3_cons e3_c (a3_cons e3_c (a3_cons e3_c (a3_cons e3_c a3_nil)))))))) (e3_call0 (a3_cons e3_var (a3_cons e3_c a3_nil)) defs_nil)) a3_nil)) defs_nil) g3_name)
      (s3_retF (f3_lst (a3_cons (e3_fresh (f3_lc (i3_seq e3_var) g3_name (gin_name (by decide)) t3_yes (e3_tup (a3_cons e3_var (a3_cons (e3_call0 (a3_cons e3_var (a3_cons e3_var a3_nil)) defs_nil) a3_nil))))) (a3_cons (e3_call0 (a3_cons e3_var (a3_cons e3_var (a3_cons e3_var (a3_cons e3_var a3_nil)))) defs_nil) (a3_cons e3_var a3_nil))))))))) (fun ds Q3 X3 hn hp => ?_)
  obtain ⟨rfl, q⟩ := hp
  walk_at "g3"
  refine k_pickL (en := fun xs : List Int => .lst (xs.map D.int)) (as := [[-2, 0, 3], [-1000000000000, 7, 1000000000000], [-40, 5, 6, 90000]]) (by show 0 < 3; decide) (by show 3 ≤ 100000; decide) fun ns hns => ?_
  have hp : PoolOk ns := by
    simp only [List.mem_cons, List.not_mem_nil, or_false] at hns
    rcases hns with rfl | rfl | rfl <;> exact ⟨by decide, by decide, fun i hi => by
      simp only [List.mem_cons, List.not_mem_nil, or_false] at hi
      unfold InR
      omega⟩
  clear hns
  have hp' := hp
  obtain ⟨n0, nM, nR⟩ := hp'
  walk_at "g3"
  refine k_take (by decide) (by decide) fun r1 a0 a1 => ?_
  walk_at "g3"
  obtain ⟨m1, hm, p1, p10⟩ : ∃ m : Nat, atI [D.int 2, .int 3, .int 4, .int 1, .int 6, .int 10] r1 = some (.int m) ∧ 1 ≤ m ∧ m ≤ 10 := by
    obtain rfl | rfl | rfl | rfl | rfl | rfl : r1 = 0 ∨ r1 = 1 ∨ r1 = 2 ∨ r1 = 3 ∨ r1 = 4 ∨ r1 = 5 := by omega
    · exact ⟨2, rfl, by decide, by decide⟩
    · exact ⟨3, rfl, by decide, by decide⟩
    · exact ⟨4, rfl, by decide, by decide⟩
    · exact ⟨1, rfl, by decide, by decide⟩
    · exact ⟨6, rfl, by decide, by decide⟩
    · exact ⟨10, rfl, by decide, by decide⟩
  refine k_ixL hm ?_
  walk_at "g3"
  refine ⟨m1, rfl, by omega, fun ps hpl hpn hpm => ?_⟩
  walk_at "g3"
  refine k_take (by decide) (by decide) fun r2 b0 b1 => ?_
  walk_at "g3"
  obtain ⟨m2, hm2, p16⟩ : ∃ m : Nat, atI [D.int 3, .int 1, .int 4, .int 0, .int 7, .int 16] r2 = some (.int m) ∧ m ≤ 16 := by
    obtain rfl | rfl | rfl | rfl | rfl | rfl : r2 = 0 ∨ r2 = 1 ∨ r2 = 2 ∨ r2 = 3 ∨ r2 = 4 ∨ r2 = 5 := by omega
    · exact ⟨3, rfl, by decide⟩
    · exact ⟨1, rfl, by decide⟩
    · exact ⟨4, rfl, by decide⟩
    · exact ⟨0, rfl, by decide⟩
    · exact ⟨7, rfl, by decide⟩
    · exact ⟨16, rfl, by decide⟩
  refine k_ixL hm2 ?_
  walk_at "g3"
  refine ⟨m2, rfl, by omega, fun lb hbl hbn hbm => ?_⟩
  walk_at "g3"
  refine lc3_draw (fun x : Str => D.str x) lampD (fun post l => l.1 = post ∧ EndO l.2) ps [] (fun post _ QD R h => ?_) (by simp; omega) fun ls hls => ?_
  · walk_at "g3"
    refine ⟨ns, rfl, by omega, by omega, nR, fun o ho => ?_⟩
    walk_at "g3"
    exact h (post, o) ⟨rfl, ho⟩
  rw [List.nil_append]
  have hn : ls.map (·.1) = ps := by
    have := all2_map (f := fun l : LampT => l.1) (g := fun x : Str => x) (fun a b h => h.1) hls
    rwa [List.map_id'] at this
  have hc : ∀ l ∈ ls, erOpen (dEnd3 l.2) = none := all2_all (fun a b h => end_open h.2) hls
  walk_at "g3"
  refine ⟨ps, lb, ns, rfl, by omega, by omega, by omega, by omega, nR, fun es he ho => ?_⟩
  walk_at "g3"
  refine q ls es ns ⟨plan_right hn hpn hpm (by omega) (by omega) hc he hbn hbm (by omega) (fun b hb => ⟨(ho b hb).ka, (ho b hb).kb, (ho b hb).ne hpn, (ho b hb).sp⟩), hp, fun h1 => ?_⟩
  have : ps.length = 1 := by rw [← hn, List.length_map]; exact h1
  rw [if_neg (by omega)] at he
  exact List.map_eq_nil_iff.mp he
abbrev N__law_one_more : List Str := ["_law_store_here", "_law_plan", "_law_posts", "_law_label", "_law_ends_here", "_law_edges_here", "_law_kind", "_law_node", "_law_edge"]
theorem sc__law_one_more : FnScope N__law_one_more ["_law_store_here", "_law_plan"] (defScope s__law_one_more) := ⟨rfl, rfl, rfl, by decide +kernel, rfl, by decide +kernel, by decide +kernel⟩
set_option maxHeartbeats 4000000 in
theorem D_law_one_more  (T : Txt K mg) (B : TxtB K mg base) : Def P w K mg base CX0 (7) "_law_one_more" s__law_one_more ["_law_store_here", "_law_plan"] (Lift3 K (TT K) 2 qOneMore) := by
  obtain ⟨f, fd, m, F⟩ := T.f__law_one_more.ex
  refine ⟨f, fd, m, F.kp, F.bindsN (ps := ["_law_store_here", "_law_plan"]) (fun _ _ _ _ _ _ us hl => match us, hl with | [_, _], _ => rfl), ?_, F⟩
  obtain ⟨f_law_bent_edge, fd_law_bent_edge, m_law_bent_edge, kp_law_bent_edge, b_law_bent_edge, G_law_bent_edge, F_law_bent_edge⟩ := (D_law_bent_edge (P := P) (w := w) (base := base) T B).ex
  obtain ⟨f_law_ends, fd_law_ends, m_law_ends, kp_law_ends, b_law_ends, G_law_ends, F_law_ends⟩ := (D_law_ends (P := P) (w := w) (base := base) T B).ex
  obtain ⟨f_law_fresh_names, fd_law_fresh_names, m_law_fresh_names, kp_law_fresh_names, b_law_fresh_names, G_law_fresh_names, F_law_fresh_names⟩ := (D_law_fresh_names (P := P) (w := w) (base := base) T B).ex
  obtain ⟨f_law_pick, fd_law_pick, m_law_pick, kp_law_pick, b_law_pick, G_law_pick, F_law_pick⟩ := (D_law_pick_3 (P := P) (w := w) (base := base) T B).ex
  obtain ⟨f_law_take, fd_law_take, m_law_take, kp_law_take, b_law_take, G_law_take, F_law_take⟩ := (D_law_take_3 (P := P) (w := w) (base := base) T B).ex
  refine F.ok (CX := CX0) sc__law_one_more lift_len (fun cdv A outer s H vs Q E hr h => ?_)
  refine ⟨_, PSs.nox (pss_cons (ps_setLc (i := 2) (own := [("_law_node", 7)]) (g := gName 7) (tt := tYes) rfl sc__law_one_more.nd rfl rfl (sw_true rfl rfl rfl (by decide +kernel)) (pi_seq (pe_ix (ix_U : IxR _ (rIx K)) (pv 1) pe_int (fun _ _ => rfl))) (blkOk_by (own := [("_law_node", 7)]) (N := N__law_one_more) (sc := defScope s__law_one_more) (by decide +kernel)) (fun _ _ _ _ _ => (pg_name (i := 7) sc__law_one_more.nd rfl (Or.inl rfl))) (fun _ _ _ _ _ => pts_nil) (fun _ _ _ _ _ => (pe_ix (ix_U : IxR _ (rIx K)) (pv 7) pe_int (fun _ _ => rfl))))
      (pss_cons (ps_set (i := 3) sc__law_one_more.nd rfl (Or.inl rfl) (pe_ix (ix_U : IxR _ (rIx K)) (pe_call G_law_fresh_names (hr.mono (by first | decide | omega)) (by rfl) m_law_fresh_names kp_law_fresh_names b_law_fresh_names .nil pass0 (pa_cons (pv 0) (pa_cons pe_int (pa_cons (pe_lc (own := [("_law_edge", 8)]) (g := gName 8) (tt := tYes) rfl sc__law_one_more.nd (pi_seq (pe_ix (ix_U : IxR _ (rIx K)) (pv 1) pe_int (fun _ _ => rfl))) (blkOk_by (own := [("_law_edge", 8)]) (N := N__law_one_more) (sc := defScope s__law_one_more) (by decide +kernel)) (fun _ _ _ _ _ => (pg_name (i := 8) sc__law_one_more.nd rfl (Or.inl rfl))) (fun _ _ _ _ _ => pts_nil) (fun _ _ _ _ _ => (pe_ix (ix_U : IxR _ (rIx K)) (pv 8) pe_int (fun _ _ => rfl)))) pa_nil)))) pe_int (fun _ _ => rfl)))
      (pss_cons (ps_set (i := 4) sc__law_one_more.nd rfl (Or.inl rfl) (pe_call G_law_ends (hr.mono (by first | decide | omega)) (by rfl) m_law_ends kp_law_ends b_law_ends .nil pass0 (pa_cons (pv 0) (pa_cons (pe_ix (ix_U : IxR _ (rIx K)) (pv 1) pe_int (fun _ _ => rfl)) pa_nil))))
      (pss_cons (ps_set (i := 5) sc__law_one_more.nd rfl (Or.inl rfl) (pe_op (op_addU : OpR _ (binaryOp .Add) (rAddU K)) (pe_ix (ix_U : IxR _ (rIx K)) (pv 1) pe_int (fun _ _ => rfl)) (pe_lst (pa_cons (pe_tup (pa_cons (pv 3) (pa_cons (pe_ix (ix_U : IxR _ (rIx K)) (pv 2) (pe_op op_sub0 (pe_callB (call_lenU : CallR _ (.builtin "len") (rLenU K)) (by rfl) T.b_len (by decide +kernel) (pa_cons (pv 2) pa_nil)) pe_int) (fun _ _ => rfl)) (pa_cons (pe_call G_law_pick (hr.mono (by first | decide | omega)) (by rfl) m_law_pick kp_law_pick b_law_pick .nil pass0 (pa_cons (pv 0) (pa_cons (pv 2) pa_nil))) (pa_cons (pe_ix (ix_U : IxR _ (rIx K)) (pv 4) pe_int (fun _ _ => rfl)) (pa_cons (pe_ix (ix_U : IxR _ (rIx K)) (pv 4) pe_int (fun _ _ => rfl)) pa_nil)))))) pa_nil))))
      (pss_cons (ps_set (i := 6) sc__law_one_more.nd rfl (Or.inl rfl) (pe_ix (ix_U : IxR _ (rIx K)) (pe_lst (pa_cons pe_int (pa_cons pe_int (pa_cons pe_int (pa_cons pe_int (pa_cons pe_int (pa_cons pe_int (pa_cons pe_int (pa_cons pe_int (pa_cons pe_int pa_nil)))))))))) (pe_call G_law_take (hr.mono (by first | decide | omega)) (by rfl) m_law_take kp_law_take b_law_take .nil pass0 (pa_cons (pv 0) (pa_cons pe_int pa_nil))) (fun _ _ => rfl)))
      (pss_one (ps_ret (pe_op (op_addU : OpR _ (binaryOp .Add) (rAddU K)) (pe_ix (ix_U : IxR _ (rIx K)) (pv 1) pe_int (fun _ _ => rfl)) (pe_lst (pa_cons (pe_call G_law_bent_edge (hr.mono (by first | decide | omega)) (by rfl) m_law_bent_edge kp_law_bent_edge b_law_bent_edge .nil pass0 (pa_cons (pv 0) (pa_cons (pv 5) (pa_cons (pe_op op_sub0 (pe_callB (call_lenU : CallR _ (.builtin "len") (rLenU K)) (by rfl) T.b_len (by decide +kernel) (pa_cons (pv 5) pa_nil)) pe_int) (pa_cons (pe_ix (ix_U : IxR _ (rIx K)) (pv 1) pe_int (fun _ _ => rfl)) (pa_cons (pv 6) pa_nil)))))) pa_nil)))))))))), ?_⟩
  refine enter3 (m := 7) h rfl (fun M3 c3 A3 H3 => (s3_seq (s3_set (e3_fresh (f3_lc (i3_seq (e3_op O3_ix e3_var e3_c)) g3_name (gin_name (by decide)) t3_yes (e3_op O3_ix e3_var e3_c))) g3_name)
      (s3_seq (s3_set (e3_op O3_ix (e3_call0 (a3_cons e3_var (a3_cons e3_c (a3_cons (e3_fresh (f3_lc (i3_seq (e3_op O3_ix e3_var e3_c)) g3_name (gin_name (by decide)) t3_yes (e3_op O3_ix e3_var e3_c))) a3_nil))) defs_nil) e3_c) g3_name)
      (s3_seq (s3_set (e3_call0 (a3_cons e3_var (a3_cons (e3_op O3_ix e3_var e3_c) a3_nil)) defs_nil) g3_name)
      (s3_seq (s3_set (e3_op O3_add (e3_op O3_ix e3_var e3_c) (e3_fresh (f3_lst (a3_cons (e3_tup (a3_cons e3_var (a3_cons (e3_op O3_ix e3_var (e3_op O3_sub (e3_cb C3_len (a3_cons e3_var a3_nil)) e3_c)) (a3_cons (e3_call0 (a3_cons e3_var (a3_cons e3_var a3_nil)) defs_nil) (a3_cons (e3_op O3_ix e3_var e3_c) (a3_cons (e3_op O3_ix e3_var e3_c) a3_nil)))))) a3_nil)))) g3_name)
      (s3_seq (s3_set (e3_op O3_ix (e3_fresh (f3_lst (a3_cons e3_c (a3_cons e3_c (a3_cons e3_c (a3_cons e3_c (a3_cons e3_c (a3_cons e3_c (a3_cons e3_c (a3_cons e3_c (a3_cons e3_c a3_nil))))))))))) (e3_call0 (a3_cons e3_var (a3_cons e3_c a3_nil)) defs_nil)) g3_name)
      (s3_ret (e3_op O3_add (e3_op O3_ix e3_var e3_c) (e3_fresh (f3_lst (a3_cons (e3_call0 (a3_cons e3_var (a3_cons e3_var (a3_cons (e3_op O3_sub (e3_cb C3_len (a3_cons e3_var a3_nil)) e3_c) (a3_cons (e3_op O3_ix e3_var e3_c) (a3_cons e3_var a3_nil))))) defs_nil) a3_nil))))))))))) (fun ds Q3 X3 hn hp => ?_)
  obtain ⟨ls, bs, ns, rfl, pk, q⟩ := hp
  have hr := pk.r
  have hl1 : 1 ≤ ls.length := by have := hr.l1; rwa [List.length_map] at this
  have hl10 : ls.length ≤ 10 := by have := hr.l10; rwa [List.length_map] at this
  have hb16 : bs.length ≤ 16 := by have := hr.b16; rwa [List.length_map] at this
  have hp' := pk.p
  obtain ⟨n0, nM, nR⟩ := hp'
  have lnm : ∀ x ∈ ls.map (·.1), x.length ≤ 8 := fun x hx => by
    obtain ⟨l, hl, rfl⟩ := List.mem_map.mp hx
    exact nm_len (hr.ln (rL l) (List.mem_map.mpr ⟨l, hl, rfl⟩))
  have braw : ∀ b ∈ bs.map rB, RawB 20 b := fun b hb => by
    have h1 := nm_len (hr.bn b hb)
    have h2 := hr.ka b hb
    have h3 := hr.kb b hb
    rw [names_r] at h2 h3
    have h2 := lnm _ h2
    have h3 := lnm _ h3
    have h4 := hr.sp b hb
    unfold erSpan at h4
    simp only [or_none] at h4
    exact ⟨by omega, by omega, by omega, open_flat h4.1, open_flat h4.2.1⟩
  walk_at "g4"
  refine lc3_map lampD (fun l => .str l.1) ls (fun l _ QD R h => ?_) (by omega) ?_
  · walk_at "g4"
    exact h
  rw [show (ls.map fun l : LampT => D.str l.1) = (ls.map (·.1)).map D.str from by rw [List.map_map]; rfl]
  walk_at "g4"
  refine lc3_map bondD (fun b => .str b.n) bs (fun b _ QD R h => ?_) (by omega) ?_
  · walk_at "g4"
    exact h
  rw [show (bs.map fun b : BondT => D.str b.n) = (bs.map (·.n)).map D.str from by rw [List.map_map]; rfl]
  walk_at "g4"
  refine ⟨1, bs.map (·.n), rfl, by decide, by rw [List.length_map]; omega, fun xs hx _ hxn => ?_⟩
  obtain ⟨lab, rfl⟩ : ∃ y, xs = [y] := List.length_eq_one_iff.mp hx
  have hlab := nm_len (hxn lab List.mem_cons_self).1
  walk_at "g4"
  refine ⟨ns, rfl, n0, by omega, nR, fun lo hi hs => ?_⟩
  walk_at "g4"
  have hl2 : (ls.map (·.1)).length = ls.length := List.length_map _
  obtain ⟨p1, hp1, ap1, _⟩ := at_str (ps := ls.map (·.1)) (i := (ls.length : Int) - 1) (by omega) (by omega)
  have lp1 := lnm _ hp1
  rw [List.length_map, hl2]
  refine k_ixL ap1 ?_
  walk_at "g4"
  refine k_pickL (by omega) (by omega) fun p2 hp2 => ?_
  have lp2 := lnm _ hp2
  walk_at "g4"
  refine ⟨by show 9 ≤ 100000; decide, ?_⟩
  have ee : bs.map bondD ++ [.tup [.str lab, .str p1, .str p2, dEnd3 lo, dEnd3 hi]] = (bs.map rB ++ [(⟨lab, p1, p2, dEnd3 lo, dEnd3 hi⟩ : BondR)]).map bondRD := by rw [List.map_append, List.map_map]; rfl
  rw [ee]
  have hb0 : RawB 20 ⟨lab, p1, p2, dEnd3 lo, dEnd3 hi⟩ := ⟨by show lab.length ≤ _; omega, by show p1.length ≤ _; omega, by show p2.length ≤ _; omega, flat4_end _, flat4_end _⟩
  have hgb : (bs.map rB ++ [(⟨lab, p1, p2, dEnd3 lo, dEnd3 hi⟩ : BondR)])[bs.length]? = some ⟨lab, p1, p2, dEnd3 lo, dEnd3 hi⟩ := by
    rw [List.getElem?_append_right (by rw [List.length_map]; omega), List.length_map, Nat.sub_self]
    rfl
  have hlen : (bs.map rB ++ [(⟨lab, p1, p2, dEnd3 lo, dEnd3 hi⟩ : BondR)]).length = bs.length + 1 := by rw [List.length_append, List.length_map]; rfl
  have hall : ∀ b ∈ bs.map rB ++ [(⟨lab, p1, p2, dEnd3 lo, dEnd3 hi⟩ : BondR)], RawB 20 b := fun b hb => by
    rcases List.mem_append.mp hb with z | z
    · exact braw b z
    · rw [List.mem_singleton.mp z]; exact hb0
  generalize (⟨lab, p1, p2, dEnd3 lo, dEnd3 hi⟩ : BondR) = b0 at hgb hlen hall ⊢
  walk_at "g4"
  refine k_take (by decide) (by decide) fun r r0 r1 => ?_
  walk_at "g4"
  obtain ⟨kind, hkd⟩ : ∃ kind : Int, atI [D.int 6, .int 6, .int 6, .int 7, .int 8, .int 9, .int 10, .int 11, .int 11] r = some (.int kind) := by
    obtain rfl | rfl | rfl | rfl | rfl | rfl | rfl | rfl | rfl : r = 0 ∨ r = 1 ∨ r = 2 ∨ r = 3 ∨ r = 4 ∨ r = 5 ∨ r = 6 ∨ r = 7 ∨ r = 8 := by omega
    all_goals exact ⟨_, rfl⟩
  refine k_ixL hkd ?_
  walk_at "g4"
  rw [List.length_map, hlen, show (((bs.length + 1 : Nat) : Int) - 1) = (bs.length : Int) from by omega]
  refine ⟨_, bs.length, 20, ns, kind, b0, rfl, hgb, by omega, hall, by decide, by decide, pk.p, fun b' hb' _ => ?_⟩
  walk_at "g4"
  rw [show bs.map bondD ++ [bondRD b'] = (bs.map rB ++ [b']).map bondRD from by rw [List.map_append, List.map_map]; rfl]
  exact q b' hb'
end
end Q
namespace Q
open PySem PySem.Spec PyProof.Rows L2
section
variable {P : Program} {w : World} {K : PySem.W.Frag} {mg : Str → Option Value} {base : Heap}
abbrev N_law : List Str := ["_law_script", "_law_store_here", "_law_plan", "_law_rows_here", "_law_turn", "_law_many", "_law_edge", "_law_right", "_law_fine"]
theorem sc_law : FnScope N_law ["_law_script"] (defScope s_law) := ⟨rfl, rfl, rfl, by decide +kernel, rfl, by decide +kernel, by decide +kernel⟩
set_option maxHeartbeats 4000000 in
theorem Dlaw  (T : Txt K mg) (B : TxtB K mg base) : Def P w K mg base CX0 (13) "law" s_law ["_law_script"] (Sp1 (pLawT K (TT K))) := by
  obtain ⟨f, fd, m, F⟩ := T.f_law.ex
  refine ⟨f, fd, m, F.kp, F.bindsN (ps := ["_law_script"]) (fun _ _ _ _ _ _ us hl => match us, hl with | [_], _ => rfl), ?_, F⟩
  obtain ⟨f_law_bent_edge, fd_law_bent_edge, m_law_bent_edge, kp_law_bent_edge, b_law_bent_edge, G_law_bent_edge, F_law_bent_edge⟩ := (D_law_bent_edge (P := P) (w := w) (base := base) T B).ex
  obtain ⟨f_law_bent_web, fd_law_bent_web, m_law_bent_web, kp_law_bent_web, b_law_bent_web, G_law_bent_web, F_law_bent_web⟩ := (D_law_bent_web (P := P) (w := w) (base := base) T B).ex
  obtain ⟨f_law_ends, fd_law_ends, m_law_ends, kp_law_ends, b_law_ends, G_law_ends, F_law_ends⟩ := (D_law_ends (P := P) (w := w) (base := base) T B).ex
  obtain ⟨f_law_holds, fd_law_holds, m_law_holds, kp_law_holds, b_law_holds, G_law_holds, F_law_holds⟩ := (D_law_holds (P := P) (w := w) (base := base) T B).ex
  obtain ⟨f_law_one_more, fd_law_one_more, m_law_one_more, kp_law_one_more, b_law_one_more, G_law_one_more, F_law_one_more⟩ := (D_law_one_more (P := P) (w := w) (base := base) T B).ex
  obtain ⟨f_law_rows, fd_law_rows, m_law_rows, kp_law_rows, b_law_rows, G_law_rows, F_law_rows⟩ := (D_law_rows (P := P) (w := w) (base := base) T B).ex
  obtain ⟨f_law_store, fd_law_store, m_law_store, kp_law_store, b_law_store, G_law_store, F_law_store⟩ := (D_law_store (P := P) (w := w) (base := base) T).ex
  obtain ⟨f_law_take, fd_law_take, m_law_take, kp_law_take, b_law_take, G_law_take, F_law_take⟩ := (D_law_take_3 (P := P) (w := w) (base := base) T B).ex
  refine F.ok (CX := CX0) sc_law len1 (fun cdv A outer s H vs Q E hr h => ?_)
  obtain ⟨v0, rfl, h⟩ := h
  refine ⟨_, PSs.nox (pss_cons (ps_set (i := 1) sc_law.nd rfl (Or.inl rfl) (pe_call G_law_store (hr.mono (by first | decide | omega)) (by rfl) m_law_store kp_law_store b_law_store .nil pass0 (pa_cons (pv 0) pa_nil)))
      (pss_cons (ps_set (i := 2) sc_law.nd rfl (Or.inl rfl) (pe_call G_law_rows (hr.mono (by first | decide | omega)) (by rfl) m_law_rows kp_law_rows b_law_rows .nil pass0 (pa_cons (pv 1) pa_nil)))
      (pss_cons (ps_set (i := 3) sc_law.nd rfl (Or.inl rfl) (pe_lst (pa_cons (pe_ix (ix_U : IxR _ (rIx K)) (pv 2) pe_int (fun _ _ => rfl)) (pa_cons (pe_ix (ix_U : IxR _ (rIx K)) (pv 2) pe_int (fun _ _ => rfl)) pa_nil))))
      (pss_cons (ps_for PassesOwn.never rfl (pi_range1 (by rfl) T.b_range (pa_cons (pe_op (op_addU : OpR _ (binaryOp .Add) (rAddU K)) pe_int (pe_call G_law_take (hr.mono (by first | decide | omega)) (by rfl) m_law_take kp_law_take b_law_take .nil pass0 (pa_cons (pv 1) (pa_cons pe_int pa_nil)))) pa_nil)) (pg_name (i := 4) sc_law.nd rfl (Or.inl rfl)) (pss_one (ps_set (i := 3) sc_law.nd rfl (Or.inl rfl) (pe_call G_law_bent_web (hr.mono (by first | decide | omega)) (by rfl) m_law_bent_web kp_law_bent_web b_law_bent_web .nil pass0 (pa_cons (pv 1) (pa_cons (pe_ix (ix_U : IxR _ (rIx K)) (pv 3) pe_int (fun _ _ => rfl)) (pa_cons (pe_ix (ix_U : IxR _ (rIx K)) (pv 3) pe_int (fun _ _ => rfl)) (pa_cons (pe_ix (ix_U : IxR _ (rIx K)) (pv 2) pe_int (fun _ _ => rfl)) pa_nil))))))))
      (pss_cons (ps_if (PW.pt (pw_or (pt_not (pt_val (pe_call G_law_holds (hr.mono (by first | decide | omega)) (by rfl) m_law_holds kp_law_holds b_law_holds .nil pass0 (pa_cons pe_int (pa_cons (pe_ix (ix_U : IxR _ (rIx K)) (pv 3) pe_int (fun _ _ => rfl)) (pa_cons (pe_ix (ix_U : IxR _ (rIx K)) (pv 3) pe_int (fun _ _ => rfl)) pa_nil)))))) (pw_or1 (pt_not (pt_val (pe_call G_law_holds (hr.mono (by first | decide | omega)) (by rfl) m_law_holds kp_law_holds b_law_holds .nil pass0 (pa_cons pe_int (pa_cons (pe_ix (ix_U : IxR _ (rIx K)) (pv 2) pe_int (fun _ _ => rfl)) (pa_cons (pe_ix (ix_U : IxR _ (rIx K)) (pv 2) pe_int (fun _ _ => rfl)) pa_nil))))))))) (pss_one (ps_ret pe_bl)) pss_nil)
      (pss_cons (ps_if (PW.pt (pw_or (pt_not (pt_val (pe_call G_law_holds (hr.mono (by first | decide | omega)) (by rfl) m_law_holds kp_law_holds b_law_holds .nil pass0 (pa_cons pe_int (pa_cons (pe_ix (ix_U : IxR _ (rIx K)) (pv 3) pe_int (fun _ _ => rfl)) (pa_cons (pe_ix (ix_U : IxR _ (rIx K)) (pv 3) pe_int (fun _ _ => rfl)) pa_nil)))))) (pw_or1 (pt_not (pt_val (pe_call G_law_holds (hr.mono (by first | decide | omega)) (by rfl) m_law_holds kp_law_holds b_law_holds .nil pass0 (pa_cons pe_int (pa_cons (pe_ix (ix_U : IxR _ (rIx K)) (pv 2) pe_int (fun _ _ => rfl)) (pa_cons (pe_call G_law_one_more (hr.mono (by first | decide | omega)) (by rfl) m_law_one_more kp_law_one_more b_law_one_more .nil pass0 (pa_cons (pv 1) (pa_cons (pv 2) pa_nil))) pa_nil))))))))) (pss_one (ps_ret pe_bl)) pss_nil)
      (pss_cons (ps_set (i := 5) sc_law.nd rfl (Or.inl rfl) (pe_callB (call_lenU : CallR _ (.builtin "len") (rLenU K)) (by rfl) T.b_len (by decide +kernel) (pa_cons (pe_ix (ix_U : IxR _ (rIx K)) (pv 2) pe_int (fun _ _ => rfl)) pa_nil)))
      (pss_cons (ps_if (pt_cmpR (op_eqP hr.units : OpR _ (compareOp .Eq) (rEqP K)) (pv 5) pe_int (nomark _)) (pss_one (ps_ret pe_bl)) pss_nil)
      (pss_cons (ps_set (i := 6) sc_law.nd rfl (Or.inl rfl) (pe_call G_law_bent_edge (hr.mono (by first | decide | omega)) (by rfl) m_law_bent_edge kp_law_bent_edge b_law_bent_edge .nil pass0 (pa_cons (pv 1) (pa_cons (pe_ix (ix_U : IxR _ (rIx K)) (pv 2) pe_int (fun _ _ => rfl)) (pa_cons (pe_op op_sub0 (pv 5) pe_int) (pa_cons (pe_ix (ix_U : IxR _ (rIx K)) (pv 2) pe_int (fun _ _ => rfl)) (pa_cons (pe_op (op_addU : OpR _ (binaryOp .Add) (rAddU K)) pe_int (pe_call G_law_take (hr.mono (by first | decide | omega)) (by rfl) m_law_take kp_law_take b_law_take .nil pass0 (pa_cons (pv 1) (pa_cons pe_int pa_nil)))) pa_nil)))))))
      (pss_cons (ps_set (i := 7) sc_law.nd rfl (Or.inl rfl) (pe_call G_law_ends (hr.mono (by first | decide | omega)) (by rfl) m_law_ends kp_law_ends b_law_ends .nil pass0 (pa_cons (pv 1) (pa_cons (pe_ix (ix_U : IxR _ (rIx K)) (pv 2) pe_int (fun _ _ => rfl)) pa_nil))))
      (pss_cons (ps_set (i := 8) sc_law.nd rfl (Or.inl rfl) (pe_tup (pa_cons (pe_ix (ix_U : IxR _ (rIx K)) (pv 6) pe_int (fun _ _ => rfl)) (pa_cons (pe_ix (ix_U : IxR _ (rIx K)) (pv 6) pe_int (fun _ _ => rfl)) (pa_cons (pe_ix (ix_U : IxR _ (rIx K)) (pv 6) pe_int (fun _ _ => rfl)) (pa_cons (pe_ix (ix_U : IxR _ (rIx K)) (pv 7) pe_int (fun _ _ => rfl)) (pa_cons (pe_ix (ix_U : IxR _ (rIx K)) (pv 7) pe_int (fun _ _ => rfl)) pa_nil)))))))
      (pss_one (ps_ret (pe_and (pe_call G_law_holds (hr.mono (by first | decide | omega)) (by rfl) m_law_holds kp_law_holds b_law_holds .nil pass0 (pa_cons pe_int (pa_cons (pe_ix (ix_U : IxR _ (rIx K)) (pv 2) pe_int (fun _ _ => rfl)) (pa_cons (pe_op (op_addU : OpR _ (binaryOp .Add) (rAddU K)) (pe_slice sl_list (pe_ix (ix_U : IxR _ (rIx K)) (pv 2) pe_int (fun _ _ => rfl)) po_none (po_some (pe_op op_sub0 (pv 5) pe_int))) (pe_lst (pa_cons (pv 6) pa_nil))) pa_nil)))) (pe_one (pe_call G_law_holds (hr.mono (by first | decide | omega)) (by rfl) m_law_holds kp_law_holds b_law_holds .nil pass0 (pa_cons pe_int (pa_cons (pe_ix (ix_U : IxR _ (rIx K)) (pv 2) pe_int (fun _ _ => rfl)) (pa_cons (pe_op (op_addU : OpR _ (binaryOp .Add) (rAddU K)) (pe_slice sl_list (pe_ix (ix_U : IxR _ (rIx K)) (pv 2) pe_int (fun _ _ => rfl)) po_none (po_some (pe_op op_sub0 (pv 5) pe_int))) (pe_lst (pa_cons (pv 8) pa_nil))) pa_nil))))))))))))))))))), ?_⟩
  try dsimp only [cxOf, Cx.nox, Cx.wish]
  rw [show start N_law [v0] = [some v0, none, none, none, none, none, none, none, none] from rfl]
  obtain ⟨a, sc, rfl, hs, hl, htab, k⟩ := h
  refine go_seq (go_asg (go_call ?_))
  refine ⟨.ref a, rfl, ?_⟩
  refine ⟨_, rfl, a, sc, rfl, hs, fun c H1 d1 hc ok1 => ?_⟩
  have htab1 : LamX.Tabs (TT K) H1 := htab.ext fun b o e => d1.st b o id e
  dsimp only [gName, List.set_cons_zero, List.set_cons_succ]
  refine enterMid (E := E) (T := TT K) (M := fun b => b = c ∨ b = pW K) (c := c) (S := [none, some (.d .store), none, none, none, none, none, none, none]) (ok_tab ok1 htab1) (fun q hq => by rw [List.mem_singleton.mp hq]; exact .inr rfl) htab1 rfl (fun i w hw => ?_) (fun M3 c3 A3 H3 => (s3_seq (s3_set (e3_call0 (a3_cons e3_var a3_nil) defs_nil) g3_name)
      (s3_seq (s3_set (e3_fresh (f3_lst (a3_cons (e3_op O3_ix e3_var e3_c) (a3_cons (e3_op O3_ix e3_var e3_c) a3_nil)))) g3_name)
      (s3_seq (s3_for (i3_r1 (a3_cons (e3_op O3_add e3_c (e3_call0 (a3_cons e3_var (a3_cons e3_c a3_nil)) defs_nil)) a3_nil)) g3_name (s3_set (e3_call0 (a3_cons e3_var (a3_cons (e3_op O3_ix e3_var e3_c) (a3_cons (e3_op O3_ix e3_var e3_c) (a3_cons (e3_op O3_ix e3_var e3_c) a3_nil)))) defs_nil) g3_name))
      (s3_seq (s3_if (t3_or (t3_not (t3_b (e3_call0 (a3_cons e3_c (a3_cons (e3_op O3_ix e3_var e3_c) (a3_cons (e3_op O3_ix e3_var e3_c) a3_nil))) defs_nil))) (t3_not (t3_b (e3_call0 (a3_cons e3_c (a3_cons (e3_op O3_ix e3_var e3_c) (a3_cons (e3_op O3_ix e3_var e3_c) a3_nil))) defs_nil)))) (s3_ret e3_c) s3_next)
      (s3_seq (s3_if (t3_or (t3_not (t3_b (e3_call0 (a3_cons e3_c (a3_cons (e3_op O3_ix e3_var e3_c) (a3_cons (e3_op O3_ix e3_var e3_c) a3_nil))) defs_nil))) (t3_not (t3_b (e3_call0 (a3_cons e3_c (a3_cons (e3_op O3_ix e3_var e3_c) (a3_cons (e3_call0 (a3_cons e3_var (a3_cons e3_var a3_nil)) defs_nil) a3_nil))) defs_nil)))) (s3_ret e3_c) s3_next)
      (s3_seq (s3_set (e3_cb C3_len (a3_cons (e3_op O3_ix e3_var e3_c) a3_nil)) g3_name)
      (s3_seq (s3_if (t3_test (e3_op O3_eq e3_var e3_c)) (s3_ret e3_c) s3_next)
      (s3_seq (s3_set (e3_call0 (a3_cons e3_var (a3_cons (e3_op O3_ix e3_var e3_c) (a3_cons (e3_op O3_sub e3_var e3_c) (a3_cons (e3_op O3_ix e3_var e3_c) (a3_cons (e3_op O3_add e3_c (e3_call0 (a3_cons e3_var (a3_cons e3_c a3_nil)) defs_nil)) a3_nil))))) defs_nil) g3_name)
      (s3_seq (s3_set (e3_call0 (a3_cons e3_var (a3_cons (e3_op O3_ix e3_var e3_c) a3_nil)) defs_nil) g3_name)
      (s3_seq (s3_set (e3_tup (a3_cons (e3_op O3_ix e3_var e3_c) (a3_cons (e3_op O3_ix e3_var e3_c) (a3_cons (e3_op O3_ix e3_var e3_c) (a3_cons (e3_op O3_ix e3_var e3_c) (a3_cons (e3_op O3_ix e3_var e3_c) a3_nil)))))) g3_name)
      (s3_ret (e3_andV (e3_call0 (a3_cons e3_c (a3_cons (e3_op O3_ix e3_var e3_c) (a3_cons (e3_op O3_add (e3_fresh (f3_sl SLF_L (e3_op O3_ix e3_var e3_c) p3_none (p3_part (e3_op O3_sub e3_var e3_c)))) (e3_fresh (f3_lst (a3_cons e3_var a3_nil)))) a3_nil))) defs_nil) (e3_call0 (a3_cons e3_c (a3_cons (e3_op O3_ix e3_var e3_c) (a3_cons (e3_op O3_add (e3_fresh (f3_sl SLF_L (e3_op O3_ix e3_var e3_c) p3_none (p3_part (e3_op O3_sub e3_var e3_c)))) (e3_fresh (f3_lst (a3_cons e3_var a3_nil)))) a3_nil))) defs_nil)))))))))))))) k ?_
  · match i, hw with
    | 0, hw => cases hw
    | 1, hw => cases hw; exact ⟨.ref c, .store, rfl, rfl, .store⟩
    | n + 2, hw => 
      have := List.mem_of_getElem? (show (List.replicate 7 (none : Option W))[n]? = some (some w) from hw)
      exact absurd (List.eq_of_mem_replicate this) (fun z => nomatch z)
  walk_at "g3"
  refine ⟨rfl, fun ls bs ns pk => ?_⟩
  have hr := pk.r
  have hp' := pk.p
  obtain ⟨n0, nM, nR⟩ := hp'
  have hb16 : bs.length ≤ 16 := by have := hr.b16; rwa [List.length_map] at this
  have rp := raw_plan hr
  have el := plan_ls ls
  have eb := plan_bs bs
  walk_at "g4"; walk_at "g4"
  refine k_take (by decide) (by decide) fun r r0 r1 => ?_
  obtain ⟨t, ht, t1, t2⟩ : ∃ t : Nat, 1 + r = (t : Int) ∧ 1 ≤ t ∧ t ≤ 2 := ⟨(1 + r).toNat, by omega, by omega, by omega⟩
  walk_at "g4"; walk_at "g4"
  rw [ht, rg_toNat]
  refine for3_inv (fun k : Nat => D.int (k : Int)) (fun pre S => ∃ (ls2 : List LampR) (bs2 : List BondR) (o : Option W), S = [none, some (.d .store), some (.d (.lst [.lst (ls.map lampD), .lst (bs.map bondD), .lst (ns.map D.int)])), some (.d (.lst [.lst (ls2.map lampRD), .lst (bs2.map bondRD)])), o, none, none, none, none] ∧ RawR (20 + pre.length) ls2 bs2) (List.range t) _ [] _ rfl ⟨ls.map rL, bs.map rB, none, by rw [el, eb], rp⟩ (fun pre j post S nx e hI h => ?_) (fun S hI => ?_)
  · obtain ⟨ls2, bs2, o, rfl, hI⟩ := hI
    have hj := (range_at e).1
    have hj2 := (range_at e).2
    walk_at "g4"; walk_at "g4"
    refine ⟨ls2, bs2, ns, _, rfl, hI, by omega, by omega, pk.p, fun ls3 bs3 h3 => ?_⟩
    walk_at "g4"; walk_at "g4"
    refine h _ ⟨ls3, bs3, _, rfl, ?_⟩
    rw [List.length_append, List.length_singleton]
    exact h3
  · obtain ⟨ls2, bs2, o, rfl, hI⟩ := hI
    rw [List.length_range] at hI
    walk_at "g4"; walk_at "g4"
    refine ⟨0, ls2, bs2, _, rfl, hI, by omega, .inl rfl, ?_⟩
    walk_at "g4"; walk_at "g4"
    refine ⟨0, ls.map rL, bs.map rB, 20, by rw [el, eb], rp, by decide, .inl rfl, ?_⟩
    walk_at "g4"; walk_at "g4"
    refine ⟨0, ls2, bs2, _, rfl, hI, by omega, .inl rfl, ?_⟩
    walk_at "g4"; walk_at "g4"
    refine ⟨ls, bs, ns, rfl, pk, fun b hb => ?_⟩
    walk_at "g4"; walk_at "g4"
    refine ⟨1, ls.map rL, bs.map rB ++ [b], 21, by rw [el], (rp.mono (by decide)).more (by rw [List.length_map]; omega) hb, by decide, .inr ⟨.inl rfl, bs.map rB, b, rfl, hr, fun z => absurd z (by decide)⟩, ?_⟩
    walk_at "g4"; walk_at "g4"
    rw [List.length_map]
    refine k_dec (fun hz => ?_) (fun hz => ?_)
    · walk_at "g4"
    obtain ⟨bs0, b0, rfl⟩ : ∃ bs0 b0, bs = bs0 ++ [b0] := by
      rcases List.eq_nil_or_concat bs with z | ⟨x, y, z⟩
      · exact absurd (show ((bs.length : Nat) : Int) = 0 by rw [z]; rfl) hz
      · exact ⟨x, y, by rw [z, List.concat_eq_append]⟩
    have hlen : ((bs0 ++ [b0]).length : Int) - 1 = (bs0.length : Int) := by rw [List.length_append, List.length_singleton]; omega
    have em : (bs0 ++ [b0]).map rB = bs0.map rB ++ [rB b0] := by rw [List.map_append]; rfl
    have hr' := hr
    rw [em] at hr'
    have hri := hr'.init
    have hgb : ((bs0 ++ [b0]).map rB)[bs0.length]? = some (rB b0) := by
      rw [em, List.getElem?_append_right (by rw [List.length_map]; omega), List.length_map, Nat.sub_self]
      rfl
    have ri : RawR 21 (ls.map rL) (bs0.map rB) := ⟨(rp.mono (by decide)).l, by rw [List.length_map]; rw [List.length_append] at hb16; omega, (rp.mono (by decide)).ol, fun x hx => (rp.mono (by decide)).ob x (by rw [em]; exact List.mem_append_left _ hx)⟩
    have ci : cutD ((bs0 ++ [b0]).map bondD) none (some (bs0.length : Int)) = bs0.map bondD := by
      rw [cutD_to (by omega), Int.toNat_natCast, List.map_append, List.take_append_of_le_length (by rw [List.length_map]; omega), List.take_of_length_le (by rw [List.length_map]; omega)]
    have hb0 : bs0.length ≤ 15 := by rw [List.length_append, List.length_singleton] at hb16; omega
    clear hz
    walk_at "g4"; walk_at "g4"
    refine k_take (by decide) (by decide) fun r9 r90 r91 => ?_
    walk_at "g4"; walk_at "g4"
    rw [hlen]
    refine ⟨_, bs0.length, 20, ns, 8 + r9, rB b0, by rw [eb], hgb, by rw [List.length_map]; omega, raw_bonds hr, by decide, by decide, pk.p, fun b1 hb1 he => ?_⟩
    obtain ⟨en, ea, eb1⟩ := he (by omega)
    walk_at "g4"; walk_at "g4"
    refine ⟨ns, rfl, n0, by omega, nR, fun lo hi hspan => ?_⟩
    walk_at "g4"; walk_at "g4"
    rw [hlen, ci]
    refine k_addLL (by rw [List.length_map]; show _ + 1 ≤ _; omega) ?_
    rw [show bs0.map bondD ++ [bondRD b1] = (bs0.map rB ++ [b1]).map bondRD from by rw [List.map_append, List.map_map]; rfl]
    have hb2 : RawB 21 ⟨b1.n, b1.a, b1.b, dEnd3 lo, dEnd3 hi⟩ := ⟨hb1.1, hb1.2.1, hb1.2.2.1, flat4_end _, flat4_end _⟩
    walk_at "g4"; walk_at "g4"
    refine ⟨2, ls.map rL, bs0.map rB ++ [b1], 21, by rw [el], ri.more (by rw [List.length_map]; omega) hb1, by decide, .inr ⟨.inr rfl, bs0.map rB, b1, rfl, hri, fun _ => hr'.open en ea eb1⟩, ?_⟩
    walk_at "g4"; walk_at "g4"
    rw [hlen, ci]
    refine k_addLL (by rw [List.length_map]; show _ + 1 ≤ _; omega) ?_
    rw [show bs0.map bondD ++ [.tup [.str b1.n, .str b1.a, .str b1.b, dEnd3 lo, dEnd3 hi]] = (bs0.map rB ++ [(⟨b1.n, b1.a, b1.b, dEnd3 lo, dEnd3 hi⟩ : BondR)]).map bondRD from by rw [List.map_append, List.map_map]; rfl]
    walk_at "g4"; walk_at "g4"
    refine ⟨2, ls.map rL, bs0.map rB ++ [⟨b1.n, b1.a, b1.b, dEnd3 lo, dEnd3 hi⟩], 21, by rw [el], ri.more (by rw [List.length_map]; omega) hb2, by decide, .inr ⟨.inr rfl, bs0.map rB, _, rfl, hri, fun _ => hr'.open (c := ⟨b1.n, b1.a, b1.b, dEnd3 lo, dEnd3 hi⟩) en ea eb1⟩, ?_⟩
    walk_at "g4"; walk_at "g4"
end
end Q
open PySem PySem.W PyProof.Rows
set_option maxHeartbeats 0 in
theorem PySem.Challenge.cw_outshiners_k07_webs_refuse_in_order_holds : PySem.Challenge.rw_outshiners_k07_webs_refuse_in_order.Holds := by
    refine Q.fin ?_
    refine LamX.walk_ofTsE (l := Q.lawRow) (n := 63) (k := 13) (x := "_law_script") (CX := fun _ => L2.CX0) rfl (by decide) (by kernel_rfl) ⟨rfl, by decide, by decide⟩ ?F (fun _ _ _ _ _ z => z)
    intro w mg fa h Y G hmg0
    obtain ⟨K, KX, c, tb⟩ := Y
    have T := Q.txt_of KX G c
    have e0 : (HandSHeadRun.topDef (OpenLaw.row Q.lawRow).prog 67).name = ("law" : PySem.Str) := by kernel_rfl
    have hmg : mg ("law" : PySem.Str) = some (.ref fa) := by
      rw [← e0]
      exact hmg0
    obtain ⟨f, fd, m, F⟩ := T.f_law.ex
    have ef : f = fa := by
      rw [m] at hmg
      exact Value.ref.inj (Option.some.inj hmg)
    subst ef
    have b := FunD.bindsA (ps := ["_law_script"]) F fun _ _ _ _ _ _ us hl => match us, hl with | [_], _ => rfl
    refine ⟨K, KX, fd, [(Q.cW K, Q.pW K)], Q.Sp1 (Q.pLawT K (Q.TT K)), fun p hp => ?_, fun p hp => ?_, fun p hp => ?_, fun s v => b s [v] rfl, fun H a ns hl _ ht hS => ⟨_, rfl, a, ns, rfl, hS, hl, fun p hp => ?_, fun _ => rfl⟩, fun base _ _ hT => ?_⟩
    · rw [List.mem_singleton.mp hp]; exact tb.em
    · rw [List.mem_singleton.mp hp]; exact tb.no
    · rw [List.mem_singleton.mp hp]; exact Q.head_is tb.hd KX
    · rw [List.mem_singleton.mp hp]; exact LamX.TabS.nil (ht (Q.cW K, Q.pW K) List.mem_cons_self)
    have B : Q.TxtB K mg base := ⟨fun hc => Q.code_is tb.cd hc, hT (Q.cW K, Q.pW K) List.mem_cons_self⟩
    obtain ⟨f2, fd2, m2, kp2, b2, G2, F2⟩ := (Q.Dlaw (P := Q.lawRow.prog) (w := w) (base := base) T B).ex
    have ef : f2 = f := by
      rw [m] at m2
      exact (Value.ref.inj (Option.some.inj m2)).symm
    subst ef
    have ed := Q.fund_same F F2
    subst ed
    exact G2
