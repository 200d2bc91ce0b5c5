import PyProof.Rows.All
import Wide.All
import OpenK.AllK
import Wide.FinOn
import KE.KStateDown
import Lean
import HandS.ForMost
import HandS.Exc
import HandS.ExcOwn
import HandS.TryOnly
import HandS.WordsExc
import HandS.Wide
import HandS.WideBits
import HandS.Conv
import HandS.IsInst
import HandS.RaiseMore
import HandS.Defaults
import HandS.Head0
import HandS.Head1
import HandS.Head2
import HandS.HeadEnd
import HandS.HeadHook1
import HandS.HeadHook2
import HandS.HeadHook3
import HandS.HeadHook4
import PySem.Challenge.RW_anyasked_k01_whole_shown_by_every_how
set_option Elab.async false
set_option linter.all false
set_option maxRecDepth 100000
set_option maxHeartbeats 4000000

namespace Ak
open PySem PySem.Spec PyProof.Rows L2
/-! ### calls of defs by their names -/
structure Cal (P : Program) (w : World) (K : PySem.W.Frag) (mg : Str → Option Value) (base : Heap) (k : Nat) (x : Str) (ps : List Str) (sp : Sp) : Prop where
  ex : ∃ f fd, FnOk P w K mg base (L2.CX P w) k f fd ps sp ∧ mg x = some (.ref f) ∧ PySem.W.keepIn K (.ref f) = true ∧ Binds K fd ps []
section
variable {X : Cx}
theorem pe_cal {k : Nat} {x : Str} {ps : List Str} {sp : Sp} {e : Expr} {es : List Expr} {t : TA} {p pos : Pos} (C : Cal X.prog X.w X.K X.mg X.base k x ps sp) (hr : Room k X.A) (hg : Gl X x) (ha : PA X (e :: es) t)
    (hdb : (x == ("__debug__" : Str)) = false := by decide) (he : starEach (e :: es) X.env = (false, eval e X.env) :: starEach es X.env := by rfl) (hpl : (backTo pos (starEach es X.env)).any (·.1) = false := by rfl) :
    PE X (.Call (.Name x p) (e :: es) [] pos) (tCall sp [] E0 t) := by
  obtain ⟨f, fd, G, g, kp, b⟩ := C.ex
  exact pe_call G hr hg g kp b .nil passL ha hdb he hpl
theorem pe_con {x : Str} {v : V} {u : Tok → Value} {pos : Pos} (hm : ∃ t, X.mg x = some (u t)) (hg : Gl X x) (r : ∀ t, RelV v (u t) := by intro t; exact ⟨t, rfl⟩) (hd : (x == ("__debug__" : Str)) = false := by decide) : PE X (.Name x pos) (tC v) := by
  obtain ⟨t, e⟩ := hm
  exact pe_glob hg e (r t) hd
theorem pe_ci {x : Str} {i : Int} {pos : Pos} (hm : ∃ t, X.mg x = some (.int i t)) (hg : Gl X x) (hd : (x == ("__debug__" : Str)) = false := by decide) : PE X (.Name x pos) (tC (.int i)) := by
  obtain ⟨t, e⟩ := hm
  exact pe_glob hg e ⟨t, rfl⟩ hd
theorem pe_cs {x s : Str} {pos : Pos} (hm : ∃ t, X.mg x = some (.str s t)) (hg : Gl X x) (hd : (x == ("__debug__" : Str)) = false := by decide) : PE X (.Name x pos) (tC (.str s)) := by
  obtain ⟨t, e⟩ := hm
  exact pe_glob hg e ⟨t, rfl⟩ hd
/-! ### operators on greater ints -/
def CPowW (i j : Int) : Prop := 0 ≤ j ∧ j ≤ 100 ∧ i.natAbs < 2 ^ 4096
theorem op_powW : OpR X (binaryOp .Pow) (rI CPowW fun i j => .int (i ^ j.toNat)) := opI fun i j _ _ _ _ _ hc q => by
  obtain ⟨h1, h2, h3⟩ := hc
  have b : Builtin.Int.intBits i ≤ 4096 := by
    have hl : i.natAbs.log2 < 4096 := PySem.Flt.log2_lt_of (by decide) h3
    unfold Builtin.Int.intBits
    split <;> omega
  refine pow_int h1 ?_ q
  have b2 : (Builtin.Int.intBits i : Int) ≤ 4096 := by omega
  have : (Builtin.Int.intBits i : Int) * j ≤ 4096 * 100 := Int.mul_le_mul b2 h2 h1 (by decide)
  exact Int.le_trans this (by decide)
/-! ### readings by names -/
def rAddI : R2 := rI0 fun i j => .int (i + j)
theorem o_add : OpR X (binaryOp .Add) rAddI := op_add
def rSubI : R2 := rI0 fun i j => .int (i - j)
theorem o_sub : OpR X (binaryOp .Sub) rSubI := op_sub
def rMulI : R2 := rI CMul fun i j => .int (i * j)
theorem o_mul : OpR X (binaryOp .Mult) rMulI := op_mul
def rFdivI : R2 := rI CDiv fun i j => .int (i / j)
theorem o_fdiv : OpR X (binaryOp .FloorDiv) rFdivI := op_fdiv
def rModI : R2 := rI (fun _ j => 0 < j) fun i j => .int (i % j)
theorem o_mod : OpR X (binaryOp .Mod) rModI := op_mod
def rPowI : R2 := rI CPowW fun i j => .int (i ^ j.toNat)
theorem o_pow : OpR X (binaryOp .Pow) rPowI := op_powW
def rLtI : R2 := rI0 fun i j => .bl (decide (i < j))
theorem o_lt : OpR X (compareOp .Lt) rLtI := op_lt
def rLeI : R2 := rI0 fun i j => .bl (decide (i ≤ j))
theorem o_le : OpR X (compareOp .LtE) rLeI := op_le
def rGtI : R2 := rI0 fun i j => .bl (decide (j < i))
theorem o_gt : OpR X (compareOp .Gt) rGtI := op_gt
def rGeI : R2 := rI0 fun i j => .bl (decide (j ≤ i))
theorem o_ge : OpR X (compareOp .GtE) rGeI := op_ge
def rNegI : V → Hp → VK → Prop := rU fun i => .int (-i)
theorem u_neg : UnR X (unaryOp .USub) rNegI := un_neg
def rInt1 : List V → Hp → VK → Prop := fun xs H Q => (∃ i, xs = [.int i] ∧ Q (.int i) H) ∨ ∃ k, xs = [.bl k] ∧ Q (.int (if k then 1 else 0)) H
theorem c_int1 : CallR X (.type "int") rInt1 := call_int1
def rAbs : List V → Hp → VK → Prop := fun xs H Q => ∃ i, xs = [.int i] ∧ Q (.int (if i < 0 then -i else i)) H
theorem c_abs : CallR X (.builtin "abs") rAbs := call_abs
def rMax2 : List V → Hp → VK → Prop := fun xs H Q => ∃ i j, xs = [.int i, .int j] ∧ Q (.int (if j > i then j else i)) H
theorem c_max2 (hc : X.calm = true) : CallR X (.builtin "max") rMax2 := call_max2 hc
def rMin2 : List V → Hp → VK → Prop := fun xs H Q => ∃ i j, xs = [.int i, .int j] ∧ Q (.int (if j < i then j else i)) H
theorem c_min2 (hc : X.calm = true) : CallR X (.builtin "min") rMin2 := call_min2 hc
def rLenS (K : PySem.W.Frag) : List V → Hp → VK → Prop := fun xs H Q => ∃ p ys, xs = [.ref p] ∧ (SqL K H p ys ∨ SqT K H p ys) ∧ Q (.int ys.length) H
theorem c_lenS : CallR X (.builtin "len") (rLenS X.K) := call_len_seq
def rReprI : List V → Hp → VK → Prop := fun xs H Q => ∃ i, xs = [.int i] ∧ i.natAbs.log2 < 1920 ∧ Q (.str (toString i)) H
theorem c_reprI : CallR X (.builtin "repr") rReprI := SkE.call_repr_int
def rDivmod : List V → Hp → VK → Prop := fun xs H Q => ∃ i j, xs = [.int i, .int j] ∧ CDiv i j ∧ ∀ p, H p = none → Q (.ref p) (upd H p (.tup [.int (i / j), .int (i % j)]))
theorem c_divmod : CallR X (.builtin "divmod") rDivmod := call_divmod
end
/-! ### steps of readings -/
def NewT (xs : List V) (H : Hp) (Q : VK) : Prop := xs.length ≤ sizeLine ∧ ∀ p, H p = none → Q (.ref p) (upd H p (.tup xs))
def NewR (a b : Int) (H : Hp) (Q : VK) : Prop := RgOk a b ∧ ∀ q, H q = none → Q (.ref q) (upd H q (.lst (rgV a b)))
def NewL (xs : List V) (H : Hp) (Q : VK) : Prop := xs.length ≤ sizeLine ∧ ∀ p, H p = none → Q (.ref p) (upd H p (.lst xs))
section
variable {σ : L2.St} {H : Hp} {Q : VK} {D : Ends} {ta tb tc te : TE} {tt tu : TT} {t1 t2 : TS} {i j : Int} {v x y : V} {K : PySem.W.Frag} {n : Nat} {p : Addr} {xs : List V}
theorem w_seq (h : t1 { D with nx := t2 D } σ H) : tSeq t1 t2 D σ H := h
theorem w_next (h : D.nx σ H) : tNext D σ H := h
theorem w_set {k : Nat} (h : te σ H fun x H1 => D.nx (σ.set k (some x)) H1) : tAsg te (gName k) D σ H := h
theorem w_asgS {ti to : TE} {s : TSet} (h : te σ H fun x H1 => to σ H1 fun o H2 => ti σ H2 fun i H3 => s o i x H3 fun H4 => D.nx σ H4) : tAsg te (gSub to ti s) D σ H := h
theorem w_ret (h : te σ H D.rt) : tRet te D σ H := h
theorem w_drop (h : te σ H fun _ H1 => D.nx σ H1) : tDrop te D σ H := h
theorem w_ifS (h : tt σ H fun b H1 => if b = true then t1 D σ H1 else t2 D σ H1) : tIfS tt t1 t2 D σ H := h
theorem w_op {r : R2} (h : ta σ H fun x H1 => tb σ H1 fun y H2 => r x y H2 Q) : tOp r ta tb σ H Q := h
theorem w_un {r : V → Hp → VK → Prop} (h : ta σ H fun x H1 => r x H1 Q) : tUn r ta σ H Q := h
theorem w_var (h : σ[n]? = some (some v)) (q : Q v H) : tVar n σ H Q := ⟨v, h, q⟩
theorem w_c (q : Q v H) : tC v σ H Q := q
theorem w_I0 {g : Int → Int → V} (q : Q (g i j) H) : rI0 g (.int i) (.int j) H Q := ⟨i, j, rfl, rfl, q⟩
theorem w_I {C : Int → Int → Prop} {g : Int → Int → V} (c : C i j) (q : Q (g i j) H) : rI C g (.int i) (.int j) H Q := ⟨i, j, rfl, rfl, c, q⟩
theorem w_U {g : Int → V} (q : Q (g i) H) : rU g (.int i) H Q := ⟨i, rfl, q⟩
theorem w_add (q : Q (.int (i + j)) H) : rAddI (.int i) (.int j) H Q := ⟨i, j, rfl, rfl, q⟩
theorem w_sub (q : Q (.int (i - j)) H) : rSubI (.int i) (.int j) H Q := ⟨i, j, rfl, rfl, q⟩
theorem w_mulL (h1 : -18446744073709551616 < i) (h2 : i < 18446744073709551616) (q : Q (.int (i * j)) H) : rMulI (.int i) (.int j) H Q := ⟨i, j, rfl, rfl, .inl ⟨h1, h2⟩, q⟩
theorem w_mulR (h1 : -18446744073709551616 < j) (h2 : j < 18446744073709551616) (q : Q (.int (i * j)) H) : rMulI (.int i) (.int j) H Q := ⟨i, j, rfl, rfl, .inr ⟨h1, h2⟩, q⟩
theorem w_fdiv (h1 : 0 < j) (h2 : j < 1073741824) (q : Q (.int (i / j)) H) : rFdivI (.int i) (.int j) H Q := ⟨i, j, rfl, rfl, ⟨h1, h2⟩, q⟩
theorem w_mod (h1 : 0 < j) (q : Q (.int (i % j)) H) : rModI (.int i) (.int j) H Q := ⟨i, j, rfl, rfl, h1, q⟩
theorem w_modG (h1 : 0 < j) (q : ∀ r, 0 ≤ r → r < j → Q (.int r) H) : rModI (.int i) (.int j) H Q := ⟨i, j, rfl, rfl, h1, q _ (Int.emod_nonneg i (by omega)) (Int.emod_lt_of_pos i h1)⟩
theorem w_pow (h1 : CPowW i j) (q : Q (.int (i ^ j.toNat)) H) : rPowI (.int i) (.int j) H Q := ⟨i, j, rfl, rfl, h1, q⟩
theorem w_lt (q : Q (.bl (decide (i < j))) H) : rLtI (.int i) (.int j) H Q := ⟨i, j, rfl, rfl, q⟩
theorem w_le (q : Q (.bl (decide (i ≤ j))) H) : rLeI (.int i) (.int j) H Q := ⟨i, j, rfl, rfl, q⟩
theorem w_gt (q : Q (.bl (decide (j < i))) H) : rGtI (.int i) (.int j) H Q := ⟨i, j, rfl, rfl, q⟩
theorem w_ge (q : Q (.bl (decide (j ≤ i))) H) : rGeI (.int i) (.int j) H Q := ⟨i, j, rfl, rfl, q⟩
theorem w_neg (q : Q (.int (-i)) H) : rNegI (.int i) H Q := ⟨i, rfl, q⟩
theorem w_bl {b : Bool} {R : Bool → Prop} (q : R b) : ∃ k, V.bl b = V.bl k ∧ R k := ⟨b, rfl, q⟩
theorem same_new {q : Addr} {o : HO} (hq : H q = none) : Same H (upd H q o) := fun b u e => by
  rw [upd_ne (ne_of_none e hq)]
  exact e
theorem w_divmod (h1 : 0 < j) (h2 : j < 1073741824) (q : ∀ p H', H p = none → H' p = some (.tup [.int (i / j), .int (i % j)]) → Same H H' → Q (.ref p) H') : rDivmod [.int i, .int j] H Q := ⟨i, j, rfl, ⟨h1, h2⟩, fun p hp => q p _ hp upd_same (same_new hp)⟩
theorem w_eq (h : scal x y = true) (q : Q (.bl (decide (x = y))) H) : rEq x y H Q := ⟨h, q⟩
theorem w_ne (h : scal x y = true) (q : Q (.bl (!decide (x = y))) H) : rNe x y H Q := ⟨h, q⟩
theorem w_test {R : Bool → Hp → Prop} (h : te σ H fun x H' => ∃ k, x = .bl k ∧ R k H') : tTest te σ H R := h
theorem w_B {R : Bool → Hp → Prop} (h : te σ H fun x H' => ∃ k, x = .bl k ∧ R k H') : tB te σ H R := h
theorem w_or {R : Bool → Hp → Prop} (h : tt σ H fun c H1 => if c = true then R true H1 else tu σ H1 R) : tOr tt tu σ H R := h
theorem w_and {R : Bool → Hp → Prop} (h : tt σ H fun c H1 => if c = true then tu σ H1 R else R false H1) : tAnd tt tu σ H R := h
theorem w_not {R : Bool → Hp → Prop} (h : tt σ H fun c H1 => R (!c) H1) : tNot tt σ H R := h
theorem w_andV (h : ta σ H fun x H1 => ∃ c, x = .bl c ∧ if c = true then tb σ H1 Q else Q (.bl false) H1) : tAndV ta tb σ H Q := h
theorem w_orV (h : ta σ H fun x H1 => ∃ c, x = .bl c ∧ if c = true then Q (.bl true) H1 else tb σ H1 Q) : tOrV ta tb σ H Q := h
theorem w_notV (h : ta σ H fun x H1 => ∃ c, x = .bl c ∧ Q (.bl (!c)) H1) : tNotV ta σ H Q := h
theorem w_ifE (h : tt σ H fun c H1 => if c = true then ta σ H1 Q else tb σ H1 Q) : tIf tt ta tb σ H Q := h
theorem w_chain {r r' : R2} (h : ta σ H fun x H1 => tb σ H1 fun y H2 => r x y H2 fun z H3 => ∃ k, z = .bl k ∧ (if k = true then tc σ H3 fun w H4 => r' y w H4 Q else Q (.bl false) H3)) : tChain r r' ta tb tc σ H Q := h
theorem w_cb {r : List V → Hp → VK → Prop} {tA : TA} (h : tA σ H fun vs H1 => r vs H1 Q) : tCB r tA σ H Q := h
theorem w_nil {R : List V → Hp → Prop} (h : R [] H) : tNil σ H R := h
theorem w_cons {tA : TA} {R : List V → Hp → Prop} (h : ta σ H fun x H1 => tA σ H1 fun xs H2 => R (x :: xs) H2) : tCons ta tA σ H R := h
theorem w_tup {tA : TA} (h : tA σ H fun xs H1 => NewT xs H1 Q) : tTup tA σ H Q := h
theorem w_lst {tA : TA} (h : tA σ H fun xs H1 => NewL xs H1 Q) : tLst tA σ H Q := h
theorem w_call {sp : Sp} {E : XK} {tA : TA} (h : tA σ H fun vs H1 => sp (vs ++ []) H1 Q E) : tCall sp [] E tA σ H Q := h
theorem w_int1 (q : Q (.int i) H) : rInt1 [.int i] H Q := .inl ⟨i, rfl, q⟩
theorem w_int1b {b : Bool} (q : Q (.int (if b then 1 else 0)) H) : rInt1 [.bl b] H Q := .inr ⟨b, rfl, q⟩
theorem w_int1G {b : Bool} (q : ∀ k, 0 ≤ k → k ≤ 1 → Q (.int k) H) : rInt1 [.bl b] H Q := .inr ⟨b, rfl, q _ (by cases b <;> decide) (by cases b <;> decide)⟩
theorem w_abs (q : Q (.int (if i < 0 then -i else i)) H) : rAbs [.int i] H Q := ⟨i, rfl, q⟩
theorem w_max2 (q : Q (.int (if j > i then j else i)) H) : rMax2 [.int i, .int j] H Q := ⟨i, j, rfl, q⟩
theorem w_min2 (q : Q (.int (if j < i then j else i)) H) : rMin2 [.int i, .int j] H Q := ⟨i, j, rfl, q⟩
theorem w_lenL (h : SqL K H p xs) (q : Q (.int xs.length) H) : rLenS K [.ref p] H Q := ⟨p, xs, rfl, .inl h, q⟩
theorem w_lenT (h : SqT K H p xs) (q : Q (.int xs.length) H) : rLenS K [.ref p] H Q := ⟨p, xs, rfl, .inr h, q⟩
theorem w_repr (h : i.natAbs.log2 < 1920) (q : Q (.str (toString i)) H) : rReprI [.int i] H Q := ⟨i, rfl, h, q⟩
theorem w_ixL (h : SqL K H p xs) (e : atI xs i = some v) (q : Q v H) : rIx K (.ref p) (.int i) H Q := .inl ⟨p, xs, i, v, rfl, rfl, h, e, q⟩
theorem w_ixT (h : SqT K H p xs) (e : atI xs i = some v) (q : Q v H) : rIx K (.ref p) (.int i) H Q := .inr (.inl ⟨p, xs, i, v, rfl, rfl, h, e, q⟩)
theorem w_setL {k : Nat} {R : Hp → Prop} (h : H p = some (.lst xs)) (e : ixN xs.length i = some k) (q : R (upd H p (.lst (xs.set k v)))) : rSetL (.ref p) (.int i) v H R := ⟨p, xs, i, k, rfl, rfl, h, e, q⟩
theorem w_asgT {K : PySem.W.Frag} {m : Nat} {t : TGs} (h : te σ H fun v H1 => ∃ a xs, v = .ref a ∧ SqT K H1 a xs ∧ xs.length = m ∧ t xs σ H1 D.nx) : tAsg te (gTup K m t) D σ H := h
theorem w_gcons {k : Nat} {t : TGs} {r : List V} {R : L2.St → Hp → Prop} (h : t r (σ.set k (some v)) H R) : gCons (gName k) t (v :: r) σ H R := ⟨v, r, rfl, h⟩
theorem w_gnil {R : L2.St → Hp → Prop} (h : R σ H) : gNil [] σ H R := ⟨rfl, h⟩
theorem w_par {a b : Nat} {tA : TA} (h : tA σ H fun vs H1 => ∃ v w, vs = [v, w] ∧ D.nx ((σ.set a (some v)).set b (some w)) H1) : tPar a b tA D σ H := h
theorem w_pair {R : V → V → Prop} (q : R x y) : ∃ v w, [x, y] = [v, w] ∧ R v w := ⟨x, y, rfl, q⟩
theorem w_mknx {a bb cc : L2.St → Hp → Prop} {b : VK} (h : a σ H) : (Ends.mk a b bb cc).nx σ H := h
theorem w_mkrt {a bb cc : L2.St → Hp → Prop} {b : VK} (h : b v H) : (Ends.mk a b bb cc).rt v H := h
theorem w_mkbk {a bb cc : L2.St → Hp → Prop} {b : VK} (h : bb σ H) : (Ends.mk a b bb cc).bk σ H := h
theorem w_mkct {a bb cc : L2.St → Hp → Prop} {b : VK} (h : cc σ H) : (Ends.mk a b bb cc).ct σ H := h
theorem w_if {c : Prop} [Decidable c] {A B : Prop} (h1 : c → A) (h2 : ¬ c → B) : if decide c = true then A else B := by
  by_cases h : c
  · rw [if_pos (decide_eq_true h)]
    exact h1 h
  · rw [if_neg (by simpa using h)]
    exact h2 h
theorem w_ifT {A B : Prop} (h : A) : if true = true then A else B := by
  rw [if_pos rfl]
  exact h
theorem w_ifF {A B : Prop} (h : B) : if false = true then A else B := by
  rw [if_neg Bool.false_ne_true]
  exact h
theorem w_ifNT {A B : Prop} (h : B) : if (!true) = true then A else B := w_ifF h
theorem w_ifNF {A B : Prop} (h : A) : if (!false) = true then A else B := w_ifT h
theorem w_ifI {A B : Prop} (h1 : i = j → A) (h2 : i ≠ j → B) : if decide (V.int i = V.int j) = true then A else B := w_if (fun e => h1 (V.int.inj e)) (fun e => h2 fun z => e (by rw [z]))
theorem w_ifNI {A B : Prop} (h1 : i ≠ j → A) (h2 : i = j → B) : if (!decide (V.int i = V.int j)) = true then A else B := by
  by_cases h : i = j
  · rw [if_neg (by simp [h])]
    exact h2 h
  · rw [if_pos (by simp [h])]
    exact h1 h
theorem w_ifN {c : Prop} [Decidable c] {A B : Prop} (h1 : ¬ c → A) (h2 : c → B) : if (!decide c) = true then A else B := by
  by_cases h : c
  · rw [if_neg (by simp [h])]
    exact h2 h
  · rw [if_pos (by simp [h])]
    exact h1 h
theorem w_newT (hl : Nat.ble xs.length 1000 = true) (h : ∀ p H', H p = none → H' p = some (.tup xs) → Same H H' → Q (.ref p) H') : NewT xs H Q := ⟨Nat.le_of_lt (small1000 (Nat.le_of_ble_eq_true hl)), fun p hp => h p _ hp upd_same (same_new hp)⟩
theorem w_newL (hl : Nat.ble xs.length 1000 = true) (h : ∀ p H', H p = none → H' p = some (.lst xs) → Same H H' → Q (.ref p) H') : NewL xs H Q := ⟨Nat.le_of_lt (small1000 (Nat.le_of_ble_eq_true hl)), fun p hp => h p _ hp upd_same (same_new hp)⟩
theorem w_lrg {te : L2.St → Hp → (Int → Int → Hp → Prop) → Prop} (h : te σ H fun a b H1 => NewR a b H1 Q) : tLstRg te σ H Q := h
theorem w_rg1 {R : Int → Int → Hp → Prop} (h : ta σ H fun x H1 => ∃ n, x = .int n ∧ R 0 n H1) : tRg1 ta σ H R := h
theorem w_rg2 {R : Int → Int → Hp → Prop} (h : ta σ H fun x H1 => tb σ H1 fun y H2 => ∃ i j, x = .int i ∧ y = .int j ∧ R i j H2) : tRg2 ta tb σ H R := h
theorem w_exI {R : Int → Prop} (q : R i) : ∃ n, V.int i = .int n ∧ R n := ⟨i, rfl, q⟩
theorem w_exI2 {R : Int → Int → Prop} (q : R i j) : ∃ n m, V.int i = .int n ∧ V.int j = .int m ∧ R n m := ⟨i, j, rfl, rfl, q⟩
theorem w_newR {a b : Int} (h0 : 0 ≤ a) (h1 : a ≤ 10000) (h2 : b ≤ 10000) (h3 : 0 ≤ b) (h : ∀ p H', H p = none → H' p = some (.lst (rgV a b)) → Same H H' → Q (.ref p) H') : NewR a b H Q := ⟨RgOk.of_le h0 (by omega) (by omega) h3, fun p hp => h p _ hp upd_same (same_new hp)⟩
theorem w_setG {k : Nat} {R : Hp → Prop} (h : H p = some (.lst xs)) (e : ixN xs.length i = some k) (q : ∀ H', H' p = some (.lst (xs.set k v)) → (∀ b o, b ≠ p → H b = some o → H' b = some o) → R H') : rSetL (.ref p) (.int i) v H R :=
  ⟨p, xs, i, k, rfl, rfl, h, e, q _ upd_same fun b o n hb => by rw [upd_ne n]; exact hb⟩
theorem atI_ex {m : Int} (h0 : 0 ≤ m) (h1 : m < xs.length) : ∃ v, atI xs m = some v ∧ v ∈ xs := by
  have hl : m.toNat < xs.length := by omega
  refine ⟨xs[m.toNat], ?_, List.getElem_mem hl⟩
  unfold atI ixN
  rw [if_pos h0, if_pos h1]
  simp [hl]
theorem sqL (h : H p = some (.lst xs)) : SqL K H p xs := .inl (.inl h)
theorem sqT (h : H p = some (.tup xs)) : SqT K H p xs := .inl (.inl h)
end


/-! ### loops and comprehensions -/
section
variable {σ : L2.St} {H : Hp} {Q : VK} {D : Ends} {K : PySem.W.Frag}
theorem w_forR {n j : Nat} {tb : TS} {tA : TA} (Pv : Nat → L2.St → Hp → Prop) (hA : ∀ R : List V → Hp → Prop, R [.int n] H → tA σ H R) (hn : n ≤ 1000000) (h0 : Pv 0 σ H)
    (hs : ∀ i σ' H', i < n → Pv i σ' H' → tb { D with nx := Pv (i + 1), ct := Pv (i + 1), bk := D.nx } (σ'.set j (some (.int (i : Int)))) H') (hd : ∀ σ' H', Pv n σ' H' → D.nx σ' H') : tFor (iRng1 tA) (gName j) tb D σ H := by
  refine hA _ ⟨(n : Int), rfl, by omega, by omega, ?_⟩
  have e : ((n : Int)).toNat = n := by omega
  rw [e]
  refine for_range (lo := 0) (n := n) Pv h0 (fun i σ' H' hi p => ?_) hd
  show tb { D with nx := Pv (i + 1), ct := Pv (i + 1), bk := D.nx } (σ'.set j (some (.int ((0 : Int) + (i : Int))))) H'
  rw [Int.zero_add]
  exact hs i σ' H' hi p
def LcAt (K : PySem.W.Frag) (x : V) (g : TG) (tt : TT) (te : TE) (vs : List Nat) (σ : L2.St) (H : Hp) (Q : VK) : Prop := tLc (iList K (tC x)) g tt te vs σ H Q
theorem w_lc {tl te : TE} {g : TG} {tt : TT} {vs : List Nat} (h : tl σ H fun x H1 => LcAt K x g tt te vs σ H1 Q) : tLc (iList K tl) g tt te vs σ H Q := h
/-- a comprehension without a test over a list that stands still; what it makes leaves the heap as it was, but for new things -/
theorem w_lcL {a : Addr} {xs : List V} {g : TG} {te : TE} {vs : List Nat} (f : Nat → V → Prop) (ha : SqL K H a xs) (hz : xs.length ≤ 1000000)
    (step : ∀ i x H' (Nx : VK), xs[i]? = some x → Same H H' → (∀ y H3, Same H' H3 → f i y → Nx y H3) → g x (wipe σ vs) H' fun σ2 H2 => wipe σ2 vs = wipe σ vs ∧ te σ2 H2 Nx)
    (q : ∀ D H' ys, H D = none → Same H H' → H' D = some (.lst ys) → ys.length = xs.length → (∀ i y, ys[i]? = some y → f i y) → Q (.ref D) H') : LcAt K (.ref a) g tYes te vs σ H Q := by
  refine ⟨a, rfl, ⟨xs, ha⟩, fun D hD => ?_⟩
  refine lc_list (K := K) (a := a) (xs := xs) (fun i H' => Same H H' ∧ ∃ acc, H' D = some (.lst acc) ∧ acc.length = i ∧ ∀ j y, acc[j]? = some y → f j y) ⟨same_new hD, [], upd_same, rfl, fun j y e => by simp at e⟩ (fun i H' _ h => h.1.seq ha) (fun i x H' hx h => ?_) (fun H' h => ?_)
  · obtain ⟨s1, acc, hacc, hlen, hf⟩ := h
    refine step i x H' _ hx s1 (fun y H3 s3 fy => ?_)
    have hi : i < xs.length := (List.getElem?_eq_some_iff.mp hx).1
    refine ⟨acc, s3 _ _ hacc, Nat.lt_of_le_of_lt (show acc.length ≤ 1000000 by omega) (by decide), fun b o hb => ?_, acc ++ [y], upd_same, by simp [hlen], fun j z e => ?_⟩
    · rw [upd_ne (ne_of_none hb hD)]
      exact s3 _ _ (s1 _ _ hb)
    · by_cases hj : j < acc.length
      · rw [List.getElem?_append_left hj] at e
        exact hf j z e
      · rw [List.getElem?_append_right (by omega)] at e
        have hj2 : j - acc.length = 0 := by
          rcases Nat.eq_zero_or_pos (j - acc.length) with h | h
          · exact h
          · rw [List.getElem?_eq_none (show [y].length ≤ j - acc.length from h)] at e
            cases e
        rw [hj2] at e
        have ez : y = z := Option.some.inj e
        have : j = i := by omega
        rw [this, ← ez]
        exact fy
  · obtain ⟨s1, acc, hacc, hlen, hf⟩ := h
    exact q D H' acc hD s1 hacc hlen hf
theorem w_allT {a : Addr} {ys : List V} (h : SqL K H a ys) (ht : ∀ (i : Nat) (y : V), ys[i]? = some y → y = .bl true) (q : Q (.bl true) H) : rAll K [.ref a] H Q := by
  have e : ys = (List.replicate ys.length true).map V.bl := by
    apply List.ext_getElem?
    intro i
    cases hy : ys[i]? with
    | none =>
      have := List.getElem?_eq_none_iff.mp hy
      rw [List.getElem?_eq_none (by simpa using this)]
    | some y =>
      have hlt := (List.getElem?_eq_some_iff.mp hy).1
      rw [ht i y hy, List.getElem?_map, List.getElem?_replicate, if_pos hlt]
      rfl
  rw [e] at h
  refine ⟨a, _, rfl, h, ?_⟩
  have e2 : (List.replicate ys.length true).all id = true := by simp
  rw [e2]
  exact q
end

def topS (i : Nat) : Stmt := PySem.Challenge.pw_anyasked_k01_whole_shown_by_every_how.main.body.getD i (.Pass ⟨0, 0, 0, 0⟩)
abbrev s_AskedError___init__ : Stmt := inClass (topS 1) 0
abbrev s_is_integer : Stmt := topS 6
abbrev s_is_between : Stmt := topS 7
abbrev s_is_tuple : Stmt := topS 8
abbrev s_is_word : Stmt := topS 9
abbrev s_is_units : Stmt := topS 18
abbrev s_check_units : Stmt := topS 19
abbrev s_rounded : Stmt := topS 20
abbrev s_shown : Stmt := topS 21
abbrev s_l_pot : Stmt := topS 23
abbrev s_l_take : Stmt := topS 24
abbrev s_l_of : Stmt := topS 25
abbrev s_l_cells : Stmt := topS 26
abbrev s_l_units : Stmt := topS 27
abbrev s_l_rounded : Stmt := topS 28
abbrev s_l_halved : Stmt := topS 29
abbrev s_l_beside : Stmt := topS 30
abbrev s_l_drawn_part : Stmt := topS 31
abbrev s_l_right : Stmt := topS 32
abbrev s_law : Stmt := topS 33
theorem sc_is_integer : FnScope ["value"] ["value"] (defScope s_is_integer) := ⟨rfl, rfl, rfl, by decide +kernel, rfl, by decide +kernel, by decide +kernel⟩
theorem sc_is_between : FnScope ["value", "low", "high"] ["value", "low", "high"] (defScope s_is_between) := ⟨rfl, rfl, rfl, by decide +kernel, rfl, by decide +kernel, by decide +kernel⟩
theorem sc_is_tuple : FnScope ["value", "least", "most"] ["value", "least", "most"] (defScope s_is_tuple) := ⟨rfl, rfl, rfl, by decide +kernel, rfl, by decide +kernel, by decide +kernel⟩
theorem sc_is_word : FnScope ["value", "words"] ["value", "words"] (defScope s_is_word) := ⟨rfl, rfl, rfl, by decide +kernel, rfl, by decide +kernel, by decide +kernel⟩
theorem sc_is_units : FnScope ["value"] ["value"] (defScope s_is_units) := ⟨rfl, rfl, rfl, by decide +kernel, rfl, by decide +kernel, by decide +kernel⟩
theorem sc_check_units : FnScope ["value"] ["value"] (defScope s_check_units) := ⟨rfl, rfl, rfl, by decide +kernel, rfl, by decide +kernel, by decide +kernel⟩
theorem sc_rounded : FnScope ["how", "above", "under", "low", "rest"] ["how", "above", "under"] (defScope s_rounded) := ⟨rfl, rfl, rfl, by decide +kernel, rfl, by decide +kernel, by decide +kernel⟩
theorem sc_shown : FnScope ["units", "many", "whole"] ["units", "many", "whole"] (defScope s_shown) := ⟨rfl, rfl, rfl, by decide +kernel, rfl, by decide +kernel, by decide +kernel⟩
theorem sc_l_pot : FnScope ["_law_script", "_law_place", "_law_cell", "_law_own", "_law_small"] ["_law_script", "_law_place"] (defScope s_l_pot) := ⟨rfl, rfl, rfl, by decide +kernel, rfl, by decide +kernel, by decide +kernel⟩
theorem sc_l_take : FnScope ["_law_pot_here", "_law_upto", "_law_digit", "_law_prime", "_law_stir"] ["_law_pot_here", "_law_upto"] (defScope s_l_take) := ⟨rfl, rfl, rfl, by decide +kernel, rfl, by decide +kernel, by decide +kernel⟩
theorem sc_l_of : FnScope ["_law_pot_here", "_law_some"] ["_law_pot_here", "_law_some"] (defScope s_l_of) := ⟨rfl, rfl, rfl, by decide +kernel, rfl, by decide +kernel, by decide +kernel⟩
theorem sc_l_cells : FnScope ["_law_script", "_law_most"] ["_law_script", "_law_most"] (defScope s_l_cells) := ⟨rfl, rfl, rfl, by decide +kernel, rfl, by decide +kernel, by decide +kernel⟩
theorem sc_l_units : FnScope ["_law_pot_here", "_law_most"] ["_law_pot_here", "_law_most"] (defScope s_l_units) := ⟨rfl, rfl, rfl, by decide +kernel, rfl, by decide +kernel, by decide +kernel⟩
theorem sc_l_rounded : FnScope ["_law_how", "_law_above", "_law_under", "_law_low", "_law_rest"] ["_law_how", "_law_above", "_law_under"] (defScope s_l_rounded) := ⟨rfl, rfl, rfl, by decide +kernel, rfl, by decide +kernel, by decide +kernel⟩
theorem sc_l_halved : FnScope ["_law_pot_here", "_law_parts", "_law_times"] ["_law_pot_here", "_law_parts"] (defScope s_l_halved) := ⟨rfl, rfl, rfl, by decide +kernel, rfl, by decide +kernel, by decide +kernel⟩
theorem sc_l_beside : FnScope ["_law_pot_here", "_law_parts", "_law_times", "_law_many"] ["_law_pot_here", "_law_parts"] (defScope s_l_beside) := ⟨rfl, rfl, rfl, by decide +kernel, rfl, by decide +kernel, by decide +kernel⟩
theorem sc_l_drawn_part : FnScope ["_law_pot_here", "_law_parts", "_law_way", "_law_whole"] ["_law_pot_here", "_law_parts"] (defScope s_l_drawn_part) := ⟨rfl, rfl, rfl, by decide +kernel, rfl, by decide +kernel, by decide +kernel⟩
theorem sc_l_right : FnScope ["_law_pot_here", "_law_asked", "_law_lap", "_law_units_here", "_law_many", "_law_whole", "_law_due"] ["_law_pot_here"] (defScope s_l_right) := ⟨rfl, rfl, rfl, by decide +kernel, rfl, by decide +kernel, by decide +kernel⟩
theorem sc_law : FnScope ["_law_script", "_law_place"] ["_law_script"] (defScope s_law) := ⟨rfl, rfl, rfl, by decide +kernel, rfl, by decide +kernel, by decide +kernel⟩
theorem st_AskedError___init__ (a0 a1 : V) : L2.start ["self", "value"] [a0, a1] = [some a0, some a1] := rfl
theorem st_is_integer (a0 : V) : L2.start ["value"] [a0] = [some a0] := rfl
theorem st_is_between (a0 a1 a2 : V) : L2.start ["value", "low", "high"] [a0, a1, a2] = [some a0, some a1, some a2] := rfl
theorem st_is_tuple (a0 a1 a2 : V) : L2.start ["value", "least", "most"] [a0, a1, a2] = [some a0, some a1, some a2] := rfl
theorem st_is_word (a0 a1 : V) : L2.start ["value", "words"] [a0, a1] = [some a0, some a1] := rfl
theorem st_is_units (a0 : V) : L2.start ["value"] [a0] = [some a0] := rfl
theorem st_check_units (a0 : V) : L2.start ["value"] [a0] = [some a0] := rfl
theorem st_rounded (a0 a1 a2 : V) : L2.start ["how", "above", "under", "low", "rest"] [a0, a1, a2] = [some a0, some a1, some a2, none, none] := rfl
theorem st_shown (a0 a1 a2 : V) : L2.start ["units", "many", "whole"] [a0, a1, a2] = [some a0, some a1, some a2] := rfl
theorem st_l_pot (a0 a1 : V) : L2.start ["_law_script", "_law_place", "_law_cell", "_law_own", "_law_small"] [a0, a1] = [some a0, some a1, none, none, none] := rfl
theorem st_l_take (a0 a1 : V) : L2.start ["_law_pot_here", "_law_upto", "_law_digit", "_law_prime", "_law_stir"] [a0, a1] = [some a0, some a1, none, none, none] := rfl
theorem st_l_of (a0 a1 : V) : L2.start ["_law_pot_here", "_law_some"] [a0, a1] = [some a0, some a1] := rfl
theorem st_l_cells (a0 a1 : V) : L2.start ["_law_script", "_law_most"] [a0, a1] = [some a0, some a1] := rfl
theorem st_l_units (a0 a1 : V) : L2.start ["_law_pot_here", "_law_most"] [a0, a1] = [some a0, some a1] := rfl
theorem st_l_rounded (a0 a1 a2 : V) : L2.start ["_law_how", "_law_above", "_law_under", "_law_low", "_law_rest"] [a0, a1, a2] = [some a0, some a1, some a2, none, none] := rfl
theorem st_l_halved (a0 a1 : V) : L2.start ["_law_pot_here", "_law_parts", "_law_times"] [a0, a1] = [some a0, some a1, none] := rfl
theorem st_l_beside (a0 a1 : V) : L2.start ["_law_pot_here", "_law_parts", "_law_times", "_law_many"] [a0, a1] = [some a0, some a1, none, none] := rfl
theorem st_l_drawn_part (a0 a1 : V) : L2.start ["_law_pot_here", "_law_parts", "_law_way", "_law_whole"] [a0, a1] = [some a0, some a1, none, none] := rfl
theorem st_l_right (a0 : V) : L2.start ["_law_pot_here", "_law_asked", "_law_lap", "_law_units_here", "_law_many", "_law_whole", "_law_due"] [a0] = [some a0, none, none, none, none, none, none] := rfl
theorem st_law (a0 : V) : L2.start ["_law_script", "_law_place"] [a0] = [some a0, none] := rfl
abbrev FnP (K : PySem.W.Frag) (x : Str) (st : Stmt) (f : Addr) (fd : FuncData) : Prop := FunD K x x (defArgs st) (defBody st) (defScope st) [] [] f fd
structure Txt (K : PySem.W.Frag) (mg : Str → Option Value) : Prop where
  d_is_integer : ∃ fd, FnP K "is_integer" s_is_integer (He.ga K "is_integer") fd
  g_is_integer : mg "is_integer" = some (.ref (He.ga K "is_integer"))
  d_is_between : ∃ fd, FnP K "is_between" s_is_between (He.ga K "is_between") fd
  g_is_between : mg "is_between" = some (.ref (He.ga K "is_between"))
  d_is_tuple : ∃ fd, FnP K "is_tuple" s_is_tuple (He.ga K "is_tuple") fd
  g_is_tuple : mg "is_tuple" = some (.ref (He.ga K "is_tuple"))
  d_is_word : ∃ fd, FnP K "is_word" s_is_word (He.ga K "is_word") fd
  g_is_word : mg "is_word" = some (.ref (He.ga K "is_word"))
  d_is_units : ∃ fd, FnP K "is_units" s_is_units (He.ga K "is_units") fd
  g_is_units : mg "is_units" = some (.ref (He.ga K "is_units"))
  d_check_units : ∃ fd, FnP K "check_units" s_check_units (He.ga K "check_units") fd
  g_check_units : mg "check_units" = some (.ref (He.ga K "check_units"))
  d_rounded : ∃ fd, FnP K "rounded" s_rounded (He.ga K "rounded") fd
  g_rounded : mg "rounded" = some (.ref (He.ga K "rounded"))
  d_shown : ∃ fd, FnP K "shown" s_shown (He.ga K "shown") fd
  g_shown : mg "shown" = some (.ref (He.ga K "shown"))
  d_l_pot : ∃ fd, FnP K "_law_pot" s_l_pot (He.ga K "_law_pot") fd
  g_l_pot : mg "_law_pot" = some (.ref (He.ga K "_law_pot"))
  d_l_take : ∃ fd, FnP K "_law_take" s_l_take (He.ga K "_law_take") fd
  g_l_take : mg "_law_take" = some (.ref (He.ga K "_law_take"))
  d_l_of : ∃ fd, FnP K "_law_of" s_l_of (He.ga K "_law_of") fd
  g_l_of : mg "_law_of" = some (.ref (He.ga K "_law_of"))
  d_l_cells : ∃ fd, FnP K "_law_cells" s_l_cells (He.ga K "_law_cells") fd
  g_l_cells : mg "_law_cells" = some (.ref (He.ga K "_law_cells"))
  d_l_units : ∃ fd, FnP K "_law_units" s_l_units (He.ga K "_law_units") fd
  g_l_units : mg "_law_units" = some (.ref (He.ga K "_law_units"))
  d_l_rounded : ∃ fd, FnP K "_law_rounded" s_l_rounded (He.ga K "_law_rounded") fd
  g_l_rounded : mg "_law_rounded" = some (.ref (He.ga K "_law_rounded"))
  d_l_halved : ∃ fd, FnP K "_law_halved" s_l_halved (He.ga K "_law_halved") fd
  g_l_halved : mg "_law_halved" = some (.ref (He.ga K "_law_halved"))
  d_l_beside : ∃ fd, FnP K "_law_beside" s_l_beside (He.ga K "_law_beside") fd
  g_l_beside : mg "_law_beside" = some (.ref (He.ga K "_law_beside"))
  d_l_drawn_part : ∃ fd, FnP K "_law_drawn_part" s_l_drawn_part (He.ga K "_law_drawn_part") fd
  g_l_drawn_part : mg "_law_drawn_part" = some (.ref (He.ga K "_law_drawn_part"))
  d_l_right : ∃ fd, FnP K "_law_right" s_l_right (He.ga K "_law_right") fd
  g_l_right : mg "_law_right" = some (.ref (He.ga K "_law_right"))
  d_law : ∃ fd, FnP K "law" s_law (He.ga K "law") fd
  g_law : mg "law" = some (.ref (He.ga K "law"))
  c_PAIR : ∃ t, mg "PAIR" = some (.int 2 t)
  c_NEAR : ∃ t, mg "NEAR" = some (.str "near" t)
  c_EVEN : ∃ t, mg "EVEN" = some (.str "even" t)
  c_DOWN : ∃ t, mg "DOWN" = some (.str "down" t)
  c_UP : ∃ t, mg "UP" = some (.str "up" t)
  c_HOWS : mg "HOWS" = some (.ref (He.ga K "HOWS"))
  t_HOWS : ∀ H, SqT K H (He.ga K "HOWS") [(.str "near"), (.str "even"), (.str "down"), (.str "up")]
  c_LEAST_UNITS : ∃ t, mg "LEAST_UNITS" = some (.int 2 t)
  c_MOST_UNITS : ∃ t, mg "MOST_UNITS" = some (.int 100 t)
  z_abs : mg "abs" = none
  z_all : mg "all" = none
  z_bool : mg "bool" = none
  z_divmod : mg "divmod" = none
  z_int : mg "int" = none
  z_isinstance : mg "isinstance" = none
  z_len : mg "len" = none
  z_list : mg "list" = none
  z_max : mg "max" = none
  z_min : mg "min" = none
  z_range : mg "range" = none
  z_repr : mg "repr" = none
  z_str : mg "str" = none
  z_tuple : mg "tuple" = none
end Ak
namespace Ak
open PySem PySem.Spec PyProof.Rows L2
/-! ### the walk of readings -/
local macro_rules | `(tactic| walk_at "go1") => `(tactic| (first
  | with_reducible refine w_seq ?_ | with_reducible refine w_next ?_ | with_reducible refine w_set ?_ | with_reducible refine w_asgS ?_ | with_reducible refine w_ret ?_ | with_reducible refine w_drop ?_ | with_reducible refine w_ifS ?_
  | with_reducible refine w_op ?_ | with_reducible refine w_un ?_ | ((with_reducible apply w_var); (· exact rfl)) | with_reducible refine w_c ?_
  | with_reducible refine w_add ?_ | with_reducible refine w_sub ?_ | with_reducible refine w_lt ?_ | with_reducible refine w_le ?_ | with_reducible refine w_gt ?_ | with_reducible refine w_ge ?_ | with_reducible refine w_neg ?_
  | ((with_reducible refine w_eq ?_ ?_); (· exact rfl)) | ((with_reducible refine w_ne ?_ ?_); (· exact rfl))
  | with_reducible refine w_test ?_ | with_reducible refine w_B ?_ | with_reducible refine w_or ?_ | with_reducible refine w_and ?_ | with_reducible refine w_not ?_ | with_reducible refine w_andV ?_ | with_reducible refine w_orV ?_ | with_reducible refine w_notV ?_
  | with_reducible refine w_ifE ?_ | with_reducible refine w_chain ?_ | with_reducible refine w_cb ?_ | with_reducible refine w_nil ?_ | with_reducible refine w_cons ?_ | with_reducible refine w_tup ?_ | with_reducible refine w_lst ?_ | with_reducible refine w_call ?_
  | with_reducible refine w_int1 ?_ | with_reducible refine w_abs ?_ | with_reducible refine w_max2 ?_ | with_reducible refine w_min2 ?_
  | with_reducible refine w_mknx ?_ | with_reducible refine w_mkrt ?_ | with_reducible refine w_mkbk ?_ | with_reducible refine w_mkct ?_ | with_reducible refine w_ifT ?_ | with_reducible refine w_ifF ?_ | with_reducible refine w_ifNT ?_ | with_reducible refine w_ifNF ?_
  | with_reducible refine w_lc ?_ | with_reducible refine w_lrg ?_ | with_reducible refine w_rg1 ?_ | with_reducible refine w_rg2 ?_ | with_reducible refine w_exI ?_ | with_reducible refine w_exI2 ?_
  | with_reducible refine w_bl ?_ | with_reducible refine w_asgT ?_ | with_reducible refine w_gcons ?_ | with_reducible refine w_gnil ?_ | with_reducible refine w_par ?_ | with_reducible refine w_pair ?_
  | ((with_reducible refine w_ixL (v := ?vv) (sqL (by assumption)) ?ee ?_); (case ee => exact rfl)) | ((with_reducible refine w_ixT (v := ?vv) (sqT (by assumption)) ?ee ?_); (case ee => exact rfl))
  | ((with_reducible refine w_ixL (v := ?vv) (by assumption) ?ee ?_); (case ee => exact rfl)) | ((with_reducible refine w_ixT (v := ?vv) (by assumption) ?ee ?_); (case ee => exact rfl))
  | ((with_reducible refine w_mod ?_ ?_); (· omega)) | ((with_reducible refine w_fdiv ?_ ?_ ?_); (· omega); (· omega))
  | ((with_reducible refine w_mulL ?_ ?_ ?_); (· omega); (· omega)) | ((with_reducible refine w_mulR ?_ ?_ ?_); (· omega); (· omega))
  | with_reducible refine w_lenL (sqL (by assumption)) ?_ | with_reducible refine w_lenL (by assumption) ?_ | with_reducible refine w_lenT (sqT (by assumption)) ?_ | with_reducible refine w_lenT (by assumption) ?_))
local macro_rules | `(tactic| walk_at "go") => `(tactic| repeat walk_at "go1")
/-! ### draws: the law's own pot -/
def PotL (n : Nat) (xs : List V) : Prop := ∃ a b c : Int, xs = [.int a, .int b, .int c] ∧ 0 ≤ a ∧ 0 ≤ b ∧ b < 2305843009213693952 ∧ 0 ≤ c ∧ c ≤ n
/-- all but what stands at p is as it was -/
def But (p : Addr) (H H' : Hp) : Prop := ∀ b o, b ≠ p → H b = some o → H' b = some o
theorem But.refl {p : Addr} {H : Hp} : But p H H := fun _ _ _ h => h
theorem But.trans {p : Addr} {H H1 H2 : Hp} (a : But p H H1) (b : But p H1 H2) : But p H H2 := fun c o n h => b c o n (a c o n h)
theorem But.upd {p : Addr} {H H' : Hp} {o : HO} (a : But p H H') : But p H (upd H' p o) := fun c u n h => by
  rw [upd_ne n]
  exact a c u n h
theorem But.new {p q : Addr} {H H' : Hp} {o : HO} (a : But p H H') (hq : H' q = none) : But p H (L2.upd H' q o) := fun c u n h => by
  rw [upd_ne (ne_of_none (a c u n h) hq)]
  exact a c u n h
theorem upd_old {H : Hp} {q b : Addr} {o u : HO} (hq : H q = none) (h : H b = some u) : upd H q o b = some u := by
  rw [upd_ne (ne_of_none h hq)]
  exact h
/-- what a draw promises -/
def Draw (ok : V → Hp → Prop) (p : Addr) (m : Nat) (H : Hp) (Q : VK) : Prop := ∀ v H' ys, But p H H' → H' p = some (.lst ys) → PotL m ys → ok v H' → Q v H'
def spTake : Sp := fun vs H Q _ => ∃ p n u xs, vs = [.ref p, .int u] ∧ H p = some (.lst xs) ∧ PotL n xs ∧ n < 100000 ∧ 0 < u ∧ u < 1073741824 ∧ Draw (fun v _ => ∃ r, v = .int r ∧ 0 ≤ r ∧ r < u) p (n + 1) H Q
theorem cpow_of {i j : Int} (h0 : 0 ≤ i) (h : i < 340282366920938463463374607431768211456) (h1 : 0 ≤ j) (h2 : j ≤ 100) : CPowW i j := by
  refine ⟨h1, h2, Nat.lt_of_lt_of_le (m := 340282366920938463463374607431768211456) (by omega) ?_⟩
  exact Nat.pow_le_pow_right (i := 128) (j := 4096) (n := 2) (by decide) (by decide)
theorem cpow_gen {b k c m : Int} (hb : 0 ≤ b) (hb2 : b < 2305843009213693952) (hc : 0 ≤ c) (hc2 : c ≤ 100001) (hk : 0 ≤ k) (hk2 : k ≤ 1000000) (hm : 0 ≤ m) (hm2 : m ≤ 1000000) : CPowW (b + k * c * c + m) 3 := by
  have h1 : 0 ≤ k * c := Int.mul_nonneg hk hc
  have h2 : 0 ≤ k * c * c := Int.mul_nonneg h1 hc
  have h3 : k * c ≤ 1000000 * 100001 := Int.mul_le_mul hk2 hc2 hc (by decide)
  have h4 : k * c * c ≤ 1000000 * 100001 * 100001 := Int.mul_le_mul h3 hc2 hc (by decide)
  exact cpow_of (by omega) (by omega) (by decide) (by decide)
theorem _root_.L2.Same.but {p : Addr} {H H' : Hp} (s : Same H H') : But p H H' := fun b o _ h => s b o h
section
variable {P : Program} {w : World} {K : PySem.W.Frag} {mg : Str → Option Value} {base : Heap}
theorem C_l_take (T : Txt K mg) : Cal P w K mg base 1 "_law_take" ["_law_pot_here", "_law_upto"] spTake := by
  obtain ⟨fd, F⟩ := T.d_l_take
  refine ⟨_, fd, FunD.ok F sc_l_take (fun vs H Q E h => ?_) (fun cdv A outer s H vs Q E hr h => ?_), T.g_l_take, F.kp, (F.bindsN fun _ _ _ _ _ _ us hl => match us, hl with | [_, _], _ => rfl)⟩
  · obtain ⟨p, n, u, xs, rfl, _⟩ := h
    rfl
  · obtain ⟨p, n, u, xs, rfl, hp, ⟨a, b, c, rfl, ha, hb, hb2, hc, hc2⟩, hn, hu, hu2, q⟩ := h
    refine ⟨_, PSs.nox (pss_cons (ps_if (pt_cmpR o_gt (pe_ix ix_seq (pv 0) pe_int (fun _ _ => rfl)) pe_int (nomark _)) (pss_cons (ps_set (i := 2) sc_l_take.nd rfl (.inl rfl) (pe_op o_mod (pe_callTy c_int1 (by rfl) T.z_int (by decide +kernel) (pa_cons (pe_ix ix_seq (pv 0) pe_int (fun _ _ => rfl)) pa_nil)) (pv 1)))
    (pss_cons (ps_asg (pe_op o_fdiv (pe_ix ix_seq (pv 0) pe_int (fun _ _ => rfl)) (pv 1)) (pg_sub (pv 0) pe_int set_list))
    (pss_one (ps_ret (pv 2))))) pss_nil)
    (pss_cons (ps_asg (pe_op o_add (pe_ix ix_seq (pv 0) pe_int (fun _ _ => rfl)) pe_int) (pg_sub (pv 0) pe_int set_list))
    (pss_cons (ps_set (i := 3) sc_l_take.nd rfl (.inl rfl) (pe_ix ix_seq (pe_lst (pa_cons pe_int (pa_cons pe_int (pa_cons pe_int (pa_cons pe_int (pa_cons pe_int pa_nil)))))) (pe_op o_mod (pe_callTy c_int1 (by rfl) T.z_int (by decide +kernel) (pa_cons (pe_ix ix_seq (pv 0) pe_int (fun _ _ => rfl)) pa_nil)) pe_int) (fun _ _ => rfl)))
    (pss_cons (ps_set (i := 4) sc_l_take.nd rfl (.inl rfl) (pe_op o_mod (pe_callTy c_int1 (by rfl) T.z_int (by decide +kernel) (pa_cons (pe_op o_pow (pe_callTy c_int1 (by rfl) T.z_int (by decide +kernel) (pa_cons (pe_op o_add (pe_op o_add (pe_ix ix_seq (pv 0) pe_int (fun _ _ => rfl)) (pe_op o_mul (pe_op o_mul pe_int (pe_ix ix_seq (pv 0) pe_int (fun _ _ => rfl))) (pe_ix ix_seq (pv 0) pe_int (fun _ _ => rfl)))) pe_int) pa_nil)) pe_int) pa_nil)) (pv 3)))
    (pss_cons (ps_set (i := 4) sc_l_take.nd rfl (.inl rfl) (pe_op o_mod (pe_callTy c_int1 (by rfl) T.z_int (by decide +kernel) (pa_cons (pe_op o_mul (pv 4) (pe_op o_add (pe_op o_mod (pe_callTy c_int1 (by rfl) T.z_int (by decide +kernel) (pa_cons (pv 4) pa_nil)) pe_int) (pe_op o_mul pe_int (pe_ix ix_seq (pv 0) pe_int (fun _ _ => rfl))))) pa_nil)) pe_int))
    (pss_one (ps_ret (pe_op o_mod (pe_callTy c_int1 (by rfl) T.z_int (by decide +kernel) (pa_cons (pe_op o_fdiv (pv 4) pe_int) pa_nil)) (pv 1))))))))), ?_⟩
    try dsimp only [cxOf, Cx.nox, Cx.wish]
    rw [st_l_take]; walk_at "go"
    refine w_if (fun e => ?_) (fun e => ?_)
    · walk_at "go"
      refine w_setG hp rfl (fun H1 hp1 b1 => ?_)
      walk_at "go"
      exact q _ _ _ b1 hp1 ⟨a / u, b, c, rfl, Int.ediv_nonneg ha (by omega), hb, hb2, hc, by omega⟩ ⟨_, rfl, Int.emod_nonneg a (by omega), Int.emod_lt_of_pos a hu⟩
    · walk_at "go"
      refine w_setG hp rfl (fun H1 hp1' b1 => ?_)
      have hp1 : H1 p = some (.lst [.int a, .int b, .int (c + 1)]) := hp1'
      walk_at "go"
      refine w_newL rfl (fun l H2 nl hl s2 => ?_)
      have hp2 := s2 _ _ hp1
      walk_at "go"
      obtain ⟨v, ev, mv⟩ := atI_ex (xs := [V.int 2147483647, .int 2147483629, .int 2147483587, .int 2147483579, .int 2147483563]) (m := (c + 1) % 5) (by omega) (by show (c + 1) % 5 < 5; omega)
      obtain ⟨pr, rfl, h1, h2⟩ : ∃ pr, v = .int pr ∧ 0 < pr ∧ pr < 2147483648 := by
        simp only [List.mem_cons, List.not_mem_nil, or_false] at mv
        rcases mv with e | e | e | e | e <;> exact ⟨_, e, by decide, by decide⟩
      refine w_ixL (sqL hl) ev ?_
      walk_at "go"
      refine w_pow (cpow_gen hb hb2 (by omega) (by omega) (by decide) (by decide) (by decide) (by decide)) ?_
      iterate 3 walk_at "go1"
      refine w_modG h1 (fun st s0 s1 => ?_)
      walk_at "go"
      exact q _ _ _ (But.trans b1 s2.but) hp2 ⟨a, b, c + 1, rfl, ha, hb, hb2, by omega, by omega⟩ ⟨_, rfl, Int.emod_nonneg _ (by omega), Int.emod_lt_of_pos _ hu⟩
def spPot (K : PySem.W.Frag) : Sp := fun vs H Q _ => ∃ a k ns, vs = [.ref a, .int k] ∧ SqL K H a ((ns : List Int).map V.int) ∧ 0 ≤ k ∧ k ≤ 100 ∧ ∀ p H' ys, H p = none → Same H H' → H' p = some (.lst ys) → PotL 0 ys → Q (.ref p) H'
theorem C_l_pot (T : Txt K mg) : Cal P w K mg base 1 "_law_pot" ["_law_script", "_law_place"] (spPot K) := by
  obtain ⟨fd, F⟩ := T.d_l_pot
  refine ⟨_, fd, FunD.ok F sc_l_pot (fun vs H Q E h => ?_) (fun cdv A outer s H vs Q E hr h => ?_), T.g_l_pot, F.kp, (F.bindsN fun _ _ _ _ _ _ us hl => match us, hl with | [_, _], _ => rfl)⟩
  · obtain ⟨p, n, u, rfl, _⟩ := h
    rfl
  · obtain ⟨a, k, ns, rfl, hS, hk, hk2, q⟩ := h
    refine ⟨_, PSs.nox (pss_cons (ps_set (i := 2) sc_l_pot.nd rfl (.inl rfl) (pe_ifExp (pt_cmpR o_lt (pv 1) (pe_callB c_lenS (by rfl) T.z_len (by decide +kernel) (pa_cons (pv 0) pa_nil)) (nomark _)) (pe_ix ix_seq (pv 0) (pv 1) (fun _ _ => rfl)) (pe_op o_add (pe_op o_mul pe_int (pv 1)) pe_int)))
    (pss_cons (ps_set (i := 3) sc_l_pot.nd rfl (.inl rfl) (pe_op o_mul (pe_op o_mod (pe_callTy c_int1 (by rfl) T.z_int (by decide +kernel) (pa_cons (pe_callB c_abs (by rfl) T.z_abs (by decide +kernel) (pa_cons (pv 2) pa_nil)) pa_nil)) (pe_op o_pow (pe_op o_pow pe_int pe_int) pe_int)) (pe_callTy c_int1 (by rfl) T.z_int (by decide +kernel) (pa_cons (pe_cmpR o_ge (pe_callB c_abs (by rfl) T.z_abs (by decide +kernel) (pa_cons (pv 2) pa_nil)) (pe_op o_pow pe_int pe_int) (nomark _)) pa_nil))))
    (pss_cons (ps_set (i := 4) sc_l_pot.nd rfl (.inl rfl) (pe_op o_mod (pe_callTy c_int1 (by rfl) T.z_int (by decide +kernel) (pa_cons (pv 2) pa_nil)) pe_int))
    (pss_one (ps_ret (pe_lst (pa_cons (pv 3) (pa_cons (pe_op o_mod (pe_callTy c_int1 (by rfl) T.z_int (by decide +kernel) (pa_cons (pe_op o_add (pe_op o_add (pe_op o_mul (pv 4) pe_int) (pe_op o_mul (pe_op o_mul pe_int (pv 1)) (pv 1))) pe_int) pa_nil)) pe_int) (pa_cons pe_int pa_nil))))))))), ?_⟩
    try dsimp only [cxOf, Cx.nox, Cx.wish]
    rw [st_l_pot]; walk_at "go"
    refine w_if (fun e => ?g1) (fun e => ?_)
    case' g1 =>
      walk_at "go"
      obtain ⟨v, ev, mv⟩ := atI_ex (xs := ns.map V.int) hk e
      obtain ⟨z, _, rfl⟩ := List.mem_map.mp mv
      refine w_ixL hS ev ?_
    all_goals
      walk_at "go"
      refine w_pow (cpow_of (by decide) (by decide) (by decide) (by decide)) ?_
      walk_at "go"
      refine w_pow ⟨by decide, by decide, by decide +kernel⟩ ?_
      refine w_modG (Int.pow_pos (Int.pow_pos (by decide))) (fun r r0 _ => ?_)
      walk_at "go"
      refine w_pow (cpow_of (by decide) (by decide) (by decide) (by decide)) ?_
      walk_at "go"
      refine w_int1G (fun f f0 f1 => ?_)
      walk_at "go"
      refine w_newL rfl (fun p H1 np hp s1 => ?_)
      exact q _ _ _ np s1 hp ⟨_, _, 0, rfl, Int.mul_nonneg r0 f0, by omega, by omega, by omega, by omega⟩
def spOf (K : PySem.W.Frag) : Sp := fun vs H Q _ => ∃ p n xs l ys, vs = [.ref p, .ref l] ∧ H p = some (.lst xs) ∧ PotL n xs ∧ n < 100000 ∧ p ≠ l ∧ SqL K H l ys ∧ 0 < ys.length ∧ ys.length ≤ 1000 ∧ Draw (fun v _ => v ∈ ys) p (n + 1) H Q
theorem sq_but {p l : Addr} {H H' : Hp} {xs : List V} (b : But p H H') (n : p ≠ l) (h : SqL K H l xs) : SqL K H' l xs := by
  rcases h with (h | ⟨o, h⟩) | h
  · exact .inl (.inl (b _ _ (Ne.symm n) h))
  · exact .inl (.inr ⟨o, b _ _ (Ne.symm n) h⟩)
  · exact .inr h
theorem C_l_of (T : Txt K mg) : Cal P w K mg base 2 "_law_of" ["_law_pot_here", "_law_some"] (spOf K) := by
  have C_l_take := C_l_take (P := P) (w := w) (base := base) T
  obtain ⟨fd, F⟩ := T.d_l_of
  refine ⟨_, fd, FunD.ok F sc_l_of (fun vs H Q E h => ?_) (fun cdv A outer s H vs Q E hr h => ?_), T.g_l_of, F.kp, (F.bindsN fun _ _ _ _ _ _ us hl => match us, hl with | [_, _], _ => rfl)⟩
  · obtain ⟨p, n, xs, l, ys, rfl, _⟩ := h
    rfl
  · obtain ⟨p, n, xs, l, ys, rfl, hp, hP, hn, hne, hl, h0, h1, q⟩ := h
    refine ⟨_, PSs.nox (pss_one (ps_ret (pe_ix ix_seq (pv 1) (pe_cal C_l_take (hr.mono (by decide)) (by rfl) (pa_cons (pv 0) (pa_cons (pe_callB c_lenS (by rfl) T.z_len (by decide +kernel) (pa_cons (pv 1) pa_nil)) pa_nil))) (fun _ _ => rfl)))), ?_⟩
    try dsimp only [cxOf, Cx.nox, Cx.wish]
    rw [st_l_of]; walk_at "go"
    refine ⟨p, n, _, xs, rfl, hp, hP, hn, by omega, by omega, ?_⟩
    rintro v H1 zs b1 hp1 hP1 ⟨r, rfl, r0, r1⟩
    obtain ⟨v, ev, mv⟩ := atI_ex r0 r1
    exact w_ixL (sq_but b1 hne hl) ev (q _ _ _ b1 hp1 hP1 mv)
def spCells (K : PySem.W.Frag) : Sp := fun vs H Q _ => ∃ a k ns, vs = [.ref a, .int k] ∧ SqL K H a ((ns : List Int).map V.int) ∧ 1 ≤ k ∧ k ≤ 100 ∧ ∀ p H' n, H p = none → Same H H' → n ≤ 100 → H' p = some (.lst (rgV 0 n)) → Q (.ref p) H'
theorem C_l_cells (T : Txt K mg) : Cal P w K mg base 1 "_law_cells" ["_law_script", "_law_most"] (spCells K) := by
  obtain ⟨fd, F⟩ := T.d_l_cells
  refine ⟨_, fd, FunD.ok F sc_l_cells (fun vs H Q E h => ?_) (fun cdv A outer s H vs Q E hr h => ?_), T.g_l_cells, F.kp, (F.bindsN fun _ _ _ _ _ _ us hl => match us, hl with | [_, _], _ => rfl)⟩
  · obtain ⟨p, n, u, rfl, _⟩ := h
    rfl
  · obtain ⟨a, k, ns, rfl, hS, hk, hk2, q⟩ := h
    refine ⟨_, PSs.nox (pss_one (ps_ret (pe_listRg rfl (by rfl) T.z_list (prg_1 (by rfl) T.z_range (pe_callB (c_max2 rfl) (by rfl) T.z_max (by decide +kernel) (pa_cons pe_int (pa_cons (pe_callB (c_min2 rfl) (by rfl) T.z_min (by decide +kernel) (pa_cons (pv 1) (pa_cons (pe_callB c_lenS (by rfl) T.z_len (by decide +kernel) (pa_cons (pv 0) pa_nil)) pa_nil))) pa_nil))))))), ?_⟩
    try dsimp only [cxOf, Cx.nox, Cx.wish]
    rw [st_l_cells]; walk_at "go"
    refine w_newR (by decide) (by decide) ?_ ?_ (fun p H1 np hp s1 => ?_)
    · split <;> split <;> omega
    · split <;> split <;> omega
    · exact q _ _ _ np s1 (by split <;> split <;> omega) hp
end

end Ak
namespace Ak
open PySem PySem.Spec PyProof.Rows L2
/-! ### the walk of readings -/
local macro_rules | `(tactic| walk_at "go1") => `(tactic| (first
  | with_reducible refine w_seq ?_ | with_reducible refine w_next ?_ | with_reducible refine w_set ?_ | with_reducible refine w_asgS ?_ | with_reducible refine w_ret ?_ | with_reducible refine w_drop ?_ | with_reducible refine w_ifS ?_
  | with_reducible refine w_op ?_ | with_reducible refine w_un ?_ | ((with_reducible apply w_var); (· exact rfl)) | with_reducible refine w_c ?_
  | with_reducible refine w_add ?_ | with_reducible refine w_sub ?_ | with_reducible refine w_lt ?_ | with_reducible refine w_le ?_ | with_reducible refine w_gt ?_ | with_reducible refine w_ge ?_ | with_reducible refine w_neg ?_
  | ((with_reducible refine w_eq ?_ ?_); (· exact rfl)) | ((with_reducible refine w_ne ?_ ?_); (· exact rfl))
  | with_reducible refine w_test ?_ | with_reducible refine w_B ?_ | with_reducible refine w_or ?_ | with_reducible refine w_and ?_ | with_reducible refine w_not ?_ | with_reducible refine w_andV ?_ | with_reducible refine w_orV ?_ | with_reducible refine w_notV ?_
  | with_reducible refine w_ifE ?_ | with_reducible refine w_chain ?_ | with_reducible refine w_cb ?_ | with_reducible refine w_nil ?_ | with_reducible refine w_cons ?_ | with_reducible refine w_tup ?_ | with_reducible refine w_lst ?_ | with_reducible refine w_call ?_
  | with_reducible refine w_int1 ?_ | with_reducible refine w_abs ?_ | with_reducible refine w_max2 ?_ | with_reducible refine w_min2 ?_
  | with_reducible refine w_mknx ?_ | with_reducible refine w_mkrt ?_ | with_reducible refine w_mkbk ?_ | with_reducible refine w_mkct ?_ | with_reducible refine w_ifT ?_ | with_reducible refine w_ifF ?_ | with_reducible refine w_ifNT ?_ | with_reducible refine w_ifNF ?_
  | with_reducible refine w_lc ?_ | with_reducible refine w_lrg ?_ | with_reducible refine w_rg1 ?_ | with_reducible refine w_rg2 ?_ | with_reducible refine w_exI ?_ | with_reducible refine w_exI2 ?_
  | with_reducible refine w_bl ?_ | with_reducible refine w_asgT ?_ | with_reducible refine w_gcons ?_ | with_reducible refine w_gnil ?_ | with_reducible refine w_par ?_ | with_reducible refine w_pair ?_
  | ((with_reducible refine w_ixL (v := ?vv) (sqL (by assumption)) ?ee ?_); (case ee => exact rfl)) | ((with_reducible refine w_ixT (v := ?vv) (sqT (by assumption)) ?ee ?_); (case ee => exact rfl))
  | ((with_reducible refine w_ixL (v := ?vv) (by assumption) ?ee ?_); (case ee => exact rfl)) | ((with_reducible refine w_ixT (v := ?vv) (by assumption) ?ee ?_); (case ee => exact rfl))
  | ((with_reducible refine w_mod ?_ ?_); (· omega)) | ((with_reducible refine w_fdiv ?_ ?_ ?_); (· omega); (· omega))
  | ((with_reducible refine w_mulL ?_ ?_ ?_); (· omega); (· omega)) | ((with_reducible refine w_mulR ?_ ?_ ?_); (· omega); (· omega))
  | with_reducible refine w_lenL (sqL (by assumption)) ?_ | with_reducible refine w_lenL (by assumption) ?_ | with_reducible refine w_lenT (sqT (by assumption)) ?_ | with_reducible refine w_lenT (by assumption) ?_))
local macro_rules | `(tactic| walk_at "go") => `(tactic| repeat walk_at "go1")
/-! ### kinds of values -/
inductive Kd where
  | int | bool | str | none | tup | lst | dic | own
  deriving DecidableEq
def Kd.isa : Kd → String → Bool
  | .int, s => s == "int"
  | .bool, s => s == "bool" || s == "int"
  | .str, s => s == "str"
  | .tup, s => s == "tuple"
  | .lst, s => s == "list"
  | .dic, s => s == "dict"
  | _, _ => false
/-- an instance of a class of the program's own -/
structure OwnC (K : PySem.W.Frag) (C : Addr) : Prop where
  cl : Cls K C
  ha : PySem.W.findIn K (.ref C) "__class__" = some (some (.builtin "object.__class__"))
  hn : PySem.W.specialIn K (.builtin "object.__class__") "__get__" = some (some (.builtin "getset_descriptor.__get__"))
  htk : PySem.W.takesIn K (.builtin "object.__class__") = some true
  hm : PySem.W.mroIn K C (.type "object") = some true
  no : ∀ T ∈ ["int", "bool", "str", "tuple", "list", "dict"], PySem.W.kitOne K (.ref C) (.type T) = some false
def IsK (K : PySem.W.Frag) (H : Hp) (x : V) : Kd → Prop
  | .int => ∃ i, x = .int i
  | .bool => ∃ b, x = .bl b
  | .str => ∃ s, x = .str s
  | .none => x = .non
  | .tup => ∃ a xs, x = .ref a ∧ SqT K H a xs
  | .lst => ∃ a xs, x = .ref a ∧ SqL K H a xs
  | .dic => ∃ a kvs, x = .ref a ∧ H a = some (.dK kvs)
  | .own => ∃ a C dx fs, x = .ref a ∧ H a = some (.ins C dx fs) ∧ OwnC K C
section
variable {K : PySem.W.Frag} {H : Hp} {x : V} {Q : VK}
theorem IsK.ty {k : Kd} (h : IsK K H x k) {T : String} (hT : T ∈ ["int", "bool", "str", "tuple", "list", "dict"]) : ∃ t, TyX K H x t ∧ PySem.W.kitOne K t (.type T) = some (k.isa T) := by
  have six : T = "int" ∨ T = "bool" ∨ T = "str" ∨ T = "tuple" ∨ T = "list" ∨ T = "dict" := by simpa using hT
  cases k with
  | int =>
    obtain ⟨i, rfl⟩ := h
    refine ⟨_, .base (.int i), kit_ty ?_⟩
    rcases six with rfl | rfl | rfl | rfl | rfl | rfl <;> decide +kernel
  | bool =>
    obtain ⟨i, rfl⟩ := h
    refine ⟨_, .base (.bl i), kit_ty ?_⟩
    rcases six with rfl | rfl | rfl | rfl | rfl | rfl <;> decide +kernel
  | str =>
    obtain ⟨i, rfl⟩ := h
    refine ⟨_, .base (.str i), kit_ty ?_⟩
    rcases six with rfl | rfl | rfl | rfl | rfl | rfl <;> decide +kernel
  | none =>
    obtain rfl : x = .non := h
    refine ⟨_, .base .non, kit_ty ?_⟩
    rcases six with rfl | rfl | rfl | rfl | rfl | rfl <;> decide +kernel
  | tup =>
    obtain ⟨a, xs, rfl, h⟩ := h
    have e : TyX K H (.ref a) (.type "tuple") := by
      rcases h with (h | ⟨o, h⟩) | ⟨o, its, n, h1, h2, _⟩
      · exact .base (.tup h)
      · exact .fTuple h
      · exact .kTuple h1 h2
    refine ⟨_, e, kit_ty ?_⟩
    rcases six with rfl | rfl | rfl | rfl | rfl | rfl <;> decide +kernel
  | lst =>
    obtain ⟨a, xs, rfl, h⟩ := h
    have e : TyX K H (.ref a) (.type "list") := by
      rcases h with (h | ⟨o, h⟩) | ⟨o, its, n, h1, h2, _⟩
      · exact .base (.lst h)
      · exact .base (.frz h)
      · exact .kList h1 h2
    refine ⟨_, e, kit_ty ?_⟩
    rcases six with rfl | rfl | rfl | rfl | rfl | rfl <;> decide +kernel
  | dic =>
    obtain ⟨a, kvs, rfl, h⟩ := h
    refine ⟨_, .base (.dK h), kit_ty ?_⟩
    rcases six with rfl | rfl | rfl | rfl | rfl | rfl <;> decide +kernel
  | own =>
    obtain ⟨a, C, dx, fs, rfl, h, c⟩ := h
    exact ⟨_, .base (.ins h c.cl c.ha c.hn c.htk c.hm), c.no T hT⟩
theorem w_isi {k : Kd} {T : String} (h : IsK K H x k) (hT : T ∈ ["int", "bool", "str", "tuple", "list", "dict"]) (q : Q (.bl (k.isa T)) H) : rIsi K [x, .ty T] H Q := by
  obtain ⟨t, h1, h2⟩ := h.ty hT
  exact ⟨x, .ty T, t, .type T, _, rfl, .ty T, h1, h2, q⟩
theorem isI {i : Int} : IsK K H (.int i) .int := ⟨i, rfl⟩
theorem isB {b : Bool} : IsK K H (.bl b) .bool := ⟨b, rfl⟩
theorem isS {s : Str} : IsK K H (.str s) .str := ⟨s, rfl⟩
theorem isN : IsK K H .non .none := rfl
theorem isT {a : Addr} {xs : List V} (h : SqT K H a xs) : IsK K H (.ref a) .tup := ⟨a, xs, rfl, h⟩
theorem isL {a : Addr} {xs : List V} (h : SqL K H a xs) : IsK K H (.ref a) .lst := ⟨a, xs, rfl, h⟩
theorem inV_str (s : Str) : ∀ ws : List Str, inV (.str s) (ws.map V.str) = decide (s ∈ ws)
  | [] => rfl
  | a :: r => by
    have ih := inV_str s r
    show ((a == s) || inV (.str s) (r.map V.str)) = decide (s ∈ a :: r)
    rw [ih]
    by_cases h : s = a
    · subst h
      simp
    · have h2 : (a == s) = false := by simpa using fun e => h e.symm
      rw [h2, Bool.false_or]
      simp [h]
theorem w_inT {p : Addr} {ws : List Str} {s : Str} (h : SqT K H p (ws.map V.str)) (q : Q (.bl (decide (s ∈ ws))) H) : rIn K false (.str s) (.ref p) H Q := by
  refine ⟨p, ws.map V.str, rfl, .inr h, rfl, ?_, ?_⟩
  · rw [List.all_eq_true]
    intro y hy
    obtain ⟨z, _, rfl⟩ := List.mem_map.mp hy
    rfl
  · have e : inV (.str s) (ws.map V.str) = decide (s ∈ ws) := inV_str s ws
    show Q (.bl (if false = true then !inV (.str s) (ws.map V.str) else inV (.str s) (ws.map V.str))) H
    rw [if_neg Bool.false_ne_true, e]
    exact q
end

/-! ### words.py -/
def betw : V → Int → Int → Bool
  | .int i, lo, hi => decide (lo ≤ i) && decide (i ≤ hi)
  | _, _, _ => false
def spIsInt (K : PySem.W.Frag) : Sp := fun vs H Q _ => ∃ x k, vs = [x] ∧ IsK K H x k ∧ Q (.bl (decide (k = .int))) H
def spBetw (K : PySem.W.Frag) : Sp := fun vs H Q _ => ∃ x k lo hi, vs = [x, .int lo, .int hi] ∧ IsK K H x k ∧ Q (.bl (betw x lo hi)) H
def spIsTup (K : PySem.W.Frag) : Sp := fun vs H Q _ => ∃ x lo hi, vs = [x, .int lo, .int hi] ∧
  ((∃ a xs, x = .ref a ∧ SqT K H a xs ∧ Q (.bl (decide (lo ≤ xs.length) && decide ((xs.length : Int) ≤ hi))) H) ∨ ∃ k, IsK K H x k ∧ k ≠ .tup ∧ Q (.bl false) H)
def spIsWord (K : PySem.W.Frag) : Sp := fun vs H Q _ => ∃ x y, vs = [x, y] ∧
  ((∃ s a ws, x = .str s ∧ y = .ref a ∧ SqT K H a ((ws : List Str).map V.str) ∧ Q (.bl (decide (s ∈ ws))) H) ∨ ∃ k, IsK K H x k ∧ k ≠ .str ∧ Q (.bl false) H)
section
variable {P : Program} {w : World} {K : PySem.W.Frag} {mg : Str → Option Value} {base : Heap}
theorem C_is_integer (T : Txt K mg) : Cal P w K mg base 1 "is_integer" ["value"] (spIsInt K) := by
  obtain ⟨fd, F⟩ := T.d_is_integer
  refine ⟨_, fd, FunD.ok F sc_is_integer (fun vs H Q E h => ?_) (fun cdv A outer s H vs Q E hr h => ?_), T.g_is_integer, F.kp, (F.bindsN fun _ _ _ _ _ _ us hl => match us, hl with | [_], _ => rfl)⟩
  · obtain ⟨x, k, rfl, _⟩ := h
    rfl
  · obtain ⟨x, k, rfl, hk, q⟩ := h
    refine ⟨_, PSs.nox (pss_one (ps_ret (pe_and (pe_callB call_isi (by rfl) T.z_isinstance (by decide +kernel) (pa_cons (pv 0) (pa_cons (pe_bltn (v := .ty "int") (u := .type "int") (by rfl) T.z_int (by decide +kernel) rfl) pa_nil))) (pe_one (pe_not (pe_callB call_isi (by rfl) T.z_isinstance (by decide +kernel) (pa_cons (pv 0) (pa_cons (pe_bltn (v := .ty "bool") (u := .type "bool") (by rfl) T.z_bool (by decide +kernel) rfl) pa_nil)))))))), ?_⟩
    try dsimp only [cxOf, Cx.nox, Cx.wish]
    rw [st_is_integer]; walk_at "go"
    refine w_isi hk (by simp) ?_
    walk_at "go"
    cases k with
    | int =>
      refine w_ifT ?_
      walk_at "go"
      refine w_isi hk (by simp) ?_
      walk_at "go"
      exact q
    | bool =>
      refine w_ifT ?_
      walk_at "go"
      refine w_isi hk (by simp) ?_
      walk_at "go"
      exact q
    | _ =>
      refine w_ifF ?_
      exact q
theorem C_is_between (T : Txt K mg) : Cal P w K mg base 2 "is_between" ["value", "low", "high"] (spBetw K) := by
  have C_is_integer := C_is_integer (P := P) (w := w) (base := base) T
  obtain ⟨fd, F⟩ := T.d_is_between
  refine ⟨_, fd, FunD.ok F sc_is_between (fun vs H Q E h => ?_) (fun cdv A outer s H vs Q E hr h => ?_), T.g_is_between, F.kp, (F.bindsN fun _ _ _ _ _ _ us hl => match us, hl with | [_, _, _], _ => rfl)⟩
  · obtain ⟨x, k, lo, hi, rfl, _⟩ := h
    rfl
  · obtain ⟨x, k, lo, hi, rfl, hk, q⟩ := h
    refine ⟨_, PSs.nox (pss_one (ps_ret (pe_and (pe_cal C_is_integer (hr.mono (by decide)) (by rfl) (pa_cons (pv 0) pa_nil)) (pe_one (pe_chain o_le o_le (pv 1) (pv 0) (pv 2)))))), ?_⟩
    try dsimp only [cxOf, Cx.nox, Cx.wish]
    rw [st_is_between]; walk_at "go"
    refine ⟨x, k, rfl, hk, ?_⟩
    walk_at "go"
    cases k with
    | int =>
      obtain ⟨i, rfl⟩ := hk
      refine w_ifT ?_
      walk_at "go"
      refine w_if (fun e => ?_) (fun e => ?_)
      · walk_at "go"
        have e2 : betw (.int i) lo hi = decide (i ≤ hi) := by
          show (decide (lo ≤ i) && decide (i ≤ hi)) = _
          rw [decide_eq_true e, Bool.true_and]
        rw [e2] at q
        exact q
      · have e2 : betw (.int i) lo hi = false := by
          show (decide (lo ≤ i) && decide (i ≤ hi)) = _
          rw [decide_eq_false e, Bool.false_and]
        rw [e2] at q
        exact q
    | bool =>
      obtain ⟨i, rfl⟩ := hk
      exact w_ifF q
    | str =>
      obtain ⟨i, rfl⟩ := hk
      exact w_ifF q
    | none =>
      obtain rfl : x = .non := hk
      exact w_ifF q
    | tup =>
      obtain ⟨i, _, rfl, _⟩ := hk
      exact w_ifF q
    | lst =>
      obtain ⟨i, _, rfl, _⟩ := hk
      exact w_ifF q
    | dic =>
      obtain ⟨i, _, rfl, _⟩ := hk
      exact w_ifF q
    | own =>
      obtain ⟨i, _, _, _, rfl, _⟩ := hk
      exact w_ifF q
theorem C_is_tuple (T : Txt K mg) : Cal P w K mg base 1 "is_tuple" ["value", "least", "most"] (spIsTup K) := by
  obtain ⟨fd, F⟩ := T.d_is_tuple
  refine ⟨_, fd, FunD.ok F sc_is_tuple (fun vs H Q E h => ?_) (fun cdv A outer s H vs Q E hr h => ?_), T.g_is_tuple, F.kp, (F.bindsN fun _ _ _ _ _ _ us hl => match us, hl with | [_, _, _], _ => rfl)⟩
  · obtain ⟨x, lo, hi, rfl, _⟩ := h
    rfl
  · obtain ⟨x, lo, hi, rfl, h⟩ := h
    refine ⟨_, PSs.nox (pss_one (ps_ret (pe_and (pe_callB call_isi (by rfl) T.z_isinstance (by decide +kernel) (pa_cons (pv 0) (pa_cons (pe_bltn (v := .ty "tuple") (u := .type "tuple") (by rfl) T.z_tuple (by decide +kernel) rfl) pa_nil))) (pe_one (pe_chain o_le o_le (pv 1) (pe_callB c_lenS (by rfl) T.z_len (by decide +kernel) (pa_cons (pv 0) pa_nil)) (pv 2)))))), ?_⟩
    try dsimp only [cxOf, Cx.nox, Cx.wish]
    rw [st_is_tuple]; walk_at "go"
    rcases h with ⟨a, xs, rfl, hx, q⟩ | ⟨k, hk, nk, q⟩
    · refine w_isi (isT hx) (by simp) ?_
      walk_at "go"
      refine w_ifT ?_
      walk_at "go"
      refine w_if (fun e => ?_) (fun e => ?_)
      · walk_at "go"
        rw [decide_eq_true e, Bool.true_and] at q
        exact q
      · rw [decide_eq_false e, Bool.false_and] at q
        exact q
    · refine w_isi hk (by simp) ?_
      walk_at "go"
      cases k with
      | tup => exact absurd rfl nk
      | _ => exact w_ifF q
theorem C_is_word (T : Txt K mg) : Cal P w K mg base 1 "is_word" ["value", "words"] (spIsWord K) := by
  obtain ⟨fd, F⟩ := T.d_is_word
  refine ⟨_, fd, FunD.ok F sc_is_word (fun vs H Q E h => ?_) (fun cdv A outer s H vs Q E hr h => ?_), T.g_is_word, F.kp, (F.bindsN fun _ _ _ _ _ _ us hl => match us, hl with | [_, _], _ => rfl)⟩
  · obtain ⟨x, y, rfl, _⟩ := h
    rfl
  · obtain ⟨x, y, rfl, h⟩ := h
    refine ⟨_, PSs.nox (pss_one (ps_ret (pe_and (pe_callB call_isi (by rfl) T.z_isinstance (by decide +kernel) (pa_cons (pv 0) (pa_cons (pe_bltn (v := .ty "str") (u := .type "str") (by rfl) T.z_str (by decide +kernel) rfl) pa_nil))) (pe_one (pe_cmpR op_in_seq (pv 0) (pv 1) (by rfl)))))), ?_⟩
    try dsimp only [cxOf, Cx.nox, Cx.wish]
    rw [st_is_word]; walk_at "go"
    rcases h with ⟨s, a, ws, rfl, rfl, hx, q⟩ | ⟨k, hk, nk, q⟩
    · refine w_isi isS (by simp) ?_
      walk_at "go"
      refine w_ifT ?_
      walk_at "go"
      exact w_inT hx q
    · refine w_isi hk (by simp) ?_
      walk_at "go"
      cases k with
      | str => exact absurd rfl nk
      | _ => exact w_ifF q
end

end Ak
namespace Ak
open PySem PySem.Spec PyProof.Rows L2
/-! ### the walk of readings -/
local macro_rules | `(tactic| walk_at "go1") => `(tactic| (first
  | with_reducible refine w_seq ?_ | with_reducible refine w_next ?_ | with_reducible refine w_set ?_ | with_reducible refine w_asgS ?_ | with_reducible refine w_ret ?_ | with_reducible refine w_drop ?_ | with_reducible refine w_ifS ?_
  | with_reducible refine w_op ?_ | with_reducible refine w_un ?_ | ((with_reducible apply w_var); (· exact rfl)) | with_reducible refine w_c ?_
  | with_reducible refine w_add ?_ | with_reducible refine w_sub ?_ | with_reducible refine w_lt ?_ | with_reducible refine w_le ?_ | with_reducible refine w_gt ?_ | with_reducible refine w_ge ?_ | with_reducible refine w_neg ?_
  | ((with_reducible refine w_eq ?_ ?_); (· exact rfl)) | ((with_reducible refine w_ne ?_ ?_); (· exact rfl))
  | with_reducible refine w_test ?_ | with_reducible refine w_B ?_ | with_reducible refine w_or ?_ | with_reducible refine w_and ?_ | with_reducible refine w_not ?_ | with_reducible refine w_andV ?_ | with_reducible refine w_orV ?_ | with_reducible refine w_notV ?_
  | with_reducible refine w_ifE ?_ | with_reducible refine w_chain ?_ | with_reducible refine w_cb ?_ | with_reducible refine w_nil ?_ | with_reducible refine w_cons ?_ | with_reducible refine w_tup ?_ | with_reducible refine w_lst ?_ | with_reducible refine w_call ?_
  | with_reducible refine w_int1 ?_ | with_reducible refine w_abs ?_ | with_reducible refine w_max2 ?_ | with_reducible refine w_min2 ?_
  | with_reducible refine w_mknx ?_ | with_reducible refine w_mkrt ?_ | with_reducible refine w_mkbk ?_ | with_reducible refine w_mkct ?_ | with_reducible refine w_ifT ?_ | with_reducible refine w_ifF ?_ | with_reducible refine w_ifNT ?_ | with_reducible refine w_ifNF ?_
  | with_reducible refine w_lc ?_ | with_reducible refine w_lrg ?_ | with_reducible refine w_rg1 ?_ | with_reducible refine w_rg2 ?_ | with_reducible refine w_exI ?_ | with_reducible refine w_exI2 ?_
  | with_reducible refine w_bl ?_ | with_reducible refine w_asgT ?_ | with_reducible refine w_gcons ?_ | with_reducible refine w_gnil ?_ | with_reducible refine w_par ?_ | with_reducible refine w_pair ?_
  | ((with_reducible refine w_ixL (v := ?vv) (sqL (by assumption)) ?ee ?_); (case ee => exact rfl)) | ((with_reducible refine w_ixT (v := ?vv) (sqT (by assumption)) ?ee ?_); (case ee => exact rfl))
  | ((with_reducible refine w_ixL (v := ?vv) (by assumption) ?ee ?_); (case ee => exact rfl)) | ((with_reducible refine w_ixT (v := ?vv) (by assumption) ?ee ?_); (case ee => exact rfl))
  | ((with_reducible refine w_mod ?_ ?_); (· omega)) | ((with_reducible refine w_fdiv ?_ ?_ ?_); (· omega); (· omega))
  | ((with_reducible refine w_mulL ?_ ?_ ?_); (· omega); (· omega)) | ((with_reducible refine w_mulR ?_ ?_ ?_); (· omega); (· omega))
  | with_reducible refine w_lenL (sqL (by assumption)) ?_ | with_reducible refine w_lenL (by assumption) ?_ | with_reducible refine w_lenT (sqT (by assumption)) ?_ | with_reducible refine w_lenT (by assumption) ?_))
local macro_rules | `(tactic| walk_at "go") => `(tactic| repeat walk_at "go1")
/-! ### shares.py: units, rounding -/
def hows : List Str := ["near", "even", "down", "up"]
/-- what a value's units are -/
def Units (K : PySem.W.Frag) (H : Hp) (x : V) (b : Int) (how : Str) : Prop := ∃ a, x = .ref a ∧ SqT K H a [.int b, .str how] ∧ 2 ≤ b ∧ b ≤ 100 ∧ how ∈ hows
def spIsUnits (K : PySem.W.Frag) : Sp := fun vs H Q _ => ∃ x, vs = [x] ∧ ((∃ b how, Units K H x b how ∧ Q (.bl true) H))
def spChkUnits (K : PySem.W.Frag) : Sp := fun vs H Q _ => ∃ x, vs = [x] ∧ ((∃ b how, Units K H x b how ∧ Q .non H))
/-- the integer to which a / u is rounded -/
def roundZ (how : Str) (a u : Int) : Int :=
  if how = "down" ∨ a % u = 0 then a / u else if how = "up" then a / u + 1 else if 2 * (a % u) ≠ u then a / u + (if u < 2 * (a % u) then 1 else 0) else if how = "near" then a / u + 1 else a / u + a / u % 2
def spRounded : Sp := fun vs H Q _ => ∃ how a u, vs = [.str how, .int a, .int u] ∧ 0 < u ∧ u < 1073741824 ∧ ∀ H', Same H H' → Q (.int (roundZ how a u)) H'
def spShown (K : PySem.W.Frag) : Sp := fun vs H Q _ => ∃ x b how m n, vs = [x, .int m, .int n] ∧ Units K H x b how ∧ 0 ≤ m ∧ m ≤ n ∧ 1 ≤ n ∧ n < 1073741824 ∧ ∀ H', Same H H' → Q (.int (roundZ how (b * m) n)) H'
section
variable {P : Program} {w : World} {K : PySem.W.Frag} {mg : Str → Option Value} {base : Heap}
theorem C_is_units (T : Txt K mg) : Cal P w K mg base 3 "is_units" ["value"] (spIsUnits K) := by
  have C_is_tuple := C_is_tuple (P := P) (w := w) (base := base) T
  have C_is_between := C_is_between (P := P) (w := w) (base := base) T
  have C_is_word := C_is_word (P := P) (w := w) (base := base) T
  obtain ⟨fd, F⟩ := T.d_is_units
  refine ⟨_, fd, FunD.ok F sc_is_units (fun vs H Q E h => ?_) (fun cdv A outer s H vs Q E hr h => ?_), T.g_is_units, F.kp, (F.bindsN fun _ _ _ _ _ _ us hl => match us, hl with | [_], _ => rfl)⟩
  · obtain ⟨x, rfl, _⟩ := h
    rfl
  · obtain ⟨x, rfl, b, how, ⟨a, rfl, hu, h2, h100, hh⟩, q⟩ := h
    refine ⟨_, PSs.nox (pss_one (ps_ret (pe_and (pe_cal C_is_tuple (hr.mono (by decide)) (by rfl) (pa_cons (pv 0) (pa_cons (pe_ci T.c_PAIR rfl) (pa_cons (pe_ci T.c_PAIR rfl) pa_nil)))) (pe_and (pe_cal C_is_between (hr.mono (by decide)) (by rfl) (pa_cons (pe_ix ix_seq (pv 0) pe_int (fun _ _ => rfl)) (pa_cons (pe_ci T.c_LEAST_UNITS rfl) (pa_cons (pe_ci T.c_MOST_UNITS rfl) pa_nil)))) (pe_one (pe_cal C_is_word (hr.mono (by decide)) (by rfl) (pa_cons (pe_ix ix_seq (pv 0) pe_int (fun _ _ => rfl)) (pa_cons (pe_glob (v := .ref (He.ga K "HOWS")) rfl T.c_HOWS rfl) pa_nil)))))))), ?_⟩
    try dsimp only [cxOf, Cx.nox, Cx.wish]
    rw [st_is_units]; walk_at "go"
    refine ⟨_, 2, 2, rfl, .inl ⟨a, _, rfl, hu, ?_⟩⟩
    walk_at "go"
    refine w_ifT ?_
    walk_at "go"
    refine ⟨_, .int, 2, 100, rfl, isI, ?_⟩
    have e : betw (.int b) 2 100 = true := by
      show (decide (2 ≤ b) && decide (b ≤ 100)) = true
      simp [h2, h100]
    rw [e]
    walk_at "go"
    refine ⟨_, _, rfl, .inl ⟨how, _, hows, rfl, rfl, T.t_HOWS H, ?_⟩⟩
    rw [decide_eq_true hh]
    exact q
theorem C_check_units (T : Txt K mg) : Cal P w K mg base 4 "check_units" ["value"] (spChkUnits K) := by
  have C_is_units := C_is_units (P := P) (w := w) (base := base) T
  obtain ⟨fd, F⟩ := T.d_check_units
  refine ⟨_, fd, FunD.ok F sc_check_units (fun vs H Q E h => ?_) (fun cdv A outer s H vs Q E hr h => ?_), T.g_check_units, F.kp, (F.bindsN fun _ _ _ _ _ _ us hl => match us, hl with | [_], _ => rfl)⟩
  · obtain ⟨x, rfl, _⟩ := h
    rfl
  · obtain ⟨x, rfl, b, how, hu, q⟩ := h
    refine ⟨_, PSs.nox (pss_one (ps_if (pt_not (pt_val (pe_cal C_is_units (hr.mono (by decide)) (by rfl) (pa_cons (pv 0) pa_nil)))) (pss_one ps_never) pss_nil)), ?_⟩
    try dsimp only [cxOf, Cx.nox, Cx.wish]
    rw [st_check_units]; walk_at "go"
    refine ⟨_, rfl, b, how, hu, ?_⟩
    walk_at "go"
    exact q
theorem C_rounded (T : Txt K mg) : Cal P w K mg base 1 "rounded" ["how", "above", "under"] spRounded := by
  obtain ⟨fd, F⟩ := T.d_rounded
  refine ⟨_, fd, FunD.ok F sc_rounded (fun vs H Q E h => ?_) (fun cdv A outer s H vs Q E hr h => ?_), T.g_rounded, F.kp, (F.bindsN fun _ _ _ _ _ _ us hl => match us, hl with | [_, _, _], _ => rfl)⟩
  · obtain ⟨x, k, u, rfl, _⟩ := h
    rfl
  · obtain ⟨how, a, u, rfl, h0, h1, q⟩ := h
    refine ⟨_, PSs.nox (pss_cons (ps_asg (pe_callB c_divmod (by rfl) T.z_divmod (by decide +kernel) (pa_cons (pv 1) (pa_cons (pv 2) pa_nil))) (pg_tup rfl (pgs_cons (pg_name (i := 3) sc_rounded.nd rfl (.inl rfl)) (pgs_cons (pg_name (i := 4) sc_rounded.nd rfl (.inl rfl)) pgs_nil))))
    (pss_cons (ps_if (PW.pt (pw_or (pt_cmpR op_eq (pv 0) (pe_cs T.c_DOWN rfl) (nomark _)) (pw_or1 (pt_cmpR op_eq (pv 4) pe_int (nomark _))))) (pss_one (ps_ret (pv 3))) pss_nil)
    (pss_cons (ps_if (pt_cmpR op_eq (pv 0) (pe_cs T.c_UP rfl) (nomark _)) (pss_one (ps_ret (pe_op o_add (pv 3) pe_int))) pss_nil)
    (pss_cons (ps_if (pt_cmpR op_ne (pe_op o_mul pe_int (pv 4)) (pv 2) (nomark _)) (pss_one (ps_ret (pe_op o_add (pv 3) (pe_callTy c_int1 (by rfl) T.z_int (by decide +kernel) (pa_cons (pe_cmpR o_gt (pe_op o_mul pe_int (pv 4)) (pv 2) (nomark _)) pa_nil))))) pss_nil)
    (pss_one (ps_ret (pe_ifExp (pt_cmpR op_eq (pv 0) (pe_cs T.c_NEAR rfl) (nomark _)) (pe_op o_add (pv 3) pe_int) (pe_op o_add (pv 3) (pe_op o_mod (pv 3) pe_int))))))))), ?_⟩
    try dsimp only [cxOf, Cx.nox, Cx.wish]
    rw [st_rounded]; walk_at "go"
    refine w_divmod h0 h1 (fun p H1 np hp s1 => ?_)
    walk_at "go"
    refine ⟨p, _, rfl, sqT hp, rfl, ?_⟩
    walk_at "go"
    have q1 := q H1 s1
    unfold roundZ at q1
    refine w_if (fun e => ?_) (fun e => ?_)
    · walk_at "go"
      rw [if_pos (.inl (V.str.inj e))] at q1
      exact q1
    · have e1 : how ≠ "down" := fun z => e (by rw [z])
      walk_at "go"
      refine w_ifI (fun e2 => ?_) (fun e2 => ?_)
      · walk_at "go"
        rw [if_pos (.inr e2)] at q1
        exact q1
      · rw [if_neg (by rintro (z | z); exact e1 z; exact e2 z)] at q1
        walk_at "go"
        refine w_if (fun e => ?_) (fun e => ?_)
        · walk_at "go"
          rw [if_pos (V.str.inj e)] at q1
          exact q1
        · rw [if_neg (fun z => e (by rw [z]))] at q1
          walk_at "go"
          have m0 := Int.emod_nonneg a (show u ≠ 0 by omega)
          have m1 := Int.emod_lt_of_pos a h0
          refine w_ifNI (fun e3 => ?_) (fun e3 => ?_)
          · rw [if_pos e3] at q1
            walk_at "go"
            refine w_int1b ?_
            walk_at "go"
            simpa using q1
          · rw [if_neg (by simpa using e3)] at q1
            walk_at "go"
            refine w_if (fun e => ?_) (fun e => ?_)
            · walk_at "go"
              rw [if_pos (V.str.inj e)] at q1
              exact q1
            · walk_at "go"
              rw [if_neg (fun z => e (by rw [z]))] at q1
              exact q1
theorem C_shown (T : Txt K mg) : Cal P w K mg base 5 "shown" ["units", "many", "whole"] (spShown K) := by
  have C_is_integer := C_is_integer (P := P) (w := w) (base := base) T
  have C_is_between := C_is_between (P := P) (w := w) (base := base) T
  have C_check_units := C_check_units (P := P) (w := w) (base := base) T
  have C_rounded := C_rounded (P := P) (w := w) (base := base) T
  obtain ⟨fd, F⟩ := T.d_shown
  refine ⟨_, fd, FunD.ok F sc_shown (fun vs H Q E h => ?_) (fun cdv A outer s H vs Q E hr h => ?_), T.g_shown, F.kp, (F.bindsN fun _ _ _ _ _ _ us hl => match us, hl with | [_, _, _], _ => rfl)⟩
  · obtain ⟨x, k, u, m, n, rfl, _⟩ := h
    rfl
  · obtain ⟨x, b, how, m, n, rfl, hU, h0, h1, h2, h3, q⟩ := h
    refine ⟨_, PSs.nox (pss_cons (ps_expr (pe_cal C_check_units (hr.mono (by decide)) (by rfl) (pa_cons (pv 0) pa_nil)))
    (pss_cons (ps_if (PW.pt (pw_or (pt_not (pt_val (pe_cal C_is_integer (hr.mono (by decide)) (by rfl) (pa_cons (pv 2) pa_nil)))) (pw_or1 (pt_cmpR o_lt (pv 2) pe_int (nomark _))))) (pss_one ps_never) pss_nil)
    (pss_cons (ps_if (pt_not (pt_val (pe_cal C_is_between (hr.mono (by decide)) (by rfl) (pa_cons (pv 1) (pa_cons pe_int (pa_cons (pv 2) pa_nil)))))) (pss_one ps_never) pss_nil)
    (pss_one (ps_ret (pe_cal C_rounded (hr.mono (by decide)) (by rfl) (pa_cons (pe_ix ix_seq (pv 0) pe_int (fun _ _ => rfl)) (pa_cons (pe_op o_mul (pe_ix ix_seq (pv 0) pe_int (fun _ _ => rfl)) (pv 1)) (pa_cons (pv 2) pa_nil))))))))), ?_⟩
    try dsimp only [cxOf, Cx.nox, Cx.wish]
    rw [st_shown]; walk_at "go"
    refine ⟨_, rfl, b, how, hU, ?_⟩
    walk_at "go"
    refine ⟨_, .int, rfl, isI, ?_⟩
    walk_at "go"
    refine w_ifF ?_
    walk_at "go"
    refine w_if (fun e => by omega) (fun e => ?_)
    walk_at "go"
    refine ⟨_, .int, 0, n, rfl, isI, ?_⟩
    have e : betw (.int m) 0 n = true := by
      show (decide (0 ≤ m) && decide (m ≤ n)) = true
      simp [h0, h1]
    rw [e]
    walk_at "go"
    obtain ⟨a, rfl, hu, b2, b100, hh⟩ := hU
    walk_at "go"
    refine ⟨how, b * m, n, rfl, by omega, h3, fun H' s' => ?_⟩
    exact q _ s'
end

end Ak
namespace Ak
open PySem PySem.Spec PyProof.Rows L2
/-! ### the walk of readings -/
local macro_rules | `(tactic| walk_at "go1") => `(tactic| (first
  | with_reducible refine w_seq ?_ | with_reducible refine w_next ?_ | with_reducible refine w_set ?_ | with_reducible refine w_asgS ?_ | with_reducible refine w_ret ?_ | with_reducible refine w_drop ?_ | with_reducible refine w_ifS ?_
  | with_reducible refine w_op ?_ | with_reducible refine w_un ?_ | ((with_reducible apply w_var); (· exact rfl)) | with_reducible refine w_c ?_
  | with_reducible refine w_add ?_ | with_reducible refine w_sub ?_ | with_reducible refine w_lt ?_ | with_reducible refine w_le ?_ | with_reducible refine w_gt ?_ | with_reducible refine w_ge ?_ | with_reducible refine w_neg ?_
  | ((with_reducible refine w_eq ?_ ?_); (· exact rfl)) | ((with_reducible refine w_ne ?_ ?_); (· exact rfl))
  | with_reducible refine w_test ?_ | with_reducible refine w_B ?_ | with_reducible refine w_or ?_ | with_reducible refine w_and ?_ | with_reducible refine w_not ?_ | with_reducible refine w_andV ?_ | with_reducible refine w_orV ?_ | with_reducible refine w_notV ?_
  | with_reducible refine w_ifE ?_ | with_reducible refine w_chain ?_ | with_reducible refine w_cb ?_ | with_reducible refine w_nil ?_ | with_reducible refine w_cons ?_ | with_reducible refine w_tup ?_ | with_reducible refine w_lst ?_ | with_reducible refine w_call ?_
  | with_reducible refine w_int1 ?_ | with_reducible refine w_abs ?_ | with_reducible refine w_max2 ?_ | with_reducible refine w_min2 ?_
  | with_reducible refine w_mknx ?_ | with_reducible refine w_mkrt ?_ | with_reducible refine w_mkbk ?_ | with_reducible refine w_mkct ?_ | with_reducible refine w_ifT ?_ | with_reducible refine w_ifF ?_ | with_reducible refine w_ifNT ?_ | with_reducible refine w_ifNF ?_
  | with_reducible refine w_lc ?_ | with_reducible refine w_lrg ?_ | with_reducible refine w_rg1 ?_ | with_reducible refine w_rg2 ?_ | with_reducible refine w_exI ?_ | with_reducible refine w_exI2 ?_
  | with_reducible refine w_bl ?_ | with_reducible refine w_asgT ?_ | with_reducible refine w_gcons ?_ | with_reducible refine w_gnil ?_ | with_reducible refine w_par ?_ | with_reducible refine w_pair ?_
  | ((with_reducible refine w_ixL (v := ?vv) (sqL (by assumption)) ?ee ?_); (case ee => exact rfl)) | ((with_reducible refine w_ixT (v := ?vv) (sqT (by assumption)) ?ee ?_); (case ee => exact rfl))
  | ((with_reducible refine w_ixL (v := ?vv) (by assumption) ?ee ?_); (case ee => exact rfl)) | ((with_reducible refine w_ixT (v := ?vv) (by assumption) ?ee ?_); (case ee => exact rfl))
  | ((with_reducible refine w_mod ?_ ?_); (· omega)) | ((with_reducible refine w_fdiv ?_ ?_ ?_); (· omega); (· omega))
  | ((with_reducible refine w_mulL ?_ ?_ ?_); (· omega); (· omega)) | ((with_reducible refine w_mulR ?_ ?_ ?_); (· omega); (· omega))
  | with_reducible refine w_lenL (sqL (by assumption)) ?_ | with_reducible refine w_lenL (by assumption) ?_ | with_reducible refine w_lenT (sqT (by assumption)) ?_ | with_reducible refine w_lenT (by assumption) ?_))
local macro_rules | `(tactic| walk_at "go") => `(tactic| repeat walk_at "go1")
/-! ### the law's own defs -/
theorem hows_mem {how : Str} (h : how ∈ hows) : how = "near" ∨ how = "even" ∨ how = "down" ∨ how = "up" := by
  simpa [hows] using h
def spLUnits : Sp := fun vs H Q _ => ∃ p n xs m, vs = [.ref p, .int m] ∧ H p = some (.lst xs) ∧ PotL n xs ∧ n < 99000 ∧ 2 ≤ m ∧ m ≤ 1000 ∧
  Draw (fun v H' => ∃ a b how, v = .ref a ∧ H' a = some (.tup [.int b, .str how]) ∧ H a = none ∧ 2 ≤ b ∧ b ≤ m ∧ how ∈ hows) p (n + 2) H Q
def spLRounded : Sp := fun vs H Q _ => ∃ how a u, vs = [.str how, .int a, .int u] ∧ how ∈ hows ∧ 0 < u ∧ u < 1073741824 ∧ Q (.int (roundZ how a u)) H
/-- a new pair: so many of so many -/
def Pair (H H' : Hp) (v : V) : Prop := ∃ a m n, v = .ref a ∧ H' a = some (.tup [.int m, .int n]) ∧ H a = none ∧ 0 ≤ m ∧ m ≤ n ∧ 1 ≤ n ∧ n < 1073741824
def spLPart : Sp := fun vs H Q _ => ∃ p n xs m, vs = [.ref p, .int m] ∧ H p = some (.lst xs) ∧ PotL n xs ∧ n < 99000 ∧ 2 ≤ m ∧ m ≤ 100 ∧
  Draw (fun v H' => Pair H H' v) p (n + 3) H Q
def spLPart4 : Sp := fun vs H Q _ => ∃ p n xs m, vs = [.ref p, .int m] ∧ H p = some (.lst xs) ∧ PotL n xs ∧ n < 90000 ∧ 2 ≤ m ∧ m ≤ 100 ∧
  Draw (fun v H' => Pair H H' v) p (n + 4) H Q
theorem PotL.mono {n m : Nat} {xs : List V} (h : PotL n xs) (le : n ≤ m) : PotL m xs := by
  obtain ⟨a, b, c, e, h1, h2, h3, h4, h5⟩ := h
  exact ⟨a, b, c, e, h1, h2, h3, h4, by omega⟩
section
variable {P : Program} {w : World} {K : PySem.W.Frag} {mg : Str → Option Value} {base : Heap}
theorem C_l_units (T : Txt K mg) : Cal P w K mg base 3 "_law_units" ["_law_pot_here", "_law_most"] spLUnits := by
  have C_l_take := C_l_take (P := P) (w := w) (base := base) T
  have C_l_of := C_l_of (P := P) (w := w) (base := base) T
  obtain ⟨fd, F⟩ := T.d_l_units
  refine ⟨_, fd, FunD.ok F sc_l_units (fun vs H Q E h => ?_) (fun cdv A outer s H vs Q E hr h => ?_), T.g_l_units, F.kp, (F.bindsN fun _ _ _ _ _ _ us hl => match us, hl with | [_, _], _ => rfl)⟩
  · obtain ⟨x, k, u, m, rfl, _⟩ := h
    rfl
  · obtain ⟨p, n, xs, m, rfl, hp, hP, hn, h2, h3, q⟩ := h
    refine ⟨_, PSs.nox (pss_one (ps_ret (pe_tup (pa_cons (pe_op o_add pe_int (pe_cal C_l_take (hr.mono (by decide)) (by rfl) (pa_cons (pv 0) (pa_cons (pe_op o_sub (pv 1) pe_int) pa_nil)))) (pa_cons (pe_cal C_l_of (hr.mono (by decide)) (by rfl) (pa_cons (pv 0) (pa_cons (pe_lst (pa_cons pe_str (pa_cons pe_str (pa_cons pe_str (pa_cons pe_str pa_nil))))) pa_nil))) pa_nil))))), ?_⟩
    try dsimp only [cxOf, Cx.nox, Cx.wish]
    rw [st_l_units]; walk_at "go"
    refine ⟨p, n, m - 1, xs, rfl, hp, hP, by omega, by omega, by omega, ?_⟩
    rintro v H1 ys b1 hp1 hP1 ⟨r, rfl, r0, r1⟩
    walk_at "go"
    refine w_newL rfl (fun l H2 nl hl s2 => ?_)
    walk_at "go"
    have hne : p ≠ l := ne_of_none hp1 nl
    refine ⟨p, n + 1, ys, l, _, rfl, s2 _ _ hp1, hP1, by omega, hne, sqL hl, by decide, by decide, ?_⟩
    intro v H3 zs b3 hp3 hP3 mv
    obtain ⟨how, rfl, hh⟩ : ∃ how, v = .str how ∧ how ∈ hows := by
      simp only [List.mem_cons, List.not_mem_nil, or_false] at mv
      rcases mv with e | e | e | e <;> exact ⟨_, e, by decide⟩
    walk_at "go"
    refine w_newT rfl (fun a H4 na ha s4 => ?_)
    walk_at "go"
    have b4 : But p H H4 := b1.trans ((But.trans s2.but b3).trans s4.but)
    refine q _ _ _ b4 (s4 _ _ hp3) hP3 ⟨a, 2 + r, how, rfl, ha, ?_, by omega, by omega, hh⟩
    cases e : H a with
    | none => rfl
    | some o =>
      have hap : a ≠ p := fun z => by
        rw [z, hp3] at na
        cases na
      rw [b3 _ _ hap (s2 _ _ (b1 _ _ hap e))] at na
      cases na
theorem C_l_rounded (T : Txt K mg) : Cal P w K mg base 1 "_law_rounded" ["_law_how", "_law_above", "_law_under"] spLRounded := by
  obtain ⟨fd, F⟩ := T.d_l_rounded
  refine ⟨_, fd, FunD.ok F sc_l_rounded (fun vs H Q E h => ?_) (fun cdv A outer s H vs Q E hr h => ?_), T.g_l_rounded, F.kp, (F.bindsN fun _ _ _ _ _ _ us hl => match us, hl with | [_, _, _], _ => rfl)⟩
  · obtain ⟨x, k, u, rfl, _⟩ := h
    rfl
  · obtain ⟨how, a, u, rfl, hh, h0, h1, q⟩ := h
    refine ⟨_, PSs.nox (pss_cons (ps_par (i := 3) (j := 4) (by rfl) sc_l_rounded.nd rfl rfl (by decide) rfl rfl (pa_cons (pe_op o_fdiv (pv 1) (pv 2)) (pa_cons (pe_op o_mod (pe_callTy c_int1 (by rfl) T.z_int (by decide +kernel) (pa_cons (pv 1) pa_nil)) (pv 2)) pa_nil)) (by rfl))
    (pss_cons (ps_if (PW.pt (pw_or (pt_cmpR op_eq (pv 4) pe_int (nomark _)) (pw_or1 (pt_cmpR op_eq (pv 0) pe_str (nomark _))))) (pss_one (ps_ret (pv 3))) pss_nil)
    (pss_cons (ps_if (pt_cmpR op_eq (pv 0) pe_str (nomark _)) (pss_one (ps_ret (pe_op o_add (pv 3) pe_int))) pss_nil)
    (pss_cons (ps_if (pt_cmpR op_eq (pe_op o_mul pe_int (pv 4)) (pv 2) (nomark _)) (pss_one (ps_ret (pe_ifExp (PW.pt (pw_or (pt_cmpR op_eq (pv 0) pe_str (nomark _)) (pw_or1 (pt_cmpR op_eq (pe_op o_mod (pe_callTy c_int1 (by rfl) T.z_int (by decide +kernel) (pa_cons (pv 3) pa_nil)) pe_int) pe_int (nomark _))))) (pe_op o_add (pv 3) pe_int) (pv 3)))) pss_nil)
    (pss_one (ps_ret (pe_ifExp (pt_cmpR o_gt (pe_op o_mul pe_int (pv 4)) (pv 2) (nomark _)) (pe_op o_add (pv 3) pe_int) (pv 3)))))))), ?_⟩
    have m0 := Int.emod_nonneg a (show u ≠ 0 by omega)
    have m1 := Int.emod_lt_of_pos a h0
    try dsimp only [cxOf, Cx.nox, Cx.wish]
    rw [st_l_rounded]; walk_at "go"
    unfold roundZ at q
    refine w_ifI (fun e => ?_) (fun e => ?_)
    · walk_at "go"
      rw [if_pos (.inr e)] at q
      exact q
    · walk_at "go"
      refine w_if (fun e2 => ?_) (fun e2 => ?_)
      · walk_at "go"
        rw [if_pos (.inl (V.str.inj e2))] at q
        exact q
      · have n1 : how ≠ "down" := fun z => e2 (by rw [z])
        rw [if_neg (by rintro (z | z); exact n1 z; exact e z)] at q
        walk_at "go"
        refine w_if (fun e3 => ?_) (fun e3 => ?_)
        · walk_at "go"
          rw [if_pos (V.str.inj e3)] at q
          exact q
        · have n2 : how ≠ "up" := fun z => e3 (by rw [z])
          rw [if_neg n2] at q
          walk_at "go"
          refine w_ifI (fun e4 => ?_) (fun e4 => ?_)
          · rw [if_neg (by simpa using e4)] at q
            walk_at "go"
            refine w_if (fun e5 => ?_) (fun e5 => ?_)
            · walk_at "go"
              rw [if_pos (V.str.inj e5)] at q
              exact q
            · rw [if_neg (fun z => e5 (by rw [z]))] at q
              walk_at "go"
              refine w_ifI (fun e6 => ?_) (fun e6 => ?_)
              · walk_at "go"
                rw [e6] at q
                exact q
              · walk_at "go"
                have e7 : a / u % 2 = 0 := by omega
                rw [e7, Int.add_zero] at q
                exact q
          · rw [if_pos e4] at q
            walk_at "go"
            refine w_if (fun e5 => ?_) (fun e5 => ?_)
            · walk_at "go"
              rw [if_pos e5] at q
              exact q
            · walk_at "go"
              rw [if_neg e5, Int.add_zero] at q
              exact q
theorem C_l_halved (T : Txt K mg) : Cal P w K mg base 2 "_law_halved" ["_law_pot_here", "_law_parts"] spLPart := by
  have C_l_take := C_l_take (P := P) (w := w) (base := base) T
  obtain ⟨fd, F⟩ := T.d_l_halved
  refine ⟨_, fd, FunD.ok F sc_l_halved (fun vs H Q E h => ?_) (fun cdv A outer s H vs Q E hr h => ?_), T.g_l_halved, F.kp, (F.bindsN fun _ _ _ _ _ _ us hl => match us, hl with | [_, _], _ => rfl)⟩
  · obtain ⟨x, k, u, m, rfl, _⟩ := h
    rfl
  · obtain ⟨p, n, xs, m, rfl, hp, hP, hn, h2, h3, q⟩ := h
    refine ⟨_, PSs.nox (pss_cons (ps_set (i := 2) sc_l_halved.nd rfl (.inl rfl) (pe_op o_add pe_int (pe_cal C_l_take (hr.mono (by decide)) (by rfl) (pa_cons (pv 0) (pa_cons pe_int pa_nil)))))
    (pss_one (ps_ret (pe_tup (pa_cons (pe_op o_mul (pe_op o_add (pe_op o_mul pe_int (pe_cal C_l_take (hr.mono (by decide)) (by rfl) (pa_cons (pv 0) (pa_cons (pv 1) pa_nil)))) pe_int) (pv 2)) (pa_cons (pe_op o_mul (pe_op o_mul pe_int (pv 1)) (pv 2)) pa_nil)))))), ?_⟩
    try dsimp only [cxOf, Cx.nox, Cx.wish]
    rw [st_l_halved]; walk_at "go"
    refine ⟨p, n, 1000000, xs, rfl, hp, hP, by omega, by omega, by omega, ?_⟩
    rintro v H1 ys b1 hp1 hP1 ⟨r, rfl, r0, r1⟩
    walk_at "go"
    refine ⟨p, n + 1, m, ys, rfl, hp1, hP1, by omega, by omega, by omega, ?_⟩
    rintro v H2 zs b2 hp2 hP2 ⟨t, rfl, t0, t1⟩
    walk_at "go"
    refine w_newT rfl (fun a H4 na ha s4 => ?_)
    walk_at "go"
    have b4 : But p H H4 := b1.trans (b2.trans s4.but)
    refine q _ _ _ b4 (s4 _ _ hp2) (hP2.mono (by omega)) ⟨a, _, _, rfl, ha, ?_, ?_, ?_, ?_, ?_⟩
    · cases e : H a with
      | none => rfl
      | some o =>
        have hap : a ≠ p := fun z => by
          rw [z, hp2] at na
          cases na
        rw [b2 _ _ hap (b1 _ _ hap e)] at na
        cases na
    · exact Int.mul_nonneg (by omega) (by omega)
    · exact Int.mul_le_mul_of_nonneg_right (by omega) (by omega)
    · have : 4 * (1 + r) ≤ 2 * m * (1 + r) := Int.mul_le_mul_of_nonneg_right (by omega) (by omega)
      omega
    · have : 2 * m * (1 + r) ≤ 200 * (1 + r) := Int.mul_le_mul_of_nonneg_right (by omega) (by omega)
      omega
theorem C_l_beside (T : Txt K mg) : Cal P w K mg base 3 "_law_beside" ["_law_pot_here", "_law_parts"] spLPart := by
  have C_l_take := C_l_take (P := P) (w := w) (base := base) T
  have C_l_of := C_l_of (P := P) (w := w) (base := base) T
  obtain ⟨fd, F⟩ := T.d_l_beside
  refine ⟨_, fd, FunD.ok F sc_l_beside (fun vs H Q E h => ?_) (fun cdv A outer s H vs Q E hr h => ?_), T.g_l_beside, F.kp, (F.bindsN fun _ _ _ _ _ _ us hl => match us, hl with | [_, _], _ => rfl)⟩
  · obtain ⟨x, k, u, m, rfl, _⟩ := h
    rfl
  · obtain ⟨p, n, xs, m, rfl, hp, hP, hn, h2, h3, q⟩ := h
    refine ⟨_, PSs.nox (pss_cons (ps_set (i := 2) sc_l_beside.nd rfl (.inl rfl) (pe_op o_add pe_int (pe_cal C_l_take (hr.mono (by decide)) (by rfl) (pa_cons (pv 0) (pa_cons pe_int pa_nil)))))
    (pss_cons (ps_set (i := 3) sc_l_beside.nd rfl (.inl rfl) (pe_op o_add (pe_op o_mul (pe_cal C_l_take (hr.mono (by decide)) (by rfl) (pa_cons (pv 0) (pa_cons (pe_op o_add (pv 1) pe_int) pa_nil))) (pv 2)) (pe_cal C_l_of (hr.mono (by decide)) (by rfl) (pa_cons (pv 0) (pa_cons (pe_lst (pa_cons pe_int (pa_cons pe_int (pa_cons pe_int (pa_cons (pe_un u_neg pe_int) pa_nil))))) pa_nil)))))
    (pss_one (ps_ret (pe_tup (pa_cons (pe_callB (c_max2 rfl) (by rfl) T.z_max (by decide +kernel) (pa_cons pe_int (pa_cons (pe_callB (c_min2 rfl) (by rfl) T.z_min (by decide +kernel) (pa_cons (pe_callTy c_int1 (by rfl) T.z_int (by decide +kernel) (pa_cons (pv 3) pa_nil)) (pa_cons (pe_op o_mul (pv 1) (pv 2)) pa_nil))) pa_nil))) (pa_cons (pe_op o_mul (pv 1) (pv 2)) pa_nil))))))), ?_⟩
    try dsimp only [cxOf, Cx.nox, Cx.wish]
    rw [st_l_beside]; walk_at "go"
    refine ⟨p, n, 1000000, xs, rfl, hp, hP, by omega, by omega, by omega, ?_⟩
    rintro v H1 ys b1 hp1 hP1 ⟨r, rfl, r0, r1⟩
    walk_at "go"
    refine ⟨p, n + 1, m + 1, ys, rfl, hp1, hP1, by omega, by omega, by omega, ?_⟩
    rintro v H2 zs b2 hp2 hP2 ⟨t, rfl, t0, t1⟩
    walk_at "go"
    refine w_newL rfl (fun l H3 nl hl s3 => ?_)
    walk_at "go"
    have hne : p ≠ l := ne_of_none hp2 nl
    refine ⟨p, n + 2, zs, l, _, rfl, s3 _ _ hp2, hP2, by omega, hne, sqL hl, by decide, by decide, ?_⟩
    intro v H4 ws b4 hp4 hP4 mv
    obtain ⟨d, rfl⟩ : ∃ d, v = .int d := by
      simp only [List.mem_cons, List.not_mem_nil, or_false] at mv
      rcases mv with e | e | e | e <;> exact ⟨_, e⟩
    walk_at "go"
    refine w_newT rfl (fun a H5 na ha s5 => ?_)
    walk_at "go"
    have b5 : But p H H5 := b1.trans (b2.trans ((But.trans s3.but b4).trans s5.but))
    have g1 : 2 * (1 + r) ≤ m * (1 + r) := Int.mul_le_mul_of_nonneg_right (by omega) (by omega)
    have g2 : m * (1 + r) ≤ 100 * (1 + r) := Int.mul_le_mul_of_nonneg_right (by omega) (by omega)
    refine q _ _ _ b5 (s5 _ _ hp4) (hP4.mono (by omega)) ⟨a, _, _, rfl, ha, ?_, ?_, ?_, ?_, ?_⟩
    · cases e : H a with
      | none => rfl
      | some o =>
        have hap : a ≠ p := fun z => by
          rw [z, hp4] at na
          cases na
        rw [b4 _ _ hap (s3 _ _ (b2 _ _ hap (b1 _ _ hap e)))] at na
        cases na
    · split <;> omega
    · split <;> split <;> omega
    · omega
    · omega
theorem C_l_drawn_part (T : Txt K mg) : Cal P w K mg base 4 "_law_drawn_part" ["_law_pot_here", "_law_parts"] spLPart4 := by
  have C_l_take := C_l_take (P := P) (w := w) (base := base) T
  have C_l_halved := C_l_halved (P := P) (w := w) (base := base) T
  have C_l_beside := C_l_beside (P := P) (w := w) (base := base) T
  obtain ⟨fd, F⟩ := T.d_l_drawn_part
  refine ⟨_, fd, FunD.ok F sc_l_drawn_part (fun vs H Q E h => ?_) (fun cdv A outer s H vs Q E hr h => ?_), T.g_l_drawn_part, F.kp, (F.bindsN fun _ _ _ _ _ _ us hl => match us, hl with | [_, _], _ => rfl)⟩
  · obtain ⟨x, k, u, m, rfl, _⟩ := h
    rfl
  · obtain ⟨p, n, xs, m, rfl, hp, hP, hn, h2, h3, q⟩ := h
    have fresh : ∀ {H1 : Hp} {a : Addr} {o : HO}, But p H H1 → H1 p = some o → H1 a = none → H a = none := fun {H1 a o} b hp1 na => by
      cases e : H a with
      | none => rfl
      | some o =>
        have hap : a ≠ p := fun z => by
          rw [z, hp1] at na
          cases na
        rw [b _ _ hap e] at na
        cases na
    refine ⟨_, PSs.nox (pss_cons (ps_set (i := 2) sc_l_drawn_part.nd rfl (.inl rfl) (pe_cal C_l_take (hr.mono (by decide)) (by rfl) (pa_cons (pv 0) (pa_cons pe_int pa_nil))))
    (pss_cons (ps_if (pt_cmpR o_gt (pv 2) pe_int (nomark _)) (pss_one (ps_ret (pe_ifExp (pt_cmpR op_eq (pv 2) pe_int (nomark _)) (pe_cal C_l_halved (hr.mono (by decide)) (by rfl) (pa_cons (pv 0) (pa_cons (pv 1) pa_nil))) (pe_cal C_l_beside (hr.mono (by decide)) (by rfl) (pa_cons (pv 0) (pa_cons (pv 1) pa_nil)))))) pss_nil)
    (pss_cons (ps_set (i := 3) sc_l_drawn_part.nd rfl (.inl rfl) (pe_op o_add pe_int (pe_cal C_l_take (hr.mono (by decide)) (by rfl) (pa_cons (pv 0) (pa_cons (pe_ix ix_seq (pe_lst (pa_cons pe_int (pa_cons pe_int pa_nil))) (pv 2) (fun _ _ => rfl)) pa_nil)))))
    (pss_one (ps_ret (pe_tup (pa_cons (pe_cal C_l_take (hr.mono (by decide)) (by rfl) (pa_cons (pv 0) (pa_cons (pe_op o_add (pv 3) pe_int) pa_nil))) (pa_cons (pv 3) pa_nil)))))))), ?_⟩
    try dsimp only [cxOf, Cx.nox, Cx.wish]
    rw [st_l_drawn_part]; walk_at "go"
    refine ⟨p, n, 4, xs, rfl, hp, hP, by omega, by omega, by omega, ?_⟩
    rintro v H1 ys b1 hp1 hP1 ⟨r, rfl, r0, r1⟩
    walk_at "go"
    refine w_if (fun e => ?_) (fun e => ?_)
    · walk_at "go"
      refine w_if (fun e => ?_) (fun e => ?_)
      all_goals
        walk_at "go"
        refine ⟨p, n + 1, ys, m, rfl, hp1, hP1, by omega, h2, h3, ?_⟩
        rintro v H2 zs b2 hp2 hP2 ⟨a, mm, nn, rfl, ha, na, g⟩
        exact q _ _ _ (b1.trans b2) hp2 hP2 ⟨a, mm, nn, rfl, ha, fresh b1 hp1 na, g⟩
    · walk_at "go"
      refine w_newL rfl (fun l H2 nl hl s2 => ?_)
      walk_at "go"
      obtain ⟨v, ev, mv⟩ := atI_ex (xs := [V.int 60, .int 999999999]) (m := r) r0 (by show r < 2; omega)
      obtain ⟨c, rfl, c0, c1⟩ : ∃ c, v = .int c ∧ 60 ≤ c ∧ c ≤ 999999999 := by
        simp only [List.mem_cons, List.not_mem_nil, or_false] at mv
        rcases mv with e | e <;> exact ⟨_, e, by decide, by decide⟩
      refine w_ixL (sqL hl) ev ?_
      walk_at "go"
      refine ⟨p, n + 1, c, ys, rfl, s2 _ _ hp1, hP1, by omega, by omega, by omega, ?_⟩
      rintro v H3 zs b3 hp3 hP3 ⟨t, rfl, t0, t1⟩
      walk_at "go"
      refine ⟨p, n + 2, _, zs, rfl, hp3, hP3, by omega, by omega, by omega, ?_⟩
      rintro v H4 ws b4 hp4 hP4 ⟨k, rfl, k0, k1⟩
      walk_at "go"
      refine w_newT rfl (fun a H5 na ha s5 => ?_)
      walk_at "go"
      have b5 : But p H H4 := b1.trans ((But.trans s2.but b3).trans b4)
      exact q _ _ _ (b5.trans s5.but) (s5 _ _ hp4) (hP4.mono (by omega)) ⟨a, _, _, rfl, ha, fresh b5 hp4 na, by omega, by omega, by omega, by omega⟩
end

end Ak
namespace Ak
open PySem PySem.Spec PyProof.Rows L2
/-! ### the walk of readings -/
local macro_rules | `(tactic| walk_at "go1") => `(tactic| (first
  | with_reducible refine w_seq ?_ | with_reducible refine w_next ?_ | with_reducible refine w_set ?_ | with_reducible refine w_asgS ?_ | with_reducible refine w_ret ?_ | with_reducible refine w_drop ?_ | with_reducible refine w_ifS ?_
  | with_reducible refine w_op ?_ | with_reducible refine w_un ?_ | ((with_reducible apply w_var); (· exact rfl)) | with_reducible refine w_c ?_
  | with_reducible refine w_add ?_ | with_reducible refine w_sub ?_ | with_reducible refine w_lt ?_ | with_reducible refine w_le ?_ | with_reducible refine w_gt ?_ | with_reducible refine w_ge ?_ | with_reducible refine w_neg ?_
  | ((with_reducible refine w_eq ?_ ?_); (· exact rfl)) | ((with_reducible refine w_ne ?_ ?_); (· exact rfl))
  | with_reducible refine w_test ?_ | with_reducible refine w_B ?_ | with_reducible refine w_or ?_ | with_reducible refine w_and ?_ | with_reducible refine w_not ?_ | with_reducible refine w_andV ?_ | with_reducible refine w_orV ?_ | with_reducible refine w_notV ?_
  | with_reducible refine w_ifE ?_ | with_reducible refine w_chain ?_ | with_reducible refine w_cb ?_ | with_reducible refine w_nil ?_ | with_reducible refine w_cons ?_ | with_reducible refine w_tup ?_ | with_reducible refine w_lst ?_ | with_reducible refine w_call ?_
  | with_reducible refine w_int1 ?_ | with_reducible refine w_abs ?_ | with_reducible refine w_max2 ?_ | with_reducible refine w_min2 ?_
  | with_reducible refine w_mknx ?_ | with_reducible refine w_mkrt ?_ | with_reducible refine w_mkbk ?_ | with_reducible refine w_mkct ?_ | with_reducible refine w_ifT ?_ | with_reducible refine w_ifF ?_ | with_reducible refine w_ifNT ?_ | with_reducible refine w_ifNF ?_
  | with_reducible refine w_lc ?_ | with_reducible refine w_lrg ?_ | with_reducible refine w_rg1 ?_ | with_reducible refine w_rg2 ?_ | with_reducible refine w_exI ?_ | with_reducible refine w_exI2 ?_
  | with_reducible refine w_bl ?_ | with_reducible refine w_asgT ?_ | with_reducible refine w_gcons ?_ | with_reducible refine w_gnil ?_ | with_reducible refine w_par ?_ | with_reducible refine w_pair ?_
  | ((with_reducible refine w_ixL (v := ?vv) (sqL (by assumption)) ?ee ?_); (case ee => exact rfl)) | ((with_reducible refine w_ixT (v := ?vv) (sqT (by assumption)) ?ee ?_); (case ee => exact rfl))
  | ((with_reducible refine w_ixL (v := ?vv) (by assumption) ?ee ?_); (case ee => exact rfl)) | ((with_reducible refine w_ixT (v := ?vv) (by assumption) ?ee ?_); (case ee => exact rfl))
  | ((with_reducible refine w_mod ?_ ?_); (· omega)) | ((with_reducible refine w_fdiv ?_ ?_ ?_); (· omega); (· omega))
  | ((with_reducible refine w_mulL ?_ ?_ ?_); (· omega); (· omega)) | ((with_reducible refine w_mulR ?_ ?_ ?_); (· omega); (· omega))
  | with_reducible refine w_lenL (sqL (by assumption)) ?_ | with_reducible refine w_lenL (by assumption) ?_ | with_reducible refine w_lenT (sqT (by assumption)) ?_ | with_reducible refine w_lenT (by assumption) ?_))
local macro_rules | `(tactic| walk_at "go") => `(tactic| repeat walk_at "go1")
/-- one asked thing -/
def Entry (H : Hp) (x : V) : Prop := ∃ t u b how m n, x = .ref t ∧ H t = some (.tup [.ref u, .int m, .int n, .str (toString (roundZ how (b * m) n))]) ∧ H u = some (.tup [.int b, .str how]) ∧ 2 ≤ b ∧ b ≤ 100 ∧ how ∈ hows ∧ 0 ≤ m ∧ m ≤ n ∧ 1 ≤ n ∧ n < 1073741824
theorem Entry.mono {H H' : Hp} {x : V} (h : Entry H x) (s : ∀ a xs, H a = some (.tup xs) → H' a = some (.tup xs)) : Entry H' x := by
  obtain ⟨t, u, b, how, m, n, e, h1, h2, r⟩ := h
  exact ⟨t, u, b, how, m, n, e, s _ _ h1, s _ _ h2, r⟩
theorem But.tups {p : Addr} {H H' : Hp} {xs : List V} (b : But p H H') (hp : H p = some (.lst xs)) : ∀ a ys, H a = some (.tup ys) → H' a = some (.tup ys) := fun a ys h => b a _ (fun z => by
  rw [z, hp] at h
  cases h) h
theorem round_lo {how : Str} {a u : Int} (ha : 0 ≤ a) (hu : 0 < u) (h : a ≤ 100 * u) : 0 ≤ roundZ how a u ∧ roundZ how a u ≤ 102 := by
  have h1 : 0 ≤ a / u := Int.ediv_nonneg ha (by omega)
  have h2 : a / u ≤ 100 := by
    have := Int.ediv_le_ediv hu h
    rwa [Int.mul_ediv_cancel _ (by omega)] at this
  have h3 : 0 ≤ a / u % 2 := Int.emod_nonneg _ (by decide)
  have h4 : a / u % 2 < 2 := Int.emod_lt_of_pos _ (by decide)
  unfold roundZ
  split
  · omega
  · split
    · omega
    · split
      · split <;> omega
      · split <;> omega
theorem small_log {i : Int} (h0 : 0 ≤ i) (h : i ≤ 1000) : i.natAbs.log2 < 1920 := PySem.Flt.log2_lt_of (by decide) (Nat.lt_of_le_of_lt (show i.natAbs ≤ 1000 by omega) (Nat.lt_of_lt_of_le (show 1000 < 2 ^ 10 by decide) (Nat.pow_le_pow_right (by decide) (by decide))))
theorem units_of {K : PySem.W.Frag} {H : Hp} {a : Addr} {b : Int} {how : Str} (h : H a = some (.tup [.int b, .str how])) (h1 : 2 ≤ b) (h2 : b ≤ 100) (h3 : how ∈ hows) : Units K H (.ref a) b how := ⟨a, rfl, sqT h, h1, h2, h3⟩
def spLRight : Sp := fun vs H Q _ => ∃ p xs, vs = [.ref p] ∧ H p = some (.lst xs) ∧ PotL 0 xs ∧ ∀ H', But p H H' → Q (.bl true) H'
def spLaw (K : PySem.W.Frag) : Sp := fun vs H Q _ => ∃ (a : Addr) (ns : List Int), vs = [.ref a] ∧ SqL K H a (ns.map V.int) ∧ ∀ H', Q (.bl true) H'
section
variable {P : Program} {w : World} {K : PySem.W.Frag} {mg : Str → Option Value} {base : Heap}
theorem C_l_right (T : Txt K mg) : Cal P w K mg base 6 "_law_right" ["_law_pot_here"] spLRight := by
  have C_l_units := C_l_units (P := P) (w := w) (base := base) T
  have C_l_drawn_part := C_l_drawn_part (P := P) (w := w) (base := base) T
  have C_l_rounded := C_l_rounded (P := P) (w := w) (base := base) T
  have C_shown := C_shown (P := P) (w := w) (base := base) T
  obtain ⟨fd, F⟩ := T.d_l_right
  refine ⟨_, fd, FunD.ok F sc_l_right (fun vs H Q E h => ?_) (fun cdv A outer s H vs Q E hr h => ?_), T.g_l_right, F.kp, (F.bindsN fun _ _ _ _ _ _ us hl => match us, hl with | [_], _ => rfl)⟩
  · obtain ⟨p, xs, rfl, _⟩ := h
    rfl
  · obtain ⟨p, xs, rfl, hp, hP, q⟩ := h
    refine ⟨_, PSs.nox (pss_cons (ps_set (i := 1) sc_l_right.nd rfl (.inl rfl) (pe_lst pa_nil))
    (pss_cons (ps_for PassesOwn.never rfl (pi_range1 (by rfl) T.z_range (pa_cons pe_int pa_nil)) (pg_name (i := 2) sc_l_right.nd rfl (.inl rfl))
    (pss_cons (ps_set (i := 3) sc_l_right.nd rfl (.inl rfl) (pe_cal C_l_units (hr.mono (by decide)) (by rfl) (pa_cons (pv 0) (pa_cons pe_int pa_nil))))
    (pss_cons (ps_asg (pe_cal C_l_drawn_part (hr.mono (by decide)) (by rfl) (pa_cons (pv 0) (pa_cons (pe_ix ix_seq (pv 3) pe_int (fun _ _ => rfl)) pa_nil))) (pg_tup rfl (pgs_cons (pg_name (i := 4) sc_l_right.nd rfl (.inl rfl)) (pgs_cons (pg_name (i := 5) sc_l_right.nd rfl (.inl rfl)) pgs_nil))))
    (pss_cons (ps_set (i := 6) sc_l_right.nd rfl (.inl rfl) (pe_callB c_reprI (by rfl) T.z_repr (by decide +kernel) (pa_cons (pe_cal C_l_rounded (hr.mono (by decide)) (by rfl) (pa_cons (pe_ix ix_seq (pv 3) pe_int (fun _ _ => rfl)) (pa_cons (pe_op o_mul (pe_ix ix_seq (pv 3) pe_int (fun _ _ => rfl)) (pv 4)) (pa_cons (pv 5) pa_nil)))) pa_nil)))
    (pss_cons (ps_if (pt_cmpR op_ne (pe_callB c_reprI (by rfl) T.z_repr (by decide +kernel) (pa_cons (pe_cal C_shown (hr.mono (by decide)) (by rfl) (pa_cons (pv 3) (pa_cons (pv 4) (pa_cons (pv 5) pa_nil)))) pa_nil)) (pv 6) (nomark _)) (pss_one (ps_ret pe_bl)) pss_nil)
    (pss_one (ps_expr (pe_bm PySem.F.plainAttrs_list PySem.F.slot_list_append PySem.F.type_list_append mt_append (pv 1) (pa_cons (pe_tup (pa_cons (pv 3) (pa_cons (pv 4) (pa_cons (pv 5) (pa_cons (pv 6) pa_nil))))) pa_nil)))))))))
    (pss_one (ps_ret (pe_callB (cr_all rfl) (by rfl) T.z_all (by decide +kernel) (pa_cons (pe_lc (own := [("_law_units_here", 3), ("_law_many", 4), ("_law_whole", 5), ("_law_due", 6)]) (g := gTup K 4 (gCons (gName 3) (gCons (gName 4) (gCons (gName 5) (gCons (gName 6) gNil))))) rfl sc_l_right.nd (pi_list (pv 1)) (blkOk_by (own := [("_law_units_here", 3), ("_law_many", 4), ("_law_whole", 5), ("_law_due", 6)]) (N := ["_law_pot_here", "_law_asked", "_law_lap", "_law_units_here", "_law_many", "_law_whole", "_law_due"]) (sc := defScope s_l_right) (by decide +kernel)) (fun _ _ _ _ _ => (pg_tup rfl (pgs_cons (pg_name (i := 3) sc_l_right.nd rfl (.inl rfl)) (pgs_cons (pg_name (i := 4) sc_l_right.nd rfl (.inl rfl)) (pgs_cons (pg_name (i := 5) sc_l_right.nd rfl (.inl rfl)) (pgs_cons (pg_name (i := 6) sc_l_right.nd rfl (.inl rfl)) pgs_nil)))))) (fun _ _ _ _ _ => pts_nil) (fun _ _ _ _ _ => (pe_cmpR op_eq (pe_callB c_reprI (by rfl) T.z_repr (by decide +kernel) (pa_cons (pe_cal C_shown (hr.mono (by decide)) (by rfl) (pa_cons (pv 3) (pa_cons (pv 4) (pa_cons (pv 5) pa_nil)))) pa_nil)) (pv 6) (nomark _)))) pa_nil)))))), ?_⟩
    try dsimp only [cxOf, Cx.nox, Cx.wish]
    rw [st_l_right]; walk_at "go"
    refine w_newL rfl (fun l H1 nl hl s1 => ?_)
    have hpl : p ≠ l := ne_of_none hp nl
    walk_at "go"
    refine w_forR (n := 20) (fun i σ' H' => ∃ y2 y3 y4 y5 y6 ys es, σ' = [some (.ref p), some (.ref l), y2, y3, y4, y5, y6] ∧ But p H H' ∧ H' p = some (.lst ys) ∧ PotL (6 * i) ys ∧ H' l = some (.lst es) ∧ es.length = i ∧ ∀ x ∈ es, Entry H' x)
      (fun R h => h) (by decide) ⟨none, none, none, none, none, xs, [], rfl, s1.but, s1 _ _ hp, hP, hl, rfl, fun x hx => by cases hx⟩ ?_ ?_
    · rintro i σ' H2 hi ⟨y2, y3, y4, y5, y6, ys, es, rfl, b2, hp2, hP2, hl2, hes, hE⟩
      walk_at "go"
      refine ⟨p, 6 * i, ys, 100, rfl, hp2, hP2, by omega, by decide, by decide, ?_⟩
      rintro v H3 zs b3 hp3 hP3 ⟨u, b, how, rfl, hu, nu, hb, hb2, hh⟩
      walk_at "go"
      refine ⟨p, 6 * i + 2, zs, b, rfl, hp3, hP3, by omega, hb, hb2, ?_⟩
      rintro v H4 ws b4 hp4 hP4 ⟨a, m, n, rfl, ha, na, hm, hmn, hn1, hn2⟩
      walk_at "go"
      refine ⟨a, _, rfl, sqT ha, rfl, ?_⟩
      have hu4 : H4 u = some (.tup [.int b, .str how]) := b4.tups hp3 _ _ hu
      walk_at "go"
      refine ⟨how, _, n, rfl, hh, by omega, hn2, ?_⟩
      walk_at "go"
      have bm0 : 0 ≤ b * m := Int.mul_nonneg (by omega) hm
      have bm1 : b * m ≤ 100 * n := Int.mul_le_mul hb2 hmn hm (by decide)
      obtain ⟨g0, g1⟩ := round_lo (how := how) bm0 (show 0 < n by omega) bm1
      refine w_repr (small_log g0 (by omega)) ?_
      walk_at "go"
      refine ⟨_, b, how, m, n, rfl, units_of hu4 hb hb2 hh, hm, hmn, hn1, hn2, fun H5 s5 => ?_⟩
      walk_at "go"
      refine w_repr (small_log g0 (by omega)) ?_
      walk_at "go"
      refine w_ifN (fun e => absurd rfl e) (fun _ => ?_)
      walk_at "go"
      have hl5 : H5 l = some (.lst es) := s5 _ _ (b4 _ _ hpl.symm (b3 _ _ hpl.symm hl2))
      refine ⟨_, rfl, .inl ⟨rfl, _, sqL hl5⟩, ?_⟩
      walk_at "go"
      refine w_newT rfl (fun t H6 nt ht s6 => ?_)
      walk_at "go"
      have hl6 := s6 _ _ hl5
      refine ⟨l, es, _, rfl, rfl, hl6, by rw [hes]; exact small1000 (by omega), ?_⟩
      have hlt : l ≠ t := ne_of_none hl5 nt
      have tu : ∀ c zs, H2 c = some (.tup zs) → upd H6 l (.lst (es ++ [.ref t])) c = some (.tup zs) := fun c cs h => by
        have h6 := s6 _ _ (s5 _ _ (b4.tups hp3 _ _ (b3.tups hp2 _ _ h)))
        rw [upd_ne (fun z => by rw [z, hl6] at h6; cases h6)]
        exact h6
      refine ⟨_, _, _, _, _, ws, es ++ [.ref t], rfl, ?_, ?_, ?_, upd_same, by rw [List.length_append, hes]; rfl, ?_⟩
      · intro c o nc hc
        by_cases hcl : c = l
        · rw [hcl, nl] at hc
          cases hc
        · rw [upd_ne hcl]
          exact s6 _ _ (s5 _ _ (b4 _ _ nc (b3 _ _ nc (b2 _ _ nc hc))))
      · rw [upd_ne hpl]
        exact s6 _ _ (s5 _ _ hp4)
      · exact hP4.mono (by omega)
      · intro x hx
        rcases List.mem_append.mp hx with hx | hx
        · exact (hE x hx).mono tu
        · obtain rfl : x = .ref t := by simpa using hx
          refine ⟨t, u, b, how, m, n, rfl, ?_, ?_, hb, hb2, hh, hm, hmn, hn1, hn2⟩
          · rw [upd_ne hlt.symm]
            exact ht
          · have h6 := s6 _ _ (s5 _ _ hu4)
            rw [upd_ne (fun z => by rw [z, hl6] at h6; cases h6)]
            exact h6
    · rintro σ' H2 ⟨y2, y3, y4, y5, y6, ys, es, rfl, b2, hp2, hP2, hl2, hes, hE⟩
      walk_at "go"
      refine w_lcL (K := K) (a := l) (xs := es) (fun _ y => y = .bl true) (sqL hl2) (by omega) ?_ ?_
      · intro i x H3 Nx hx s3 nx
        obtain ⟨t, u, b, how, m, n, rfl, ht, hu, hb, hb2, hh, hm, hmn, hn1, hn2⟩ := (hE x (List.mem_of_getElem? hx)).mono (fun a xs h => s3 _ _ h)
        refine ⟨t, _, rfl, sqT ht, rfl, ?_⟩
        walk_at "go"
        refine ⟨rfl, ?_⟩
        walk_at "go"
        have bm0 : 0 ≤ b * m := Int.mul_nonneg (by omega) hm
        have bm1 : b * m ≤ 100 * n := Int.mul_le_mul hb2 hmn hm (by decide)
        obtain ⟨g0, g1⟩ := round_lo (how := how) bm0 (show 0 < n by omega) bm1
        refine ⟨_, b, how, m, n, rfl, units_of hu hb hb2 hh, hm, hmn, hn1, hn2, fun H5 s5 => ?_⟩
        walk_at "go"
        refine w_repr (small_log g0 (by omega)) ?_
        walk_at "go"
        exact nx _ _ s5 (by rw [decide_eq_true rfl])
      · intro D H3 ys nD s3 hD hlen hy
        walk_at "go"
        refine w_allT (sqL hD) hy ?_
        exact q _ (b2.trans s3.but)
theorem ok_law (T : Txt K mg) {fd : FuncData} (F : FnP K "law" s_law (He.ga K "law") fd) : FnOk P w K mg base CX0 7 (He.ga K "law") fd ["_law_script"] (spLaw K) := by
  have C_l_cells := C_l_cells (P := P) (w := w) (base := base) T
  have C_l_pot := C_l_pot (P := P) (w := w) (base := base) T
  have C_l_right := C_l_right (P := P) (w := w) (base := base) T
  refine FunD.ok F sc_law (fun vs H Q E h => ?_) (fun cdv A outer s H vs Q E hr h => ?_)
  · obtain ⟨p, xs, rfl, _⟩ := h
    rfl
  · obtain ⟨a, ns, rfl, hS, q⟩ := h
    refine ⟨_, PSs.nox (pss_one (ps_ret (pe_callB (cr_all rfl) (by rfl) T.z_all (by decide +kernel) (pa_cons (pe_lc (own := [("_law_place", 1)]) (g := gName 1) rfl sc_law.nd (pi_list (pe_cal C_l_cells (hr.mono (by decide)) (by rfl) (pa_cons (pv 0) (pa_cons pe_int pa_nil)))) (blkOk_by (own := [("_law_place", 1)]) (N := ["_law_script", "_law_place"]) (sc := defScope s_law) (by decide +kernel)) (fun _ _ _ _ _ => (pg_name (i := 1) sc_law.nd rfl (.inl rfl))) (fun _ _ _ _ _ => pts_nil) (fun _ _ _ _ _ => (pe_cal C_l_right (hr.mono (by decide)) (by rfl) (pa_cons (pe_cal C_l_pot (hr.mono (by decide)) (by rfl) (pa_cons (pv 0) (pa_cons (pv 1) pa_nil))) pa_nil)))) pa_nil)))), ?_⟩
    try dsimp only [cxOf, Cx.nox, Cx.wish]
    rw [st_law]; walk_at "go"
    refine ⟨a, 4, ns, rfl, hS, by decide, by decide, fun l H1 n nl s1 hn hl => ?_⟩
    have hz : (rgV 0 n).length ≤ 1000 := by
      rw [rgV_length]
      omega
    refine w_lcL (xs := rgV 0 n) (fun _ y => y = .bl true) (sqL hl) (by omega) ?_ ?_
    · intro i x H2 Nx hx s2 nx
      obtain ⟨k, rfl, k0, k1⟩ : ∃ k : Int, x = .int k ∧ 0 ≤ k ∧ k ≤ 100 := by
        have hx2 : ((List.range (n - 0).toNat).map fun i => V.int (0 + (i : Nat)))[i]? = some x := hx
        rw [List.getElem?_map] at hx2
        cases e : (List.range (n - 0).toNat)[i]? with
        | none =>
          rw [e] at hx2
          cases hx2
        | some j =>
          rw [e] at hx2
          have hj := List.mem_range.mp (List.mem_of_getElem? e)
          exact ⟨_, (Option.some.inj hx2).symm, by omega, by omega⟩
      refine ⟨rfl, ?_⟩
      walk_at "go"
      refine ⟨a, k, ns, rfl, s2.seq (s1.seq hS), k0, k1, fun p H3 ys np s3 hp hP => ?_⟩
      refine ⟨p, ys, rfl, hp, hP, fun H4 b4 => ?_⟩
      refine nx _ _ (fun c o hc => b4 _ _ (fun z => ?_) (s3 _ _ hc)) rfl
      rw [z, np] at hc
      cases hc
    · intro D H3 ys nD s3 hD hlen hy
      walk_at "go"
      exact w_allT (sqL hD) hy (q _)
end

end Ak
namespace Ak
open PySem PySem.Spec PyProof.Rows L2
set_option maxHeartbeats 0
def names0 : List PySem.Str := ["AskedError", "BadUnits", "BadCount", "PAIR", "is_integer", "is_between", "is_tuple", "is_word", "NEAR", "EVEN", "DOWN", "UP", "HOWS", "LEAST_UNITS", "MOST_UNITS", "is_units", "check_units", "rounded", "shown", "_law_pot", "_law_take", "_law_of", "_law_cells", "_law_units", "_law_rounded", "_law_halved", "_law_beside", "_law_drawn_part", "_law_right"]
def names : List PySem.Str := names0
def fa0 : List He.Fa := [.glo "is_integer", .glo "is_between", .glo "is_tuple", .glo "is_word", .glo "is_units", .glo "check_units", .glo "rounded", .glo "shown", .glo "_law_pot", .glo "_law_take", .glo "_law_of", .glo "_law_cells", .glo "_law_units", .glo "_law_rounded", .glo "_law_halved", .glo "_law_beside", .glo "_law_drawn_part", .glo "_law_right", .glo "law", .int "PAIR" 2, .str "NEAR" "near", .str "EVEN" "even", .str "DOWN" "down", .str "UP" "up", .glo "HOWS", .int "LEAST_UNITS" 2, .int "MOST_UNITS" 100, .free "abs", .free "all", .free "bool"]
def fa1 : List He.Fa := [.free "divmod", .free "int", .free "isinstance", .free "len", .free "list", .free "max", .free "min", .free "range", .free "repr", .free "str", .free "tuple"]
def fa : List He.Fa := fa0 ++ fa1
def fn0 : List He.DefD := [⟨("is_integer", none), "is_integer", "is_integer", defArgs s_is_integer, defBody s_is_integer, defScope s_is_integer, [], []⟩,
  ⟨("is_between", none), "is_between", "is_between", defArgs s_is_between, defBody s_is_between, defScope s_is_between, [], []⟩,
  ⟨("is_tuple", none), "is_tuple", "is_tuple", defArgs s_is_tuple, defBody s_is_tuple, defScope s_is_tuple, [], []⟩,
  ⟨("is_word", none), "is_word", "is_word", defArgs s_is_word, defBody s_is_word, defScope s_is_word, [], []⟩,
  ⟨("is_units", none), "is_units", "is_units", defArgs s_is_units, defBody s_is_units, defScope s_is_units, [], []⟩,
  ⟨("check_units", none), "check_units", "check_units", defArgs s_check_units, defBody s_check_units, defScope s_check_units, [], []⟩,
  ⟨("rounded", none), "rounded", "rounded", defArgs s_rounded, defBody s_rounded, defScope s_rounded, [], []⟩,
  ⟨("shown", none), "shown", "shown", defArgs s_shown, defBody s_shown, defScope s_shown, [], []⟩,
  ⟨("_law_pot", none), "_law_pot", "_law_pot", defArgs s_l_pot, defBody s_l_pot, defScope s_l_pot, [], []⟩,
  ⟨("_law_take", none), "_law_take", "_law_take", defArgs s_l_take, defBody s_l_take, defScope s_l_take, [], []⟩]
def fn1 : List He.DefD := [⟨("_law_of", none), "_law_of", "_law_of", defArgs s_l_of, defBody s_l_of, defScope s_l_of, [], []⟩,
  ⟨("_law_cells", none), "_law_cells", "_law_cells", defArgs s_l_cells, defBody s_l_cells, defScope s_l_cells, [], []⟩,
  ⟨("_law_units", none), "_law_units", "_law_units", defArgs s_l_units, defBody s_l_units, defScope s_l_units, [], []⟩,
  ⟨("_law_rounded", none), "_law_rounded", "_law_rounded", defArgs s_l_rounded, defBody s_l_rounded, defScope s_l_rounded, [], []⟩,
  ⟨("_law_halved", none), "_law_halved", "_law_halved", defArgs s_l_halved, defBody s_l_halved, defScope s_l_halved, [], []⟩,
  ⟨("_law_beside", none), "_law_beside", "_law_beside", defArgs s_l_beside, defBody s_l_beside, defScope s_l_beside, [], []⟩,
  ⟨("_law_drawn_part", none), "_law_drawn_part", "_law_drawn_part", defArgs s_l_drawn_part, defBody s_l_drawn_part, defScope s_l_drawn_part, [], []⟩,
  ⟨("_law_right", none), "_law_right", "_law_right", defArgs s_l_right, defBody s_l_right, defScope s_l_right, [], []⟩,
  ⟨("law", none), "law", "law", defArgs s_law, defBody s_law, defScope s_law, [], []⟩]
def fn : List He.DefD := fn0 ++ fn1
def ex (K : PySem.W.Frag) : Bool := (He.tupB K "HOWS" [(.str "near"), (.str "even"), (.str "down"), (.str "up")])
abbrev R : PySem.W.OpenRow := PySem.W.OpenLaw.row PySem.Challenge.rw_anyasked_k01_whole_shown_by_every_how
abbrev hk : PySem.W.Hook := He.hookX 5 fa fn [] [] ex
def ob (s : PySem.W.SharedT) : He.AlX := He.obsX 5 fa fn [] [] ex (HandSHeadRun.getT s)
theorem ob_eq (s : PySem.W.SharedT) : ob s = hk.obs s.abs := He.obsX_eq (HandSHeadRun.getT_eq s)
theorem run (w : World) : HandSHeadRun.RunEq R (PySem.W.view R.prog [33]) hk ob 40000 names w := by
  intro os
  kernel_rfl
theorem txt_of {K : PySem.W.Frag} {h : Heap} {mg : Str → Option Value} {w : World} {h2 : Heap} (X : K.In h) (G : h.Ns mainGlobals mg) (cx : He.SaysX fa fn [] [] ex w h2 K) : Txt K mg := by
  have c := cx.t.d
  have m : ex K = true := cx.more
  unfold ex at m
  exact { d_is_integer := c.def_ 0, g_is_integer := He.glo_ok X G (c.fact 0), d_is_between := c.def_ 1, g_is_between := He.glo_ok X G (c.fact 1), d_is_tuple := c.def_ 2, g_is_tuple := He.glo_ok X G (c.fact 2), d_is_word := c.def_ 3, g_is_word := He.glo_ok X G (c.fact 3), d_is_units := c.def_ 4, g_is_units := He.glo_ok X G (c.fact 4), d_check_units := c.def_ 5, g_check_units := He.glo_ok X G (c.fact 5), d_rounded := c.def_ 6, g_rounded := He.glo_ok X G (c.fact 6), d_shown := c.def_ 7, g_shown := He.glo_ok X G (c.fact 7), d_l_pot := c.def_ 8, g_l_pot := He.glo_ok X G (c.fact 8), d_l_take := c.def_ 9, g_l_take := He.glo_ok X G (c.fact 9), d_l_of := c.def_ 10, g_l_of := He.glo_ok X G (c.fact 10), d_l_cells := c.def_ 11, g_l_cells := He.glo_ok X G (c.fact 11), d_l_units := c.def_ 12, g_l_units := He.glo_ok X G (c.fact 12), d_l_rounded := c.def_ 13, g_l_rounded := He.glo_ok X G (c.fact 13), d_l_halved := c.def_ 14, g_l_halved := He.glo_ok X G (c.fact 14), d_l_beside := c.def_ 15, g_l_beside := He.glo_ok X G (c.fact 15), d_l_drawn_part := c.def_ 16, g_l_drawn_part := He.glo_ok X G (c.fact 16), d_l_right := c.def_ 17, g_l_right := He.glo_ok X G (c.fact 17), d_law := c.def_ 18, g_law := He.glo_ok X G (c.fact 18), c_PAIR := He.int_ok X G (c.fact 19), c_NEAR := He.str_ok X G (c.fact 20), c_EVEN := He.str_ok X G (c.fact 21), c_DOWN := He.str_ok X G (c.fact 22), c_UP := He.str_ok X G (c.fact 23), c_HOWS := He.glo_ok X G (c.fact 24), c_LEAST_UNITS := He.int_ok X G (c.fact 25), c_MOST_UNITS := He.int_ok X G (c.fact 26), z_abs := He.free_ok X G (c.fact 27), z_all := He.free_ok X G (c.fact 28), z_bool := He.free_ok X G (c.fact 29), z_divmod := He.free_ok X G (c.fact 30), z_int := He.free_ok X G (c.fact 31), z_isinstance := He.free_ok X G (c.fact 32), z_len := He.free_ok X G (c.fact 33), z_list := He.free_ok X G (c.fact 34), z_max := He.free_ok X G (c.fact 35), z_min := He.free_ok X G (c.fact 36), z_range := He.free_ok X G (c.fact 37), z_repr := He.free_ok X G (c.fact 38), z_str := He.free_ok X G (c.fact 39), z_tuple := He.free_ok X G (c.fact 40), t_HOWS := fun H => He.tupB_ok m H }
end Ak
open PySem PySem.W PySem.Calls PyProof.Rows
theorem PySem.Challenge.cw_anyasked_k01_whole_shown_by_every_how_holds : PySem.Challenge.rw_anyasked_k01_whole_shown_by_every_how.Holds := by
  w_on; o_law
  refine HandSHeadRun.head_any (r := OpenLaw.row PySem.Challenge.rw_anyasked_k01_whole_shown_by_every_how) (q := view (OpenLaw.row PySem.Challenge.rw_anyasked_k01_whole_shown_by_every_how).prog [33]) (H := Ak.hk) (ob := Ak.ob) (M := 40000) (loose := Ak.names) (d := HandSHeadRun.topDef (OpenLaw.row PySem.Challenge.rw_anyasked_k01_whole_shown_by_every_how).prog 33) (kwd := []) Ak.ob_eq
    (by kernel_rfl) (fun s => by kernel_rfl) Ak.run (by kernel_rfl) (by kernel_rfl) (by kernel_rfl) (by rfl) (by first | assumption | decide +kernel) (by decide +kernel) ⟨rfl, rfl, rfl, rfl, rfl, by decide +kernel⟩ ?hw ?hc
  case hw => w_witness2
  case hc =>
    refine L2.walk_ofE (l := PySem.Challenge.rw_anyasked_k01_whole_shown_by_every_how) (n := 63) (k := 7) (x := "_law_script") (CX := L2.CX0) rfl (by decide) (by kernel_rfl) ⟨rfl, by decide, by decide⟩ ?F (fun _ _ _ _ z => z)
    intro w mg fa h Y G hmg0
    obtain ⟨K, KX, c⟩ := Y
    have hmg : mg ("law" : PySem.Str) = some (.ref fa) := by
      have e : (HandSHeadRun.topDef (OpenLaw.row PySem.Challenge.rw_anyasked_k01_whole_shown_by_every_how).prog 33).name = ("law" : PySem.Str) := by kernel_rfl
      rw [← e]
      exact hmg0
    have T := Ak.txt_of KX G c
    have e := hmg.symm.trans T.g_law
    cases e
    obtain ⟨fd, F⟩ := T.d_law
    have b := L2.FunD.bindsA (ps := ["_law_script"]) F fun _ _ _ _ _ _ us hl => match us, hl with | [_], _ => rfl
    exact ⟨K, fd, Ak.spLaw K, KX, fun s v => b s [v] rfl, fun H a ns hl _ hS => ⟨a, ns, rfl, hS, fun _ => rfl⟩, fun base _ _ => Ak.ok_law T F⟩

