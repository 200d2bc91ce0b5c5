import PyProof.Rows.All
import Wide.All
import OpenK.AllK
import Wide.FinOn
import KE.KStateDown
import Lean
import HandS.ForMost
import HandS.Exc
import HandS.ExcOwn
import HandS.TryOnly
import HandS.WordsExc
import HandS.Wide
import HandS.WideBits
import HandS.Conv
import HandS.IsInst
import HandS.RaiseMore
import HandS.FStrTup
import HandS.Defaults
import HandS.Head0
import HandS.Head1
import HandS.Head2
import HandS.HeadEnd
import HandS.HeadHook1
import HandS.HeadHook2
import HandS.HeadHook3
import HandS.HeadHook4
import PySem.Challenge.RW_anyasked_k02_stretches_of_all_shares
set_option Elab.async false
set_option linter.all false
set_option maxRecDepth 100000
set_option maxHeartbeats 4000000

namespace Ak
open PySem PySem.Spec PyProof.Rows L2
/-! ### defs whose callers repr nothing just now: what is known of the stack -/
structure FnG (P : Program) (w : World) (K : PySem.W.Frag) (mg : Str → Option Value) (base : Heap) (k : Nat) (f : Addr) (fd : FuncData) (ps : List Str) (sp : Sp) : Prop where
  many : ∀ vs H Q E, sp vs H Q E → vs.length = ps.length
  goes : ∀ (A : Around) (outer : List Env) (s : Shared) (H : Hp) (args : Args) (us : List Value) (vs : List V) (Q : VK) (E : XK), Room k A → A.guards = some [] → Env0 P w K mg base A outer s H → BindsTo s fd args (ps.zip us) → Vals vs us → sp vs H Q E →
    codeAny (model P w) A (.call (.ref f) args) (CR (L2.CX P w) outer P w H s Q E) s
theorem FnG.up {P : Program} {w : World} {K : PySem.W.Frag} {mg : Str → Option Value} {base : Heap} {j k : Nat} {f : Addr} {fd : FuncData} {ps : List Str} {sp : Sp} (F : FnG P w K mg base j f fd ps sp) (le : j ≤ k) : FnG P w K mg base k f fd ps sp :=
  ⟨F.many, fun A outer s H args us vs Q E room => F.goes A outer s H args us vs Q E (room.mono le)⟩
section
variable {P : Program} {w : World} {K : PySem.W.Frag} {mg : Str → Option Value} {base : Heap}
theorem okG {x qual : Str} {params : Arguments} {body : List Stmt} {scope : Scope} {dvs : List V} {kws : List (Str × V)} {f : Addr} {fd : FuncData} {N ps : List Str} {k : Nat} {sp : Sp} (F : FunD K x qual params body scope dvs kws f fd) (S : FnScope N ps scope) (many : ∀ vs H Q E, sp vs H Q E → vs.length = ps.length)
    (walk : ∀ (cdv : Value) (A : Around) (outer : List Env) (s : Shared) (H : Hp) (vs : List V) (Q : VK) (E : XK), Room k (A.deeper (envOfC qual scope s.heap.objs.size f cdv)) → A.guards = some [] → sp vs H Q E →
      ∃ t, PSs (cxOf (L2.CX P w) P w K mg base N qual scope f cdv A outer s H E) body t ∧ t { nx := fun _ H' => Q .non H', rt := Q } (L2.start N vs) H) : FnG P w K mg base (k + 1) f fd ps sp := by
  obtain ⟨oc, od, dV, kV, doc, pm, an, cdv, ct, osl, rfl, there, code, _⟩ := F.ex
  refine ⟨many, fun A outer s H args us vs Q E room gd e0 bound rel want => ?_⟩
  have KX : K.In s.heap := e0.mod.kin.keeps fun b o z => (e0.bs b o z).1
  have nolim : s.heap.NoLimit := e0.mod.nolimit.keeps fun b o z => (e0.bs b o z).1
  have kinds : ((ps.zip us).all fun y => scope.names.lookup y.1 == some .local || scope.names.lookup y.1 == some .cell) = true := by
    rw [List.all_eq_true]
    intro y hy
    rcases S.par y.1 (List.of_mem_zip (a := y.1) (b := y.2) hy).1 with z | z
    · rw [z]
      rfl
    · rw [z]
      rfl
  refine Att.call_fn (binds := ps.zip us) KX nolim there code room.depth bound kinds (fun s1 inC => ?_) S.co S.gen S.kind
  obtain ⟨t, runs, goal⟩ := walk cdv A outer s H vs Q E (room.deeper _) gd want
  have J := inv_start (CX := L2.CX P w) (E := E) S room.hd e0 (many _ _ _ _ want) rel inC
  refine wpAny_mono (runs.run [] s1 (L2.start N vs) H _ J goal) (fun fl s2 z => ?_) (fun e s2 z => z)
  cases fl with
  | ret u =>
    obtain ⟨v, σ2, H2, J2, r2, q2⟩ := z
    exact ⟨v, H2, J2.os, J2.bare, J2.base, J2.hok, r2, q2⟩
  | next =>
    obtain ⟨σ2, H2, J2, q2⟩ := z
    exact ⟨.non, H2, J2.os, J2.bare, J2.base, J2.hok, rfl, q2⟩
  | brk =>
    obtain ⟨_, _, _, no⟩ := z
    exact no.elim
  | cont =>
    obtain ⟨_, _, _, no⟩ := z
    exact no.elim
end
/-! ### calls of defs by their names -/
structure Cal (P : Program) (w : World) (K : PySem.W.Frag) (mg : Str → Option Value) (base : Heap) (k : Nat) (x : Str) (ps : List Str) (sp : Sp) : Prop where
  ex : ∃ f fd, FnG P w K mg base k f fd ps sp ∧ mg x = some (.ref f) ∧ PySem.W.keepIn K (.ref f) = true ∧ Binds K fd ps []
section
variable {X : Cx}
theorem runG {k : Nat} {f : Addr} {fd : FuncData} {ps : List Str} {sp : Sp} {pins : List (Addr × Obj)} {σ : L2.St} {H : Hp} {s : Shared} {Q : VK} {E : XK} {us : List Value} {vs : List V} (G : FnG X.prog X.w X.K X.mg X.base k f fd ps sp) (room : Room k X.A) (gd : X.A.guards = some []) (b : Binds X.K fd ps [])
    (px : Passes (L2.CX X.prog X.w) X E) (I : Inv X pins σ H s) (rel : Vals vs us) (want : sp vs H Q E) : wpAny (model X.prog X.w) X.A (call (.ref f) us) (EP X pins σ Q) X.xe s := by
  have hl : us.length = ps.length := rel.length.symm.trans (G.many _ _ _ _ want)
  have bt : BindsTo s fd ⟨us, []⟩ (ps.zip us) := by
    have z := b s us I.kIn (by rw [List.append_nil]; exact hl)
    rw [List.append_nil] at z
    exact z
  refine wpAny_call (codeAny_mono (G.goes X.A X.stack s H ⟨us, []⟩ us vs Q E room gd I.env0 bt rel want) fun out s2 z => ?_)
  match out, z with
  | .error e, z => exact px pins σ H s e s2 I z
  | .ok (.ret u), z => exact I.after z
  | .ok .next, z => exact z.elim
  | .ok .brk, z => exact z.elim
  | .ok .cont, z => exact z.elim
/-- a call whose errors are wanted as E -/
theorem pe_calE {k : Nat} {x : Str} {ps : List Str} {sp : Sp} {E : XK} {e : Expr} {es : List Expr} {t : TA} {p pos : Pos} (px : Passes (L2.CX X.prog X.w) X E) (C : Cal X.prog X.w X.K X.mg X.base k x ps sp) (room : Room k X.A) (gd : X.A.guards = some []) (gl : Gl X x) (args : PA X (e :: es) t)
    (n1 : (x == ("__debug__" : Str)) = false := by decide) (n2 : starEach (e :: es) X.env = (false, eval e X.env) :: starEach es X.env := by rfl) (n3 : (backTo pos (starEach es X.env)).any (·.1) = false := by rfl) :
    PE X (.Call (.Name x p) (e :: es) [] pos) (tCall sp [] E t) := by
  obtain ⟨f, fd, G, at_, kp, b⟩ := C.ex
  refine ⟨fun pins s σ H Q I want => wpAny_Call_Name_kw (ld_glob I gl at_ ?_ n1)⟩
  refine PySem.W.callWith_K (h₀ := X.base) I.ok.mod.kin kp (thn (args.run pos pins s σ H _ I want) fun us s1 z => ?_) n2 n3
  obtain ⟨vs, H1, I1, rel, q⟩ := z
  refine ⟨I1.kIn, runG G room gd b px I1 rel ?_⟩
  have q2 : sp (vs ++ []) H1 Q E := q
  rw [List.append_nil] at q2
  exact q2
theorem pe_cal {k : Nat} {x : Str} {ps : List Str} {sp : Sp} {e : Expr} {es : List Expr} {t : TA} {p pos : Pos} (C : Cal X.prog X.w X.K X.mg X.base k x ps sp) (room : Room k X.A) (gd : X.A.guards = some []) (gl : Gl X x) (args : PA X (e :: es) t)
    (n1 : (x == ("__debug__" : Str)) = false := by decide) (n2 : starEach (e :: es) X.env = (false, eval e X.env) :: starEach es X.env := by rfl) (n3 : (backTo pos (starEach es X.env)).any (·.1) = false := by rfl) :
    PE X (.Call (.Name x p) (e :: es) [] pos) (tCall sp [] E0 t) := pe_calE passL C room gd gl args n1 n2 n3
/-! ### repr of data -/
mutual
theorem dp_noDict {K : PySem.W.Frag} {H : Hp} : ∀ (d : PyData) (v : V), Dp K H v d → d.hasDict = false
  | _, _, .non => rfl
  | _, _, .bl _ => rfl
  | _, _, .int _ => rfl
  | _, _, .str _ => rfl
  | _, _, .lst _ h => by
    simp only [PyData.hasDict]
    exact dp_noDictAll _ _ h
  | _, _, .tup _ h => by
    simp only [PyData.hasDict]
    exact dp_noDictAll _ _ h
theorem dp_noDictAll {K : PySem.W.Frag} {H : Hp} : ∀ (ds : List PyData) (vs : List V), DpAll K H vs ds → PyData.hasDictAll ds = false
  | _, _, .nil => rfl
  | _, _, .cons h r => by
    simp only [PyData.hasDictAll, dp_noDict _ _ h, dp_noDictAll _ _ r, Bool.or_false]
end
/-- a value that repr takes -/
structure Shw (K : PySem.W.Frag) (H : Hp) (x : V) (d : PyData) : Prop where
  dp : Dp K H x d
  ok : d.showable = true
  sz : d.shown.length ≤ sizeLine
  dep : d.depth ≤ 40
def rReprD (K : PySem.W.Frag) : List V → Hp → VK → Prop := fun xs H Q => ∃ x d, xs = [x] ∧ Shw K H x d ∧ Q (.str d.shown) H
theorem call_repr_data {prog : Program} {w : World} {A : Around} {E : Value → Shared → Prop} {s : Shared} {Q : Value → Shared → Prop} {v : Value} {d : PyData} {as : List Addr} (r : Reads s.heap v d as) (hs : d.showable = true) (hd : d.hasDict = false) (hz : d.shown.length ≤ sizeLine) (gd : A.guards = some []) (hu : A.units + (d.depth + 2) < cLine)
    (q : ∀ h' u tk, (∀ b o, s.heap.get? b = some o → h'.get? b = some o) → Q (.str d.shown u) { s with heap := h', toks := tk }) : wpAny (model prog w) A (call (.builtin "repr") [v]) Q E s := by
  cases r with
  | none => exact PySem.P.repr_of_none (q s.heap _ _ fun _ _ z => z)
  | bool b => exact PySem.P.repr_of_bool (by simpa only [PyData.shown] using q s.heap _ _ fun _ _ z => z)
  | int i t => exact PySem.P.repr_of_int (by simpa [PyData.showable] using hs) (by simpa only [PyData.shown] using q s.heap _ _ fun _ _ z => z)
  | str x t => exact PySem.P.repr_of_str (by simpa only [PyData.shown] using q s.heap _ _ fun _ _ z => z) (by simpa only [PyData.shown] using hz)
  | tuple h1 h2 h3 h4 =>
    rename_i a o items n xs
    have hz2 : (tupleText (PyData.shownAll xs)).length ≤ sizeLine := by simpa only [PyData.shown] using hz
    obtain ⟨bs, hb, hk⟩ := ReprAllK.of_readsAll (prog := prog) (w := w) h4 (by simpa [PyData.showable] using hs) (fun z => by rw [show PyData.hasDictAll xs = false by simpa [PyData.hasDict] using hd] at z; cases z) (fun t ht => Nat.le_trans (tupleText_mem_le ht) hz2)
    have rr : Reads s.heap (.ref a) (.tuple xs) _ := .tuple h1 h2 h3 h4
    have na : a ∉ bs := not_mem_of_deeper rr (by simp only [PyData.depth]; omega) hb
    simp only [PyData.depth] at hu
    refine call_repr_slot (by omega) ⟨_, h1, h2⟩ F.slot_tuple_repr (call_tuple_reprK h1 h2 h3 na hk gd (fun b _ => Clear.nil b) (by show A.units + 1 + _ < _; omega) (fun _ _ z => z) (fun h' u tk k => ⟨_, _, rfl, ?_⟩) hz2)
    simpa only [PyData.shown] using q h' u tk k
  | list h1 h2 h3 h4 =>
    rename_i a o items n xs as
    have hz2 : (listText (PyData.shownAll xs)).length ≤ sizeLine := by simpa only [PyData.shown] using hz
    obtain ⟨bs, hb, hk⟩ := ReprAllK.of_readsAll (prog := prog) (w := w) h4 (by simpa [PyData.showable] using hs) (fun z => by rw [show PyData.hasDictAll xs = false by simpa [PyData.hasDict] using hd] at z; cases z) (fun t ht => Nat.le_trans (listText_mem_le ht) hz2)
    have rr : Reads s.heap (.ref a) (.list xs) _ := .list h1 h2 h3 h4
    have na : a ∉ bs := not_mem_of_deeper rr (by simp only [PyData.depth]; omega) hb
    simp only [PyData.depth] at hu
    obtain ⟨l⟩ := items
    cases l with
    | nil =>
      have h4' : ReadsAll s.heap [] xs _ := h4
      cases h4'
      refine call_repr_slot (by omega) ⟨_, h1, h2⟩ F.slot_list_repr.toG (call_list_repr_empty ⟨_, h1, h2⟩ h1 h3 ⟨_, _, rfl, ?_⟩)
      simpa only [PyData.shown, PyData.shownAll, listText_nil] using q s.heap _ _ fun _ _ z => z
    | cons y l =>
      refine call_repr_slot (by omega) ⟨_, h1, h2⟩ F.slot_list_repr.toG (call_list_reprK h1 h2 h3 na (by simpa using hk.length_eq) (fun i y e => hk.item i y (by simpa using e)) gd (fun b _ => Clear.nil b) (by show A.units + 1 + _ < _; omega) (fun _ _ z => z) (fun h' u tk k => ⟨_, _, rfl, ?_⟩) hz2)
      simpa only [PyData.shown] using q h' u tk k
  | dict h1 h2 h3 h4 h5 =>
    simp only [PyData.hasDict] at hd
    cases hd
theorem c_reprD {k : Nat} (room : Room k X.A) (gd : X.A.guards = some []) : CallR X (.builtin "repr") (rReprD X.K) := by
  intro pins s σ H xs us Q I rel want
  obtain ⟨x, d, rfl, sh, q⟩ := want
  obtain ⟨u, rfl, ru⟩ := vals1 rel
  obtain ⟨as, rd⟩ := Dp.reads I d x u sh.dp ru
  have hu := room.units
  have hd := sh.dep
  exact call_repr_data rd sh.ok (dp_noDict _ _ sh.dp) sh.sz gd (by omega) fun h' t tk k => ⟨.str d.shown, H, I.kept k, ⟨t, rfl⟩, q⟩
end

section
variable {X : Cx}
theorem pe_con {x : Str} {v : V} {u : Tok → Value} {pos : Pos} (hm : ∃ t, X.mg x = some (u t)) (hg : Gl X x) (r : ∀ t, RelV v (u t) := by intro t; exact ⟨t, rfl⟩) (hd : (x == ("__debug__" : Str)) = false := by decide) : PE X (.Name x pos) (tC v) := by
  obtain ⟨t, e⟩ := hm
  exact pe_glob hg e (r t) hd
theorem pe_ci {x : Str} {i : Int} {pos : Pos} (hm : ∃ t, X.mg x = some (.int i t)) (hg : Gl X x) (hd : (x == ("__debug__" : Str)) = false := by decide) : PE X (.Name x pos) (tC (.int i)) := by
  obtain ⟨t, e⟩ := hm
  exact pe_glob hg e ⟨t, rfl⟩ hd
theorem pe_cs {x s : Str} {pos : Pos} (hm : ∃ t, X.mg x = some (.str s t)) (hg : Gl X x) (hd : (x == ("__debug__" : Str)) = false := by decide) : PE X (.Name x pos) (tC (.str s)) := by
  obtain ⟨t, e⟩ := hm
  exact pe_glob hg e ⟨t, rfl⟩ hd
/-! ### rules whose readings name the written part K -/
section
variable {K : PySem.W.Frag}
theorem x_repr {k : Nat} (e : X.K = K) (room : Room k X.A) (gd : X.A.guards = some []) : CallR X (.builtin "repr") (rReprD K) := by subst e; exact c_reprD room gd
theorem x_ix (e : X.K = K) : IxR X (rIx K) := by subst e; exact ix_seq
theorem x_isi (e : X.K = K) : CallR X (.builtin "isinstance") (rIsi K) := by subst e; exact call_isi
theorem x_all (e : X.K = K) (hc : X.calm = true) : CallR X (.builtin "all") (rAll K) := by subst e; exact cr_all hc
theorem x_any (e : X.K = K) (hc : X.calm = true) : CallR X (.builtin "any") (rAny K) := by subst e; exact cr_any hc
theorem x_sum (e : X.K = K) (hc : X.calm = true) : CallR X (.builtin "sum") (rSum K) := by subst e; exact cr_sum hc
theorem x_in (e : X.K = K) : OpR X (compareOp .In) (rIn K false) := by subst e; exact op_in_seq
theorem x_notIn (e : X.K = K) : OpR X (compareOp .NotIn) (rIn K true) := by subst e; exact op_notIn_seq
def rLenS (K : PySem.W.Frag) : List V → Hp → VK → Prop := fun xs H Q => ∃ p ys, xs = [.ref p] ∧ (SqL K H p ys ∨ SqT K H p ys) ∧ Q (.int ys.length) H
theorem x_len (e : X.K = K) : CallR X (.builtin "len") (rLenS K) := by subst e; exact call_len_seq
theorem xi_list {tg it : Expr} {tl : TE} (e : X.K = K) (h : PE X it tl) : PI X tg it (iList K tl) := by subst e; exact pi_list h
theorem xi_tup {tg it : Expr} {tl : TE} (e : X.K = K) (h : PE X it tl) : PI X tg it (iTup K tl) := by subst e; exact pi_tup h
def iSeq (K : PySem.W.Frag) (tl : TE) : TI := fun σ H R => iList K tl σ H R ∨ iTup K tl σ H R
theorem xi_seq {tg it : Expr} {tl : TE} (e : X.K = K) (h : PE X it tl) : PI X tg it (iSeq K tl) := ⟨fun pins s σ H R I z => by
  rcases z with z | z
  · exact (xi_list e h).run pins s σ H R I z
  · exact (xi_tup e h).run pins s σ H R I z⟩
theorem xg_tup {es : List Expr} {k : Nat} {t : TGs} {n : Nat} {pos : Pos} (e : X.K = K) (hc : X.calm = true) (h : PGs X es t) (hn : (assignEach es X.env).length = n := by rfl) (hst : (assignEach es X.env).findIdx? (·.1) = none := by rfl) : PG X (.Tuple es k pos) (gTup K n t) := by subst e; exact pg_tup hc h hn hst
end
/-! ### operators on greater ints -/
def CPowW (i j : Int) : Prop := 0 ≤ j ∧ j ≤ 100 ∧ i.natAbs < 2 ^ 4096
theorem op_powW : OpR X (binaryOp .Pow) (rI CPowW fun i j => .int (i ^ j.toNat)) := opI fun i j _ _ _ _ _ hc q => by
  obtain ⟨h1, h2, h3⟩ := hc
  have b : Builtin.Int.intBits i ≤ 4096 := by
    have hl : i.natAbs.log2 < 4096 := PySem.Flt.log2_lt_of (by decide) h3
    unfold Builtin.Int.intBits
    split <;> omega
  refine pow_int h1 ?_ q
  have b2 : (Builtin.Int.intBits i : Int) ≤ 4096 := by omega
  have : (Builtin.Int.intBits i : Int) * j ≤ 4096 * 100 := Int.mul_le_mul b2 h2 h1 (by decide)
  exact Int.le_trans this (by decide)
/-! ### readings by names -/
def rAddI : R2 := rI0 fun i j => .int (i + j)
theorem o_add : OpR X (binaryOp .Add) rAddI := op_add
def rSubI : R2 := rI0 fun i j => .int (i - j)
theorem o_sub : OpR X (binaryOp .Sub) rSubI := op_sub
def rMulI : R2 := rI (fun i j => IntMulOk i j) fun i j => .int (i * j)
theorem o_mul : OpR X (binaryOp .Mult) rMulI := opI fun _ _ _ _ _ _ _ ok q => mul_int q ok
def rFdivI : R2 := rI CDivW fun i j => .int (i / j)
theorem o_fdiv : OpR X (binaryOp .FloorDiv) rFdivI := op_fdivW
def rModI : R2 := rI (fun _ j => 0 < j) fun i j => .int (i % j)
theorem o_mod : OpR X (binaryOp .Mod) rModI := op_mod
def rPowI : R2 := rI CPowW fun i j => .int (i ^ j.toNat)
theorem o_pow : OpR X (binaryOp .Pow) rPowI := op_powW
def rLtI : R2 := rI0 fun i j => .bl (decide (i < j))
theorem o_lt : OpR X (compareOp .Lt) rLtI := op_lt
def rLeI : R2 := rI0 fun i j => .bl (decide (i ≤ j))
theorem o_le : OpR X (compareOp .LtE) rLeI := op_le
def rGtI : R2 := rI0 fun i j => .bl (decide (j < i))
theorem o_gt : OpR X (compareOp .Gt) rGtI := op_gt
def rGeI : R2 := rI0 fun i j => .bl (decide (j ≤ i))
theorem o_ge : OpR X (compareOp .GtE) rGeI := op_ge
def rIsN : R2 := fun x y H Q => y = .non ∧ Q (.bl (decide (x = .non))) H
theorem o_isN : OpR X (compareOp .Is) rIsN := op_isN
def rNotN : R2 := fun x y H Q => y = .non ∧ Q (.bl (!decide (x = .non))) H
theorem o_notN : OpR X (compareOp .IsNot) rNotN := op_notN
def rCatL : R2 := rCat
theorem o_cat : OpR X (binaryOp .Add) rCatL := op_cat
def rNegI : V → Hp → VK → Prop := rU fun i => .int (-i)
theorem u_neg : UnR X (unaryOp .USub) rNegI := un_neg
def rInt1 : List V → Hp → VK → Prop := fun xs H Q => (∃ i, xs = [.int i] ∧ Q (.int i) H) ∨ ∃ k, xs = [.bl k] ∧ Q (.int (if k then 1 else 0)) H
theorem c_int1 : CallR X (.type "int") rInt1 := call_int1
def rAbs : List V → Hp → VK → Prop := fun xs H Q => ∃ i, xs = [.int i] ∧ Q (.int (if i < 0 then -i else i)) H
theorem c_abs : CallR X (.builtin "abs") rAbs := call_abs
def rMax2 : List V → Hp → VK → Prop := fun xs H Q => ∃ i j, xs = [.int i, .int j] ∧ Q (.int (if j > i then j else i)) H
theorem c_max2 (hc : X.calm = true) : CallR X (.builtin "max") rMax2 := call_max2 hc
def rMin2 : List V → Hp → VK → Prop := fun xs H Q => ∃ i j, xs = [.int i, .int j] ∧ Q (.int (if j < i then j else i)) H
theorem c_min2 (hc : X.calm = true) : CallR X (.builtin "min") rMin2 := call_min2 hc
def rDivmod : List V → Hp → VK → Prop := fun xs H Q => ∃ i j, xs = [.int i, .int j] ∧ CDivP i j ∧ ∀ p, H p = none → Q (.ref p) (upd H p (.tup [.int (i / j), .int (i % j)]))
theorem c_divmod : CallR X (.builtin "divmod") rDivmod := call_divmodW
end
/-! ### steps of readings -/
def NewT (xs : List V) (H : Hp) (Q : VK) : Prop := xs.length ≤ sizeLine ∧ ∀ p, H p = none → Q (.ref p) (upd H p (.tup xs))
def NewR (a b : Int) (H : Hp) (Q : VK) : Prop := RgOk a b ∧ ∀ q, H q = none → Q (.ref q) (upd H q (.lst (rgV a b)))
def NewL (xs : List V) (H : Hp) (Q : VK) : Prop := xs.length ≤ sizeLine ∧ ∀ p, H p = none → Q (.ref p) (upd H p (.lst xs))
section
variable {σ : L2.St} {H : Hp} {Q : VK} {D : Ends} {ta tb tc te : TE} {tt tu : TT} {t1 t2 : TS} {i j : Int} {v x y : V} {K : PySem.W.Frag} {n : Nat} {p : Addr} {xs : List V}
theorem w_seq (h : t1 { D with nx := t2 D } σ H) : tSeq t1 t2 D σ H := h
theorem w_next (h : D.nx σ H) : tNext D σ H := h
theorem w_set {k : Nat} (h : te σ H fun x H1 => D.nx (σ.set k (some x)) H1) : tAsg te (gName k) D σ H := h
theorem w_asgS {ti to : TE} {s : TSet} (h : te σ H fun x H1 => to σ H1 fun o H2 => ti σ H2 fun i H3 => s o i x H3 fun H4 => D.nx σ H4) : tAsg te (gSub to ti s) D σ H := h
theorem w_ret (h : te σ H D.rt) : tRet te D σ H := h
theorem w_drop (h : te σ H fun _ H1 => D.nx σ H1) : tDrop te D σ H := h
theorem w_ifS (h : tt σ H fun b H1 => if b = true then t1 D σ H1 else t2 D σ H1) : tIfS tt t1 t2 D σ H := h
theorem w_op {r : R2} (h : ta σ H fun x H1 => tb σ H1 fun y H2 => r x y H2 Q) : tOp r ta tb σ H Q := h
theorem w_un {r : V → Hp → VK → Prop} (h : ta σ H fun x H1 => r x H1 Q) : tUn r ta σ H Q := h
theorem w_var (h : σ[n]? = some (some v)) (q : Q v H) : tVar n σ H Q := ⟨v, h, q⟩
theorem w_c (q : Q v H) : tC v σ H Q := q
theorem w_I0 {g : Int → Int → V} (q : Q (g i j) H) : rI0 g (.int i) (.int j) H Q := ⟨i, j, rfl, rfl, q⟩
theorem w_I {C : Int → Int → Prop} {g : Int → Int → V} (c : C i j) (q : Q (g i j) H) : rI C g (.int i) (.int j) H Q := ⟨i, j, rfl, rfl, c, q⟩
theorem w_U {g : Int → V} (q : Q (g i) H) : rU g (.int i) H Q := ⟨i, rfl, q⟩
theorem w_add (q : Q (.int (i + j)) H) : rAddI (.int i) (.int j) H Q := ⟨i, j, rfl, rfl, q⟩
theorem w_sub (q : Q (.int (i - j)) H) : rSubI (.int i) (.int j) H Q := ⟨i, j, rfl, rfl, q⟩
theorem w_mulL (h1 : -18446744073709551616 < i) (h2 : i < 18446744073709551616) (q : Q (.int (i * j)) H) : rMulI (.int i) (.int j) H Q := ⟨i, j, rfl, rfl, CMul.ok (.inl ⟨h1, h2⟩), q⟩
theorem w_mulR (h1 : -18446744073709551616 < j) (h2 : j < 18446744073709551616) (q : Q (.int (i * j)) H) : rMulI (.int i) (.int j) H Q := ⟨i, j, rfl, rfl, CMul.ok (.inr ⟨h1, h2⟩), q⟩
theorem w_mulW (h : CMulW i j) (q : Q (.int (i * j)) H) : rMulI (.int i) (.int j) H Q := ⟨i, j, rfl, rfl, h.ok, q⟩
theorem log_small {i : Int} (h0 : 0 ≤ i) (h : i < 1073741824) : i.natAbs.log2 < 1920 := PySem.Flt.log2_lt_of (by decide) (Nat.lt_of_lt_of_le (show i.natAbs < 2 ^ 30 by omega) (Nat.pow_le_pow_right (i := 30) (j := 1920) (by decide) (by decide)))
theorem w_fdiv (h1 : 0 < j) (h2 : j < 1073741824) (q : Q (.int (i / j)) H) : rFdivI (.int i) (.int j) H Q := ⟨i, j, rfl, rfl, ⟨h1, Nat.lt_trans (log_small (Int.le_of_lt h1) h2) (by decide)⟩, q⟩
theorem w_fdivW (h : CDivW i j) (q : Q (.int (i / j)) H) : rFdivI (.int i) (.int j) H Q := ⟨i, j, rfl, rfl, h, q⟩
theorem w_mod (h1 : 0 < j) (q : Q (.int (i % j)) H) : rModI (.int i) (.int j) H Q := ⟨i, j, rfl, rfl, h1, q⟩
theorem w_modG (h1 : 0 < j) (q : ∀ r, 0 ≤ r → r < j → Q (.int r) H) : rModI (.int i) (.int j) H Q := ⟨i, j, rfl, rfl, h1, q _ (Int.emod_nonneg i (by omega)) (Int.emod_lt_of_pos i h1)⟩
theorem w_pow (h1 : CPowW i j) (q : Q (.int (i ^ j.toNat)) H) : rPowI (.int i) (.int j) H Q := ⟨i, j, rfl, rfl, h1, q⟩
theorem w_lt (q : Q (.bl (decide (i < j))) H) : rLtI (.int i) (.int j) H Q := ⟨i, j, rfl, rfl, q⟩
theorem w_le (q : Q (.bl (decide (i ≤ j))) H) : rLeI (.int i) (.int j) H Q := ⟨i, j, rfl, rfl, q⟩
theorem w_gt (q : Q (.bl (decide (j < i))) H) : rGtI (.int i) (.int j) H Q := ⟨i, j, rfl, rfl, q⟩
theorem w_ge (q : Q (.bl (decide (j ≤ i))) H) : rGeI (.int i) (.int j) H Q := ⟨i, j, rfl, rfl, q⟩
theorem w_isN (q : Q (.bl (decide (x = .non))) H) : rIsN x .non H Q := ⟨rfl, q⟩
theorem w_notN (q : Q (.bl (!decide (x = .non))) H) : rNotN x .non H Q := ⟨rfl, q⟩
theorem w_neg (q : Q (.int (-i)) H) : rNegI (.int i) H Q := ⟨i, rfl, q⟩
theorem w_bl {b : Bool} {R : Bool → Prop} (q : R b) : ∃ k, V.bl b = V.bl k ∧ R k := ⟨b, rfl, q⟩
theorem same_new {q : Addr} {o : HO} (hq : H q = none) : Same H (upd H q o) := fun b u e => by
  rw [upd_ne (ne_of_none e hq)]
  exact e
theorem w_divmod (h1 : 0 < j) (h2 : j < 1073741824) (q : ∀ p H', H p = none → H' p = some (.tup [.int (i / j), .int (i % j)]) → Same H H' → Q (.ref p) H') : rDivmod [.int i, .int j] H Q := ⟨i, j, rfl, ⟨h1, PyProof.noPylong_small (by omega)⟩, fun p hp => q p _ hp upd_same (same_new hp)⟩
theorem w_eq (h : scal x y = true) (q : Q (.bl (decide (x = y))) H) : rEq x y H Q := ⟨h, q⟩
theorem w_ne (h : scal x y = true) (q : Q (.bl (!decide (x = y))) H) : rNe x y H Q := ⟨h, q⟩
theorem w_test {R : Bool → Hp → Prop} (h : te σ H fun x H' => ∃ k, x = .bl k ∧ R k H') : tTest te σ H R := h
theorem w_B {R : Bool → Hp → Prop} (h : te σ H fun x H' => ∃ k, x = .bl k ∧ R k H') : tB te σ H R := h
theorem w_or {R : Bool → Hp → Prop} (h : tt σ H fun c H1 => if c = true then R true H1 else tu σ H1 R) : tOr tt tu σ H R := h
theorem w_and {R : Bool → Hp → Prop} (h : tt σ H fun c H1 => if c = true then tu σ H1 R else R false H1) : tAnd tt tu σ H R := h
theorem w_not {R : Bool → Hp → Prop} (h : tt σ H fun c H1 => R (!c) H1) : tNot tt σ H R := h
theorem w_andV (h : ta σ H fun x H1 => ∃ c, x = .bl c ∧ if c = true then tb σ H1 Q else Q (.bl false) H1) : tAndV ta tb σ H Q := h
theorem w_orV (h : ta σ H fun x H1 => ∃ c, x = .bl c ∧ if c = true then Q (.bl true) H1 else tb σ H1 Q) : tOrV ta tb σ H Q := h
theorem w_notV (h : ta σ H fun x H1 => ∃ c, x = .bl c ∧ Q (.bl (!c)) H1) : tNotV ta σ H Q := h
theorem w_ifE (h : tt σ H fun c H1 => if c = true then ta σ H1 Q else tb σ H1 Q) : tIf tt ta tb σ H Q := h
theorem w_chain {r r' : R2} (h : ta σ H fun x H1 => tb σ H1 fun y H2 => r x y H2 fun z H3 => ∃ k, z = .bl k ∧ (if k = true then tc σ H3 fun w H4 => r' y w H4 Q else Q (.bl false) H3)) : tChain r r' ta tb tc σ H Q := h
theorem w_cb {r : List V → Hp → VK → Prop} {tA : TA} (h : tA σ H fun vs H1 => r vs H1 Q) : tCB r tA σ H Q := h
theorem w_nil {R : List V → Hp → Prop} (h : R [] H) : tNil σ H R := h
theorem w_cons {tA : TA} {R : List V → Hp → Prop} (h : ta σ H fun x H1 => tA σ H1 fun xs H2 => R (x :: xs) H2) : tCons ta tA σ H R := h
theorem w_tup {tA : TA} (h : tA σ H fun xs H1 => NewT xs H1 Q) : tTup tA σ H Q := h
theorem w_lst {tA : TA} (h : tA σ H fun xs H1 => NewL xs H1 Q) : tLst tA σ H Q := h
theorem w_call {sp : Sp} {E : XK} {tA : TA} (h : tA σ H fun vs H1 => sp (vs ++ []) H1 Q E) : tCall sp [] E tA σ H Q := h
theorem w_int1 (q : Q (.int i) H) : rInt1 [.int i] H Q := .inl ⟨i, rfl, q⟩
theorem w_int1b {b : Bool} (q : Q (.int (if b then 1 else 0)) H) : rInt1 [.bl b] H Q := .inr ⟨b, rfl, q⟩
theorem w_int1G {b : Bool} (q : ∀ k, 0 ≤ k → k ≤ 1 → Q (.int k) H) : rInt1 [.bl b] H Q := .inr ⟨b, rfl, q _ (by cases b <;> decide) (by cases b <;> decide)⟩
theorem w_abs (q : Q (.int (if i < 0 then -i else i)) H) : rAbs [.int i] H Q := ⟨i, rfl, q⟩
theorem w_max2 (q : Q (.int (if j > i then j else i)) H) : rMax2 [.int i, .int j] H Q := ⟨i, j, rfl, q⟩
theorem w_min2 (q : Q (.int (if j < i then j else i)) H) : rMin2 [.int i, .int j] H Q := ⟨i, j, rfl, q⟩
theorem w_lenL (h : SqL K H p xs) (q : Q (.int xs.length) H) : rLenS K [.ref p] H Q := ⟨p, xs, rfl, .inl h, q⟩
theorem w_lenT (h : SqT K H p xs) (q : Q (.int xs.length) H) : rLenS K [.ref p] H Q := ⟨p, xs, rfl, .inr h, q⟩
theorem w_reprD {d : PyData} (h : Shw K H x d) (q : Q (.str d.shown) H) : rReprD K [x] H Q := ⟨x, d, rfl, h, q⟩
theorem shw_int (h : i.natAbs.log2 < 1920) : Shw K H (.int i) (.int i) := ⟨.int i, by simp only [PyData.showable]; exact decide_eq_true h, by simp only [PyData.shown]; exact PySem.int_text_fits h, by simp only [PyData.depth]; omega⟩
theorem w_repr (h : i.natAbs.log2 < 1920) (q : Q (.str (toString i)) H) : rReprD K [.int i] H Q := w_reprD (shw_int h) (by simpa only [PyData.shown] using q)
theorem w_ixL (h : SqL K H p xs) (e : atI xs i = some v) (q : Q v H) : rIx K (.ref p) (.int i) H Q := .inl ⟨p, xs, i, v, rfl, rfl, h, e, q⟩
theorem w_ixT (h : SqT K H p xs) (e : atI xs i = some v) (q : Q v H) : rIx K (.ref p) (.int i) H Q := .inr (.inl ⟨p, xs, i, v, rfl, rfl, h, e, q⟩)
theorem w_setL {k : Nat} {R : Hp → Prop} (h : H p = some (.lst xs)) (e : ixN xs.length i = some k) (q : R (upd H p (.lst (xs.set k v)))) : rSetL (.ref p) (.int i) v H R := ⟨p, xs, i, k, rfl, rfl, h, e, q⟩
theorem w_asgT {K : PySem.W.Frag} {m : Nat} {t : TGs} (h : te σ H fun v H1 => ∃ a xs, v = .ref a ∧ SqT K H1 a xs ∧ xs.length = m ∧ t xs σ H1 D.nx) : tAsg te (gTup K m t) D σ H := h
theorem w_gcons {k : Nat} {t : TGs} {r : List V} {R : L2.St → Hp → Prop} (h : t r (σ.set k (some v)) H R) : gCons (gName k) t (v :: r) σ H R := ⟨v, r, rfl, h⟩
theorem w_gnil {R : L2.St → Hp → Prop} (h : R σ H) : gNil [] σ H R := ⟨rfl, h⟩
theorem w_par {a b : Nat} {tA : TA} (h : tA σ H fun vs H1 => ∃ v w, vs = [v, w] ∧ D.nx ((σ.set a (some v)).set b (some w)) H1) : tPar a b tA D σ H := h
theorem w_pair {R : V → V → Prop} (q : R x y) : ∃ v w, [x, y] = [v, w] ∧ R v w := ⟨x, y, rfl, q⟩
theorem w_mknx {a bb cc : L2.St → Hp → Prop} {b : VK} (h : a σ H) : (Ends.mk a b bb cc).nx σ H := h
theorem w_mkrt {a bb cc : L2.St → Hp → Prop} {b : VK} (h : b v H) : (Ends.mk a b bb cc).rt v H := h
theorem w_mkbk {a bb cc : L2.St → Hp → Prop} {b : VK} (h : bb σ H) : (Ends.mk a b bb cc).bk σ H := h
theorem w_mkct {a bb cc : L2.St → Hp → Prop} {b : VK} (h : cc σ H) : (Ends.mk a b bb cc).ct σ H := h
theorem w_if {c : Prop} [Decidable c] {A B : Prop} (h1 : c → A) (h2 : ¬ c → B) : if decide c = true then A else B := by
  by_cases h : c
  · rw [if_pos (decide_eq_true h)]
    exact h1 h
  · rw [if_neg (by simpa using h)]
    exact h2 h
theorem w_ifT {A B : Prop} (h : A) : if true = true then A else B := by
  rw [if_pos rfl]
  exact h
theorem w_ifF {A B : Prop} (h : B) : if false = true then A else B := by
  rw [if_neg Bool.false_ne_true]
  exact h
theorem w_ifNT {A B : Prop} (h : B) : if (!true) = true then A else B := w_ifF h
theorem w_ifNF {A B : Prop} (h : A) : if (!false) = true then A else B := w_ifT h
theorem ne_IS {s : Str} : ¬ V.int i = V.str s := by intro e; cases e
theorem ne_SI {s : Str} : ¬ V.str s = V.int i := by intro e; cases e
theorem ne_IN : ¬ V.int i = V.non := by intro e; cases e
theorem ne_SN {s : Str} : ¬ V.str s = V.non := by intro e; cases e
theorem ne_RN : ¬ V.ref p = V.non := by intro e; cases e
theorem w_ifDT {c : Prop} [Decidable c] {A B : Prop} (h : c) (a : A) : if decide c = true then A else B := w_if (fun _ => a) (fun n => absurd h n)
theorem w_ifDF {c : Prop} [Decidable c] {A B : Prop} (h : ¬ c) (b : B) : if decide c = true then A else B := w_if (fun z => absurd z h) (fun _ => b)
theorem w_ifI {A B : Prop} (h1 : i = j → A) (h2 : i ≠ j → B) : if decide (V.int i = V.int j) = true then A else B := w_if (fun e => h1 (V.int.inj e)) (fun e => h2 fun z => e (by rw [z]))
theorem w_ifNI {A B : Prop} (h1 : i ≠ j → A) (h2 : i = j → B) : if (!decide (V.int i = V.int j)) = true then A else B := by
  by_cases h : i = j
  · rw [if_neg (by simp [h])]
    exact h2 h
  · rw [if_pos (by simp [h])]
    exact h1 h
theorem w_ifN {c : Prop} [Decidable c] {A B : Prop} (h1 : ¬ c → A) (h2 : c → B) : if (!decide c) = true then A else B := by
  by_cases h : c
  · rw [if_neg (by simp [h])]
    exact h2 h
  · rw [if_pos (by simp [h])]
    exact h1 h
theorem w_newT (hl : Nat.ble xs.length 1000 = true) (h : ∀ p H', H p = none → H' p = some (.tup xs) → Same H H' → Q (.ref p) H') : NewT xs H Q := ⟨Nat.le_of_lt (small1000 (Nat.le_of_ble_eq_true hl)), fun p hp => h p _ hp upd_same (same_new hp)⟩
theorem w_newL (hl : Nat.ble xs.length 1000 = true) (h : ∀ p H', H p = none → H' p = some (.lst xs) → Same H H' → Q (.ref p) H') : NewL xs H Q := ⟨Nat.le_of_lt (small1000 (Nat.le_of_ble_eq_true hl)), fun p hp => h p _ hp upd_same (same_new hp)⟩
theorem w_lrg {te : L2.St → Hp → (Int → Int → Hp → Prop) → Prop} (h : te σ H fun a b H1 => NewR a b H1 Q) : tLstRg te σ H Q := h
theorem w_rg1 {R : Int → Int → Hp → Prop} (h : ta σ H fun x H1 => ∃ n, x = .int n ∧ R 0 n H1) : tRg1 ta σ H R := h
theorem w_rg2 {R : Int → Int → Hp → Prop} (h : ta σ H fun x H1 => tb σ H1 fun y H2 => ∃ i j, x = .int i ∧ y = .int j ∧ R i j H2) : tRg2 ta tb σ H R := h
theorem w_exI {R : Int → Prop} (q : R i) : ∃ n, V.int i = .int n ∧ R n := ⟨i, rfl, q⟩
theorem w_exI2 {R : Int → Int → Prop} (q : R i j) : ∃ n m, V.int i = .int n ∧ V.int j = .int m ∧ R n m := ⟨i, j, rfl, rfl, q⟩
theorem w_newR {a b : Int} (h0 : 0 ≤ a) (h1 : a ≤ 10000) (h2 : b ≤ 10000) (h3 : 0 ≤ b) (h : ∀ p H', H p = none → H' p = some (.lst (rgV a b)) → Same H H' → Q (.ref p) H') : NewR a b H Q := ⟨RgOk.of_le h0 (by omega) (by omega) h3, fun p hp => h p _ hp upd_same (same_new hp)⟩
theorem w_cat {p1 p2 : Addr} {ys : List V} (h1 : H p1 = some (.lst xs)) (h2 : H p2 = some (.lst ys)) (hl : xs.length + ys.length ≤ 100000) (h : ∀ p H', H p = none → H' p = some (.lst (xs ++ ys)) → Same H H' → Q (.ref p) H') : rCatL (.ref p1) (.ref p2) H Q :=
  ⟨p1, p2, xs, ys, rfl, rfl, h1, h2, Nat.le_trans hl (by decide), fun p hp => h p _ hp upd_same (same_new hp)⟩
theorem w_setG {k : Nat} {R : Hp → Prop} (h : H p = some (.lst xs)) (e : ixN xs.length i = some k) (q : ∀ H', H' p = some (.lst (xs.set k v)) → (∀ b o, b ≠ p → H b = some o → H' b = some o) → R H') : rSetL (.ref p) (.int i) v H R :=
  ⟨p, xs, i, k, rfl, rfl, h, e, q _ upd_same fun b o n hb => by rw [upd_ne n]; exact hb⟩
theorem atI_ex {m : Int} (h0 : 0 ≤ m) (h1 : m < xs.length) : ∃ v, atI xs m = some v ∧ v ∈ xs := by
  have hl : m.toNat < xs.length := by omega
  refine ⟨xs[m.toNat], ?_, List.getElem_mem hl⟩
  unfold atI ixN
  rw [if_pos h0, if_pos h1]
  simp [hl]
theorem sqL (h : H p = some (.lst xs)) : SqL K H p xs := .inl (.inl h)
theorem sqT (h : H p = some (.tup xs)) : SqT K H p xs := .inl (.inl h)
end


/-! ### loops and comprehensions -/
section
variable {σ : L2.St} {H : Hp} {Q : VK} {D : Ends} {K : PySem.W.Frag}
theorem w_forR {n j : Nat} {tb : TS} {tA : TA} (Pv : Nat → L2.St → Hp → Prop) (hA : ∀ R : List V → Hp → Prop, R [.int n] H → tA σ H R) (hn : n ≤ 1000000) (h0 : Pv 0 σ H)
    (hs : ∀ i σ' H', i < n → Pv i σ' H' → tb { D with nx := Pv (i + 1), ct := Pv (i + 1), bk := D.nx } (σ'.set j (some (.int (i : Int)))) H') (hd : ∀ σ' H', Pv n σ' H' → D.nx σ' H') : tFor (iRng1 tA) (gName j) tb D σ H := by
  refine hA _ ⟨(n : Int), rfl, by omega, by omega, ?_⟩
  have e : ((n : Int)).toNat = n := by omega
  rw [e]
  refine for_range (lo := 0) (n := n) Pv h0 (fun i σ' H' hi p => ?_) hd
  show tb { D with nx := Pv (i + 1), ct := Pv (i + 1), bk := D.nx } (σ'.set j (some (.int ((0 : Int) + (i : Int))))) H'
  rw [Int.zero_add]
  exact hs i σ' H' hi p
def LcAt (K : PySem.W.Frag) (x : V) (g : TG) (tt : TT) (te : TE) (vs : List Nat) (σ : L2.St) (H : Hp) (Q : VK) : Prop := tLc (iList K (tC x)) g tt te vs σ H Q
theorem w_lc {tl te : TE} {g : TG} {tt : TT} {vs : List Nat} (h : tl σ H fun x H1 => LcAt K x g tt te vs σ H1 Q) : tLc (iList K tl) g tt te vs σ H Q := h
/-- a comprehension without a test over a list that stands still; what it makes leaves the heap as it was, but for new things -/
theorem w_lcL {a : Addr} {xs : List V} {g : TG} {te : TE} {vs : List Nat} (f : Nat → V → Prop) (ha : SqL K H a xs) (hz : xs.length ≤ 1000000)
    (step : ∀ i x H' (Nx : VK), xs[i]? = some x → Same H H' → (∀ y H3, Same H' H3 → f i y → Nx y H3) → g x (wipe σ vs) H' fun σ2 H2 => wipe σ2 vs = wipe σ vs ∧ te σ2 H2 Nx)
    (q : ∀ D H' ys, H D = none → Same H H' → H' D = some (.lst ys) → ys.length = xs.length → (∀ i y, ys[i]? = some y → f i y) → Q (.ref D) H') : LcAt K (.ref a) g tYes te vs σ H Q := by
  refine ⟨a, rfl, ⟨xs, ha⟩, fun D hD => ?_⟩
  refine lc_list (K := K) (a := a) (xs := xs) (fun i H' => Same H H' ∧ ∃ acc, H' D = some (.lst acc) ∧ acc.length = i ∧ ∀ j y, acc[j]? = some y → f j y) ⟨same_new hD, [], upd_same, rfl, fun j y e => by simp at e⟩ (fun i H' _ h => h.1.seq ha) (fun i x H' hx h => ?_) (fun H' h => ?_)
  · obtain ⟨s1, acc, hacc, hlen, hf⟩ := h
    refine step i x H' _ hx s1 (fun y H3 s3 fy => ?_)
    have hi : i < xs.length := (List.getElem?_eq_some_iff.mp hx).1
    refine ⟨acc, s3 _ _ hacc, Nat.lt_of_le_of_lt (show acc.length ≤ 1000000 by omega) (by decide), fun b o hb => ?_, acc ++ [y], upd_same, by simp [hlen], fun j z e => ?_⟩
    · rw [upd_ne (ne_of_none hb hD)]
      exact s3 _ _ (s1 _ _ hb)
    · by_cases hj : j < acc.length
      · rw [List.getElem?_append_left hj] at e
        exact hf j z e
      · rw [List.getElem?_append_right (by omega)] at e
        have hj2 : j - acc.length = 0 := by
          rcases Nat.eq_zero_or_pos (j - acc.length) with h | h
          · exact h
          · rw [List.getElem?_eq_none (show [y].length ≤ j - acc.length from h)] at e
            cases e
        rw [hj2] at e
        have ez : y = z := Option.some.inj e
        have : j = i := by omega
        rw [this, ← ez]
        exact fy
  · obtain ⟨s1, acc, hacc, hlen, hf⟩ := h
    exact q D H' acc hD s1 hacc hlen hf
theorem w_allT {a : Addr} {ys : List V} (h : SqL K H a ys) (ht : ∀ (i : Nat) (y : V), ys[i]? = some y → y = .bl true) (q : Q (.bl true) H) : rAll K [.ref a] H Q := by
  have e : ys = (List.replicate ys.length true).map V.bl := by
    apply List.ext_getElem?
    intro i
    cases hy : ys[i]? with
    | none =>
      have := List.getElem?_eq_none_iff.mp hy
      rw [List.getElem?_eq_none (by simpa using this)]
    | some y =>
      have hlt := (List.getElem?_eq_some_iff.mp hy).1
      rw [ht i y hy, List.getElem?_map, List.getElem?_replicate, if_pos hlt]
      rfl
  rw [e] at h
  refine ⟨a, _, rfl, h, ?_⟩
  have e2 : (List.replicate ys.length true).all id = true := by simp
  rw [e2]
  exact q
end

/-! ### the end: a law's def over such promises -/
theorem law_G {P : Program} {w : World} {K : PySem.W.Frag} {mg mb : Str → Option Value} {k : Nat} {fa a : Addr} {fd : FuncData} {x : Str} {sp : Sp} {s₁ : Shared} {vs : List Value} {ns : List Int}
    (KX : K.In s₁.heap) (hns : s₁.heap.Ns mainGlobals mg) (hb : s₁.heap.Ns builtinsNs mb) (hbb : ∀ x : Str, x ≠ "__name__" → mb x = bootBuiltins x) (nolim : s₁.heap.NoLimit) (gens : s₁.gens = #[])
    (obj : s₁.heap.get? a = some { cls := .type "list", data := .seq vs.toArray }) (nums : IntsAre vs ns) (len : ns.length ≤ sizeLine) (room : Room k callerA)
    (F : ∀ base : Heap, K.In base → base.Ns mainGlobals mg → FnG P w K mg base k fa fd [x] sp) (bind : ∀ (s : Shared) (u : Value), BindsTo s fd ⟨[u], []⟩ [(x, u)])
    (want : ∀ H : Hp, SqL K H a (ns.map V.int) → sp [.ref a] H (fun v _ => v = .bl true) fun _ _ _ => False) :
    codeAny (model P w) callerA (.call (.ref fa) ⟨[.ref a], []⟩) (fun r s' => r = .ok (.ret (.bool true)) ∧ OldK s₁.heap s'.heap ∧ s'.os = s₁.os ∧ AllBare s'.gens) s₁ := by
  have rel := vals_ints nums
  -- what is tracked: the script, as it stands, or nothing (it is one of the module's own)
  obtain ⟨H, only, script, ok, own⟩ : ∃ H : Hp, (∀ b u, H b = some u → b = a ∧ ∃ o zs, u = .frz o (.lst zs)) ∧ SqL K H a (ns.map V.int) ∧ HOk P w H s₁.heap ∧ ∀ b, H b ≠ none → K.lookup b = none := by
    cases known : K.lookup a with
    | some o =>
      have z := KX a o known
      rw [obj] at z
      cases z
      exact ⟨fun _ => none, (fun b u z => nomatch (show (none : Option HO) = some u from z)), .inr ⟨_, vs.toArray, _, known, rfl, rfl, rfl, by rw [List.size_toArray, nums.length]; exact len, by simpa using rel⟩, (fun b u z => nomatch (show (none : Option HO) = some u from z)), fun b z => absurd rfl z⟩
    | none =>
      let ob : Obj := { cls := .type "list", data := .seq vs.toArray }
      have one : ∀ b u, (if b = a then some (HO.frz ob (.lst (ns.map V.int))) else none) = some u → b = a ∧ u = .frz ob (.lst (ns.map V.int)) := fun b u z => by
        by_cases q : b = a
        · rw [if_pos q] at z
          exact ⟨q, (Option.some.inj z).symm⟩
        · rw [if_neg q] at z
          cases z
      refine ⟨fun b => if b = a then some (.frz ob (.lst (ns.map V.int))) else none, fun b u z => ?_, .inl (.inr ⟨ob, if_pos rfl⟩), fun b u z => ?_, fun b z => ?_⟩
      · obtain ⟨q1, q2⟩ := one b u z
        exact ⟨q1, _, _, q2⟩
      · obtain ⟨q1, q2⟩ := one b u z
        subst q1 q2
        exact ⟨obj, by rw [List.length_map]; exact len, vs, _, rel, obj⟩
      · have z2 : (if b = a then some (HO.frz ob (.lst (ns.map V.int))) else none) ≠ none := z
        by_cases q : b = a
        · rw [q]
          exact known
        · rw [if_neg q] at z2
          exact absurd rfl z2
  have untold : ∀ {b : Addr} {o : Obj} {es : Array DictEntry} {n : Nat}, s₁.heap.get? b = some o → o.data = .dict es n → H b = none := fun {b o es n} z d => by
    cases q : H b with
    | none => rfl
    | some u =>
      obtain ⟨q1, _⟩ := only b u q
      rw [q1, obj] at z
      cases z
      have d2 : Data.seq vs.toArray _ = Data.dict es n := d
      cases d2
  have names : ∀ {b : Addr} {m : Str → Option Value}, s₁.heap.Ns b m → (hidT s₁.heap H).Ns b m := fun {b m} ⟨o, es, n, z, d, r⟩ => ⟨o, es, n, hidT_get z (untold z d), d, r⟩
  have KB : K.In (hidT s₁.heap H) := fun b o z => hidT_get (KX b o z) (by
    cases q : H b with
    | none => rfl
    | some u =>
      rw [own b (by rw [q]; simp)] at z
      cases z)
  obtain ⟨mc, l1, l2⟩ := nolim
  have M : Mod K mg (hidT s₁.heap H) := ⟨KB, names hns, ⟨mb, names hb, hbb⟩, ⟨mc, names l1, l2⟩⟩
  have e0 : Env0 P w K mg (hidT s₁.heap H) callerA [] s₁ H := ⟨rfl, M, fun _ _ z => of_hidT z, Nat.le_of_eq (hidT_size _ _), trivial, (fun b z => nomatch (show b ∈ ([] : List Addr) from z)), ok, .of_eq gens⟩
  refine codeAny_mono ((F _ KB (names hns)).goes callerA [] s₁ H ⟨[.ref a], []⟩ [.ref a] [.ref a] _ _ room rfl e0 (bind s₁ (.ref a)) (.cons rfl .nil) (want H script)) fun out s2 z => ?_
  match out, z with
  | .error e, z =>
    obtain ⟨_, _, _, _, _, _, _, _, _, _, _, _, no⟩ := z
    exact no.elim
  | .ok .next, z => exact z.elim
  | .ok .brk, z => exact z.elim
  | .ok .cont, z => exact z.elim
  | .ok (.ret u), z =>
    obtain ⟨v, H2, os, bare, un, ok2, r2, q⟩ := z
    have q2 : v = .bl true := q
    subst q2
    obtain rfl : u = Value.bool true := r2
    refine ⟨rfl, OldK.of_keep fun b o there => ?_, os, bare⟩
    cases q : H b with
    | none => exact un.keep b o there q (fun z => nomatch (show b ∈ ([] : List Addr) from z)) (by simp)
    | some u =>
      obtain ⟨_, ob, zs, rfl⟩ := only b u q
      obtain ⟨e1, _⟩ := ok b _ q
      obtain ⟨e2, _⟩ := ok2 b _ (un.frzs b ob _ q)
      rw [there] at e1
      cases e1
      exact e2
theorem walk_G {l : PySem.W.OpenLaw} {n k : Nat} {q : Program} {loose : List Str} {XP : (Str → Option Value) → Heap → Prop} {YP : World → Heap → Prop} {d : DefRec} {x : Str}
    (hn : l.most = some n) (hn2 : n ≤ sizeLine) (hdf : d.params.defaults = []) (room : Room k callerA)
    (F : ∀ (w : World) (mg : Str → Option Value) (fa : Addr) (h : Heap), YP w h → h.Ns mainGlobals mg → mg d.name = some (.ref fa) →
      ∃ (K : PySem.W.Frag) (fd : FuncData) (sp : Sp), K.In h ∧ (∀ (s : Shared) (u : Value), BindsTo s fd ⟨[u], []⟩ [(x, u)]) ∧
        (∀ (H : Hp) (a : Addr) (ns : List Int), ns.length ≤ n → SqL K H a (ns.map V.int) → sp [.ref a] H (fun v _ => v = .bl true) fun _ _ _ => False) ∧
        ∀ base : Heap, K.In base → base.Ns mainGlobals mg → FnG l.prog w K mg base k fa fd [x] sp) :
    PySem.W.WalkO q loose XP YP l.row.toRowW d [] (fun f vs => PySem.call f vs) := by
  refine Att.attach_call hn hdf fun w s0 s1 mg mb fa o pm cd doc a vs ns G Y _ _ _ at_ obj nums len gens => ?_
  obtain ⟨K, fd, sp, KX, bind, want, hF⟩ := F w mg fa _ Y G.T.g at_
  exact law_G KX G.T.g G.T.b G.T.builtins G.T.nolimit gens obj nums (Nat.le_trans len hn2) room hF bind fun H z => want H a ns len z

def topS (i : Nat) : Stmt := PySem.Challenge.pw_anyasked_k02_stretches_of_all_shares.main.body.getD i (.Pass ⟨0, 0, 0, 0⟩)
abbrev s_AskedError___init__ : Stmt := inClass (topS 1) 0
abbrev s_is_integer : Stmt := topS 6
abbrev s_is_between : Stmt := topS 7
abbrev s_is_tuple : Stmt := topS 8
abbrev s_is_word : Stmt := topS 9
abbrev s_divisor_of : Stmt := topS 10
abbrev s_fraction : Stmt := topS 11
abbrev s_is_units : Stmt := topS 22
abbrev s_check_units : Stmt := topS 23
abbrev s_is_share : Stmt := topS 24
abbrev s_check_share : Stmt := topS 25
abbrev s_halves : Stmt := topS 26
abbrev s_stretch : Stmt := topS 27
abbrev s_l_pot : Stmt := topS 29
abbrev s_l_take : Stmt := topS 30
abbrev s_l_of : Stmt := topS 31
abbrev s_l_cells : Stmt := topS 32
abbrev s_l_units : Stmt := topS 33
abbrev s_l_rounded : Stmt := topS 34
abbrev s_l_is_right : Stmt := topS 35
abbrev s_l_common : Stmt := topS 36
abbrev s_l_pair : Stmt := topS 37
abbrev s_l_stretch : Stmt := topS 38
abbrev s_l_is_within : Stmt := topS 39
abbrev s_l_units_right : Stmt := topS 40
abbrev s_l_right : Stmt := topS 41
abbrev s_law : Stmt := topS 42
theorem sc_is_integer : FnScope ["value"] ["value"] (defScope s_is_integer) := ⟨rfl, rfl, rfl, by decide +kernel, rfl, by decide +kernel, by decide +kernel⟩
theorem sc_is_between : FnScope ["value", "low", "high"] ["value", "low", "high"] (defScope s_is_between) := ⟨rfl, rfl, rfl, by decide +kernel, rfl, by decide +kernel, by decide +kernel⟩
theorem sc_is_tuple : FnScope ["value", "least", "most"] ["value", "least", "most"] (defScope s_is_tuple) := ⟨rfl, rfl, rfl, by decide +kernel, rfl, by decide +kernel, by decide +kernel⟩
theorem sc_is_word : FnScope ["value", "words"] ["value", "words"] (defScope s_is_word) := ⟨rfl, rfl, rfl, by decide +kernel, rfl, by decide +kernel, by decide +kernel⟩
theorem sc_divisor_of : FnScope ["numbers", "found", "number", "rest"] ["numbers"] (defScope s_divisor_of) := ⟨rfl, rfl, rfl, by decide +kernel, rfl, by decide +kernel, by decide +kernel⟩
theorem sc_fraction : FnScope ["above", "under", "by"] ["above", "under"] (defScope s_fraction) := ⟨rfl, rfl, rfl, by decide +kernel, rfl, by decide +kernel, by decide +kernel⟩
theorem sc_is_units : FnScope ["value"] ["value"] (defScope s_is_units) := ⟨rfl, rfl, rfl, by decide +kernel, rfl, by decide +kernel, by decide +kernel⟩
theorem sc_check_units : FnScope ["value"] ["value"] (defScope s_check_units) := ⟨rfl, rfl, rfl, by decide +kernel, rfl, by decide +kernel, by decide +kernel⟩
theorem sc_is_share : FnScope ["units", "value"] ["units", "value"] (defScope s_is_share) := ⟨rfl, rfl, rfl, by decide +kernel, rfl, by decide +kernel, by decide +kernel⟩
theorem sc_check_share : FnScope ["units", "value"] ["units", "value"] (defScope s_check_share) := ⟨rfl, rfl, rfl, by decide +kernel, rfl, by decide +kernel, by decide +kernel⟩
theorem sc_halves : FnScope ["how", "share", "is_even"] ["how", "share"] (defScope s_halves) := ⟨rfl, rfl, rfl, by decide +kernel, rfl, by decide +kernel, by decide +kernel⟩
theorem sc_stretch : FnScope ["units", "share", "parts", "how", "low", "is_low", "high", "is_high"] ["units", "share"] (defScope s_stretch) := ⟨rfl, rfl, rfl, by decide +kernel, rfl, by decide +kernel, by decide +kernel⟩
theorem sc_l_pot : FnScope ["_law_script", "_law_place", "_law_cell", "_law_own", "_law_small"] ["_law_script", "_law_place"] (defScope s_l_pot) := ⟨rfl, rfl, rfl, by decide +kernel, rfl, by decide +kernel, by decide +kernel⟩
theorem sc_l_take : FnScope ["_law_pot_here", "_law_upto", "_law_digit", "_law_prime", "_law_stir"] ["_law_pot_here", "_law_upto"] (defScope s_l_take) := ⟨rfl, rfl, rfl, by decide +kernel, rfl, by decide +kernel, by decide +kernel⟩
theorem sc_l_of : FnScope ["_law_pot_here", "_law_some"] ["_law_pot_here", "_law_some"] (defScope s_l_of) := ⟨rfl, rfl, rfl, by decide +kernel, rfl, by decide +kernel, by decide +kernel⟩
theorem sc_l_cells : FnScope ["_law_script", "_law_most"] ["_law_script", "_law_most"] (defScope s_l_cells) := ⟨rfl, rfl, rfl, by decide +kernel, rfl, by decide +kernel, by decide +kernel⟩
theorem sc_l_units : FnScope ["_law_pot_here", "_law_most"] ["_law_pot_here", "_law_most"] (defScope s_l_units) := ⟨rfl, rfl, rfl, by decide +kernel, rfl, by decide +kernel, by decide +kernel⟩
theorem sc_l_rounded : FnScope ["_law_how", "_law_above", "_law_under", "_law_low", "_law_rest"] ["_law_how", "_law_above", "_law_under"] (defScope s_l_rounded) := ⟨rfl, rfl, rfl, by decide +kernel, rfl, by decide +kernel, by decide +kernel⟩
theorem sc_l_is_right : FnScope ["_law_units_here", "_law_share", "_law_many", "_law_whole"] ["_law_units_here", "_law_share", "_law_many", "_law_whole"] (defScope s_l_is_right) := ⟨rfl, rfl, rfl, by decide +kernel, rfl, by decide +kernel, by decide +kernel⟩
theorem sc_l_common : FnScope ["_law_one", "_law_other", "_law_left", "_law_right_here"] ["_law_one", "_law_other"] (defScope s_l_common) := ⟨rfl, rfl, rfl, by decide +kernel, rfl, by decide +kernel, by decide +kernel⟩
theorem sc_l_pair : FnScope ["_law_above", "_law_under", "_law_by"] ["_law_above", "_law_under"] (defScope s_l_pair) := ⟨rfl, rfl, rfl, by decide +kernel, rfl, by decide +kernel, by decide +kernel⟩
theorem sc_l_stretch : FnScope ["_law_units_here", "_law_share", "_law_many", "_law_how", "_law_low", "_law_high", "_law_is_even", "_law_is_low", "_law_is_high"] ["_law_units_here", "_law_share"] (defScope s_l_stretch) := ⟨rfl, rfl, rfl, by decide +kernel, rfl, by decide +kernel, by decide +kernel⟩
theorem sc_l_is_within : FnScope ["_law_told", "_law_many", "_law_whole", "_law_low", "_law_is_low", "_law_high", "_law_is_high", "_law_left", "_law_right_here"] ["_law_told", "_law_many", "_law_whole"] (defScope s_l_is_within) := ⟨rfl, rfl, rfl, by decide +kernel, rfl, by decide +kernel, by decide +kernel⟩
theorem sc_l_units_right : FnScope ["_law_pot_here", "_law_units_here", "_law_shares", "_law_share", "_law_lap", "_law_whole", "_law_many"] ["_law_pot_here"] (defScope s_l_units_right) := ⟨rfl, rfl, rfl, by decide +kernel, rfl, by decide +kernel, by decide +kernel⟩
theorem sc_l_right : FnScope ["_law_pot_here", "_law_lap"] ["_law_pot_here"] (defScope s_l_right) := ⟨rfl, rfl, rfl, by decide +kernel, rfl, by decide +kernel, by decide +kernel⟩
theorem sc_law : FnScope ["_law_script", "_law_place"] ["_law_script"] (defScope s_law) := ⟨rfl, rfl, rfl, by decide +kernel, rfl, by decide +kernel, by decide +kernel⟩
theorem st_AskedError___init__ (a0 a1 : V) : L2.start ["self", "value"] [a0, a1] = [some a0, some a1] := rfl
theorem st_is_integer (a0 : V) : L2.start ["value"] [a0] = [some a0] := rfl
theorem st_is_between (a0 a1 a2 : V) : L2.start ["value", "low", "high"] [a0, a1, a2] = [some a0, some a1, some a2] := rfl
theorem st_is_tuple (a0 a1 a2 : V) : L2.start ["value", "least", "most"] [a0, a1, a2] = [some a0, some a1, some a2] := rfl
theorem st_is_word (a0 a1 : V) : L2.start ["value", "words"] [a0, a1] = [some a0, some a1] := rfl
theorem st_divisor_of (a0 : V) : L2.start ["numbers", "found", "number", "rest"] [a0] = [some a0, none, none, none] := rfl
theorem st_fraction (a0 a1 : V) : L2.start ["above", "under", "by"] [a0, a1] = [some a0, some a1, none] := rfl
theorem st_is_units (a0 : V) : L2.start ["value"] [a0] = [some a0] := rfl
theorem st_check_units (a0 : V) : L2.start ["value"] [a0] = [some a0] := rfl
theorem st_is_share (a0 a1 : V) : L2.start ["units", "value"] [a0, a1] = [some a0, some a1] := rfl
theorem st_check_share (a0 a1 : V) : L2.start ["units", "value"] [a0, a1] = [some a0, some a1] := rfl
theorem st_halves (a0 a1 : V) : L2.start ["how", "share", "is_even"] [a0, a1] = [some a0, some a1, none] := rfl
theorem st_stretch (a0 a1 : V) : L2.start ["units", "share", "parts", "how", "low", "is_low", "high", "is_high"] [a0, a1] = [some a0, some a1, none, none, none, none, none, none] := rfl
theorem st_l_pot (a0 a1 : V) : L2.start ["_law_script", "_law_place", "_law_cell", "_law_own", "_law_small"] [a0, a1] = [some a0, some a1, none, none, none] := rfl
theorem st_l_take (a0 a1 : V) : L2.start ["_law_pot_here", "_law_upto", "_law_digit", "_law_prime", "_law_stir"] [a0, a1] = [some a0, some a1, none, none, none] := rfl
theorem st_l_of (a0 a1 : V) : L2.start ["_law_pot_here", "_law_some"] [a0, a1] = [some a0, some a1] := rfl
theorem st_l_cells (a0 a1 : V) : L2.start ["_law_script", "_law_most"] [a0, a1] = [some a0, some a1] := rfl
theorem st_l_units (a0 a1 : V) : L2.start ["_law_pot_here", "_law_most"] [a0, a1] = [some a0, some a1] := rfl
theorem st_l_rounded (a0 a1 a2 : V) : L2.start ["_law_how", "_law_above", "_law_under", "_law_low", "_law_rest"] [a0, a1, a2] = [some a0, some a1, some a2, none, none] := rfl
theorem st_l_is_right (a0 a1 a2 a3 : V) : L2.start ["_law_units_here", "_law_share", "_law_many", "_law_whole"] [a0, a1, a2, a3] = [some a0, some a1, some a2, some a3] := rfl
theorem st_l_common (a0 a1 : V) : L2.start ["_law_one", "_law_other", "_law_left", "_law_right_here"] [a0, a1] = [some a0, some a1, none, none] := rfl
theorem st_l_pair (a0 a1 : V) : L2.start ["_law_above", "_law_under", "_law_by"] [a0, a1] = [some a0, some a1, none] := rfl
theorem st_l_stretch (a0 a1 : V) : L2.start ["_law_units_here", "_law_share", "_law_many", "_law_how", "_law_low", "_law_high", "_law_is_even", "_law_is_low", "_law_is_high"] [a0, a1] = [some a0, some a1, none, none, none, none, none, none, none] := rfl
theorem st_l_is_within (a0 a1 a2 : V) : L2.start ["_law_told", "_law_many", "_law_whole", "_law_low", "_law_is_low", "_law_high", "_law_is_high", "_law_left", "_law_right_here"] [a0, a1, a2] = [some a0, some a1, some a2, none, none, none, none, none, none] := rfl
theorem st_l_units_right (a0 : V) : L2.start ["_law_pot_here", "_law_units_here", "_law_shares", "_law_share", "_law_lap", "_law_whole", "_law_many"] [a0] = [some a0, none, none, none, none, none, none] := rfl
theorem st_l_right (a0 : V) : L2.start ["_law_pot_here", "_law_lap"] [a0] = [some a0, none] := rfl
theorem st_law (a0 : V) : L2.start ["_law_script", "_law_place"] [a0] = [some a0, none] := rfl
abbrev FnP (K : PySem.W.Frag) (x : Str) (st : Stmt) (f : Addr) (fd : FuncData) : Prop := FunD K x x (defArgs st) (defBody st) (defScope st) [] [] f fd
structure Txt (K : PySem.W.Frag) (mg : Str → Option Value) : Prop where
  d_is_integer : ∃ fd, FnP K "is_integer" s_is_integer (He.ga K "is_integer") fd
  g_is_integer : mg "is_integer" = some (.ref (He.ga K "is_integer"))
  d_is_between : ∃ fd, FnP K "is_between" s_is_between (He.ga K "is_between") fd
  g_is_between : mg "is_between" = some (.ref (He.ga K "is_between"))
  d_is_tuple : ∃ fd, FnP K "is_tuple" s_is_tuple (He.ga K "is_tuple") fd
  g_is_tuple : mg "is_tuple" = some (.ref (He.ga K "is_tuple"))
  d_is_word : ∃ fd, FnP K "is_word" s_is_word (He.ga K "is_word") fd
  g_is_word : mg "is_word" = some (.ref (He.ga K "is_word"))
  d_divisor_of : ∃ fd, FnP K "divisor_of" s_divisor_of (He.ga K "divisor_of") fd
  g_divisor_of : mg "divisor_of" = some (.ref (He.ga K "divisor_of"))
  d_fraction : ∃ fd, FnP K "fraction" s_fraction (He.ga K "fraction") fd
  g_fraction : mg "fraction" = some (.ref (He.ga K "fraction"))
  d_is_units : ∃ fd, FnP K "is_units" s_is_units (He.ga K "is_units") fd
  g_is_units : mg "is_units" = some (.ref (He.ga K "is_units"))
  d_check_units : ∃ fd, FnP K "check_units" s_check_units (He.ga K "check_units") fd
  g_check_units : mg "check_units" = some (.ref (He.ga K "check_units"))
  d_is_share : ∃ fd, FnP K "is_share" s_is_share (He.ga K "is_share") fd
  g_is_share : mg "is_share" = some (.ref (He.ga K "is_share"))
  d_check_share : ∃ fd, FnP K "check_share" s_check_share (He.ga K "check_share") fd
  g_check_share : mg "check_share" = some (.ref (He.ga K "check_share"))
  d_halves : ∃ fd, FnP K "halves" s_halves (He.ga K "halves") fd
  g_halves : mg "halves" = some (.ref (He.ga K "halves"))
  d_stretch : ∃ fd, FnP K "stretch" s_stretch (He.ga K "stretch") fd
  g_stretch : mg "stretch" = some (.ref (He.ga K "stretch"))
  d_l_pot : ∃ fd, FnP K "_law_pot" s_l_pot (He.ga K "_law_pot") fd
  g_l_pot : mg "_law_pot" = some (.ref (He.ga K "_law_pot"))
  d_l_take : ∃ fd, FnP K "_law_take" s_l_take (He.ga K "_law_take") fd
  g_l_take : mg "_law_take" = some (.ref (He.ga K "_law_take"))
  d_l_of : ∃ fd, FnP K "_law_of" s_l_of (He.ga K "_law_of") fd
  g_l_of : mg "_law_of" = some (.ref (He.ga K "_law_of"))
  d_l_cells : ∃ fd, FnP K "_law_cells" s_l_cells (He.ga K "_law_cells") fd
  g_l_cells : mg "_law_cells" = some (.ref (He.ga K "_law_cells"))
  d_l_units : ∃ fd, FnP K "_law_units" s_l_units (He.ga K "_law_units") fd
  g_l_units : mg "_law_units" = some (.ref (He.ga K "_law_units"))
  d_l_rounded : ∃ fd, FnP K "_law_rounded" s_l_rounded (He.ga K "_law_rounded") fd
  g_l_rounded : mg "_law_rounded" = some (.ref (He.ga K "_law_rounded"))
  d_l_is_right : ∃ fd, FnP K "_law_is_right" s_l_is_right (He.ga K "_law_is_right") fd
  g_l_is_right : mg "_law_is_right" = some (.ref (He.ga K "_law_is_right"))
  d_l_common : ∃ fd, FnP K "_law_common" s_l_common (He.ga K "_law_common") fd
  g_l_common : mg "_law_common" = some (.ref (He.ga K "_law_common"))
  d_l_pair : ∃ fd, FnP K "_law_pair" s_l_pair (He.ga K "_law_pair") fd
  g_l_pair : mg "_law_pair" = some (.ref (He.ga K "_law_pair"))
  d_l_stretch : ∃ fd, FnP K "_law_stretch" s_l_stretch (He.ga K "_law_stretch") fd
  g_l_stretch : mg "_law_stretch" = some (.ref (He.ga K "_law_stretch"))
  d_l_is_within : ∃ fd, FnP K "_law_is_within" s_l_is_within (He.ga K "_law_is_within") fd
  g_l_is_within : mg "_law_is_within" = some (.ref (He.ga K "_law_is_within"))
  d_l_units_right : ∃ fd, FnP K "_law_units_right" s_l_units_right (He.ga K "_law_units_right") fd
  g_l_units_right : mg "_law_units_right" = some (.ref (He.ga K "_law_units_right"))
  d_l_right : ∃ fd, FnP K "_law_right" s_l_right (He.ga K "_law_right") fd
  g_l_right : mg "_law_right" = some (.ref (He.ga K "_law_right"))
  d_law : ∃ fd, FnP K "law" s_law (He.ga K "law") fd
  g_law : mg "law" = some (.ref (He.ga K "law"))
  c_PAIR : ∃ t, mg "PAIR" = some (.int 2 t)
  c_NEAR : ∃ t, mg "NEAR" = some (.str "near" t)
  c_EVEN : ∃ t, mg "EVEN" = some (.str "even" t)
  c_DOWN : ∃ t, mg "DOWN" = some (.str "down" t)
  c_UP : ∃ t, mg "UP" = some (.str "up" t)
  c_HOWS : mg "HOWS" = some (.ref (He.ga K "HOWS"))
  t_HOWS : ∀ H, SqT K H (He.ga K "HOWS") [(.str "near"), (.str "even"), (.str "down"), (.str "up")]
  c_NONE : ∃ t, mg "NONE" = some (.str "none" t)
  c_SOME : ∃ t, mg "SOME" = some (.str "some" t)
  c_LEAST_UNITS : ∃ t, mg "LEAST_UNITS" = some (.int 2 t)
  c_MOST_UNITS : ∃ t, mg "MOST_UNITS" = some (.int 100 t)
  z_abs : mg "abs" = none
  z_all : mg "all" = none
  z_bool : mg "bool" = none
  z_int : mg "int" = none
  z_isinstance : mg "isinstance" = none
  z_len : mg "len" = none
  z_list : mg "list" = none
  z_max : mg "max" = none
  z_min : mg "min" = none
  z_range : mg "range" = none
  z_repr : mg "repr" = none
  z_str : mg "str" = none
  z_tuple : mg "tuple" = none
end Ak
namespace Ak
open PySem PySem.Spec PyProof.Rows L2
/-! ### the walk of readings -/
local macro_rules | `(tactic| walk_at "go1") => `(tactic| (first
  | with_reducible refine w_seq ?_ | with_reducible refine w_next ?_ | with_reducible refine w_set ?_ | with_reducible refine w_asgS ?_ | with_reducible refine w_ret ?_ | with_reducible refine w_drop ?_ | with_reducible refine w_ifS ?_
  | with_reducible refine w_op ?_ | with_reducible refine w_un ?_ | ((with_reducible apply w_var); (· exact rfl)) | with_reducible refine w_c ?_
  | with_reducible refine w_add ?_ | with_reducible refine w_sub ?_ | with_reducible refine w_lt ?_ | with_reducible refine w_le ?_ | with_reducible refine w_gt ?_ | with_reducible refine w_ge ?_ | with_reducible refine w_neg ?_ | with_reducible refine w_isN ?_ | with_reducible refine w_notN ?_
  | ((with_reducible refine w_eq ?_ ?_); (· exact rfl)) | ((with_reducible refine w_ne ?_ ?_); (· exact rfl))
  | with_reducible refine w_test ?_ | with_reducible refine w_B ?_ | with_reducible refine w_or ?_ | with_reducible refine w_and ?_ | with_reducible refine w_not ?_ | with_reducible refine w_andV ?_ | with_reducible refine w_orV ?_ | with_reducible refine w_notV ?_
  | with_reducible refine w_ifE ?_ | with_reducible refine w_chain ?_ | with_reducible refine w_cb ?_ | with_reducible refine w_nil ?_ | with_reducible refine w_cons ?_ | with_reducible refine w_tup ?_ | with_reducible refine w_lst ?_ | with_reducible refine w_call ?_
  | with_reducible refine w_int1 ?_ | with_reducible refine w_abs ?_ | with_reducible refine w_max2 ?_ | with_reducible refine w_min2 ?_
  | with_reducible refine w_mknx ?_ | with_reducible refine w_mkrt ?_ | with_reducible refine w_mkbk ?_ | with_reducible refine w_mkct ?_ | with_reducible refine w_ifT ?_ | with_reducible refine w_ifF ?_ | with_reducible refine w_ifNT ?_ | with_reducible refine w_ifNF ?_
  | with_reducible refine w_lc ?_ | with_reducible refine w_lrg ?_ | with_reducible refine w_rg1 ?_ | with_reducible refine w_rg2 ?_ | with_reducible refine w_exI ?_ | with_reducible refine w_exI2 ?_
  | with_reducible refine w_bl ?_ | with_reducible refine w_asgT ?_ | with_reducible refine w_gcons ?_ | with_reducible refine w_gnil ?_ | with_reducible refine w_par ?_ | with_reducible refine w_pair ?_
  | ((with_reducible refine w_ixL (v := ?vv) (sqL (by assumption)) ?ee ?_); (case ee => exact rfl)) | ((with_reducible refine w_ixT (v := ?vv) (sqT (by assumption)) ?ee ?_); (case ee => exact rfl))
  | ((with_reducible refine w_ixL (v := ?vv) (by assumption) ?ee ?_); (case ee => exact rfl)) | ((with_reducible refine w_ixT (v := ?vv) (by assumption) ?ee ?_); (case ee => exact rfl))
  | ((with_reducible refine w_ifDT ?_ ?_); (· first | omega | decide +kernel)) | ((with_reducible refine w_ifDF ?_ ?_); (· first | omega | decide +kernel | exact ne_IS | exact ne_SI | exact ne_IN | exact ne_SN | exact ne_RN))
  | ((with_reducible refine w_mod ?_ ?_); (· omega)) | ((with_reducible refine w_fdiv ?_ ?_ ?_); (· omega); (· omega))
  | ((with_reducible refine w_mulL ?_ ?_ ?_); (· omega); (· omega)) | ((with_reducible refine w_mulR ?_ ?_ ?_); (· omega); (· omega))
  | with_reducible refine w_lenL (sqL (by assumption)) ?_ | with_reducible refine w_lenL (by assumption) ?_ | with_reducible refine w_lenT (sqT (by assumption)) ?_ | with_reducible refine w_lenT (by assumption) ?_))
local macro_rules | `(tactic| walk_at "go") => `(tactic| repeat walk_at "go1")
/-! ### draws: the law's own pot -/
def PotL (n : Nat) (xs : List V) : Prop := ∃ a b c : Int, xs = [.int a, .int b, .int c] ∧ 0 ≤ a ∧ 0 ≤ b ∧ b < 2305843009213693952 ∧ 0 ≤ c ∧ c ≤ n
/-- all but what stands at p is as it was -/
def But (p : Addr) (H H' : Hp) : Prop := ∀ b o, b ≠ p → H b = some o → H' b = some o
theorem But.refl {p : Addr} {H : Hp} : But p H H := fun _ _ _ h => h
theorem But.trans {p : Addr} {H H1 H2 : Hp} (a : But p H H1) (b : But p H1 H2) : But p H H2 := fun c o n h => b c o n (a c o n h)
theorem But.upd {p : Addr} {H H' : Hp} {o : HO} (a : But p H H') : But p H (upd H' p o) := fun c u n h => by
  rw [upd_ne n]
  exact a c u n h
theorem But.new {p q : Addr} {H H' : Hp} {o : HO} (a : But p H H') (hq : H' q = none) : But p H (L2.upd H' q o) := fun c u n h => by
  rw [upd_ne (ne_of_none (a c u n h) hq)]
  exact a c u n h
theorem upd_old {H : Hp} {q b : Addr} {o u : HO} (hq : H q = none) (h : H b = some u) : upd H q o b = some u := by
  rw [upd_ne (ne_of_none h hq)]
  exact h
theorem But.tups {p : Addr} {H H' : Hp} {xs : List V} (b : But p H H') (hp : H p = some (.lst xs)) : ∀ a ys, H a = some (.tup ys) → H' a = some (.tup ys) := fun a ys h => b a _ (fun z => by
  rw [z, hp] at h
  cases h) h
/-- what a draw promises -/
def Draw (ok : V → Hp → Prop) (p : Addr) (m : Nat) (H : Hp) (Q : VK) : Prop := ∀ v H' ys, But p H H' → H' p = some (.lst ys) → PotL m ys → ok v H' → Q v H'
def spTake : Sp := fun vs H Q _ => ∃ p n u xs, vs = [.ref p, .int u] ∧ H p = some (.lst xs) ∧ PotL n xs ∧ n < 100000 ∧ 0 < u ∧ u < 1073741824 ∧ Draw (fun v _ => ∃ r, v = .int r ∧ 0 ≤ r ∧ r < u) p (n + 1) H Q
theorem cpow_of {i j : Int} (h0 : 0 ≤ i) (h : i < 340282366920938463463374607431768211456) (h1 : 0 ≤ j) (h2 : j ≤ 100) : CPowW i j := by
  refine ⟨h1, h2, Nat.lt_of_lt_of_le (m := 340282366920938463463374607431768211456) (by omega) ?_⟩
  exact Nat.pow_le_pow_right (i := 128) (j := 4096) (n := 2) (by decide) (by decide)
theorem cpow_gen {b k c m : Int} (hb : 0 ≤ b) (hb2 : b < 2305843009213693952) (hc : 0 ≤ c) (hc2 : c ≤ 100001) (hk : 0 ≤ k) (hk2 : k ≤ 1000000) (hm : 0 ≤ m) (hm2 : m ≤ 1000000) : CPowW (b + k * c * c + m) 3 := by
  have h1 : 0 ≤ k * c := Int.mul_nonneg hk hc
  have h2 : 0 ≤ k * c * c := Int.mul_nonneg h1 hc
  have h3 : k * c ≤ 1000000 * 100001 := Int.mul_le_mul hk2 hc2 hc (by decide)
  have h4 : k * c * c ≤ 1000000 * 100001 * 100001 := Int.mul_le_mul h3 hc2 hc (by decide)
  exact cpow_of (by omega) (by omega) (by decide) (by decide)
theorem _root_.L2.Same.but {p : Addr} {H H' : Hp} (s : Same H H') : But p H H' := fun b o _ h => s b o h
section
variable {P : Program} {w : World} {K : PySem.W.Frag} {mg : Str → Option Value} {base : Heap}
theorem C_l_take (T : Txt K mg) : Cal P w K mg base 1 "_law_take" ["_law_pot_here", "_law_upto"] spTake := by
  obtain ⟨fd, F⟩ := T.d_l_take
  refine ⟨_, fd, okG F sc_l_take (fun vs H Q E h => ?_) (fun cdv A outer s H vs Q E hr hgd h => ?_), T.g_l_take, F.kp, (F.bindsN fun _ _ _ _ _ _ us hl => match us, hl with | [_, _], _ => rfl)⟩
  · obtain ⟨p, n, u, xs, rfl, _⟩ := h
    rfl
  · obtain ⟨p, n, u, xs, rfl, hp, ⟨a, b, c, rfl, ha, hb, hb2, hc, hc2⟩, hn, hu, hu2, q⟩ := h
    refine ⟨_, PSs.nox (pss_cons (ps_if (pt_cmpR o_gt (pe_ix (x_ix (K := K) rfl) (pv 0) pe_int (fun _ _ => rfl)) pe_int (nomark _)) (pss_cons (ps_set (i := 2) sc_l_take.nd rfl (.inl rfl) (pe_op o_mod (pe_callTy c_int1 (by rfl) T.z_int (by decide +kernel) (pa_cons (pe_ix (x_ix (K := K) rfl) (pv 0) pe_int (fun _ _ => rfl)) pa_nil)) (pv 1)))
    (pss_cons (ps_asg (pe_op o_fdiv (pe_ix (x_ix (K := K) rfl) (pv 0) pe_int (fun _ _ => rfl)) (pv 1)) (pg_sub (pv 0) pe_int set_list))
    (pss_one (ps_ret (pv 2))))) pss_nil)
    (pss_cons (ps_asg (pe_op o_add (pe_ix (x_ix (K := K) rfl) (pv 0) pe_int (fun _ _ => rfl)) pe_int) (pg_sub (pv 0) pe_int set_list))
    (pss_cons (ps_set (i := 3) sc_l_take.nd rfl (.inl rfl) (pe_ix (x_ix (K := K) rfl) (pe_lst (pa_cons pe_int (pa_cons pe_int (pa_cons pe_int (pa_cons pe_int (pa_cons pe_int pa_nil)))))) (pe_op o_mod (pe_callTy c_int1 (by rfl) T.z_int (by decide +kernel) (pa_cons (pe_ix (x_ix (K := K) rfl) (pv 0) pe_int (fun _ _ => rfl)) pa_nil)) pe_int) (fun _ _ => rfl)))
    (pss_cons (ps_set (i := 4) sc_l_take.nd rfl (.inl rfl) (pe_op o_mod (pe_callTy c_int1 (by rfl) T.z_int (by decide +kernel) (pa_cons (pe_op o_pow (pe_callTy c_int1 (by rfl) T.z_int (by decide +kernel) (pa_cons (pe_op o_add (pe_op o_add (pe_ix (x_ix (K := K) rfl) (pv 0) pe_int (fun _ _ => rfl)) (pe_op o_mul (pe_op o_mul pe_int (pe_ix (x_ix (K := K) rfl) (pv 0) pe_int (fun _ _ => rfl))) (pe_ix (x_ix (K := K) rfl) (pv 0) pe_int (fun _ _ => rfl)))) pe_int) pa_nil)) pe_int) pa_nil)) (pv 3)))
    (pss_cons (ps_set (i := 4) sc_l_take.nd rfl (.inl rfl) (pe_op o_mod (pe_callTy c_int1 (by rfl) T.z_int (by decide +kernel) (pa_cons (pe_op o_mul (pv 4) (pe_op o_add (pe_op o_mod (pe_callTy c_int1 (by rfl) T.z_int (by decide +kernel) (pa_cons (pv 4) pa_nil)) pe_int) (pe_op o_mul pe_int (pe_ix (x_ix (K := K) rfl) (pv 0) pe_int (fun _ _ => rfl))))) pa_nil)) pe_int))
    (pss_one (ps_ret (pe_op o_mod (pe_callTy c_int1 (by rfl) T.z_int (by decide +kernel) (pa_cons (pe_op o_fdiv (pv 4) pe_int) pa_nil)) (pv 1))))))))), ?_⟩
    try dsimp only [cxOf, Cx.nox, Cx.wish]
    rw [st_l_take]; walk_at "go"
    refine w_if (fun e => ?_) (fun e => ?_)
    · walk_at "go"
      refine w_setG hp rfl (fun H1 hp1 b1 => ?_)
      walk_at "go"
      exact q _ _ _ b1 hp1 ⟨a / u, b, c, rfl, Int.ediv_nonneg ha (by omega), hb, hb2, hc, by omega⟩ ⟨_, rfl, Int.emod_nonneg a (by omega), Int.emod_lt_of_pos a hu⟩
    · walk_at "go"
      refine w_setG hp rfl (fun H1 hp1' b1 => ?_)
      have hp1 : H1 p = some (.lst [.int a, .int b, .int (c + 1)]) := hp1'
      walk_at "go"
      refine w_newL rfl (fun l H2 nl hl s2 => ?_)
      have hp2 := s2 _ _ hp1
      walk_at "go"
      obtain ⟨v, ev, mv⟩ := atI_ex (xs := [V.int 2147483647, .int 2147483629, .int 2147483587, .int 2147483579, .int 2147483563]) (m := (c + 1) % 5) (by omega) (by show (c + 1) % 5 < 5; omega)
      obtain ⟨pr, rfl, h1, h2⟩ : ∃ pr, v = .int pr ∧ 0 < pr ∧ pr < 2147483648 := by
        simp only [List.mem_cons, List.not_mem_nil, or_false] at mv
        rcases mv with e | e | e | e | e <;> exact ⟨_, e, by decide, by decide⟩
      refine w_ixL (sqL hl) ev ?_
      walk_at "go"
      refine w_pow (cpow_gen hb hb2 (by omega) (by omega) (by decide) (by decide) (by decide) (by decide)) ?_
      iterate 3 walk_at "go1"
      refine w_modG h1 (fun st s0 s1 => ?_)
      walk_at "go"
      exact q _ _ _ (But.trans b1 s2.but) hp2 ⟨a, b, c + 1, rfl, ha, hb, hb2, by omega, by omega⟩ ⟨_, rfl, Int.emod_nonneg _ (by omega), Int.emod_lt_of_pos _ hu⟩
def spPot (K : PySem.W.Frag) : Sp := fun vs H Q _ => ∃ a k ns, vs = [.ref a, .int k] ∧ SqL K H a ((ns : List Int).map V.int) ∧ 0 ≤ k ∧ k ≤ 100 ∧ ∀ p H' ys, H p = none → Same H H' → H' p = some (.lst ys) → PotL 0 ys → Q (.ref p) H'
theorem C_l_pot (T : Txt K mg) : Cal P w K mg base 1 "_law_pot" ["_law_script", "_law_place"] (spPot K) := by
  obtain ⟨fd, F⟩ := T.d_l_pot
  refine ⟨_, fd, okG F sc_l_pot (fun vs H Q E h => ?_) (fun cdv A outer s H vs Q E hr hgd h => ?_), T.g_l_pot, F.kp, (F.bindsN fun _ _ _ _ _ _ us hl => match us, hl with | [_, _], _ => rfl)⟩
  · obtain ⟨p, n, u, rfl, _⟩ := h
    rfl
  · obtain ⟨a, k, ns, rfl, hS, hk, hk2, q⟩ := h
    refine ⟨_, PSs.nox (pss_cons (ps_set (i := 2) sc_l_pot.nd rfl (.inl rfl) (pe_ifExp (pt_cmpR o_lt (pv 1) (pe_callB (x_len (K := K) rfl) (by rfl) T.z_len (by decide +kernel) (pa_cons (pv 0) pa_nil)) (nomark _)) (pe_ix (x_ix (K := K) rfl) (pv 0) (pv 1) (fun _ _ => rfl)) (pe_op o_add (pe_op o_mul pe_int (pv 1)) pe_int)))
    (pss_cons (ps_set (i := 3) sc_l_pot.nd rfl (.inl rfl) (pe_op o_mul (pe_op o_mod (pe_callTy c_int1 (by rfl) T.z_int (by decide +kernel) (pa_cons (pe_callB c_abs (by rfl) T.z_abs (by decide +kernel) (pa_cons (pv 2) pa_nil)) pa_nil)) (pe_op o_pow (pe_op o_pow pe_int pe_int) pe_int)) (pe_callTy c_int1 (by rfl) T.z_int (by decide +kernel) (pa_cons (pe_cmpR o_ge (pe_callB c_abs (by rfl) T.z_abs (by decide +kernel) (pa_cons (pv 2) pa_nil)) (pe_op o_pow pe_int pe_int) (nomark _)) pa_nil))))
    (pss_cons (ps_set (i := 4) sc_l_pot.nd rfl (.inl rfl) (pe_op o_mod (pe_callTy c_int1 (by rfl) T.z_int (by decide +kernel) (pa_cons (pv 2) pa_nil)) pe_int))
    (pss_one (ps_ret (pe_lst (pa_cons (pv 3) (pa_cons (pe_op o_mod (pe_callTy c_int1 (by rfl) T.z_int (by decide +kernel) (pa_cons (pe_op o_add (pe_op o_add (pe_op o_mul (pv 4) pe_int) (pe_op o_mul (pe_op o_mul pe_int (pv 1)) (pv 1))) pe_int) pa_nil)) pe_int) (pa_cons pe_int pa_nil))))))))), ?_⟩
    try dsimp only [cxOf, Cx.nox, Cx.wish]
    rw [st_l_pot]; walk_at "go"
    refine w_if (fun e => ?g1) (fun e => ?_)
    case' g1 =>
      walk_at "go"
      obtain ⟨v, ev, mv⟩ := atI_ex (xs := ns.map V.int) hk e
      obtain ⟨z, _, rfl⟩ := List.mem_map.mp mv
      refine w_ixL hS ev ?_
    all_goals
      walk_at "go"
      refine w_pow (cpow_of (by decide) (by decide) (by decide) (by decide)) ?_
      walk_at "go"
      refine w_pow ⟨by decide, by decide, by decide +kernel⟩ ?_
      refine w_modG (Int.pow_pos (Int.pow_pos (by decide))) (fun r r0 _ => ?_)
      walk_at "go"
      refine w_pow (cpow_of (by decide) (by decide) (by decide) (by decide)) ?_
      walk_at "go"
      refine w_int1G (fun f f0 f1 => ?_)
      walk_at "go"
      refine w_newL rfl (fun p H1 np hp s1 => ?_)
      exact q _ _ _ np s1 hp ⟨_, _, 0, rfl, Int.mul_nonneg r0 f0, by omega, by omega, by omega, by omega⟩
def spOf (K : PySem.W.Frag) : Sp := fun vs H Q _ => ∃ p n xs l ys, vs = [.ref p, .ref l] ∧ H p = some (.lst xs) ∧ PotL n xs ∧ n < 100000 ∧ p ≠ l ∧ SqL K H l ys ∧ 0 < ys.length ∧ ys.length ≤ 1000 ∧ Draw (fun v _ => v ∈ ys) p (n + 1) H Q
theorem sq_but {p l : Addr} {H H' : Hp} {xs : List V} (b : But p H H') (n : p ≠ l) (h : SqL K H l xs) : SqL K H' l xs := by
  rcases h with (h | ⟨o, h⟩) | h
  · exact .inl (.inl (b _ _ (Ne.symm n) h))
  · exact .inl (.inr ⟨o, b _ _ (Ne.symm n) h⟩)
  · exact .inr h
theorem C_l_of (T : Txt K mg) : Cal P w K mg base 2 "_law_of" ["_law_pot_here", "_law_some"] (spOf K) := by
  have C_l_take := C_l_take (P := P) (w := w) (base := base) T
  obtain ⟨fd, F⟩ := T.d_l_of
  refine ⟨_, fd, okG F sc_l_of (fun vs H Q E h => ?_) (fun cdv A outer s H vs Q E hr hgd h => ?_), T.g_l_of, F.kp, (F.bindsN fun _ _ _ _ _ _ us hl => match us, hl with | [_, _], _ => rfl)⟩
  · obtain ⟨p, n, xs, l, ys, rfl, _⟩ := h
    rfl
  · obtain ⟨p, n, xs, l, ys, rfl, hp, hP, hn, hne, hl, h0, h1, q⟩ := h
    refine ⟨_, PSs.nox (pss_one (ps_ret (pe_ix (x_ix (K := K) rfl) (pv 1) (pe_cal C_l_take (hr.mono (by decide)) hgd (by rfl) (pa_cons (pv 0) (pa_cons (pe_callB (x_len (K := K) rfl) (by rfl) T.z_len (by decide +kernel) (pa_cons (pv 1) pa_nil)) pa_nil))) (fun _ _ => rfl)))), ?_⟩
    try dsimp only [cxOf, Cx.nox, Cx.wish]
    rw [st_l_of]; walk_at "go"
    refine ⟨p, n, _, xs, rfl, hp, hP, hn, by omega, by omega, ?_⟩
    rintro v H1 zs b1 hp1 hP1 ⟨r, rfl, r0, r1⟩
    obtain ⟨v, ev, mv⟩ := atI_ex r0 r1
    exact w_ixL (sq_but b1 hne hl) ev (q _ _ _ b1 hp1 hP1 mv)
def spCells (K : PySem.W.Frag) : Sp := fun vs H Q _ => ∃ a k ns, vs = [.ref a, .int k] ∧ SqL K H a ((ns : List Int).map V.int) ∧ 1 ≤ k ∧ k ≤ 100 ∧ ∀ p H' n, H p = none → Same H H' → n ≤ 100 → H' p = some (.lst (rgV 0 n)) → Q (.ref p) H'
theorem C_l_cells (T : Txt K mg) : Cal P w K mg base 1 "_law_cells" ["_law_script", "_law_most"] (spCells K) := by
  obtain ⟨fd, F⟩ := T.d_l_cells
  refine ⟨_, fd, okG F sc_l_cells (fun vs H Q E h => ?_) (fun cdv A outer s H vs Q E hr hgd h => ?_), T.g_l_cells, F.kp, (F.bindsN fun _ _ _ _ _ _ us hl => match us, hl with | [_, _], _ => rfl)⟩
  · obtain ⟨p, n, u, rfl, _⟩ := h
    rfl
  · obtain ⟨a, k, ns, rfl, hS, hk, hk2, q⟩ := h
    refine ⟨_, PSs.nox (pss_one (ps_ret (pe_listRg rfl (by rfl) T.z_list (prg_1 (by rfl) T.z_range (pe_callB (c_max2 rfl) (by rfl) T.z_max (by decide +kernel) (pa_cons pe_int (pa_cons (pe_callB (c_min2 rfl) (by rfl) T.z_min (by decide +kernel) (pa_cons (pv 1) (pa_cons (pe_callB (x_len (K := K) rfl) (by rfl) T.z_len (by decide +kernel) (pa_cons (pv 0) pa_nil)) pa_nil))) pa_nil))))))), ?_⟩
    try dsimp only [cxOf, Cx.nox, Cx.wish]
    rw [st_l_cells]; walk_at "go"
    refine w_newR (by decide) (by decide) ?_ ?_ (fun p H1 np hp s1 => ?_)
    · split <;> split <;> omega
    · split <;> split <;> omega
    · exact q _ _ _ np s1 (by split <;> split <;> omega) hp
end

end Ak
namespace Ak
open PySem PySem.Spec PyProof.Rows L2
/-! ### the walk of readings -/
local macro_rules | `(tactic| walk_at "go1") => `(tactic| (first
  | with_reducible refine w_seq ?_ | with_reducible refine w_next ?_ | with_reducible refine w_set ?_ | with_reducible refine w_asgS ?_ | with_reducible refine w_ret ?_ | with_reducible refine w_drop ?_ | with_reducible refine w_ifS ?_
  | with_reducible refine w_op ?_ | with_reducible refine w_un ?_ | ((with_reducible apply w_var); (· exact rfl)) | with_reducible refine w_c ?_
  | with_reducible refine w_add ?_ | with_reducible refine w_sub ?_ | with_reducible refine w_lt ?_ | with_reducible refine w_le ?_ | with_reducible refine w_gt ?_ | with_reducible refine w_ge ?_ | with_reducible refine w_neg ?_ | with_reducible refine w_isN ?_ | with_reducible refine w_notN ?_
  | ((with_reducible refine w_eq ?_ ?_); (· exact rfl)) | ((with_reducible refine w_ne ?_ ?_); (· exact rfl))
  | with_reducible refine w_test ?_ | with_reducible refine w_B ?_ | with_reducible refine w_or ?_ | with_reducible refine w_and ?_ | with_reducible refine w_not ?_ | with_reducible refine w_andV ?_ | with_reducible refine w_orV ?_ | with_reducible refine w_notV ?_
  | with_reducible refine w_ifE ?_ | with_reducible refine w_chain ?_ | with_reducible refine w_cb ?_ | with_reducible refine w_nil ?_ | with_reducible refine w_cons ?_ | with_reducible refine w_tup ?_ | with_reducible refine w_lst ?_ | with_reducible refine w_call ?_
  | with_reducible refine w_int1 ?_ | with_reducible refine w_abs ?_ | with_reducible refine w_max2 ?_ | with_reducible refine w_min2 ?_
  | with_reducible refine w_mknx ?_ | with_reducible refine w_mkrt ?_ | with_reducible refine w_mkbk ?_ | with_reducible refine w_mkct ?_ | with_reducible refine w_ifT ?_ | with_reducible refine w_ifF ?_ | with_reducible refine w_ifNT ?_ | with_reducible refine w_ifNF ?_
  | with_reducible refine w_lc ?_ | with_reducible refine w_lrg ?_ | with_reducible refine w_rg1 ?_ | with_reducible refine w_rg2 ?_ | with_reducible refine w_exI ?_ | with_reducible refine w_exI2 ?_
  | with_reducible refine w_bl ?_ | with_reducible refine w_asgT ?_ | with_reducible refine w_gcons ?_ | with_reducible refine w_gnil ?_ | with_reducible refine w_par ?_ | with_reducible refine w_pair ?_
  | ((with_reducible refine w_ixL (v := ?vv) (sqL (by assumption)) ?ee ?_); (case ee => exact rfl)) | ((with_reducible refine w_ixT (v := ?vv) (sqT (by assumption)) ?ee ?_); (case ee => exact rfl))
  | ((with_reducible refine w_ixL (v := ?vv) (by assumption) ?ee ?_); (case ee => exact rfl)) | ((with_reducible refine w_ixT (v := ?vv) (by assumption) ?ee ?_); (case ee => exact rfl))
  | ((with_reducible refine w_ifDT ?_ ?_); (· first | omega | decide +kernel)) | ((with_reducible refine w_ifDF ?_ ?_); (· first | omega | decide +kernel | exact ne_IS | exact ne_SI | exact ne_IN | exact ne_SN | exact ne_RN))
  | ((with_reducible refine w_mod ?_ ?_); (· omega)) | ((with_reducible refine w_fdiv ?_ ?_ ?_); (· omega); (· omega))
  | ((with_reducible refine w_mulL ?_ ?_ ?_); (· omega); (· omega)) | ((with_reducible refine w_mulR ?_ ?_ ?_); (· omega); (· omega))
  | with_reducible refine w_lenL (sqL (by assumption)) ?_ | with_reducible refine w_lenL (by assumption) ?_ | with_reducible refine w_lenT (sqT (by assumption)) ?_ | with_reducible refine w_lenT (by assumption) ?_))
local macro_rules | `(tactic| walk_at "go") => `(tactic| repeat walk_at "go1")
/-! ### kinds of values -/
inductive Kd where
  | int | bool | str | none | tup | lst | dic | own
  deriving DecidableEq
def Kd.isa : Kd → String → Bool
  | .int, s => s == "int"
  | .bool, s => s == "bool" || s == "int"
  | .str, s => s == "str"
  | .tup, s => s == "tuple"
  | .lst, s => s == "list"
  | .dic, s => s == "dict"
  | _, _ => false
/-- an instance of a class of the program's own -/
structure OwnC (K : PySem.W.Frag) (C : Addr) : Prop where
  cl : Cls K C
  ha : PySem.W.findIn K (.ref C) "__class__" = some (some (.builtin "object.__class__"))
  hn : PySem.W.specialIn K (.builtin "object.__class__") "__get__" = some (some (.builtin "getset_descriptor.__get__"))
  htk : PySem.W.takesIn K (.builtin "object.__class__") = some true
  hm : PySem.W.mroIn K C (.type "object") = some true
  no : ∀ T ∈ ["int", "bool", "str", "tuple", "list", "dict"], PySem.W.kitOne K (.ref C) (.type T) = some false
def IsK (K : PySem.W.Frag) (H : Hp) (x : V) : Kd → Prop
  | .int => ∃ i, x = .int i
  | .bool => ∃ b, x = .bl b
  | .str => ∃ s, x = .str s
  | .none => x = .non
  | .tup => ∃ a xs, x = .ref a ∧ SqT K H a xs
  | .lst => ∃ a xs, x = .ref a ∧ SqL K H a xs
  | .dic => ∃ a kvs, x = .ref a ∧ H a = some (.dK kvs)
  | .own => ∃ a C dx fs, x = .ref a ∧ H a = some (.ins C dx fs) ∧ OwnC K C
section
variable {K : PySem.W.Frag} {H : Hp} {x : V} {Q : VK}
theorem IsK.ty {k : Kd} (h : IsK K H x k) {T : String} (hT : T ∈ ["int", "bool", "str", "tuple", "list", "dict"]) : ∃ t, TyX K H x t ∧ PySem.W.kitOne K t (.type T) = some (k.isa T) := by
  have six : T = "int" ∨ T = "bool" ∨ T = "str" ∨ T = "tuple" ∨ T = "list" ∨ T = "dict" := by simpa using hT
  cases k with
  | int =>
    obtain ⟨i, rfl⟩ := h
    refine ⟨_, .base (.int i), kit_ty ?_⟩
    rcases six with rfl | rfl | rfl | rfl | rfl | rfl <;> decide +kernel
  | bool =>
    obtain ⟨i, rfl⟩ := h
    refine ⟨_, .base (.bl i), kit_ty ?_⟩
    rcases six with rfl | rfl | rfl | rfl | rfl | rfl <;> decide +kernel
  | str =>
    obtain ⟨i, rfl⟩ := h
    refine ⟨_, .base (.str i), kit_ty ?_⟩
    rcases six with rfl | rfl | rfl | rfl | rfl | rfl <;> decide +kernel
  | none =>
    obtain rfl : x = .non := h
    refine ⟨_, .base .non, kit_ty ?_⟩
    rcases six with rfl | rfl | rfl | rfl | rfl | rfl <;> decide +kernel
  | tup =>
    obtain ⟨a, xs, rfl, h⟩ := h
    have e : TyX K H (.ref a) (.type "tuple") := by
      rcases h with (h | ⟨o, h⟩) | ⟨o, its, n, h1, h2, _⟩
      · exact .base (.tup h)
      · exact .fTuple h
      · exact .kTuple h1 h2
    refine ⟨_, e, kit_ty ?_⟩
    rcases six with rfl | rfl | rfl | rfl | rfl | rfl <;> decide +kernel
  | lst =>
    obtain ⟨a, xs, rfl, h⟩ := h
    have e : TyX K H (.ref a) (.type "list") := by
      rcases h with (h | ⟨o, h⟩) | ⟨o, its, n, h1, h2, _⟩
      · exact .base (.lst h)
      · exact .base (.frz h)
      · exact .kList h1 h2
    refine ⟨_, e, kit_ty ?_⟩
    rcases six with rfl | rfl | rfl | rfl | rfl | rfl <;> decide +kernel
  | dic =>
    obtain ⟨a, kvs, rfl, h⟩ := h
    refine ⟨_, .base (.dK h), kit_ty ?_⟩
    rcases six with rfl | rfl | rfl | rfl | rfl | rfl <;> decide +kernel
  | own =>
    obtain ⟨a, C, dx, fs, rfl, h, c⟩ := h
    exact ⟨_, .base (.ins h c.cl c.ha c.hn c.htk c.hm), c.no T hT⟩
theorem w_isi {k : Kd} {T : String} (h : IsK K H x k) (hT : T ∈ ["int", "bool", "str", "tuple", "list", "dict"]) (q : Q (.bl (k.isa T)) H) : rIsi K [x, .ty T] H Q := by
  obtain ⟨t, h1, h2⟩ := h.ty hT
  exact ⟨x, .ty T, t, .type T, _, rfl, .ty T, h1, h2, q⟩
theorem isI {i : Int} : IsK K H (.int i) .int := ⟨i, rfl⟩
theorem isB {b : Bool} : IsK K H (.bl b) .bool := ⟨b, rfl⟩
theorem isS {s : Str} : IsK K H (.str s) .str := ⟨s, rfl⟩
theorem isN : IsK K H .non .none := rfl
theorem isT {a : Addr} {xs : List V} (h : SqT K H a xs) : IsK K H (.ref a) .tup := ⟨a, xs, rfl, h⟩
theorem isL {a : Addr} {xs : List V} (h : SqL K H a xs) : IsK K H (.ref a) .lst := ⟨a, xs, rfl, h⟩
theorem inV_str (s : Str) : ∀ ws : List Str, inV (.str s) (ws.map V.str) = decide (s ∈ ws)
  | [] => rfl
  | a :: r => by
    have ih := inV_str s r
    show ((a == s) || inV (.str s) (r.map V.str)) = decide (s ∈ a :: r)
    rw [ih]
    by_cases h : s = a
    · subst h
      simp
    · have h2 : (a == s) = false := by simpa using fun e => h e.symm
      rw [h2, Bool.false_or]
      simp [h]
theorem w_inT {p : Addr} {ws : List Str} {s : Str} (h : SqT K H p (ws.map V.str)) (q : Q (.bl (decide (s ∈ ws))) H) : rIn K false (.str s) (.ref p) H Q := by
  refine ⟨p, ws.map V.str, rfl, .inr h, rfl, ?_, ?_⟩
  · rw [List.all_eq_true]
    intro y hy
    obtain ⟨z, _, rfl⟩ := List.mem_map.mp hy
    rfl
  · have e : inV (.str s) (ws.map V.str) = decide (s ∈ ws) := inV_str s ws
    show Q (.bl (if false = true then !inV (.str s) (ws.map V.str) else inV (.str s) (ws.map V.str))) H
    rw [if_neg Bool.false_ne_true, e]
    exact q
end

/-! ### words.py -/
def betw : V → Int → Int → Bool
  | .int i, lo, hi => decide (lo ≤ i) && decide (i ≤ hi)
  | _, _, _ => false
def spIsInt (K : PySem.W.Frag) : Sp := fun vs H Q _ => ∃ x k, vs = [x] ∧ IsK K H x k ∧ Q (.bl (decide (k = .int))) H
def spBetw (K : PySem.W.Frag) : Sp := fun vs H Q _ => ∃ x k lo hi, vs = [x, .int lo, .int hi] ∧ IsK K H x k ∧ Q (.bl (betw x lo hi)) H
def spIsTup (K : PySem.W.Frag) : Sp := fun vs H Q _ => ∃ x lo hi, vs = [x, .int lo, .int hi] ∧
  ((∃ a xs, x = .ref a ∧ SqT K H a xs ∧ Q (.bl (decide (lo ≤ xs.length) && decide ((xs.length : Int) ≤ hi))) H) ∨ ∃ k, IsK K H x k ∧ k ≠ .tup ∧ Q (.bl false) H)
def spIsWord (K : PySem.W.Frag) : Sp := fun vs H Q _ => ∃ x y, vs = [x, y] ∧
  ((∃ s a ws, x = .str s ∧ y = .ref a ∧ SqT K H a ((ws : List Str).map V.str) ∧ Q (.bl (decide (s ∈ ws))) H) ∨ ∃ k, IsK K H x k ∧ k ≠ .str ∧ Q (.bl false) H)
section
variable {P : Program} {w : World} {K : PySem.W.Frag} {mg : Str → Option Value} {base : Heap}
theorem C_is_integer (T : Txt K mg) : Cal P w K mg base 1 "is_integer" ["value"] (spIsInt K) := by
  obtain ⟨fd, F⟩ := T.d_is_integer
  refine ⟨_, fd, okG F sc_is_integer (fun vs H Q E h => ?_) (fun cdv A outer s H vs Q E hr hgd h => ?_), T.g_is_integer, F.kp, (F.bindsN fun _ _ _ _ _ _ us hl => match us, hl with | [_], _ => rfl)⟩
  · obtain ⟨x, k, rfl, _⟩ := h
    rfl
  · obtain ⟨x, k, rfl, hk, q⟩ := h
    refine ⟨_, PSs.nox (pss_one (ps_ret (pe_and (pe_callB (x_isi (K := K) rfl) (by rfl) T.z_isinstance (by decide +kernel) (pa_cons (pv 0) (pa_cons (pe_bltn (v := .ty "int") (u := .type "int") (by rfl) T.z_int (by decide +kernel) rfl) pa_nil))) (pe_one (pe_not (pe_callB (x_isi (K := K) rfl) (by rfl) T.z_isinstance (by decide +kernel) (pa_cons (pv 0) (pa_cons (pe_bltn (v := .ty "bool") (u := .type "bool") (by rfl) T.z_bool (by decide +kernel) rfl) pa_nil)))))))), ?_⟩
    try dsimp only [cxOf, Cx.nox, Cx.wish]
    rw [st_is_integer]; walk_at "go"
    refine w_isi hk (by simp) ?_
    walk_at "go"
    cases k with
    | int =>
      refine w_ifT ?_
      walk_at "go"
      refine w_isi hk (by simp) ?_
      walk_at "go"
      exact q
    | bool =>
      refine w_ifT ?_
      walk_at "go"
      refine w_isi hk (by simp) ?_
      walk_at "go"
      exact q
    | _ =>
      refine w_ifF ?_
      exact q
theorem C_is_between (T : Txt K mg) : Cal P w K mg base 2 "is_between" ["value", "low", "high"] (spBetw K) := by
  have C_is_integer := C_is_integer (P := P) (w := w) (base := base) T
  obtain ⟨fd, F⟩ := T.d_is_between
  refine ⟨_, fd, okG F sc_is_between (fun vs H Q E h => ?_) (fun cdv A outer s H vs Q E hr hgd h => ?_), T.g_is_between, F.kp, (F.bindsN fun _ _ _ _ _ _ us hl => match us, hl with | [_, _, _], _ => rfl)⟩
  · obtain ⟨x, k, lo, hi, rfl, _⟩ := h
    rfl
  · obtain ⟨x, k, lo, hi, rfl, hk, q⟩ := h
    refine ⟨_, PSs.nox (pss_one (ps_ret (pe_and (pe_cal C_is_integer (hr.mono (by decide)) hgd (by rfl) (pa_cons (pv 0) pa_nil)) (pe_one (pe_chain o_le o_le (pv 1) (pv 0) (pv 2)))))), ?_⟩
    try dsimp only [cxOf, Cx.nox, Cx.wish]
    rw [st_is_between]; walk_at "go"
    refine ⟨x, k, rfl, hk, ?_⟩
    walk_at "go"
    cases k with
    | int =>
      obtain ⟨i, rfl⟩ := hk
      refine w_ifT ?_
      walk_at "go"
      refine w_if (fun e => ?_) (fun e => ?_)
      · walk_at "go"
        have e2 : betw (.int i) lo hi = decide (i ≤ hi) := by
          show (decide (lo ≤ i) && decide (i ≤ hi)) = _
          rw [decide_eq_true e, Bool.true_and]
        rw [e2] at q
        exact q
      · have e2 : betw (.int i) lo hi = false := by
          show (decide (lo ≤ i) && decide (i ≤ hi)) = _
          rw [decide_eq_false e, Bool.false_and]
        rw [e2] at q
        exact q
    | bool =>
      obtain ⟨i, rfl⟩ := hk
      exact w_ifF q
    | str =>
      obtain ⟨i, rfl⟩ := hk
      exact w_ifF q
    | none =>
      obtain rfl : x = .non := hk
      exact w_ifF q
    | tup =>
      obtain ⟨i, _, rfl, _⟩ := hk
      exact w_ifF q
    | lst =>
      obtain ⟨i, _, rfl, _⟩ := hk
      exact w_ifF q
    | dic =>
      obtain ⟨i, _, rfl, _⟩ := hk
      exact w_ifF q
    | own =>
      obtain ⟨i, _, _, _, rfl, _⟩ := hk
      exact w_ifF q
theorem C_is_tuple (T : Txt K mg) : Cal P w K mg base 1 "is_tuple" ["value", "least", "most"] (spIsTup K) := by
  obtain ⟨fd, F⟩ := T.d_is_tuple
  refine ⟨_, fd, okG F sc_is_tuple (fun vs H Q E h => ?_) (fun cdv A outer s H vs Q E hr hgd h => ?_), T.g_is_tuple, F.kp, (F.bindsN fun _ _ _ _ _ _ us hl => match us, hl with | [_, _, _], _ => rfl)⟩
  · obtain ⟨x, lo, hi, rfl, _⟩ := h
    rfl
  · obtain ⟨x, lo, hi, rfl, h⟩ := h
    refine ⟨_, PSs.nox (pss_one (ps_ret (pe_and (pe_callB (x_isi (K := K) rfl) (by rfl) T.z_isinstance (by decide +kernel) (pa_cons (pv 0) (pa_cons (pe_bltn (v := .ty "tuple") (u := .type "tuple") (by rfl) T.z_tuple (by decide +kernel) rfl) pa_nil))) (pe_one (pe_chain o_le o_le (pv 1) (pe_callB (x_len (K := K) rfl) (by rfl) T.z_len (by decide +kernel) (pa_cons (pv 0) pa_nil)) (pv 2)))))), ?_⟩
    try dsimp only [cxOf, Cx.nox, Cx.wish]
    rw [st_is_tuple]; walk_at "go"
    rcases h with ⟨a, xs, rfl, hx, q⟩ | ⟨k, hk, nk, q⟩
    · refine w_isi (isT hx) (by simp) ?_
      walk_at "go"
      refine w_ifT ?_
      walk_at "go"
      refine w_if (fun e => ?_) (fun e => ?_)
      · walk_at "go"
        rw [decide_eq_true e, Bool.true_and] at q
        exact q
      · rw [decide_eq_false e, Bool.false_and] at q
        exact q
    · refine w_isi hk (by simp) ?_
      walk_at "go"
      cases k with
      | tup => exact absurd rfl nk
      | _ => exact w_ifF q
theorem C_is_word (T : Txt K mg) : Cal P w K mg base 1 "is_word" ["value", "words"] (spIsWord K) := by
  obtain ⟨fd, F⟩ := T.d_is_word
  refine ⟨_, fd, okG F sc_is_word (fun vs H Q E h => ?_) (fun cdv A outer s H vs Q E hr hgd h => ?_), T.g_is_word, F.kp, (F.bindsN fun _ _ _ _ _ _ us hl => match us, hl with | [_, _], _ => rfl)⟩
  · obtain ⟨x, y, rfl, _⟩ := h
    rfl
  · obtain ⟨x, y, rfl, h⟩ := h
    refine ⟨_, PSs.nox (pss_one (ps_ret (pe_and (pe_callB (x_isi (K := K) rfl) (by rfl) T.z_isinstance (by decide +kernel) (pa_cons (pv 0) (pa_cons (pe_bltn (v := .ty "str") (u := .type "str") (by rfl) T.z_str (by decide +kernel) rfl) pa_nil))) (pe_one (pe_cmpR (x_in (K := K) rfl) (pv 0) (pv 1) (by rfl)))))), ?_⟩
    try dsimp only [cxOf, Cx.nox, Cx.wish]
    rw [st_is_word]; walk_at "go"
    rcases h with ⟨s, a, ws, rfl, rfl, hx, q⟩ | ⟨k, hk, nk, q⟩
    · refine w_isi isS (by simp) ?_
      walk_at "go"
      refine w_ifT ?_
      walk_at "go"
      exact w_inT hx q
    · refine w_isi hk (by simp) ?_
      walk_at "go"
      cases k with
      | str => exact absurd rfl nk
      | _ => exact w_ifF q
end

end Ak
namespace Ak
open PySem PySem.Spec PyProof.Rows L2
/-! ### the walk of readings -/
local macro_rules | `(tactic| walk_at "go1") => `(tactic| (first
  | with_reducible refine w_seq ?_ | with_reducible refine w_next ?_ | with_reducible refine w_set ?_ | with_reducible refine w_asgS ?_ | with_reducible refine w_ret ?_ | with_reducible refine w_drop ?_ | with_reducible refine w_ifS ?_
  | with_reducible refine w_op ?_ | with_reducible refine w_un ?_ | ((with_reducible apply w_var); (· exact rfl)) | with_reducible refine w_c ?_
  | with_reducible refine w_add ?_ | with_reducible refine w_sub ?_ | with_reducible refine w_lt ?_ | with_reducible refine w_le ?_ | with_reducible refine w_gt ?_ | with_reducible refine w_ge ?_ | with_reducible refine w_neg ?_ | with_reducible refine w_isN ?_ | with_reducible refine w_notN ?_
  | ((with_reducible refine w_eq ?_ ?_); (· exact rfl)) | ((with_reducible refine w_ne ?_ ?_); (· exact rfl))
  | with_reducible refine w_test ?_ | with_reducible refine w_B ?_ | with_reducible refine w_or ?_ | with_reducible refine w_and ?_ | with_reducible refine w_not ?_ | with_reducible refine w_andV ?_ | with_reducible refine w_orV ?_ | with_reducible refine w_notV ?_
  | with_reducible refine w_ifE ?_ | with_reducible refine w_chain ?_ | with_reducible refine w_cb ?_ | with_reducible refine w_nil ?_ | with_reducible refine w_cons ?_ | with_reducible refine w_tup ?_ | with_reducible refine w_lst ?_ | with_reducible refine w_call ?_
  | with_reducible refine w_int1 ?_ | with_reducible refine w_abs ?_ | with_reducible refine w_max2 ?_ | with_reducible refine w_min2 ?_
  | with_reducible refine w_mknx ?_ | with_reducible refine w_mkrt ?_ | with_reducible refine w_mkbk ?_ | with_reducible refine w_mkct ?_ | with_reducible refine w_ifT ?_ | with_reducible refine w_ifF ?_ | with_reducible refine w_ifNT ?_ | with_reducible refine w_ifNF ?_
  | with_reducible refine w_lc ?_ | with_reducible refine w_lrg ?_ | with_reducible refine w_rg1 ?_ | with_reducible refine w_rg2 ?_ | with_reducible refine w_exI ?_ | with_reducible refine w_exI2 ?_
  | with_reducible refine w_bl ?_ | with_reducible refine w_asgT ?_ | with_reducible refine w_gcons ?_ | with_reducible refine w_gnil ?_ | with_reducible refine w_par ?_ | with_reducible refine w_pair ?_
  | ((with_reducible refine w_ixL (v := ?vv) (sqL (by assumption)) ?ee ?_); (case ee => exact rfl)) | ((with_reducible refine w_ixT (v := ?vv) (sqT (by assumption)) ?ee ?_); (case ee => exact rfl))
  | ((with_reducible refine w_ixL (v := ?vv) (by assumption) ?ee ?_); (case ee => exact rfl)) | ((with_reducible refine w_ixT (v := ?vv) (by assumption) ?ee ?_); (case ee => exact rfl))
  | ((with_reducible refine w_ifDT ?_ ?_); (· first | omega | decide +kernel)) | ((with_reducible refine w_ifDF ?_ ?_); (· first | omega | decide +kernel | exact ne_IS | exact ne_SI | exact ne_IN | exact ne_SN | exact ne_RN))
  | ((with_reducible refine w_mod ?_ ?_); (· omega)) | ((with_reducible refine w_fdiv ?_ ?_ ?_); (· omega); (· omega))
  | ((with_reducible refine w_mulL ?_ ?_ ?_); (· omega); (· omega)) | ((with_reducible refine w_mulR ?_ ?_ ?_); (· omega); (· omega))
  | with_reducible refine w_lenL (sqL (by assumption)) ?_ | with_reducible refine w_lenL (by assumption) ?_ | with_reducible refine w_lenT (sqT (by assumption)) ?_ | with_reducible refine w_lenT (by assumption) ?_))
local macro_rules | `(tactic| walk_at "go") => `(tactic| repeat walk_at "go1")
/-! ### shares.py: units, rounding -/
def hows : List Str := ["near", "even", "down", "up"]
/-- what a value's units are -/
def Units (K : PySem.W.Frag) (H : Hp) (x : V) (b : Int) (how : Str) : Prop := ∃ a, x = .ref a ∧ SqT K H a [.int b, .str how] ∧ 2 ≤ b ∧ b ≤ 100 ∧ how ∈ hows
def spIsUnits (K : PySem.W.Frag) : Sp := fun vs H Q _ => ∃ x, vs = [x] ∧ ((∃ b how, Units K H x b how ∧ Q (.bl true) H))
def spChkUnits (K : PySem.W.Frag) : Sp := fun vs H Q _ => ∃ x, vs = [x] ∧ ((∃ b how, Units K H x b how ∧ Q .non H))
/-- the integer to which a / u is rounded -/
def roundZ (how : Str) (a u : Int) : Int :=
  if how = "down" ∨ a % u = 0 then a / u else if how = "up" then a / u + 1 else if 2 * (a % u) ≠ u then a / u + (if u < 2 * (a % u) then 1 else 0) else if how = "near" then a / u + 1 else a / u + a / u % 2
section
variable {P : Program} {w : World} {K : PySem.W.Frag} {mg : Str → Option Value} {base : Heap}
theorem C_is_units (T : Txt K mg) : Cal P w K mg base 3 "is_units" ["value"] (spIsUnits K) := by
  have C_is_tuple := C_is_tuple (P := P) (w := w) (base := base) T
  have C_is_between := C_is_between (P := P) (w := w) (base := base) T
  have C_is_word := C_is_word (P := P) (w := w) (base := base) T
  obtain ⟨fd, F⟩ := T.d_is_units
  refine ⟨_, fd, okG F sc_is_units (fun vs H Q E h => ?_) (fun cdv A outer s H vs Q E hr hgd h => ?_), T.g_is_units, F.kp, (F.bindsN fun _ _ _ _ _ _ us hl => match us, hl with | [_], _ => rfl)⟩
  · obtain ⟨x, rfl, _⟩ := h
    rfl
  · obtain ⟨x, rfl, b, how, ⟨a, rfl, hu, h2, h100, hh⟩, q⟩ := h
    refine ⟨_, PSs.nox (pss_one (ps_ret (pe_and (pe_cal C_is_tuple (hr.mono (by decide)) hgd (by rfl) (pa_cons (pv 0) (pa_cons (pe_ci T.c_PAIR rfl) (pa_cons (pe_ci T.c_PAIR rfl) pa_nil)))) (pe_and (pe_cal C_is_between (hr.mono (by decide)) hgd (by rfl) (pa_cons (pe_ix (x_ix (K := K) rfl) (pv 0) pe_int (fun _ _ => rfl)) (pa_cons (pe_ci T.c_LEAST_UNITS rfl) (pa_cons (pe_ci T.c_MOST_UNITS rfl) pa_nil)))) (pe_one (pe_cal C_is_word (hr.mono (by decide)) hgd (by rfl) (pa_cons (pe_ix (x_ix (K := K) rfl) (pv 0) pe_int (fun _ _ => rfl)) (pa_cons (pe_glob (v := .ref (He.ga K "HOWS")) rfl T.c_HOWS rfl) pa_nil)))))))), ?_⟩
    try dsimp only [cxOf, Cx.nox, Cx.wish]
    rw [st_is_units]; walk_at "go"
    refine ⟨_, 2, 2, rfl, .inl ⟨a, _, rfl, hu, ?_⟩⟩
    walk_at "go"
    refine w_ifT ?_
    walk_at "go"
    refine ⟨_, .int, 2, 100, rfl, isI, ?_⟩
    have e : betw (.int b) 2 100 = true := by
      show (decide (2 ≤ b) && decide (b ≤ 100)) = true
      simp [h2, h100]
    rw [e]
    walk_at "go"
    refine ⟨_, _, rfl, .inl ⟨how, _, hows, rfl, rfl, T.t_HOWS H, ?_⟩⟩
    rw [decide_eq_true hh]
    exact q
theorem C_check_units (T : Txt K mg) : Cal P w K mg base 4 "check_units" ["value"] (spChkUnits K) := by
  have C_is_units := C_is_units (P := P) (w := w) (base := base) T
  obtain ⟨fd, F⟩ := T.d_check_units
  refine ⟨_, fd, okG F sc_check_units (fun vs H Q E h => ?_) (fun cdv A outer s H vs Q E hr hgd h => ?_), T.g_check_units, F.kp, (F.bindsN fun _ _ _ _ _ _ us hl => match us, hl with | [_], _ => rfl)⟩
  · obtain ⟨x, rfl, _⟩ := h
    rfl
  · obtain ⟨x, rfl, b, how, hu, q⟩ := h
    refine ⟨_, PSs.nox (pss_one (ps_if (pt_not (pt_val (pe_cal C_is_units (hr.mono (by decide)) hgd (by rfl) (pa_cons (pv 0) pa_nil)))) (pss_one ps_never) pss_nil)), ?_⟩
    try dsimp only [cxOf, Cx.nox, Cx.wish]
    rw [st_check_units]; walk_at "go"
    refine ⟨_, rfl, b, how, hu, ?_⟩
    walk_at "go"
    exact q
end

/-! ### the stretch of a share: plain reckoning -/
inductive Sh where
  | none | some | n (i : Int)
def Sh.v : Sh → V
  | .none => .str "none"
  | .some => .str "some"
  | .n i => .int i
def Sh.ok (b : Int) : Sh → Prop
  | .n i => 0 ≤ i ∧ i ≤ b
  | _ => True
def halvesZ (how : Str) (s : Int) : Int × Bool × Int × Bool :=
  if how = "down" then (2 * s, true, 2 * s + 2, false) else if how = "up" then (2 * s - 2, false, 2 * s, true) else (2 * s - 1, decide (how = "near") || decide (s % 2 = 0), 2 * s + 1, decide (how = "even") && decide (s % 2 = 0))
def lowZ (how : Str) (s : Int) : Int × Bool := if (halvesZ how s).1 < 0 then (0, true) else ((halvesZ how s).1, (halvesZ how s).2.1)
def highZ (b : Int) (how : Str) (s : Int) : Int × Bool := if 2 * b < (halvesZ how s).2.2.1 then (2 * b, true) else ((halvesZ how s).2.2.1, (halvesZ how s).2.2.2)
def gz (a u : Int) : Int := (Int.gcd a u : Int)
/-- (l0, l1, il, h0, h1, ih) of a share's stretch -/
def strZ (b : Int) (how : Str) : Sh → Int × Int × Bool × Int × Int × Bool
  | .none => (0, 1, true, 0, 1, true)
  | .some => (0, 1, false, 1, b, false)
  | .n s => ((lowZ how s).1 / gz (lowZ how s).1 (2 * b), 2 * b / gz (lowZ how s).1 (2 * b), (lowZ how s).2, (highZ b how s).1 / gz (highZ b how s).1 (2 * b), 2 * b / gz (highZ b how s).1 (2 * b), (highZ b how s).2)
def strD (t : Int × Int × Bool × Int × Int × Bool) : PyData := .tuple [.tuple [.int t.1, .int t.2.1], .bool t.2.2.1, .tuple [.int t.2.2.2.1, .int t.2.2.2.2.1], .bool t.2.2.2.2.2]
def withinB (t : Int × Int × Bool × Int × Int × Bool) (m n : Int) : Bool :=
  (decide (0 < m * t.2.1 - t.1 * n) || (decide (m * t.2.1 - t.1 * n = 0) && t.2.2.1)) && (decide (0 < t.2.2.2.1 * n - m * t.2.2.2.2.1) || (decide (t.2.2.2.1 * n - m * t.2.2.2.2.1 = 0) && t.2.2.2.2.2))
def rightB (b : Int) (how : Str) : Sh → Int → Int → Bool
  | .none, m, _ => decide (m = 0)
  | .some, m, n => decide (0 < b * m) && decide (b * m < n)
  | .n s, m, n => decide (roundZ how (b * m) n = s)
theorem gz_pos {a u : Int} (h : 0 < u) : 0 < gz a u := by
  have : 0 < Int.gcd a u := Int.gcd_pos_of_ne_zero_right a (by omega)
  unfold gz
  omega
theorem gz_l (a u : Int) : a / gz a u * gz a u = a := Int.ediv_mul_cancel (Int.gcd_dvd_left a u)
theorem gz_r (a u : Int) : u / gz a u * gz a u = u := Int.ediv_mul_cancel (Int.gcd_dvd_right a u)
/-- the sign of a difference by least terms -/
theorem sign_low {l u m n g : Int} (hg : 0 < g) : (0 < m * u - l * n ↔ 0 < m * (u * g) - (l * g) * n) ∧ (m * u - l * n = 0 ↔ m * (u * g) - (l * g) * n = 0) := by
  have e : m * (u * g) - (l * g) * n = (m * u - l * n) * g := by
    rw [Int.sub_mul, Int.mul_assoc, Int.mul_assoc, Int.mul_assoc, Int.mul_comm g n]
  rw [e]
  constructor
  · constructor
    · intro h
      exact Int.mul_pos h hg
    · intro h
      exact Int.pos_of_mul_pos_left h hg
  · constructor
    · intro h
      rw [h, Int.zero_mul]
    · intro h
      rcases Int.mul_eq_zero.mp h with z | z
      · exact z
      · omega
theorem sign_high {l u m n g : Int} (hg : 0 < g) : (0 < l * n - m * u ↔ 0 < (l * g) * n - m * (u * g)) ∧ (l * n - m * u = 0 ↔ (l * g) * n - m * (u * g) = 0) := by
  have e : (l * g) * n - m * (u * g) = (l * n - m * u) * g := by
    rw [Int.sub_mul, Int.mul_assoc, Int.mul_assoc, Int.mul_assoc, Int.mul_comm g n]
  rw [e]
  constructor
  · constructor
    · intro h
      exact Int.mul_pos h hg
    · intro h
      exact Int.pos_of_mul_pos_left h hg
  · constructor
    · intro h
      rw [h, Int.zero_mul]
    · intro h
      rcases Int.mul_eq_zero.mp h with z | z
      · exact z
      · omega

/-- the facts that omega wants of s * n beside a = q * n + r -/
theorem within_round {b m n s : Int} {how : Str} (hh : how = "near" ∨ how = "even" ∨ how = "down" ∨ how = "up") (hb : 2 ≤ b) (h0 : 0 ≤ m) (h1 : m ≤ n) (h2 : 1 ≤ n) (hs : 0 ≤ s) (hs2 : s ≤ b) :
    ((0 < 2 * (b * m) - (lowZ how s).1 * n ∨ 2 * (b * m) - (lowZ how s).1 * n = 0 ∧ (lowZ how s).2 = true) ∧ (0 < (highZ b how s).1 * n - 2 * (b * m) ∨ (highZ b how s).1 * n - 2 * (b * m) = 0 ∧ (highZ b how s).2 = true)) ↔ roundZ how (b * m) n = s := by
  generalize ha : b * m = a
  have a0 : 0 ≤ a := ha ▸ Int.mul_nonneg (by omega) h0
  have a1 : a ≤ b * n := ha ▸ Int.mul_le_mul_of_nonneg_left h1 (by omega)
  have e := Int.mul_ediv_add_emod a n
  have r0 := Int.emod_nonneg a (show n ≠ 0 by omega)
  have r1 := Int.emod_lt_of_pos a (show 0 < n by omega)
  unfold roundZ
  generalize a / n = q at *
  generalize a % n = r at *
  have eb : b * n = n * b := Int.mul_comm _ _
  have es : s * n = n * q + n * (s - q) := by rw [← Int.mul_add, Int.mul_comm]; congr 1; omega
  have ebq : n * b = n * q + n * (b - q) := by rw [← Int.mul_add]; congr 1; omega
  have tc : (s - q ≤ -2 ∧ n * (s - q) ≤ -(2 * n)) ∨ (s - q = -1 ∧ n * (s - q) = -n) ∨ (s - q = 0 ∧ n * (s - q) = 0) ∨ (s - q = 1 ∧ n * (s - q) = n) ∨ (2 ≤ s - q ∧ 2 * n ≤ n * (s - q)) := by
    have cs : s - q ≤ -2 ∨ s - q = -1 ∨ s - q = 0 ∨ s - q = 1 ∨ 2 ≤ s - q := by omega
    rcases cs with z | z | z | z | z
    · have := Int.mul_le_mul_of_nonneg_left z (show 0 ≤ n by omega)
      exact .inl ⟨z, by omega⟩
    · exact .inr (.inl ⟨z, by rw [z, Int.mul_neg, Int.mul_one]⟩)
    · exact .inr (.inr (.inl ⟨z, by rw [z, Int.mul_zero]⟩))
    · exact .inr (.inr (.inr (.inl ⟨z, by rw [z, Int.mul_one]⟩)))
    · have := Int.mul_le_mul_of_nonneg_left z (show 0 ≤ n by omega)
      exact .inr (.inr (.inr (.inr ⟨z, by omega⟩)))
  have sb : s = b → n * (s - q) = n * (b - q) := fun z => by rw [z]
  have q0 : 0 ≤ q := by
    rcases Int.lt_or_le q 0 with z | z
    · have := Int.mul_le_mul_of_nonneg_left (show q ≤ -1 by omega) (show 0 ≤ n by omega)
      omega
    · exact z
  generalize n * (s - q) = P at *
  generalize n * (b - q) = R at *
  generalize n * q = X at *
  have d1 : ((2 * s) * n) = 2 * (s * n) := Int.mul_assoc _ _ _
  have d2 : ((2 * s + 2) * n) = 2 * (s * n) + 2 * n := by rw [Int.add_mul, d1]
  have d3 : ((2 * s - 2) * n) = 2 * (s * n) - 2 * n := by rw [Int.sub_mul, d1]
  have d4 : ((2 * s + 1) * n) = 2 * (s * n) + n := by rw [Int.add_mul, d1, Int.one_mul]
  have d5 : ((2 * s - 1) * n) = 2 * (s * n) - n := by rw [Int.sub_mul, d1, Int.one_mul]
  have d6 : ((2 * b) * n) = 2 * (b * n) := Int.mul_assoc _ _ _
  have n1 : ("near" : Str) ≠ "down" := by decide
  have n2 : ("near" : Str) ≠ "up" := by decide
  have n3 : ("near" : Str) ≠ "even" := by decide
  have n4 : ("even" : Str) ≠ "down" := by decide
  have n5 : ("even" : Str) ≠ "up" := by decide
  have n6 : ("even" : Str) ≠ "near" := by decide
  have n7 : ("up" : Str) ≠ "down" := by decide
  have big : s = b ∧ P = R ∨ s < b := by
    rcases Int.lt_or_le s b with z | z
    · exact .inr z
    · have z2 : s = b := by omega
      exact .inl ⟨z2, sb z2⟩
  clear sb
  rw [eb, ebq] at d6
  rw [es] at d1 d2 d3 d4 d5
  rcases hh with rfl | rfl | rfl | rfl
  · simp only [lowZ, highZ, halvesZ, decide_true, Bool.true_or, decide_eq_false n3, Bool.false_and, n1, false_or, n2, if_true, if_false]
    rcases tc with ⟨t1, t2⟩ | ⟨t1, t2⟩ | ⟨t1, t2⟩ | ⟨t1, t2⟩ | ⟨t1, t2⟩ <;> (split <;> split <;> (simp only [d4, d5, d6, Int.zero_mul] ; simp only [and_true, and_false, or_false, Bool.false_eq_true] ; split <;> (try split) <;> (try split) <;> omega))
  · simp only [lowZ, highZ, halvesZ, decide_true, Bool.true_and, decide_eq_false n6, Bool.false_or, n4, false_or, n5, n6, if_true, if_false]
    rcases tc with ⟨t1, t2⟩ | ⟨t1, t2⟩ | ⟨t1, t2⟩ | ⟨t1, t2⟩ | ⟨t1, t2⟩ <;> (split <;> split <;> ((try simp only [d4, d5, d6, Int.zero_mul, decide_false, Bool.false_or, decide_eq_true_eq]) ; (try simp only [and_true]) ; split <;> (try split) <;> (try split) <;> omega))
  · simp only [lowZ, highZ, halvesZ, true_or, if_true]
    rcases tc with ⟨t1, t2⟩ | ⟨t1, t2⟩ | ⟨t1, t2⟩ | ⟨t1, t2⟩ | ⟨t1, t2⟩ <;> (split <;> split <;> (simp only [d1, d2, d6, Int.zero_mul] ; simp only [and_true, and_false, or_false, Bool.false_eq_true] ; omega))
  · simp only [lowZ, highZ, halvesZ, if_true, n7, false_or, if_false]
    rcases tc with ⟨t1, t2⟩ | ⟨t1, t2⟩ | ⟨t1, t2⟩ | ⟨t1, t2⟩ | ⟨t1, t2⟩ <;> (split <;> split <;> (simp only [d1, d3, d6, Int.zero_mul] ; simp only [and_true, and_false, or_false, Bool.false_eq_true] ; split <;> omega))
theorem withinB_eq {b m n : Int} {how : Str} {sh : Sh} (hh : how = "near" ∨ how = "even" ∨ how = "down" ∨ how = "up") (hb : 2 ≤ b) (h0 : 0 ≤ m) (h1 : m ≤ n) (h2 : 1 ≤ n) (hs : sh.ok b) : withinB (strZ b how sh) m n = rightB b how sh m n := by
  rw [Bool.eq_iff_iff]
  cases sh with
  | none =>
    simp only [withinB, strZ, rightB, Bool.and_eq_true, Bool.or_eq_true, decide_eq_true_eq, and_true, Int.mul_one, Int.zero_mul]
    omega
  | some =>
    simp only [withinB, strZ, rightB, Bool.and_eq_true, Bool.or_eq_true, decide_eq_true_eq, and_false, or_false, Bool.false_eq_true, Int.mul_one, Int.zero_mul, Int.one_mul]
    have e : m * b = b * m := Int.mul_comm _ _
    rw [e]
    constructor
    · rintro ⟨x, y⟩
      exact ⟨Int.mul_pos (by omega) (by omega), by omega⟩
    · rintro ⟨x, y⟩
      refine ⟨?_, by omega⟩
      rcases Int.lt_or_le 0 m with z | z
      · omega
      · have : m = 0 := by omega
        rw [this, Int.mul_zero] at x
        omega
  | n s =>
    have gl := gz_pos (a := (lowZ how s).1) (u := 2 * b) (by omega)
    have gh := gz_pos (a := (highZ b how s).1) (u := 2 * b) (by omega)
    have em : m * (2 * b) = 2 * (b * m) := by rw [Int.mul_comm, Int.mul_assoc]
    have sl := sign_low (l := (lowZ how s).1 / gz (lowZ how s).1 (2 * b)) (u := 2 * b / gz (lowZ how s).1 (2 * b)) (m := m) (n := n) gl
    have shh := sign_high (l := (highZ b how s).1 / gz (highZ b how s).1 (2 * b)) (u := 2 * b / gz (highZ b how s).1 (2 * b)) (m := m) (n := n) gh
    rw [gz_l, gz_r, em] at sl shh
    have key := within_round (s := s) hh hb h0 h1 h2 hs.1 hs.2
    rw [← sl.1, ← sl.2, ← shh.1, ← shh.2] at key
    unfold withinB rightB
    rw [Bool.and_eq_true, Bool.or_eq_true, Bool.or_eq_true, Bool.and_eq_true, Bool.and_eq_true, decide_eq_true_iff, decide_eq_true_iff, decide_eq_true_iff, decide_eq_true_iff, decide_eq_true_iff]
    exact key

end Ak
namespace Ak
open PySem PySem.Spec PyProof.Rows L2
/-! ### the walk of readings -/
local macro_rules | `(tactic| walk_at "go1") => `(tactic| (first
  | with_reducible refine w_seq ?_ | with_reducible refine w_next ?_ | with_reducible refine w_set ?_ | with_reducible refine w_asgS ?_ | with_reducible refine w_ret ?_ | with_reducible refine w_drop ?_ | with_reducible refine w_ifS ?_
  | with_reducible refine w_op ?_ | with_reducible refine w_un ?_ | ((with_reducible apply w_var); (· exact rfl)) | with_reducible refine w_c ?_
  | with_reducible refine w_add ?_ | with_reducible refine w_sub ?_ | with_reducible refine w_lt ?_ | with_reducible refine w_le ?_ | with_reducible refine w_gt ?_ | with_reducible refine w_ge ?_ | with_reducible refine w_neg ?_ | with_reducible refine w_isN ?_ | with_reducible refine w_notN ?_
  | ((with_reducible refine w_eq ?_ ?_); (· exact rfl)) | ((with_reducible refine w_ne ?_ ?_); (· exact rfl))
  | with_reducible refine w_test ?_ | with_reducible refine w_B ?_ | with_reducible refine w_or ?_ | with_reducible refine w_and ?_ | with_reducible refine w_not ?_ | with_reducible refine w_andV ?_ | with_reducible refine w_orV ?_ | with_reducible refine w_notV ?_
  | with_reducible refine w_ifE ?_ | with_reducible refine w_chain ?_ | with_reducible refine w_cb ?_ | with_reducible refine w_nil ?_ | with_reducible refine w_cons ?_ | with_reducible refine w_tup ?_ | with_reducible refine w_lst ?_ | with_reducible refine w_call ?_
  | with_reducible refine w_int1 ?_ | with_reducible refine w_abs ?_ | with_reducible refine w_max2 ?_ | with_reducible refine w_min2 ?_
  | with_reducible refine w_mknx ?_ | with_reducible refine w_mkrt ?_ | with_reducible refine w_mkbk ?_ | with_reducible refine w_mkct ?_ | with_reducible refine w_ifT ?_ | with_reducible refine w_ifF ?_ | with_reducible refine w_ifNT ?_ | with_reducible refine w_ifNF ?_
  | with_reducible refine w_lc ?_ | with_reducible refine w_lrg ?_ | with_reducible refine w_rg1 ?_ | with_reducible refine w_rg2 ?_ | with_reducible refine w_exI ?_ | with_reducible refine w_exI2 ?_
  | with_reducible refine w_bl ?_ | with_reducible refine w_asgT ?_ | with_reducible refine w_gcons ?_ | with_reducible refine w_gnil ?_ | with_reducible refine w_par ?_ | with_reducible refine w_pair ?_
  | ((with_reducible refine w_ixL (v := ?vv) (sqL (by assumption)) ?ee ?_); (case ee => exact rfl)) | ((with_reducible refine w_ixT (v := ?vv) (sqT (by assumption)) ?ee ?_); (case ee => exact rfl))
  | ((with_reducible refine w_ixL (v := ?vv) (by assumption) ?ee ?_); (case ee => exact rfl)) | ((with_reducible refine w_ixT (v := ?vv) (by assumption) ?ee ?_); (case ee => exact rfl))
  | ((with_reducible refine w_ifDT ?_ ?_); (· first | omega | decide +kernel)) | ((with_reducible refine w_ifDF ?_ ?_); (· first | omega | decide +kernel | exact ne_IS | exact ne_SI | exact ne_IN | exact ne_SN | exact ne_RN))
  | ((with_reducible refine w_mod ?_ ?_); (· omega)) | ((with_reducible refine w_fdiv ?_ ?_ ?_); (· omega); (· omega))
  | ((with_reducible refine w_mulL ?_ ?_ ?_); (· omega); (· omega)) | ((with_reducible refine w_mulR ?_ ?_ ?_); (· omega); (· omega))
  | with_reducible refine w_lenL (sqL (by assumption)) ?_ | with_reducible refine w_lenL (by assumption) ?_ | with_reducible refine w_lenT (sqT (by assumption)) ?_ | with_reducible refine w_lenT (by assumption) ?_))
local macro_rules | `(tactic| walk_at "go") => `(tactic| repeat walk_at "go1")
/-! ### words.py: divisors and fractions; shares.py: stretches -/
theorem sameT {K : PySem.W.Frag} {H H' : Hp} {a : Addr} {xs : List V} (e : Same H H') (h : SqT K H a xs) : SqT K H' a xs := by
  rcases h with (h | ⟨o, h⟩) | h
  · exact .inl (.inl (e _ _ h))
  · exact .inl (.inr ⟨o, e _ _ h⟩)
  · exact .inr h
def Sq (K : PySem.W.Frag) (H : Hp) (a : Addr) (xs : List V) : Prop := SqL K H a xs ∨ SqT K H a xs
theorem Sq.same {K : PySem.W.Frag} {H H' : Hp} {a : Addr} {xs : List V} (e : Same H H') (h : Sq K H a xs) : Sq K H' a xs := h.imp e.seq (sameT e)
theorem w_forSq {K : PySem.W.Frag} {σ : L2.St} {H : Hp} {D : Ends} {a : Addr} {xs : List V} {tl : TE} {g : TG} {tb : TS} (hx : Sq K H a xs) (hl : ∀ R : VK, R (.ref a) H → tl σ H R) (Pv : Nat → L2.St → Hp → Prop) (h0 : Pv 0 σ H) (hk : ∀ i σ' H', Pv i σ' H' → Same H H')
    (hs : ∀ i x σ' H', xs[i]? = some x → Pv i σ' H' → g x σ' H' fun σ2 H2 => tb { D with nx := Pv (i + 1), ct := Pv (i + 1), bk := D.nx } σ2 H2) (hd : ∀ σ' H', Pv xs.length σ' H' → D.nx σ' H') : tFor (iSeq K tl) g tb D σ H := by
  rcases hx with hx | hx
  · exact .inl (hl _ ⟨a, rfl, ⟨xs, hx⟩, for_list Pv h0 (fun i σ' H' _ p => (hk i σ' H' p).seq hx) hs hd⟩)
  · exact .inr (hl _ ⟨a, rfl, ⟨xs, hx⟩, for_tup Pv h0 (fun i σ' H' _ p => sameT (hk i σ' H' p) hx) hs hd⟩)
theorem IsK.same {K : PySem.W.Frag} {H H' : Hp} {x : V} {k : Kd} (e : Same H H') (h : IsK K H x k) : IsK K H' x k := by
  cases k with
  | tup => obtain ⟨a, xs, r, h⟩ := h; exact ⟨a, xs, r, sameT e h⟩
  | lst => obtain ⟨a, xs, r, h⟩ := h; exact ⟨a, xs, r, e.seq h⟩
  | dic => obtain ⟨a, kvs, r, h⟩ := h; exact ⟨a, kvs, r, e _ _ h⟩
  | own => obtain ⟨a, C, dx, fs, r, h, c⟩ := h; exact ⟨a, C, dx, fs, r, e _ _ h, c⟩
  | _ => exact h
mutual
theorem dp_same {K : PySem.W.Frag} {H H' : Hp} (e : Same H H') : ∀ (d : PyData) (v : V), Dp K H v d → Dp K H' v d
  | _, _, .non => .non
  | _, _, .bl b => .bl b
  | _, _, .int i => .int i
  | _, _, .str s => .str s
  | _, _, .lst h r => .lst (e.seq h) (dpAll_same e _ _ r)
  | _, _, .tup h r => .tup (sameT e h) (dpAll_same e _ _ r)
theorem dpAll_same {K : PySem.W.Frag} {H H' : Hp} (e : Same H H') : ∀ (ds : List PyData) (vs : List V), DpAll K H vs ds → DpAll K H' vs ds
  | _, _, .nil => .nil
  | _, _, .cons h r => .cons (dp_same e _ _ h) (dpAll_same e _ _ r)
end
def gcdL (ns : List Int) : Int := ns.foldl gz 0
theorem gz_nonneg (a u : Int) : 0 ≤ gz a u := Int.natCast_nonneg _
theorem gcdL_more {ns : List Int} {i : Nat} {x : Int} (h : ns[i]? = some x) : gcdL (ns.take (i + 1)) = gz (gcdL (ns.take i)) x := by
  unfold gcdL
  rw [List.take_add_one, h, List.foldl_append]
  rfl
theorem gcdL_nonneg (ns : List Int) : 0 ≤ gcdL ns := by
  unfold gcdL
  have : ∀ (l : List Int) (g : Int), 0 ≤ g → 0 ≤ l.foldl gz g := fun l => by
    induction l with
    | nil => intro g h; exact h
    | cons x l ih => intro g _; exact ih _ (gz_nonneg _ _)
  exact this ns 0 (Int.le_refl _)
theorem gcdL_two (a u : Int) : gcdL [a, u] = gz a u := by
  show gz (gz 0 a) u = gz a u
  unfold gz
  rw [Int.gcd_zero_left]
  simp [Int.gcd]
theorem gz_le {a u : Int} (h : 0 < u) : gz a u ≤ u := Int.le_of_dvd h (Int.gcd_dvd_right a u)
def spDiv (K : PySem.W.Frag) : Sp := fun vs H Q _ => ∃ a ns, vs = [.ref a] ∧ Sq K H a ((ns : List Int).map V.int) ∧ Q (.int (gcdL ns)) H
def spFrac : Sp := fun vs H Q _ => ∃ a u, vs = [.int a, .int u] ∧ 0 ≤ a ∧ 0 < u ∧ u.natAbs < 2 ^ 8000 ∧ ∀ p H', H p = none → Same H H' → H' p = some (.tup [.int (a / gz a u), .int (u / gz a u)]) → Q (.ref p) H'
def shareB (b : Int) : V → Bool
  | .str s => decide (s = "none") || decide (s = "some")
  | .int i => decide (0 ≤ i) && decide (i ≤ b)
  | _ => false
def spIsShare (K : PySem.W.Frag) : Sp := fun vs H Q _ => ∃ x y b how k, vs = [x, y] ∧ Units K H x b how ∧ IsK K H y k ∧ ∀ H', Same H H' → Q (.bl (shareB b y)) H'
def spChkShare (K : PySem.W.Frag) : Sp := fun vs H Q _ => ∃ x y b how k, vs = [x, y] ∧ Units K H x b how ∧ IsK K H y k ∧ shareB b y = true ∧ ∀ H', Same H H' → Q .non H'
def spHalves : Sp := fun vs H Q _ => ∃ how s, vs = [.str how, .int s] ∧ ∀ p H', H p = none → Same H H' → H' p = some (.tup [.int (halvesZ how s).1, .bl (halvesZ how s).2.1, .int (halvesZ how s).2.2.1, .bl (halvesZ how s).2.2.2]) → Q (.ref p) H'
def spStretch (K : PySem.W.Frag) : Sp := fun vs H Q _ => ∃ x sh b how, vs = [x, Sh.v sh] ∧ Units K H x b how ∧ sh.ok b ∧ ∀ v H', Same H H' → Dp K H' v (strD (strZ b how sh)) → Q v H'
theorem log8000 {j : Int} (h : j.natAbs < 2 ^ 8000) : j.natAbs.log2 < 9000 := Nat.lt_trans (PySem.Flt.log2_lt_of (by decide) h) (by decide)
theorem Sh.kind (sh : Sh) {K : PySem.W.Frag} {H : Hp} : ∃ k, IsK K H sh.v k := by
  cases sh with
  | none => exact ⟨.str, isS⟩
  | some => exact ⟨.str, isS⟩
  | n i => exact ⟨.int, isI⟩
theorem Sh.good {sh : Sh} {b : Int} (h : sh.ok b) : shareB b sh.v = true := by
  cases sh with
  | none => exact (by decide : (decide (("none" : Str) = "none") || decide (("none" : Str) = "some")) = true)
  | some => exact (by decide : (decide (("some" : Str) = "none") || decide (("some" : Str) = "some")) = true)
  | n i =>
    show (decide (0 ≤ i) && decide (i ≤ b)) = true
    rw [decide_eq_true h.1, decide_eq_true h.2] <;> rfl
theorem Units.same {K : PySem.W.Frag} {H H' : Hp} {x : V} {b : Int} {how : Str} (e : Same H H') (h : Units K H x b how) : Units K H' x b how := by
  obtain ⟨a, r, h, g⟩ := h
  exact ⟨a, r, sameT e h, g⟩
section
variable {P : Program} {w : World} {K : PySem.W.Frag} {mg : Str → Option Value} {base : Heap}
theorem C_divisor_of (T : Txt K mg) : Cal P w K mg base 1 "divisor_of" ["numbers"] (spDiv K) := by
  obtain ⟨fd, F⟩ := T.d_divisor_of
  refine ⟨_, fd, okG F sc_divisor_of (fun vs H Q E h => ?_) (fun cdv A outer s H vs Q E hr hgd h => ?_), T.g_divisor_of, F.kp, (F.bindsN fun _ _ _ _ _ _ us hl => match us, hl with | [_], _ => rfl)⟩
  · obtain ⟨x, k, rfl, _⟩ := h
    rfl
  · obtain ⟨a, ns, rfl, hS, q⟩ := h
    refine ⟨_, PSs.nox (pss_cons (ps_set (i := 1) sc_divisor_of.nd rfl (.inl rfl) pe_int)
    (pss_cons (ps_for PassesOwn.never rfl (xi_seq (K := K) rfl (pv 0)) (pg_name (i := 2) sc_divisor_of.nd rfl (.inl rfl))
    (pss_cons (ps_set (i := 3) sc_divisor_of.nd rfl (.inl rfl) (pe_callB c_abs (by rfl) T.z_abs (by decide +kernel) (pa_cons (pv 2) pa_nil)))
    (pss_one (ps_while PassesOwn.never (pt_cmpR o_gt (pv 3) pe_int (nomark _)) (pss_one (ps_par (i := 1) (j := 3) (by rfl) sc_divisor_of.nd rfl rfl (by decide) rfl rfl (pa_cons (pv 3) (pa_cons (pe_op o_mod (pv 1) (pv 3)) pa_nil)) (by rfl)))))))
    (pss_one (ps_ret (pv 1))))), ?_⟩
    try dsimp only [cxOf, Cx.nox, Cx.wish]
    rw [st_divisor_of]; walk_at "go"
    refine w_forSq hS (fun R h => ⟨_, rfl, h⟩) (fun i σ' H' => ∃ y2 y3, σ' = [some (.ref a), some (.int (gcdL (ns.take i))), y2, y3] ∧ H' = H) ⟨none, none, rfl, rfl⟩ (fun i σ' H' h => by obtain ⟨_, _, _, rfl⟩ := h; exact Same.refl _) ?_ ?_
    · rintro i x σ' H' hx ⟨y2, y3, rfl, rfl⟩
      obtain ⟨z, hz, rfl⟩ : ∃ z, ns[i]? = some z ∧ x = V.int z := by
        rw [List.getElem?_map] at hx
        cases e : ns[i]? with
        | none => rw [e] at hx; cases hx
        | some z => rw [e] at hx; exact ⟨z, rfl, (Option.some.inj hx).symm⟩
      show tSeq _ _ _ _ _
      walk_at "go"
      have g0 := gcdL_nonneg (ns.take i)
      refine ⟨fun m σ2 H2 => ∃ f r : Nat, σ2 = [some (.ref a), some (.int f), some (.int z), some (.int r)] ∧ Nat.gcd f r = Int.gcd (gcdL (ns.take i)) z ∧ m = r ∧ H2 = H', ⟨z.natAbs, (gcdL (ns.take i)).toNat, z.natAbs, ?_, ?_, rfl, rfl⟩, ?_⟩
      · show [some (V.ref a), some (V.int (gcdL (ns.take i))), some (V.int z), some (V.int (if z < 0 then -z else z))] = _
        have e1 : ((gcdL (ns.take i)).toNat : Int) = gcdL (ns.take i) := by omega
        have e2 : (z.natAbs : Int) = if z < 0 then -z else z := by split <;> omega
        rw [e1, e2]
      · unfold Int.gcd
        congr 1
        omega
      · rintro m σ2 H2 ⟨f, r, rfl, hg, rfl, rfl⟩
        walk_at "go"
        refine w_if (fun e => ?_) (fun e => ?_)
        · refine ⟨fun σ3 H3 => ∃ f2 r2 : Nat, σ3 = [some (.ref a), some (.int f2), some (.int z), some (.int r2)] ∧ Nat.gcd f2 r2 = Int.gcd (gcdL (ns.take i)) z ∧ r2 < m ∧ H3 = H2, fun σ3 H3 h => ?_, ?_⟩
          · obtain ⟨f2, r2, h1, h2, h3, h4⟩ := h
            exact ⟨r2, h3, f2, r2, h1, h2, rfl, h4⟩
          · walk_at "go"
            refine ⟨m, f % m, ?_, ?_, Nat.mod_lt _ (by omega), rfl⟩
            · show [some (V.ref a), some (V.int m), some (V.int z), some (V.int ((f : Int) % (m : Int)))] = _
              rw [← Int.natCast_emod]
            · rw [← hg, Nat.gcd_comm m, ← Nat.gcd_rec, Nat.gcd_comm]
        · have r0 : m = 0 := by omega
          subst r0
          refine ⟨some (.int z), some (.int 0), ?_, rfl⟩
          rw [gcdL_more hz]
          unfold gz
          rw [← hg, Nat.gcd_zero_right]
          rfl
    · rintro σ' H' ⟨y2, y3, rfl, rfl⟩
      rw [List.length_map, List.take_length]
      walk_at "go"
      exact q
theorem C_fraction (T : Txt K mg) : Cal P w K mg base 2 "fraction" ["above", "under"] spFrac := by
  have C_divisor_of := C_divisor_of (P := P) (w := w) (base := base) T
  obtain ⟨fd, F⟩ := T.d_fraction
  refine ⟨_, fd, okG F sc_fraction (fun vs H Q E h => ?_) (fun cdv A outer s H vs Q E hr hgd h => ?_), T.g_fraction, F.kp, (F.bindsN fun _ _ _ _ _ _ us hl => match us, hl with | [_, _], _ => rfl)⟩
  · obtain ⟨x, k, rfl, _⟩ := h
    rfl
  · obtain ⟨a, u, rfl, h0, h1, h2, q⟩ := h
    refine ⟨_, PSs.nox (pss_cons (ps_set (i := 2) sc_fraction.nd rfl (.inl rfl) (pe_cal C_divisor_of (hr.mono (by decide)) hgd (by rfl) (pa_cons (pe_lst (pa_cons (pv 0) (pa_cons (pv 1) pa_nil))) pa_nil)))
    (pss_one (ps_ret (pe_tup (pa_cons (pe_op o_fdiv (pv 0) (pv 2)) (pa_cons (pe_op o_fdiv (pv 1) (pv 2)) pa_nil)))))), ?_⟩
    try dsimp only [cxOf, Cx.nox, Cx.wish]
    rw [st_fraction]; walk_at "go"
    refine w_newL rfl (fun l H1 nl hl s1 => ?_)
    walk_at "go"
    refine ⟨l, [a, u], rfl, .inl (sqL hl), ?_⟩
    rw [gcdL_two]
    walk_at "go"
    have gp := gz_pos (a := a) h1
    have gle := gz_le (a := a) h1
    have cd : ∀ z : Int, CDivW z (gz a u) := fun z => ⟨gp, log8000 (Nat.lt_of_le_of_lt (by omega) h2)⟩
    refine w_fdivW (cd _) ?_
    walk_at "go"
    refine w_fdivW (cd _) ?_
    walk_at "go"
    refine w_newT rfl (fun p H2 np hp s2 => ?_)
    walk_at "go"
    exact q p H2 (s1.free np) (s1.trans s2) hp
theorem C_is_share (T : Txt K mg) : Cal P w K mg base 3 "is_share" ["units", "value"] (spIsShare K) := by
  have C_is_between := C_is_between (P := P) (w := w) (base := base) T
  have C_is_word := C_is_word (P := P) (w := w) (base := base) T
  obtain ⟨fd, F⟩ := T.d_is_share
  refine ⟨_, fd, okG F sc_is_share (fun vs H Q E h => ?_) (fun cdv A outer s H vs Q E hr hgd h => ?_), T.g_is_share, F.kp, (F.bindsN fun _ _ _ _ _ _ us hl => match us, hl with | [_, _], _ => rfl)⟩
  · obtain ⟨x, y, b, how, k, rfl, _⟩ := h
    rfl
  · obtain ⟨x, y, b, how, k, rfl, ⟨a, rfl, hu, h2, h100, hh⟩, hk, q⟩ := h
    refine ⟨_, PSs.nox (pss_one (ps_ret (pe_or (pe_cal C_is_word (hr.mono (by decide)) hgd (by rfl) (pa_cons (pv 1) (pa_cons (pe_tup (pa_cons (pe_cs T.c_NONE rfl) (pa_cons (pe_cs T.c_SOME rfl) pa_nil))) pa_nil))) (pe_one (pe_cal C_is_between (hr.mono (by decide)) hgd (by rfl) (pa_cons (pv 1) (pa_cons pe_int (pa_cons (pe_ix (x_ix (K := K) rfl) (pv 0) pe_int (fun _ _ => rfl)) pa_nil)))))))), ?_⟩
    try dsimp only [cxOf, Cx.nox, Cx.wish]
    rw [st_is_share]; walk_at "go"
    refine w_newT rfl (fun p H1 np hp s1 => ?_)
    walk_at "go"
    have hu1 := sameT s1 hu
    by_cases ks : k = .str
    · subst ks
      obtain ⟨z, rfl⟩ := hk
      refine ⟨_, _, rfl, .inl ⟨z, p, ["none", "some"], rfl, rfl, sqT hp, ?_⟩⟩
      have e : shareB b (.str z) = decide (z ∈ (["none", "some"] : List Str)) := by
        show (decide (z = "none") || decide (z = "some")) = _
        simp only [List.mem_cons, List.not_mem_nil, or_false, Bool.decide_or]
      rw [← e]
      walk_at "go"
      cases e2 : shareB b (.str z) with
      | true =>
        refine w_ifT ?_
        rw [e2] at q
        exact q _ s1
      | false =>
        refine w_ifF ?_
        walk_at "go"
        refine ⟨_, .str, 0, b, rfl, isS, ?_⟩
        rw [e2] at q
        exact q _ s1
    · refine ⟨_, _, rfl, .inr ⟨k, hk.same s1, ks, ?_⟩⟩
      walk_at "go"
      refine ⟨_, k, 0, b, rfl, hk.same s1, ?_⟩
      have e : betw y 0 b = shareB b y := by
        cases k with
        | str => exact absurd rfl ks
        | int => obtain ⟨i, rfl⟩ := hk; rfl
        | bool => obtain ⟨i, rfl⟩ := hk; rfl
        | none => obtain rfl : y = .non := hk; rfl
        | tup => obtain ⟨i, _, rfl, _⟩ := hk; rfl
        | lst => obtain ⟨i, _, rfl, _⟩ := hk; rfl
        | dic => obtain ⟨i, _, rfl, _⟩ := hk; rfl
        | own => obtain ⟨i, _, _, _, rfl, _⟩ := hk; rfl
      rw [e]
      exact q _ s1
theorem C_check_share (T : Txt K mg) : Cal P w K mg base 4 "check_share" ["units", "value"] (spChkShare K) := by
  have C_is_share := C_is_share (P := P) (w := w) (base := base) T
  obtain ⟨fd, F⟩ := T.d_check_share
  refine ⟨_, fd, okG F sc_check_share (fun vs H Q E h => ?_) (fun cdv A outer s H vs Q E hr hgd h => ?_), T.g_check_share, F.kp, (F.bindsN fun _ _ _ _ _ _ us hl => match us, hl with | [_, _], _ => rfl)⟩
  · obtain ⟨x, y, b, how, k, rfl, _⟩ := h
    rfl
  · obtain ⟨x, y, b, how, k, rfl, hu, hk, ok, q⟩ := h
    refine ⟨_, PSs.nox (pss_one (ps_if (pt_not (pt_val (pe_cal C_is_share (hr.mono (by decide)) hgd (by rfl) (pa_cons (pv 0) (pa_cons (pv 1) pa_nil))))) (pss_one ps_never) pss_nil)), ?_⟩
    try dsimp only [cxOf, Cx.nox, Cx.wish]
    rw [st_check_share]; walk_at "go"
    refine ⟨x, y, b, how, k, rfl, hu, hk, fun H1 s1 => ?_⟩
    rw [ok]
    walk_at "go"
    exact q _ s1
theorem C_halves (T : Txt K mg) : Cal P w K mg base 1 "halves" ["how", "share"] spHalves := by
  obtain ⟨fd, F⟩ := T.d_halves
  refine ⟨_, fd, okG F sc_halves (fun vs H Q E h => ?_) (fun cdv A outer s H vs Q E hr hgd h => ?_), T.g_halves, F.kp, (F.bindsN fun _ _ _ _ _ _ us hl => match us, hl with | [_, _], _ => rfl)⟩
  · obtain ⟨x, k, rfl, _⟩ := h
    rfl
  · obtain ⟨how, s, rfl, q⟩ := h
    refine ⟨_, PSs.nox (pss_cons (ps_if (pt_cmpR op_eq (pv 0) (pe_cs T.c_DOWN rfl) (nomark _)) (pss_one (ps_ret (pe_tup (pa_cons (pe_op o_mul pe_int (pv 1)) (pa_cons pe_bl (pa_cons (pe_op o_add (pe_op o_mul pe_int (pv 1)) pe_int) (pa_cons pe_bl pa_nil))))))) pss_nil)
    (pss_cons (ps_if (pt_cmpR op_eq (pv 0) (pe_cs T.c_UP rfl) (nomark _)) (pss_one (ps_ret (pe_tup (pa_cons (pe_op o_sub (pe_op o_mul pe_int (pv 1)) pe_int) (pa_cons pe_bl (pa_cons (pe_op o_mul pe_int (pv 1)) (pa_cons pe_bl pa_nil))))))) pss_nil)
    (pss_cons (ps_set (i := 2) sc_halves.nd rfl (.inl rfl) (pe_cmpR op_eq (pe_op o_mod (pv 1) pe_int) pe_int (nomark _)))
    (pss_one (ps_ret (pe_tup (pa_cons (pe_op o_sub (pe_op o_mul pe_int (pv 1)) pe_int) (pa_cons (pe_or (pe_cmpR op_eq (pv 0) (pe_cs T.c_NEAR rfl) (nomark _)) (pe_one (pv 2))) (pa_cons (pe_op o_add (pe_op o_mul pe_int (pv 1)) pe_int) (pa_cons (pe_and (pe_cmpR op_eq (pv 0) (pe_cs T.c_EVEN rfl) (nomark _)) (pe_one (pv 2))) pa_nil)))))))))), ?_⟩
    try dsimp only [cxOf, Cx.nox, Cx.wish]
    rw [st_halves]; walk_at "go"
    unfold halvesZ at q
    refine w_if (fun e => ?_) (fun e => ?_)
    · walk_at "go"
      refine w_newT rfl (fun p H2 np hp s2 => ?_)
      walk_at "go"
      rw [if_pos (V.str.inj e)] at q
      exact q p H2 np s2 hp
    · have n1 : how ≠ "down" := fun z => e (by rw [z])
      rw [if_neg n1] at q
      walk_at "go"
      refine w_if (fun e => ?_) (fun e => ?_)
      · walk_at "go"
        refine w_newT rfl (fun p H2 np hp s2 => ?_)
        walk_at "go"
        rw [if_pos (V.str.inj e)] at q
        exact q p H2 np s2 hp
      · have n2 : how ≠ "up" := fun z => e (by rw [z])
        rw [if_neg n2] at q
        walk_at "go"
        have ev : decide (V.int (s % 2) = V.int 0) = decide (s % 2 = 0) := by simp
        have en : ∀ z : Str, decide (V.str how = V.str z) = decide (how = z) := fun z => by simp
        rw [ev]
        refine w_if (fun e => ?_) (fun e => ?_)
        · walk_at "go"
          have e2 : how = "near" := V.str.inj e
          subst e2
          refine w_newT rfl (fun p H2 np hp s2 => ?_)
          walk_at "go"
          exact q p H2 np s2 hp
        · have n3 : how ≠ "near" := fun z => e (by rw [z])
          walk_at "go"
          refine w_if (fun e => ?_) (fun e => ?_)
          · have e2 : how = "even" := V.str.inj e
            walk_at "go"
            refine w_newT rfl (fun p H2 np hp s2 => ?_)
            walk_at "go"
            rw [decide_eq_false n3, decide_eq_true e2, Bool.false_or, Bool.true_and] at q
            exact q p H2 np s2 hp
          · have n4 : how ≠ "even" := fun z => e (by rw [z])
            walk_at "go"
            refine w_newT rfl (fun p H2 np hp s2 => ?_)
            walk_at "go"
            rw [decide_eq_false n3, decide_eq_false n4, Bool.false_or, Bool.false_and] at q
            exact q p H2 np s2 hp
theorem C_stretch (T : Txt K mg) : Cal P w K mg base 5 "stretch" ["units", "share"] (spStretch K) := by
  have C_check_units := C_check_units (P := P) (w := w) (base := base) T
  have C_check_share := C_check_share (P := P) (w := w) (base := base) T
  have C_halves := C_halves (P := P) (w := w) (base := base) T
  have C_fraction := C_fraction (P := P) (w := w) (base := base) T
  obtain ⟨fd, F⟩ := T.d_stretch
  refine ⟨_, fd, okG F sc_stretch (fun vs H Q E h => ?_) (fun cdv A outer s H vs Q E hr hgd h => ?_), T.g_stretch, F.kp, (F.bindsN fun _ _ _ _ _ _ us hl => match us, hl with | [_, _], _ => rfl)⟩
  · obtain ⟨x, y, b, how, rfl, _⟩ := h
    rfl
  · obtain ⟨x, sh, b, how, rfl, hU, hok, q⟩ := h
    refine ⟨_, PSs.nox (pss_cons (ps_expr (pe_cal C_check_units (hr.mono (by decide)) hgd (by rfl) (pa_cons (pv 0) pa_nil)))
    (pss_cons (ps_expr (pe_cal C_check_share (hr.mono (by decide)) hgd (by rfl) (pa_cons (pv 0) (pa_cons (pv 1) pa_nil))))
    (pss_cons (ps_asg (pv 0) (xg_tup (K := K) (n := 2) rfl rfl (pgs_cons (pg_name (i := 2) sc_stretch.nd rfl (.inl rfl)) (pgs_cons (pg_name (i := 3) sc_stretch.nd rfl (.inl rfl)) pgs_nil))))
    (pss_cons (ps_if (pt_cmpR op_eq (pv 1) (pe_cs T.c_NONE rfl) (nomark _)) (pss_one (ps_ret (pe_tup (pa_cons (pe_tup (pa_cons pe_int (pa_cons pe_int pa_nil))) (pa_cons pe_bl (pa_cons (pe_tup (pa_cons pe_int (pa_cons pe_int pa_nil))) (pa_cons pe_bl pa_nil))))))) pss_nil)
    (pss_cons (ps_if (pt_cmpR op_eq (pv 1) (pe_cs T.c_SOME rfl) (nomark _)) (pss_one (ps_ret (pe_tup (pa_cons (pe_tup (pa_cons pe_int (pa_cons pe_int pa_nil))) (pa_cons pe_bl (pa_cons (pe_tup (pa_cons pe_int (pa_cons (pv 2) pa_nil))) (pa_cons pe_bl pa_nil))))))) pss_nil)
    (pss_cons (ps_asg (pe_cal C_halves (hr.mono (by decide)) hgd (by rfl) (pa_cons (pv 3) (pa_cons (pv 1) pa_nil))) (xg_tup (K := K) (n := 4) rfl rfl (pgs_cons (pg_name (i := 4) sc_stretch.nd rfl (.inl rfl)) (pgs_cons (pg_name (i := 5) sc_stretch.nd rfl (.inl rfl)) (pgs_cons (pg_name (i := 6) sc_stretch.nd rfl (.inl rfl)) (pgs_cons (pg_name (i := 7) sc_stretch.nd rfl (.inl rfl)) pgs_nil))))))
    (pss_cons (ps_if (pt_cmpR o_lt (pv 4) pe_int (nomark _)) (pss_one (ps_asg (pe_tup (pa_cons pe_int (pa_cons pe_bl pa_nil))) (xg_tup (K := K) (n := 2) rfl rfl (pgs_cons (pg_name (i := 4) sc_stretch.nd rfl (.inl rfl)) (pgs_cons (pg_name (i := 5) sc_stretch.nd rfl (.inl rfl)) pgs_nil))))) pss_nil)
    (pss_cons (ps_if (pt_cmpR o_gt (pv 6) (pe_op o_mul pe_int (pv 2)) (nomark _)) (pss_one (ps_par (i := 6) (j := 7) (by rfl) sc_stretch.nd rfl rfl (by decide) rfl rfl (pa_cons (pe_op o_mul pe_int (pv 2)) (pa_cons pe_bl pa_nil)) (by rfl))) pss_nil)
    (pss_one (ps_ret (pe_tup (pa_cons (pe_cal C_fraction (hr.mono (by decide)) hgd (by rfl) (pa_cons (pv 4) (pa_cons (pe_op o_mul pe_int (pv 2)) pa_nil))) (pa_cons (pv 5) (pa_cons (pe_cal C_fraction (hr.mono (by decide)) hgd (by rfl) (pa_cons (pv 6) (pa_cons (pe_op o_mul pe_int (pv 2)) pa_nil))) (pa_cons (pv 7) pa_nil))))))))))))))), ?_⟩
    try dsimp only [cxOf, Cx.nox, Cx.wish]
    rw [st_stretch]; walk_at "go"
    refine ⟨_, rfl, b, how, hU, ?_⟩
    walk_at "go"
    obtain ⟨k, hk⟩ := sh.kind (K := K) (H := H)
    refine ⟨_, _, b, how, k, rfl, hU, hk, Sh.good hok, fun H1 s1 => ?_⟩
    walk_at "go"
    obtain ⟨a, rfl, hu, h2, h100, hh⟩ := hU.same s1
    refine ⟨a, _, rfl, hu, rfl, ?_⟩
    walk_at "go"
    cases sh with
    | none =>
      walk_at "go"
      refine w_newT rfl (fun p H2 np hp s2 => ?_)
      walk_at "go"
      refine w_newT rfl (fun p2 H3 np2 hp2 s3 => ?_)
      walk_at "go"
      refine w_newT rfl (fun p3 H4 np3 hp3 s4 => ?_)
      walk_at "go"
      exact q _ _ (s1.trans (s2.trans (s3.trans s4))) (.tup (sqT hp3) (.cons (.tup (sqT (s4 _ _ (s3 _ _ hp))) (.cons (.int _) (.cons (.int _) .nil))) (.cons (.bl _) (.cons (.tup (sqT (s4 _ _ hp2)) (.cons (.int _) (.cons (.int _) .nil))) (.cons (.bl _) .nil)))))
    | some =>
      walk_at "go"
      walk_at "go"
      refine w_newT rfl (fun p H2 np hp s2 => ?_)
      walk_at "go"
      refine w_newT rfl (fun p2 H3 np2 hp2 s3 => ?_)
      walk_at "go"
      refine w_newT rfl (fun p3 H4 np3 hp3 s4 => ?_)
      walk_at "go"
      exact q _ _ (s1.trans (s2.trans (s3.trans s4))) (.tup (sqT hp3) (.cons (.tup (sqT (s4 _ _ (s3 _ _ hp))) (.cons (.int _) (.cons (.int _) .nil))) (.cons (.bl _) (.cons (.tup (sqT (s4 _ _ hp2)) (.cons (.int _) (.cons (.int _) .nil))) (.cons (.bl _) .nil)))))
    | n sn =>
      dsimp only [Sh.v]
      walk_at "go"
      walk_at "go"
      refine ⟨how, sn, rfl, fun p H2 np s2 hp => ?_⟩
      walk_at "go"
      refine ⟨p, _, rfl, sqT hp, rfl, ?_⟩
      walk_at "go"
      have cl : (2 * b).natAbs < 2 ^ 8000 := Nat.lt_of_le_of_lt (show (2 * b).natAbs ≤ 2 ^ 8 by omega) (Nat.pow_lt_pow_right (by decide) (by decide))
      have lo0 : 0 ≤ (lowZ how sn).1 := by
        unfold lowZ
        split
        · exact Int.le_refl _
        · show 0 ≤ (halvesZ how sn).1
          omega
      have hi0 : 0 ≤ (highZ b how sn).1 := by
        have hk := hok.1
        have h3 : 0 ≤ (halvesZ how sn).2.2.1 := by
          unfold halvesZ
          split
          · show 0 ≤ 2 * sn + 2
            omega
          · split
            · show 0 ≤ 2 * sn
              omega
            · show 0 ≤ 2 * sn + 1
              omega
        unfold highZ
        split
        · show 0 ≤ 2 * b
          omega
        · exact h3
      refine w_if (fun e1 => ?_) (fun e1 => ?_)
      · walk_at "go"
        refine w_newT rfl (fun p3 H3 np3 hp3 s3 => ?_)
        walk_at "go"
        refine ⟨p3, _, rfl, sqT hp3, rfl, ?_⟩
        walk_at "go"
        have el : lowZ how sn = (0, true) := by unfold lowZ; rw [if_pos e1]
        refine w_if (fun e2 => ?_) (fun e2 => ?_)
        · have eh : highZ b how sn = (2 * b, true) := by unfold highZ; rw [if_pos e2]
          walk_at "go"
          refine ⟨_, _, rfl, Int.le_refl _, by omega, cl, fun p5 H5 np5 s5 hp5 => ?_⟩
          walk_at "go"
          refine ⟨_, _, rfl, by omega, by omega, cl, fun p6 H6 np6 s6 hp6 => ?_⟩
          walk_at "go"
          refine w_newT rfl (fun p7 H7 np7 hp7 s7 => ?_)
          walk_at "go"
          refine q _ _ ((s1.trans (s2.trans s3)).trans (s5.trans (s6.trans s7))) ?_
          simp only [strD, strZ, el, eh]
          exact .tup (sqT hp7) (.cons (.tup (sqT (s7 _ _ (s6 _ _ hp5))) (.cons (.int _) (.cons (.int _) .nil))) (.cons (.bl _) (.cons (.tup (sqT (s7 _ _ hp6)) (.cons (.int _) (.cons (.int _) .nil))) (.cons (.bl _) .nil))))
        · have eh : highZ b how sn = ((halvesZ how sn).2.2.1, (halvesZ how sn).2.2.2) := by unfold highZ; rw [if_neg e2]
          rw [eh] at hi0
          walk_at "go"
          refine ⟨_, _, rfl, Int.le_refl _, by omega, cl, fun p5 H5 np5 s5 hp5 => ?_⟩
          walk_at "go"
          refine ⟨_, _, rfl, hi0, by omega, cl, fun p6 H6 np6 s6 hp6 => ?_⟩
          walk_at "go"
          refine w_newT rfl (fun p7 H7 np7 hp7 s7 => ?_)
          walk_at "go"
          refine q _ _ ((s1.trans (s2.trans s3)).trans (s5.trans (s6.trans s7))) ?_
          simp only [strD, strZ, el, eh]
          exact .tup (sqT hp7) (.cons (.tup (sqT (s7 _ _ (s6 _ _ hp5))) (.cons (.int _) (.cons (.int _) .nil))) (.cons (.bl _) (.cons (.tup (sqT (s7 _ _ hp6)) (.cons (.int _) (.cons (.int _) .nil))) (.cons (.bl _) .nil))))
      · walk_at "go"
        have el : lowZ how sn = ((halvesZ how sn).1, (halvesZ how sn).2.1) := by unfold lowZ; rw [if_neg e1]
        rw [el] at lo0
        refine w_if (fun e2 => ?_) (fun e2 => ?_)
        · have eh : highZ b how sn = (2 * b, true) := by unfold highZ; rw [if_pos e2]
          walk_at "go"
          refine ⟨_, _, rfl, lo0, by omega, cl, fun p5 H5 np5 s5 hp5 => ?_⟩
          walk_at "go"
          refine ⟨_, _, rfl, by omega, by omega, cl, fun p6 H6 np6 s6 hp6 => ?_⟩
          walk_at "go"
          refine w_newT rfl (fun p7 H7 np7 hp7 s7 => ?_)
          walk_at "go"
          refine q _ _ ((s1.trans s2).trans (s5.trans (s6.trans s7))) ?_
          simp only [strD, strZ, el, eh]
          exact .tup (sqT hp7) (.cons (.tup (sqT (s7 _ _ (s6 _ _ hp5))) (.cons (.int _) (.cons (.int _) .nil))) (.cons (.bl _) (.cons (.tup (sqT (s7 _ _ hp6)) (.cons (.int _) (.cons (.int _) .nil))) (.cons (.bl _) .nil))))
        · have eh : highZ b how sn = ((halvesZ how sn).2.2.1, (halvesZ how sn).2.2.2) := by unfold highZ; rw [if_neg e2]
          rw [eh] at hi0
          walk_at "go"
          refine ⟨_, _, rfl, lo0, by omega, cl, fun p5 H5 np5 s5 hp5 => ?_⟩
          walk_at "go"
          refine ⟨_, _, rfl, hi0, by omega, cl, fun p6 H6 np6 s6 hp6 => ?_⟩
          walk_at "go"
          refine w_newT rfl (fun p7 H7 np7 hp7 s7 => ?_)
          walk_at "go"
          refine q _ _ ((s1.trans s2).trans (s5.trans (s6.trans s7))) ?_
          simp only [strD, strZ, el, eh]
          exact .tup (sqT hp7) (.cons (.tup (sqT (s7 _ _ (s6 _ _ hp5))) (.cons (.int _) (.cons (.int _) .nil))) (.cons (.bl _) (.cons (.tup (sqT (s7 _ _ hp6)) (.cons (.int _) (.cons (.int _) .nil))) (.cons (.bl _) .nil))))
end

end Ak
namespace Ak
open PySem PySem.Spec PyProof.Rows L2
/-! ### the walk of readings -/
local macro_rules | `(tactic| walk_at "go1") => `(tactic| (first
  | with_reducible refine w_seq ?_ | with_reducible refine w_next ?_ | with_reducible refine w_set ?_ | with_reducible refine w_asgS ?_ | with_reducible refine w_ret ?_ | with_reducible refine w_drop ?_ | with_reducible refine w_ifS ?_
  | with_reducible refine w_op ?_ | with_reducible refine w_un ?_ | ((with_reducible apply w_var); (· exact rfl)) | with_reducible refine w_c ?_
  | with_reducible refine w_add ?_ | with_reducible refine w_sub ?_ | with_reducible refine w_lt ?_ | with_reducible refine w_le ?_ | with_reducible refine w_gt ?_ | with_reducible refine w_ge ?_ | with_reducible refine w_neg ?_ | with_reducible refine w_isN ?_ | with_reducible refine w_notN ?_
  | ((with_reducible refine w_eq ?_ ?_); (· exact rfl)) | ((with_reducible refine w_ne ?_ ?_); (· exact rfl))
  | with_reducible refine w_test ?_ | with_reducible refine w_B ?_ | with_reducible refine w_or ?_ | with_reducible refine w_and ?_ | with_reducible refine w_not ?_ | with_reducible refine w_andV ?_ | with_reducible refine w_orV ?_ | with_reducible refine w_notV ?_
  | with_reducible refine w_ifE ?_ | with_reducible refine w_chain ?_ | with_reducible refine w_cb ?_ | with_reducible refine w_nil ?_ | with_reducible refine w_cons ?_ | with_reducible refine w_tup ?_ | with_reducible refine w_lst ?_ | with_reducible refine w_call ?_
  | with_reducible refine w_int1 ?_ | with_reducible refine w_abs ?_ | with_reducible refine w_max2 ?_ | with_reducible refine w_min2 ?_
  | with_reducible refine w_mknx ?_ | with_reducible refine w_mkrt ?_ | with_reducible refine w_mkbk ?_ | with_reducible refine w_mkct ?_ | with_reducible refine w_ifT ?_ | with_reducible refine w_ifF ?_ | with_reducible refine w_ifNT ?_ | with_reducible refine w_ifNF ?_
  | with_reducible refine w_lc ?_ | with_reducible refine w_lrg ?_ | with_reducible refine w_rg1 ?_ | with_reducible refine w_rg2 ?_ | with_reducible refine w_exI ?_ | with_reducible refine w_exI2 ?_
  | with_reducible refine w_bl ?_ | with_reducible refine w_asgT ?_ | with_reducible refine w_gcons ?_ | with_reducible refine w_gnil ?_ | with_reducible refine w_par ?_ | with_reducible refine w_pair ?_
  | ((with_reducible refine w_ixL (v := ?vv) (sqL (by assumption)) ?ee ?_); (case ee => exact rfl)) | ((with_reducible refine w_ixT (v := ?vv) (sqT (by assumption)) ?ee ?_); (case ee => exact rfl))
  | ((with_reducible refine w_ixL (v := ?vv) (by assumption) ?ee ?_); (case ee => exact rfl)) | ((with_reducible refine w_ixT (v := ?vv) (by assumption) ?ee ?_); (case ee => exact rfl))
  | ((with_reducible refine w_ifDT ?_ ?_); (· first | omega | decide +kernel)) | ((with_reducible refine w_ifDF ?_ ?_); (· first | omega | decide +kernel | exact ne_IS | exact ne_SI | exact ne_IN | exact ne_SN | exact ne_RN))
  | ((with_reducible refine w_mod ?_ ?_); (· omega)) | ((with_reducible refine w_fdiv ?_ ?_ ?_); (· omega); (· omega))
  | ((with_reducible refine w_mulL ?_ ?_ ?_); (· omega); (· omega)) | ((with_reducible refine w_mulR ?_ ?_ ?_); (· omega); (· omega))
  | with_reducible refine w_lenL (sqL (by assumption)) ?_ | with_reducible refine w_lenL (by assumption) ?_ | with_reducible refine w_lenT (sqT (by assumption)) ?_ | with_reducible refine w_lenT (by assumption) ?_))
local macro_rules | `(tactic| walk_at "go") => `(tactic| repeat walk_at "go1")
/-! ### the law's own defs -/
theorem hows_mem {how : Str} (h : how ∈ hows) : how = "near" ∨ how = "even" ∨ how = "down" ∨ how = "up" := by
  simpa [hows] using h
def spLUnits : Sp := fun vs H Q _ => ∃ p n xs m, vs = [.ref p, .int m] ∧ H p = some (.lst xs) ∧ PotL n xs ∧ n < 99000 ∧ 2 ≤ m ∧ m ≤ 1000 ∧
  Draw (fun v H' => ∃ a b how, v = .ref a ∧ H' a = some (.tup [.int b, .str how]) ∧ H a = none ∧ 2 ≤ b ∧ b ≤ m ∧ how ∈ hows) p (n + 2) H Q
theorem PotL.mono {n m : Nat} {xs : List V} (h : PotL n xs) (le : n ≤ m) : PotL m xs := by
  obtain ⟨a, b, c, e, h1, h2, h3, h4, h5⟩ := h
  exact ⟨a, b, c, e, h1, h2, h3, h4, by omega⟩
section
variable {P : Program} {w : World} {K : PySem.W.Frag} {mg : Str → Option Value} {base : Heap}
theorem C_l_units (T : Txt K mg) : Cal P w K mg base 3 "_law_units" ["_law_pot_here", "_law_most"] spLUnits := by
  have C_l_take := C_l_take (P := P) (w := w) (base := base) T
  have C_l_of := C_l_of (P := P) (w := w) (base := base) T
  obtain ⟨fd, F⟩ := T.d_l_units
  refine ⟨_, fd, okG F sc_l_units (fun vs H Q E h => ?_) (fun cdv A outer s H vs Q E hr hgd h => ?_), T.g_l_units, F.kp, (F.bindsN fun _ _ _ _ _ _ us hl => match us, hl with | [_, _], _ => rfl)⟩
  · obtain ⟨x, k, u, m, rfl, _⟩ := h
    rfl
  · obtain ⟨p, n, xs, m, rfl, hp, hP, hn, h2, h3, q⟩ := h
    refine ⟨_, PSs.nox (pss_one (ps_ret (pe_tup (pa_cons (pe_op o_add pe_int (pe_cal C_l_take (hr.mono (by decide)) hgd (by rfl) (pa_cons (pv 0) (pa_cons (pe_op o_sub (pv 1) pe_int) pa_nil)))) (pa_cons (pe_cal C_l_of (hr.mono (by decide)) hgd (by rfl) (pa_cons (pv 0) (pa_cons (pe_lst (pa_cons pe_str (pa_cons pe_str (pa_cons pe_str (pa_cons pe_str pa_nil))))) pa_nil))) pa_nil))))), ?_⟩
    try dsimp only [cxOf, Cx.nox, Cx.wish]
    rw [st_l_units]; walk_at "go"
    refine ⟨p, n, m - 1, xs, rfl, hp, hP, by omega, by omega, by omega, ?_⟩
    rintro v H1 ys b1 hp1 hP1 ⟨r, rfl, r0, r1⟩
    walk_at "go"
    refine w_newL rfl (fun l H2 nl hl s2 => ?_)
    walk_at "go"
    have hne : p ≠ l := ne_of_none hp1 nl
    refine ⟨p, n + 1, ys, l, _, rfl, s2 _ _ hp1, hP1, by omega, hne, sqL hl, by decide, by decide, ?_⟩
    intro v H3 zs b3 hp3 hP3 mv
    obtain ⟨how, rfl, hh⟩ : ∃ how, v = .str how ∧ how ∈ hows := by
      simp only [List.mem_cons, List.not_mem_nil, or_false] at mv
      rcases mv with e | e | e | e <;> exact ⟨_, e, by decide⟩
    walk_at "go"
    refine w_newT rfl (fun a H4 na ha s4 => ?_)
    walk_at "go"
    have b4 : But p H H4 := b1.trans ((But.trans s2.but b3).trans s4.but)
    refine q _ _ _ b4 (s4 _ _ hp3) hP3 ⟨a, 2 + r, how, rfl, ha, ?_, by omega, by omega, hh⟩
    cases e : H a with
    | none => rfl
    | some o =>
      have hap : a ≠ p := fun z => by
        rw [z, hp3] at na
        cases na
      rw [b3 _ _ hap (s2 _ _ (b1 _ _ hap e))] at na
      cases na
end

def spLRounded : Sp := fun vs H Q _ => ∃ how a u, vs = [.str how, .int a, .int u] ∧ how ∈ hows ∧ 0 < u ∧ u < 1073741824 ∧ Q (.int (roundZ how a u)) H
section
variable {P : Program} {w : World} {K : PySem.W.Frag} {mg : Str → Option Value} {base : Heap}
theorem C_l_rounded (T : Txt K mg) : Cal P w K mg base 1 "_law_rounded" ["_law_how", "_law_above", "_law_under"] spLRounded := by
  obtain ⟨fd, F⟩ := T.d_l_rounded
  refine ⟨_, fd, okG F sc_l_rounded (fun vs H Q E h => ?_) (fun cdv A outer s H vs Q E hr hgd h => ?_), T.g_l_rounded, F.kp, (F.bindsN fun _ _ _ _ _ _ us hl => match us, hl with | [_, _, _], _ => rfl)⟩
  · obtain ⟨x, k, u, rfl, _⟩ := h
    rfl
  · obtain ⟨how, a, u, rfl, hh, h0, h1, q⟩ := h
    refine ⟨_, PSs.nox (pss_cons (ps_par (i := 3) (j := 4) (by rfl) sc_l_rounded.nd rfl rfl (by decide) rfl rfl (pa_cons (pe_op o_fdiv (pv 1) (pv 2)) (pa_cons (pe_op o_mod (pe_callTy c_int1 (by rfl) T.z_int (by decide +kernel) (pa_cons (pv 1) pa_nil)) (pv 2)) pa_nil)) (by rfl))
    (pss_cons (ps_if (PW.pt (pw_or (pt_cmpR op_eq (pv 4) pe_int (nomark _)) (pw_or1 (pt_cmpR op_eq (pv 0) pe_str (nomark _))))) (pss_one (ps_ret (pv 3))) pss_nil)
    (pss_cons (ps_if (pt_cmpR op_eq (pv 0) pe_str (nomark _)) (pss_one (ps_ret (pe_op o_add (pv 3) pe_int))) pss_nil)
    (pss_cons (ps_if (pt_cmpR op_eq (pe_op o_mul pe_int (pv 4)) (pv 2) (nomark _)) (pss_one (ps_ret (pe_ifExp (PW.pt (pw_or (pt_cmpR op_eq (pv 0) pe_str (nomark _)) (pw_or1 (pt_cmpR op_eq (pe_op o_mod (pe_callTy c_int1 (by rfl) T.z_int (by decide +kernel) (pa_cons (pv 3) pa_nil)) pe_int) pe_int (nomark _))))) (pe_op o_add (pv 3) pe_int) (pv 3)))) pss_nil)
    (pss_one (ps_ret (pe_ifExp (pt_cmpR o_gt (pe_op o_mul pe_int (pv 4)) (pv 2) (nomark _)) (pe_op o_add (pv 3) pe_int) (pv 3)))))))), ?_⟩
    have m0 := Int.emod_nonneg a (show u ≠ 0 by omega)
    have m1 := Int.emod_lt_of_pos a h0
    try dsimp only [cxOf, Cx.nox, Cx.wish]
    rw [st_l_rounded]; walk_at "go"
    unfold roundZ at q
    refine w_ifI (fun e => ?_) (fun e => ?_)
    · walk_at "go"
      rw [if_pos (.inr e)] at q
      exact q
    · walk_at "go"
      refine w_if (fun e2 => ?_) (fun e2 => ?_)
      · walk_at "go"
        rw [if_pos (.inl (V.str.inj e2))] at q
        exact q
      · have n1 : how ≠ "down" := fun z => e2 (by rw [z])
        rw [if_neg (by rintro (z | z); exact n1 z; exact e z)] at q
        walk_at "go"
        refine w_if (fun e3 => ?_) (fun e3 => ?_)
        · walk_at "go"
          rw [if_pos (V.str.inj e3)] at q
          exact q
        · have n2 : how ≠ "up" := fun z => e3 (by rw [z])
          rw [if_neg n2] at q
          walk_at "go"
          refine w_ifI (fun e4 => ?_) (fun e4 => ?_)
          · rw [if_neg (by simpa using e4)] at q
            walk_at "go"
            refine w_if (fun e5 => ?_) (fun e5 => ?_)
            · walk_at "go"
              rw [if_pos (V.str.inj e5)] at q
              exact q
            · rw [if_neg (fun z => e5 (by rw [z]))] at q
              walk_at "go"
              refine w_ifI (fun e6 => ?_) (fun e6 => ?_)
              · walk_at "go"
                rw [e6] at q
                exact q
              · walk_at "go"
                have e7 : a / u % 2 = 0 := by omega
                rw [e7, Int.add_zero] at q
                exact q
          · rw [if_pos e4] at q
            walk_at "go"
            refine w_if (fun e5 => ?_) (fun e5 => ?_)
            · walk_at "go"
              rw [if_pos e5] at q
              exact q
            · walk_at "go"
              rw [if_neg e5, Int.add_zero] at q
              exact q
end

/-! ### the law's own stretches -/
def spLRight (K : PySem.W.Frag) : Sp := fun vs H Q _ => ∃ a sh b how m n, vs = [.ref a, Sh.v sh, .int m, .int n] ∧ SqT K H a [.int b, .str how] ∧ how ∈ hows ∧ 2 ≤ b ∧ b ≤ 100 ∧ 0 ≤ m ∧ m ≤ n ∧ 1 ≤ n ∧ n < 1073741824 ∧ Q (.bl (rightB b how sh m n)) H
def spLCommon : Sp := fun vs H Q _ => ∃ a u, vs = [.int a, .int u] ∧ Q (.int (gz a u)) H
def spLPair : Sp := fun vs H Q _ => ∃ a u, vs = [.int a, .int u] ∧ 0 ≤ a ∧ 0 < u ∧ u < 1073741824 ∧ ∀ p H', H p = none → Same H H' → H' p = some (.tup [.int (a / gz a u), .int (u / gz a u)]) → Q (.ref p) H'
def spLStretch (K : PySem.W.Frag) : Sp := fun vs H Q _ => ∃ a sh b how, vs = [.ref a, Sh.v sh] ∧ SqT K H a [.int b, .str how] ∧ how ∈ hows ∧ 2 ≤ b ∧ b ≤ 100 ∧ sh.ok b ∧ ∀ v H', Same H H' → Dp K H' v (strD (strZ b how sh)) → Q v H'
def spLWithin (K : PySem.W.Frag) : Sp := fun vs H Q _ => ∃ v t m n, vs = [v, .int m, .int n] ∧ Dp K H v (strD t) ∧ 0 ≤ m ∧ m < 1073741824 ∧ 0 ≤ n ∧ n < 1073741824 ∧ Q (.bl (withinB t m n)) H
theorem dpI {K : PySem.W.Frag} {H : Hp} {v : V} {i : Int} (h : Dp K H v (.int i)) : v = .int i := by cases h; rfl
theorem dpB {K : PySem.W.Frag} {H : Hp} {v : V} {b : Bool} (h : Dp K H v (.bool b)) : v = .bl b := by cases h; rfl
theorem dpT {K : PySem.W.Frag} {H : Hp} {v : V} {ds : List PyData} (h : Dp K H v (.tuple ds)) : ∃ a xs, v = .ref a ∧ SqT K H a xs ∧ DpAll K H xs ds := by
  cases h with
  | tup h r => exact ⟨_, _, rfl, h, r⟩
theorem dp2 {K : PySem.W.Frag} {H : Hp} {v : V} {i j : Int} (h : Dp K H v (.tuple [.int i, .int j])) : ∃ a, v = .ref a ∧ SqT K H a [.int i, .int j] := by
  obtain ⟨a, xs, rfl, h, r⟩ := dpT h
  cases r with
  | cons h1 r => cases r with
    | cons h2 r =>
      cases r
      rw [dpI h1, dpI h2] at h
      exact ⟨a, rfl, h⟩
theorem dpStr {K : PySem.W.Frag} {H : Hp} {v : V} {t : Int × Int × Bool × Int × Int × Bool} (h : Dp K H v (strD t)) : ∃ a c d, v = .ref a ∧ SqT K H a [.ref c, .bl t.2.2.1, .ref d, .bl t.2.2.2.2.2] ∧ SqT K H c [.int t.1, .int t.2.1] ∧ SqT K H d [.int t.2.2.2.1, .int t.2.2.2.2.1] := by
  obtain ⟨a, xs, rfl, h, r⟩ := dpT h
  cases r with
  | cons h1 r => cases r with
    | cons h2 r => cases r with
      | cons h3 r => cases r with
        | cons h4 r =>
          cases r
          obtain ⟨c, rfl, hc⟩ := dp2 h1
          obtain ⟨d, rfl, hd⟩ := dp2 h3
          rw [dpB h2, dpB h4] at h
          exact ⟨a, c, d, rfl, h, hc, hd⟩
section
variable {P : Program} {w : World} {K : PySem.W.Frag} {mg : Str → Option Value} {base : Heap}
theorem C_l_is_right (T : Txt K mg) : Cal P w K mg base 2 "_law_is_right" ["_law_units_here", "_law_share", "_law_many", "_law_whole"] (spLRight K) := by
  have C_l_rounded := C_l_rounded (P := P) (w := w) (base := base) T
  obtain ⟨fd, F⟩ := T.d_l_is_right
  refine ⟨_, fd, okG F sc_l_is_right (fun vs H Q E h => ?_) (fun cdv A outer s H vs Q E hr hgd h => ?_), T.g_l_is_right, F.kp, (F.bindsN fun _ _ _ _ _ _ us hl => match us, hl with | [_, _, _, _], _ => rfl)⟩
  · obtain ⟨x, y, b, how, k, n, rfl, _⟩ := h
    rfl
  · obtain ⟨a, sh, b, how, m, n, rfl, hu, hh, b2, b100, m0, mn, n1, n2, q⟩ := h
    refine ⟨_, PSs.nox (pss_cons (ps_if (pt_cmpR o_isN (pv 1) pe_non (nomark _)) (pss_one (ps_ret pe_bl)) pss_nil)
    (pss_cons (ps_if (pt_cmpR op_eq (pv 3) pe_int (nomark _)) (pss_one (ps_ret pe_bl)) pss_nil)
    (pss_cons (ps_if (pt_cmpR op_eq (pv 1) pe_str (nomark _)) (pss_one (ps_ret (pe_cmpR op_eq (pv 2) pe_int (nomark _)))) pss_nil)
    (pss_cons (ps_if (pt_cmpR op_eq (pv 1) pe_str (nomark _)) (pss_one (ps_ret (pe_chain o_lt o_lt pe_int (pe_op o_mul (pe_ix (x_ix (K := K) rfl) (pv 0) pe_int (fun _ _ => rfl)) (pv 2)) (pv 3)))) pss_nil)
    (pss_one (ps_ret (pe_cmpR op_eq (pe_cal C_l_rounded (hr.mono (by decide)) hgd (by rfl) (pa_cons (pe_ix (x_ix (K := K) rfl) (pv 0) pe_int (fun _ _ => rfl)) (pa_cons (pe_op o_mul (pe_ix (x_ix (K := K) rfl) (pv 0) pe_int (fun _ _ => rfl)) (pv 2)) (pa_cons (pv 3) pa_nil)))) (pv 1) (nomark _)))))))), ?_⟩
    try dsimp only [cxOf, Cx.nox, Cx.wish]
    rw [st_l_is_right]; walk_at "go"
    refine w_if (fun e => by cases sh <;> cases e) (fun _ => ?_)
    walk_at "go"
    refine w_ifI (fun e => by omega) (fun _ => ?_)
    walk_at "go"
    cases sh with
    | none =>
      walk_at "go"
      have e : decide (V.int m = V.int 0) = decide (m = 0) := by simp
      rw [e]
      exact q
    | some =>
      walk_at "go"
      have q2 : Q (.bl (decide (0 < b * m) && decide (b * m < n))) H := q
      refine w_if (fun e => ?_) (fun e => ?_)
      · walk_at "go"
        rw [decide_eq_true e, Bool.true_and] at q2
        exact q2
      · rw [decide_eq_false e, Bool.false_and] at q2
        exact q2
    | n sn =>
      dsimp only [Sh.v]
      walk_at "go"
      refine ⟨how, _, n, rfl, hh, by omega, n2, ?_⟩
      walk_at "go"
      have e : decide (V.int (roundZ how (b * m) n) = V.int sn) = decide (roundZ how (b * m) n = sn) := by simp
      show Q (.bl (decide (V.int (roundZ how (b * m) n) = V.int sn))) H
      rw [e]
      exact q
theorem C_l_common (T : Txt K mg) : Cal P w K mg base 1 "_law_common" ["_law_one", "_law_other"] spLCommon := by
  obtain ⟨fd, F⟩ := T.d_l_common
  refine ⟨_, fd, okG F sc_l_common (fun vs H Q E h => ?_) (fun cdv A outer s H vs Q E hr hgd h => ?_), T.g_l_common, F.kp, (F.bindsN fun _ _ _ _ _ _ us hl => match us, hl with | [_, _], _ => rfl)⟩
  · obtain ⟨x, y, rfl, _⟩ := h
    rfl
  · obtain ⟨a, u, rfl, q⟩ := h
    refine ⟨_, PSs.nox (pss_cons (ps_par (i := 2) (j := 3) (by rfl) sc_l_common.nd rfl rfl (by decide) rfl rfl (pa_cons (pe_callB c_abs (by rfl) T.z_abs (by decide +kernel) (pa_cons (pv 0) pa_nil)) (pa_cons (pe_callB c_abs (by rfl) T.z_abs (by decide +kernel) (pa_cons (pv 1) pa_nil)) pa_nil)) (by rfl))
    (pss_cons (ps_while PassesOwn.never (pt_cmpR o_gt (pv 3) pe_int (nomark _)) (pss_one (ps_par (i := 2) (j := 3) (by rfl) sc_l_common.nd rfl rfl (by decide) rfl rfl (pa_cons (pv 3) (pa_cons (pe_op o_mod (pe_callTy c_int1 (by rfl) T.z_int (by decide +kernel) (pa_cons (pv 2) pa_nil)) (pe_callTy c_int1 (by rfl) T.z_int (by decide +kernel) (pa_cons (pv 3) pa_nil))) pa_nil)) (by rfl))))
    (pss_one (ps_ret (pv 2))))), ?_⟩
    try dsimp only [cxOf, Cx.nox, Cx.wish]
    rw [st_l_common]; walk_at "go"
    refine ⟨fun m σ2 H2 => ∃ f r : Nat, σ2 = [some (.int a), some (.int u), some (.int f), some (.int r)] ∧ Nat.gcd f r = Int.gcd a u ∧ m = r ∧ H2 = H, ⟨u.natAbs, a.natAbs, u.natAbs, ?_, rfl, rfl, rfl⟩, ?_⟩
    · show [some (V.int a), some (V.int u), some (V.int (if a < 0 then -a else a)), some (V.int (if u < 0 then -u else u))] = _
      have e1 : (a.natAbs : Int) = if a < 0 then -a else a := by split <;> omega
      have e2 : (u.natAbs : Int) = if u < 0 then -u else u := by split <;> omega
      rw [e1, e2]
    · rintro m σ2 H2 ⟨f, r, rfl, hg, rfl, rfl⟩
      walk_at "go"
      refine w_if (fun e => ?_) (fun e => ?_)
      · refine ⟨fun σ3 H3 => ∃ f2 r2 : Nat, σ3 = [some (.int a), some (.int u), some (.int f2), some (.int r2)] ∧ Nat.gcd f2 r2 = Int.gcd a u ∧ r2 < m ∧ H3 = H2, fun σ3 H3 h => ?_, ?_⟩
        · obtain ⟨f2, r2, h1, h2, h3, h4⟩ := h
          exact ⟨r2, h3, f2, r2, h1, h2, rfl, h4⟩
        · walk_at "go"
          refine ⟨m, f % m, ?_, ?_, Nat.mod_lt _ (by omega), rfl⟩
          · show [some (V.int a), some (V.int u), some (V.int m), some (V.int ((f : Int) % (m : Int)))] = _
            rw [← Int.natCast_emod]
          · rw [← hg, Nat.gcd_comm m, ← Nat.gcd_rec, Nat.gcd_comm]
      · have r0 : m = 0 := by omega
        subst r0
        walk_at "go"
        rw [Nat.gcd_zero_right] at hg
        show Q (.int (f : Int)) H2
        rw [hg]
        exact q
theorem C_l_pair (T : Txt K mg) : Cal P w K mg base 2 "_law_pair" ["_law_above", "_law_under"] spLPair := by
  have C_l_common := C_l_common (P := P) (w := w) (base := base) T
  obtain ⟨fd, F⟩ := T.d_l_pair
  refine ⟨_, fd, okG F sc_l_pair (fun vs H Q E h => ?_) (fun cdv A outer s H vs Q E hr hgd h => ?_), T.g_l_pair, F.kp, (F.bindsN fun _ _ _ _ _ _ us hl => match us, hl with | [_, _], _ => rfl)⟩
  · obtain ⟨x, y, rfl, _⟩ := h
    rfl
  · obtain ⟨a, u, rfl, a0, u0, u1, q⟩ := h
    refine ⟨_, PSs.nox (pss_cons (ps_set (i := 2) sc_l_pair.nd rfl (.inl rfl) (pe_cal C_l_common (hr.mono (by decide)) hgd (by rfl) (pa_cons (pv 0) (pa_cons (pv 1) pa_nil))))
    (pss_one (ps_ret (pe_tup (pa_cons (pe_op o_fdiv (pv 0) (pv 2)) (pa_cons (pe_op o_fdiv (pv 1) (pv 2)) pa_nil)))))), ?_⟩
    try dsimp only [cxOf, Cx.nox, Cx.wish]
    rw [st_l_pair]; walk_at "go"
    refine ⟨a, u, rfl, ?_⟩
    have gp := gz_pos (a := a) u0
    have gle := gz_le (a := a) u0
    walk_at "go"
    refine w_newT rfl (fun p H2 np hp s2 => ?_)
    walk_at "go"
    exact q p H2 np s2 hp
theorem C_l_stretch (T : Txt K mg) : Cal P w K mg base 3 "_law_stretch" ["_law_units_here", "_law_share"] (spLStretch K) := by
  have C_l_pair := C_l_pair (P := P) (w := w) (base := base) T
  obtain ⟨fd, F⟩ := T.d_l_stretch
  refine ⟨_, fd, okG F sc_l_stretch (fun vs H Q E h => ?_) (fun cdv A outer s H vs Q E hr hgd h => ?_), T.g_l_stretch, F.kp, (F.bindsN fun _ _ _ _ _ _ us hl => match us, hl with | [_, _], _ => rfl)⟩
  · obtain ⟨x, y, b, how, rfl, _⟩ := h
    rfl
  · obtain ⟨a, sh, b, how, rfl, hu, hh, b2, b100, hok, q⟩ := h
    refine ⟨_, PSs.nox (pss_cons (ps_asg (pv 0) (xg_tup (K := K) (n := 2) rfl rfl (pgs_cons (pg_name (i := 2) sc_l_stretch.nd rfl (.inl rfl)) (pgs_cons (pg_name (i := 3) sc_l_stretch.nd rfl (.inl rfl)) pgs_nil))))
    (pss_cons (ps_if (pt_cmpR op_eq (pv 1) pe_str (nomark _)) (pss_one (ps_ret (pe_tup (pa_cons (pe_tup (pa_cons pe_int (pa_cons pe_int pa_nil))) (pa_cons pe_bl (pa_cons (pe_tup (pa_cons pe_int (pa_cons pe_int pa_nil))) (pa_cons pe_bl pa_nil))))))) pss_nil)
    (pss_cons (ps_if (pt_cmpR op_eq (pv 1) pe_str (nomark _)) (pss_one (ps_ret (pe_tup (pa_cons (pe_tup (pa_cons pe_int (pa_cons pe_int pa_nil))) (pa_cons pe_bl (pa_cons (pe_tup (pa_cons pe_int (pa_cons (pv 2) pa_nil))) (pa_cons pe_bl pa_nil))))))) pss_nil)
    (pss_cons (ps_par (i := 4) (j := 5) (by rfl) sc_l_stretch.nd rfl rfl (by decide) rfl rfl (pa_cons (pe_op o_sub (pe_op o_mul pe_int (pv 1)) pe_int) (pa_cons (pe_op o_add (pe_op o_mul pe_int (pv 1)) pe_int) pa_nil)) (by rfl))
    (pss_cons (ps_set (i := 6) sc_l_stretch.nd rfl (.inl rfl) (pe_cmpR op_eq (pe_op o_mod (pe_callTy c_int1 (by rfl) T.z_int (by decide +kernel) (pa_cons (pv 1) pa_nil)) pe_int) pe_int (nomark _)))
    (pss_cons (ps_par (i := 7) (j := 8) (by rfl) sc_l_stretch.nd rfl rfl (by decide) rfl rfl (pa_cons (pe_or (pe_cmpR op_eq (pv 3) pe_str (nomark _)) (pe_one (pv 6))) (pa_cons (pe_and (pe_cmpR op_eq (pv 3) pe_str (nomark _)) (pe_one (pv 6))) pa_nil)) (by rfl))
    (pss_cons (ps_if (pt_cmpR op_eq (pv 3) pe_str (nomark _)) (pss_one (ps_asg (pe_tup (pa_cons (pe_op o_mul pe_int (pv 1)) (pa_cons pe_bl (pa_cons (pe_op o_add (pe_op o_mul pe_int (pv 1)) pe_int) (pa_cons pe_bl pa_nil))))) (xg_tup (K := K) (n := 4) rfl rfl (pgs_cons (pg_name (i := 4) sc_l_stretch.nd rfl (.inl rfl)) (pgs_cons (pg_name (i := 7) sc_l_stretch.nd rfl (.inl rfl)) (pgs_cons (pg_name (i := 5) sc_l_stretch.nd rfl (.inl rfl)) (pgs_cons (pg_name (i := 8) sc_l_stretch.nd rfl (.inl rfl)) pgs_nil))))))) pss_nil)
    (pss_cons (ps_if (pt_cmpR op_eq (pv 3) pe_str (nomark _)) (pss_one (ps_asg (pe_tup (pa_cons (pe_op o_sub (pe_op o_mul pe_int (pv 1)) pe_int) (pa_cons pe_bl (pa_cons (pe_op o_mul pe_int (pv 1)) (pa_cons pe_bl pa_nil))))) (xg_tup (K := K) (n := 4) rfl rfl (pgs_cons (pg_name (i := 4) sc_l_stretch.nd rfl (.inl rfl)) (pgs_cons (pg_name (i := 7) sc_l_stretch.nd rfl (.inl rfl)) (pgs_cons (pg_name (i := 5) sc_l_stretch.nd rfl (.inl rfl)) (pgs_cons (pg_name (i := 8) sc_l_stretch.nd rfl (.inl rfl)) pgs_nil))))))) pss_nil)
    (pss_cons (ps_asg (pe_ifExp (pt_cmpR o_lt (pv 4) pe_int (nomark _)) (pe_tup (pa_cons pe_int (pa_cons pe_bl pa_nil))) (pe_tup (pa_cons (pv 4) (pa_cons (pv 7) pa_nil)))) (xg_tup (K := K) (n := 2) rfl rfl (pgs_cons (pg_name (i := 4) sc_l_stretch.nd rfl (.inl rfl)) (pgs_cons (pg_name (i := 7) sc_l_stretch.nd rfl (.inl rfl)) pgs_nil))))
    (pss_cons (ps_asg (pe_ifExp (pt_cmpR o_gt (pv 5) (pe_op o_mul pe_int (pv 2)) (nomark _)) (pe_tup (pa_cons (pe_op o_mul pe_int (pv 2)) (pa_cons pe_bl pa_nil))) (pe_tup (pa_cons (pv 5) (pa_cons (pv 8) pa_nil)))) (xg_tup (K := K) (n := 2) rfl rfl (pgs_cons (pg_name (i := 5) sc_l_stretch.nd rfl (.inl rfl)) (pgs_cons (pg_name (i := 8) sc_l_stretch.nd rfl (.inl rfl)) pgs_nil))))
    (pss_one (ps_ret (pe_tup (pa_cons (pe_cal C_l_pair (hr.mono (by decide)) hgd (by rfl) (pa_cons (pv 4) (pa_cons (pe_op o_mul pe_int (pv 2)) pa_nil))) (pa_cons (pv 7) (pa_cons (pe_cal C_l_pair (hr.mono (by decide)) hgd (by rfl) (pa_cons (pv 5) (pa_cons (pe_op o_mul pe_int (pv 2)) pa_nil))) (pa_cons (pv 8) pa_nil))))))))))))))))), ?_⟩
    try dsimp only [cxOf, Cx.nox, Cx.wish]
    rw [st_l_stretch]; walk_at "go"
    refine ⟨a, _, rfl, hu, rfl, ?_⟩
    walk_at "go"
    cases sh with
    | none =>
      walk_at "go"
      refine w_newT rfl (fun p H2 np hp s2 => ?_)
      walk_at "go"
      refine w_newT rfl (fun p2 H3 np2 hp2 s3 => ?_)
      walk_at "go"
      refine w_newT rfl (fun p3 H4 np3 hp3 s4 => ?_)
      walk_at "go"
      exact q _ _ (s2.trans (s3.trans s4)) (.tup (sqT hp3) (.cons (.tup (sqT (s4 _ _ (s3 _ _ hp))) (.cons (.int _) (.cons (.int _) .nil))) (.cons (.bl _) (.cons (.tup (sqT (s4 _ _ hp2)) (.cons (.int _) (.cons (.int _) .nil))) (.cons (.bl _) .nil)))))
    | some =>
      walk_at "go"
      refine w_newT rfl (fun p H2 np hp s2 => ?_)
      walk_at "go"
      refine w_newT rfl (fun p2 H3 np2 hp2 s3 => ?_)
      walk_at "go"
      refine w_newT rfl (fun p3 H4 np3 hp3 s4 => ?_)
      walk_at "go"
      exact q _ _ (s2.trans (s3.trans s4)) (.tup (sqT hp3) (.cons (.tup (sqT (s4 _ _ (s3 _ _ hp))) (.cons (.int _) (.cons (.int _) .nil))) (.cons (.bl _) (.cons (.tup (sqT (s4 _ _ hp2)) (.cons (.int _) (.cons (.int _) .nil))) (.cons (.bl _) .nil)))))
    | n sn =>
      dsimp only [Sh.v]
      walk_at "go"
      have ev : decide (V.int (sn % 2) = V.int 0) = decide (sn % 2 = 0) := by simp
      rw [ev]
      obtain ⟨k0, k1⟩ : 0 ≤ sn ∧ sn ≤ b := hok
      rcases hows_mem hh with rfl | rfl | rfl | rfl
      · have eH : halvesZ "near" sn = (2 * sn - 1, true, 2 * sn + 1, false) := by
          unfold halvesZ
          rw [if_neg (by decide +kernel), if_neg (by decide +kernel), decide_eq_true (by rfl), Bool.true_or, decide_eq_false (by decide +kernel), Bool.false_and]
        dsimp only [List.set]
        walk_at "go"
        refine w_if (fun e1 => ?_) (fun e1 => ?_)
        · walk_at "go"
          refine w_newT rfl (fun p3 H3 np3 hp3 s3 => ?_)
          walk_at "go"
          refine ⟨p3, _, rfl, sqT hp3, rfl, ?_⟩
          dsimp only [List.set]
          walk_at "go"
          refine w_newT rfl (fun p4 H4 np4 hp4 s4 => ?_)
          walk_at "go"
          refine ⟨p4, _, rfl, sqT hp4, rfl, ?_⟩
          walk_at "go"
          refine ⟨_, _, rfl, Int.le_refl _, by omega, by omega, fun p5 H5 np5 s5 hp5 => ?_⟩
          dsimp only [List.set]
          walk_at "go"
          refine ⟨_, _, rfl, by omega, by omega, by omega, fun p6 H6 np6 s6 hp6 => ?_⟩
          walk_at "go"
          refine w_newT rfl (fun p7 H7 np7 hp7 s7 => ?_)
          walk_at "go"
          refine q _ _ (s3.trans (s4.trans (s5.trans (s6.trans s7)))) ?_
          have el : lowZ "near" sn = (0, true) := by unfold lowZ; rw [eH]; dsimp only; exact if_pos (by omega)
          have eh : highZ b "near" sn = (2 * sn + 1, false) := by unfold highZ; rw [eH]; dsimp only; exact if_neg (by omega)
          simp only [strD, strZ, el, eh]
          exact .tup (sqT hp7) (.cons (.tup (sqT (s7 _ _ (s6 _ _ hp5))) (.cons (.int _) (.cons (.int _) .nil))) (.cons (.bl _) (.cons (.tup (sqT (s7 _ _ hp6)) (.cons (.int _) (.cons (.int _) .nil))) (.cons (.bl _) .nil))))
        · walk_at "go"
          refine w_newT rfl (fun p3 H3 np3 hp3 s3 => ?_)
          walk_at "go"
          refine ⟨p3, _, rfl, sqT hp3, rfl, ?_⟩
          dsimp only [List.set]
          walk_at "go"
          refine w_if (fun e2 => ?_) (fun e2 => ?_)
          · walk_at "go"
            refine w_newT rfl (fun p4 H4 np4 hp4 s4 => ?_)
            walk_at "go"
            refine ⟨p4, _, rfl, sqT hp4, rfl, ?_⟩
            walk_at "go"
            refine ⟨_, _, rfl, by omega, by omega, by omega, fun p5 H5 np5 s5 hp5 => ?_⟩
            dsimp only [List.set]
            walk_at "go"
            refine ⟨_, _, rfl, by omega, by omega, by omega, fun p6 H6 np6 s6 hp6 => ?_⟩
            walk_at "go"
            refine w_newT rfl (fun p7 H7 np7 hp7 s7 => ?_)
            walk_at "go"
            refine q _ _ (s3.trans (s4.trans (s5.trans (s6.trans s7)))) ?_
            have el : lowZ "near" sn = (2 * sn - 1, true) := by unfold lowZ; rw [eH]; dsimp only; exact if_neg (by omega)
            have eh : highZ b "near" sn = (2 * b, true) := by unfold highZ; rw [eH]; dsimp only; exact if_pos (by omega)
            simp only [strD, strZ, el, eh]
            exact .tup (sqT hp7) (.cons (.tup (sqT (s7 _ _ (s6 _ _ hp5))) (.cons (.int _) (.cons (.int _) .nil))) (.cons (.bl _) (.cons (.tup (sqT (s7 _ _ hp6)) (.cons (.int _) (.cons (.int _) .nil))) (.cons (.bl _) .nil))))
          · walk_at "go"
            refine w_newT rfl (fun p4 H4 np4 hp4 s4 => ?_)
            walk_at "go"
            refine ⟨p4, _, rfl, sqT hp4, rfl, ?_⟩
            walk_at "go"
            refine ⟨_, _, rfl, by omega, by omega, by omega, fun p5 H5 np5 s5 hp5 => ?_⟩
            dsimp only [List.set]
            walk_at "go"
            refine ⟨_, _, rfl, by omega, by omega, by omega, fun p6 H6 np6 s6 hp6 => ?_⟩
            walk_at "go"
            refine w_newT rfl (fun p7 H7 np7 hp7 s7 => ?_)
            walk_at "go"
            refine q _ _ (s3.trans (s4.trans (s5.trans (s6.trans s7)))) ?_
            have el : lowZ "near" sn = (2 * sn - 1, true) := by unfold lowZ; rw [eH]; dsimp only; exact if_neg (by omega)
            have eh : highZ b "near" sn = (2 * sn + 1, false) := by unfold highZ; rw [eH]; dsimp only; exact if_neg (by omega)
            simp only [strD, strZ, el, eh]
            exact .tup (sqT hp7) (.cons (.tup (sqT (s7 _ _ (s6 _ _ hp5))) (.cons (.int _) (.cons (.int _) .nil))) (.cons (.bl _) (.cons (.tup (sqT (s7 _ _ hp6)) (.cons (.int _) (.cons (.int _) .nil))) (.cons (.bl _) .nil))))
      · have eH : halvesZ "even" sn = (2 * sn - 1, decide (sn % 2 = 0), 2 * sn + 1, decide (sn % 2 = 0)) := by
          unfold halvesZ
          rw [if_neg (by decide +kernel), if_neg (by decide +kernel), decide_eq_true (show ("even" : Str) = "even" from rfl), Bool.true_and, decide_eq_false (by decide +kernel), Bool.false_or]
        dsimp only [List.set]
        walk_at "go"
        refine w_if (fun e1 => ?_) (fun e1 => ?_)
        · walk_at "go"
          refine w_newT rfl (fun p3 H3 np3 hp3 s3 => ?_)
          walk_at "go"
          refine ⟨p3, _, rfl, sqT hp3, rfl, ?_⟩
          dsimp only [List.set]
          walk_at "go"
          refine w_newT rfl (fun p4 H4 np4 hp4 s4 => ?_)
          walk_at "go"
          refine ⟨p4, _, rfl, sqT hp4, rfl, ?_⟩
          walk_at "go"
          refine ⟨_, _, rfl, Int.le_refl _, by omega, by omega, fun p5 H5 np5 s5 hp5 => ?_⟩
          dsimp only [List.set]
          walk_at "go"
          refine ⟨_, _, rfl, by omega, by omega, by omega, fun p6 H6 np6 s6 hp6 => ?_⟩
          walk_at "go"
          refine w_newT rfl (fun p7 H7 np7 hp7 s7 => ?_)
          walk_at "go"
          refine q _ _ (s3.trans (s4.trans (s5.trans (s6.trans s7)))) ?_
          have el : lowZ "even" sn = (0, true) := by unfold lowZ; rw [eH]; dsimp only; exact if_pos (by omega)
          have eh : highZ b "even" sn = (2 * sn + 1, decide (sn % 2 = 0)) := by unfold highZ; rw [eH]; dsimp only; exact if_neg (by omega)
          simp only [strD, strZ, el, eh]
          exact .tup (sqT hp7) (.cons (.tup (sqT (s7 _ _ (s6 _ _ hp5))) (.cons (.int _) (.cons (.int _) .nil))) (.cons (.bl _) (.cons (.tup (sqT (s7 _ _ hp6)) (.cons (.int _) (.cons (.int _) .nil))) (.cons (.bl _) .nil))))
        · walk_at "go"
          refine w_newT rfl (fun p3 H3 np3 hp3 s3 => ?_)
          walk_at "go"
          refine ⟨p3, _, rfl, sqT hp3, rfl, ?_⟩
          dsimp only [List.set]
          walk_at "go"
          refine w_if (fun e2 => ?_) (fun e2 => ?_)
          · walk_at "go"
            refine w_newT rfl (fun p4 H4 np4 hp4 s4 => ?_)
            walk_at "go"
            refine ⟨p4, _, rfl, sqT hp4, rfl, ?_⟩
            walk_at "go"
            refine ⟨_, _, rfl, by omega, by omega, by omega, fun p5 H5 np5 s5 hp5 => ?_⟩
            dsimp only [List.set]
            walk_at "go"
            refine ⟨_, _, rfl, by omega, by omega, by omega, fun p6 H6 np6 s6 hp6 => ?_⟩
            walk_at "go"
            refine w_newT rfl (fun p7 H7 np7 hp7 s7 => ?_)
            walk_at "go"
            refine q _ _ (s3.trans (s4.trans (s5.trans (s6.trans s7)))) ?_
            have el : lowZ "even" sn = (2 * sn - 1, decide (sn % 2 = 0)) := by unfold lowZ; rw [eH]; dsimp only; exact if_neg (by omega)
            have eh : highZ b "even" sn = (2 * b, true) := by unfold highZ; rw [eH]; dsimp only; exact if_pos (by omega)
            simp only [strD, strZ, el, eh]
            exact .tup (sqT hp7) (.cons (.tup (sqT (s7 _ _ (s6 _ _ hp5))) (.cons (.int _) (.cons (.int _) .nil))) (.cons (.bl _) (.cons (.tup (sqT (s7 _ _ hp6)) (.cons (.int _) (.cons (.int _) .nil))) (.cons (.bl _) .nil))))
          · walk_at "go"
            refine w_newT rfl (fun p4 H4 np4 hp4 s4 => ?_)
            walk_at "go"
            refine ⟨p4, _, rfl, sqT hp4, rfl, ?_⟩
            walk_at "go"
            refine ⟨_, _, rfl, by omega, by omega, by omega, fun p5 H5 np5 s5 hp5 => ?_⟩
            dsimp only [List.set]
            walk_at "go"
            refine ⟨_, _, rfl, by omega, by omega, by omega, fun p6 H6 np6 s6 hp6 => ?_⟩
            walk_at "go"
            refine w_newT rfl (fun p7 H7 np7 hp7 s7 => ?_)
            walk_at "go"
            refine q _ _ (s3.trans (s4.trans (s5.trans (s6.trans s7)))) ?_
            have el : lowZ "even" sn = (2 * sn - 1, decide (sn % 2 = 0)) := by unfold lowZ; rw [eH]; dsimp only; exact if_neg (by omega)
            have eh : highZ b "even" sn = (2 * sn + 1, decide (sn % 2 = 0)) := by unfold highZ; rw [eH]; dsimp only; exact if_neg (by omega)
            simp only [strD, strZ, el, eh]
            exact .tup (sqT hp7) (.cons (.tup (sqT (s7 _ _ (s6 _ _ hp5))) (.cons (.int _) (.cons (.int _) .nil))) (.cons (.bl _) (.cons (.tup (sqT (s7 _ _ hp6)) (.cons (.int _) (.cons (.int _) .nil))) (.cons (.bl _) .nil))))
      · have eH : halvesZ "down" sn = (2 * sn, true, 2 * sn + 2, false) := by
          unfold halvesZ
          rw [if_pos rfl]
        dsimp only [List.set]
        walk_at "go"
        refine w_newT rfl (fun p0 H0 np0 hp0 s0 => ?_)
        walk_at "go"
        refine ⟨p0, _, rfl, sqT hp0, rfl, ?_⟩
        walk_at "go"
        refine w_newT rfl (fun p3 H3 np3 hp3 s3 => ?_)
        walk_at "go"
        refine ⟨p3, _, rfl, sqT hp3, rfl, ?_⟩
        dsimp only [List.set]
        walk_at "go"
        refine w_if (fun e2 => ?_) (fun e2 => ?_)
        · walk_at "go"
          refine w_newT rfl (fun p4 H4 np4 hp4 s4 => ?_)
          walk_at "go"
          refine ⟨p4, _, rfl, sqT hp4, rfl, ?_⟩
          walk_at "go"
          refine ⟨_, _, rfl, by omega, by omega, by omega, fun p5 H5 np5 s5 hp5 => ?_⟩
          dsimp only [List.set]
          walk_at "go"
          refine ⟨_, _, rfl, by omega, by omega, by omega, fun p6 H6 np6 s6 hp6 => ?_⟩
          walk_at "go"
          refine w_newT rfl (fun p7 H7 np7 hp7 s7 => ?_)
          walk_at "go"
          refine q _ _ (s0.trans (s3.trans (s4.trans (s5.trans (s6.trans s7))))) ?_
          have el : lowZ "down" sn = (2 * sn, true) := by unfold lowZ; rw [eH]; dsimp only; exact if_neg (by omega)
          have eh : highZ b "down" sn = (2 * b, true) := by unfold highZ; rw [eH]; dsimp only; exact if_pos (by omega)
          simp only [strD, strZ, el, eh]
          exact .tup (sqT hp7) (.cons (.tup (sqT (s7 _ _ (s6 _ _ hp5))) (.cons (.int _) (.cons (.int _) .nil))) (.cons (.bl _) (.cons (.tup (sqT (s7 _ _ hp6)) (.cons (.int _) (.cons (.int _) .nil))) (.cons (.bl _) .nil))))
        · walk_at "go"
          refine w_newT rfl (fun p4 H4 np4 hp4 s4 => ?_)
          walk_at "go"
          refine ⟨p4, _, rfl, sqT hp4, rfl, ?_⟩
          walk_at "go"
          refine ⟨_, _, rfl, by omega, by omega, by omega, fun p5 H5 np5 s5 hp5 => ?_⟩
          dsimp only [List.set]
          walk_at "go"
          refine ⟨_, _, rfl, by omega, by omega, by omega, fun p6 H6 np6 s6 hp6 => ?_⟩
          walk_at "go"
          refine w_newT rfl (fun p7 H7 np7 hp7 s7 => ?_)
          walk_at "go"
          refine q _ _ (s0.trans (s3.trans (s4.trans (s5.trans (s6.trans s7))))) ?_
          have el : lowZ "down" sn = (2 * sn, true) := by unfold lowZ; rw [eH]; dsimp only; exact if_neg (by omega)
          have eh : highZ b "down" sn = (2 * sn + 2, false) := by unfold highZ; rw [eH]; dsimp only; exact if_neg (by omega)
          simp only [strD, strZ, el, eh]
          exact .tup (sqT hp7) (.cons (.tup (sqT (s7 _ _ (s6 _ _ hp5))) (.cons (.int _) (.cons (.int _) .nil))) (.cons (.bl _) (.cons (.tup (sqT (s7 _ _ hp6)) (.cons (.int _) (.cons (.int _) .nil))) (.cons (.bl _) .nil))))
      · have eH : halvesZ "up" sn = (2 * sn - 2, false, 2 * sn, true) := by
          unfold halvesZ
          rw [if_neg (by decide +kernel), if_pos rfl]
        dsimp only [List.set]
        walk_at "go"
        refine w_newT rfl (fun p0 H0 np0 hp0 s0 => ?_)
        walk_at "go"
        refine ⟨p0, _, rfl, sqT hp0, rfl, ?_⟩
        walk_at "go"
        refine w_if (fun e1 => ?_) (fun e1 => ?_)
        · walk_at "go"
          refine w_newT rfl (fun p3 H3 np3 hp3 s3 => ?_)
          walk_at "go"
          refine ⟨p3, _, rfl, sqT hp3, rfl, ?_⟩
          dsimp only [List.set]
          walk_at "go"
          refine w_newT rfl (fun p4 H4 np4 hp4 s4 => ?_)
          walk_at "go"
          refine ⟨p4, _, rfl, sqT hp4, rfl, ?_⟩
          walk_at "go"
          refine ⟨_, _, rfl, Int.le_refl _, by omega, by omega, fun p5 H5 np5 s5 hp5 => ?_⟩
          dsimp only [List.set]
          walk_at "go"
          refine ⟨_, _, rfl, by omega, by omega, by omega, fun p6 H6 np6 s6 hp6 => ?_⟩
          walk_at "go"
          refine w_newT rfl (fun p7 H7 np7 hp7 s7 => ?_)
          walk_at "go"
          refine q _ _ (s0.trans (s3.trans (s4.trans (s5.trans (s6.trans s7))))) ?_
          have el : lowZ "up" sn = (0, true) := by unfold lowZ; rw [eH]; dsimp only; exact if_pos (by omega)
          have eh : highZ b "up" sn = (2 * sn, true) := by unfold highZ; rw [eH]; dsimp only; exact if_neg (by omega)
          simp only [strD, strZ, el, eh]
          exact .tup (sqT hp7) (.cons (.tup (sqT (s7 _ _ (s6 _ _ hp5))) (.cons (.int _) (.cons (.int _) .nil))) (.cons (.bl _) (.cons (.tup (sqT (s7 _ _ hp6)) (.cons (.int _) (.cons (.int _) .nil))) (.cons (.bl _) .nil))))
        · walk_at "go"
          refine w_newT rfl (fun p3 H3 np3 hp3 s3 => ?_)
          walk_at "go"
          refine ⟨p3, _, rfl, sqT hp3, rfl, ?_⟩
          dsimp only [List.set]
          walk_at "go"
          refine w_newT rfl (fun p4 H4 np4 hp4 s4 => ?_)
          walk_at "go"
          refine ⟨p4, _, rfl, sqT hp4, rfl, ?_⟩
          walk_at "go"
          refine ⟨_, _, rfl, by omega, by omega, by omega, fun p5 H5 np5 s5 hp5 => ?_⟩
          dsimp only [List.set]
          walk_at "go"
          refine ⟨_, _, rfl, by omega, by omega, by omega, fun p6 H6 np6 s6 hp6 => ?_⟩
          walk_at "go"
          refine w_newT rfl (fun p7 H7 np7 hp7 s7 => ?_)
          walk_at "go"
          refine q _ _ (s0.trans (s3.trans (s4.trans (s5.trans (s6.trans s7))))) ?_
          have el : lowZ "up" sn = (2 * sn - 2, false) := by unfold lowZ; rw [eH]; dsimp only; exact if_neg (by omega)
          have eh : highZ b "up" sn = (2 * sn, true) := by unfold highZ; rw [eH]; dsimp only; exact if_neg (by omega)
          simp only [strD, strZ, el, eh]
          exact .tup (sqT hp7) (.cons (.tup (sqT (s7 _ _ (s6 _ _ hp5))) (.cons (.int _) (.cons (.int _) .nil))) (.cons (.bl _) (.cons (.tup (sqT (s7 _ _ hp6)) (.cons (.int _) (.cons (.int _) .nil))) (.cons (.bl _) .nil))))
theorem C_l_is_within (T : Txt K mg) : Cal P w K mg base 1 "_law_is_within" ["_law_told", "_law_many", "_law_whole"] (spLWithin K) := by
  obtain ⟨fd, F⟩ := T.d_l_is_within
  refine ⟨_, fd, okG F sc_l_is_within (fun vs H Q E h => ?_) (fun cdv A outer s H vs Q E hr hgd h => ?_), T.g_l_is_within, F.kp, (F.bindsN fun _ _ _ _ _ _ us hl => match us, hl with | [_, _, _], _ => rfl)⟩
  · obtain ⟨x, y, b, how, rfl, _⟩ := h
    rfl
  · obtain ⟨v, t, m, n, rfl, hd, m0, m1, n0, n1, q⟩ := h
    refine ⟨_, PSs.nox (pss_cons (ps_asg (pv 0) (xg_tup (K := K) (n := 4) rfl rfl (pgs_cons (pg_name (i := 3) sc_l_is_within.nd rfl (.inl rfl)) (pgs_cons (pg_name (i := 4) sc_l_is_within.nd rfl (.inl rfl)) (pgs_cons (pg_name (i := 5) sc_l_is_within.nd rfl (.inl rfl)) (pgs_cons (pg_name (i := 6) sc_l_is_within.nd rfl (.inl rfl)) pgs_nil))))))
    (pss_cons (ps_set (i := 7) sc_l_is_within.nd rfl (.inl rfl) (pe_op o_sub (pe_op o_mul (pv 1) (pe_ix (x_ix (K := K) rfl) (pv 3) pe_int (fun _ _ => rfl))) (pe_op o_mul (pe_ix (x_ix (K := K) rfl) (pv 3) pe_int (fun _ _ => rfl)) (pv 2))))
    (pss_cons (ps_set (i := 8) sc_l_is_within.nd rfl (.inl rfl) (pe_op o_sub (pe_op o_mul (pe_ix (x_ix (K := K) rfl) (pv 5) pe_int (fun _ _ => rfl)) (pv 2)) (pe_op o_mul (pv 1) (pe_ix (x_ix (K := K) rfl) (pv 5) pe_int (fun _ _ => rfl)))))
    (pss_one (ps_ret (pe_and (pe_or (pe_cmpR o_gt (pv 7) pe_int (nomark _)) (pe_one (pe_and (pe_cmpR op_eq (pv 7) pe_int (nomark _)) (pe_one (pv 4))))) (pe_one (pe_or (pe_cmpR o_gt (pv 8) pe_int (nomark _)) (pe_one (pe_and (pe_cmpR op_eq (pv 8) pe_int (nomark _)) (pe_one (pv 6)))))))))))), ?_⟩
    try dsimp only [cxOf, Cx.nox, Cx.wish]
    rw [st_l_is_within]; walk_at "go"
    obtain ⟨a, c, d, rfl, ha, hc, hd⟩ := dpStr hd
    refine ⟨a, _, rfl, ha, rfl, ?_⟩
    obtain ⟨l0, l1, il, h0, h1, ih⟩ := t
    walk_at "go"
    unfold withinB at q
    dsimp only at q ⊢
    generalize m * l1 - l0 * n = L at *
    generalize h0 * n - m * h1 = R at *
    refine w_if (fun e => ?_) (fun e => ?_)
    · rw [decide_eq_true e, Bool.true_or, Bool.true_and] at q
      walk_at "go"
      refine w_if (fun e2 => ?_) (fun e2 => ?_)
      · rw [decide_eq_true e2, Bool.true_or] at q
        exact q
      · rw [decide_eq_false e2, Bool.false_or] at q
        walk_at "go"
        refine w_ifI (fun e3 => ?_) (fun e3 => ?_)
        · walk_at "go"
          rw [decide_eq_true e3, Bool.true_and] at q
          exact q
        · rw [decide_eq_false e3, Bool.false_and] at q
          exact q
    · rw [decide_eq_false e, Bool.false_or] at q
      walk_at "go"
      refine w_ifI (fun e4 => ?_) (fun e4 => ?_)
      · rw [decide_eq_true e4, Bool.true_and] at q
        walk_at "go"
        cases il with
        | false =>
          walk_at "go"
          exact q
        | true =>
          rw [Bool.true_and] at q
          walk_at "go"
          refine w_if (fun e2 => ?_) (fun e2 => ?_)
          · rw [decide_eq_true e2, Bool.true_or] at q
            exact q
          · rw [decide_eq_false e2, Bool.false_or] at q
            walk_at "go"
            refine w_ifI (fun e3 => ?_) (fun e3 => ?_)
            · walk_at "go"
              rw [decide_eq_true e3, Bool.true_and] at q
              exact q
            · rw [decide_eq_false e3, Bool.false_and] at q
              exact q
      · rw [decide_eq_false e4, Bool.false_and, Bool.false_and] at q
        walk_at "go"
        exact q
end

end Ak
namespace Ak
open PySem PySem.Spec PyProof.Rows L2
/-! ### the walk of readings -/
local macro_rules | `(tactic| walk_at "go1") => `(tactic| (first
  | with_reducible refine w_seq ?_ | with_reducible refine w_next ?_ | with_reducible refine w_set ?_ | with_reducible refine w_asgS ?_ | with_reducible refine w_ret ?_ | with_reducible refine w_drop ?_ | with_reducible refine w_ifS ?_
  | with_reducible refine w_op ?_ | with_reducible refine w_un ?_ | ((with_reducible apply w_var); (· exact rfl)) | with_reducible refine w_c ?_
  | with_reducible refine w_add ?_ | with_reducible refine w_sub ?_ | with_reducible refine w_lt ?_ | with_reducible refine w_le ?_ | with_reducible refine w_gt ?_ | with_reducible refine w_ge ?_ | with_reducible refine w_neg ?_ | with_reducible refine w_isN ?_ | with_reducible refine w_notN ?_
  | ((with_reducible refine w_eq ?_ ?_); (· exact rfl)) | ((with_reducible refine w_ne ?_ ?_); (· exact rfl))
  | with_reducible refine w_test ?_ | with_reducible refine w_B ?_ | with_reducible refine w_or ?_ | with_reducible refine w_and ?_ | with_reducible refine w_not ?_ | with_reducible refine w_andV ?_ | with_reducible refine w_orV ?_ | with_reducible refine w_notV ?_
  | with_reducible refine w_ifE ?_ | with_reducible refine w_chain ?_ | with_reducible refine w_cb ?_ | with_reducible refine w_nil ?_ | with_reducible refine w_cons ?_ | with_reducible refine w_tup ?_ | with_reducible refine w_lst ?_ | with_reducible refine w_call ?_
  | with_reducible refine w_int1 ?_ | with_reducible refine w_abs ?_ | with_reducible refine w_max2 ?_ | with_reducible refine w_min2 ?_
  | with_reducible refine w_mknx ?_ | with_reducible refine w_mkrt ?_ | with_reducible refine w_mkbk ?_ | with_reducible refine w_mkct ?_ | with_reducible refine w_ifT ?_ | with_reducible refine w_ifF ?_ | with_reducible refine w_ifNT ?_ | with_reducible refine w_ifNF ?_
  | with_reducible refine w_lc ?_ | with_reducible refine w_lrg ?_ | with_reducible refine w_rg1 ?_ | with_reducible refine w_rg2 ?_ | with_reducible refine w_exI ?_ | with_reducible refine w_exI2 ?_
  | with_reducible refine w_bl ?_ | with_reducible refine w_asgT ?_ | with_reducible refine w_gcons ?_ | with_reducible refine w_gnil ?_ | with_reducible refine w_par ?_ | with_reducible refine w_pair ?_
  | ((with_reducible refine w_ixL (v := ?vv) (sqL (by assumption)) ?ee ?_); (case ee => exact rfl)) | ((with_reducible refine w_ixT (v := ?vv) (sqT (by assumption)) ?ee ?_); (case ee => exact rfl))
  | ((with_reducible refine w_ixL (v := ?vv) (by assumption) ?ee ?_); (case ee => exact rfl)) | ((with_reducible refine w_ixT (v := ?vv) (by assumption) ?ee ?_); (case ee => exact rfl))
  | ((with_reducible refine w_ifDT ?_ ?_); (· first | omega | decide +kernel)) | ((with_reducible refine w_ifDF ?_ ?_); (· first | omega | decide +kernel | exact ne_IS | exact ne_SI | exact ne_IN | exact ne_SN | exact ne_RN))
  | ((with_reducible refine w_mod ?_ ?_); (· omega)) | ((with_reducible refine w_fdiv ?_ ?_ ?_); (· omega); (· omega))
  | ((with_reducible refine w_mulL ?_ ?_ ?_); (· omega); (· omega)) | ((with_reducible refine w_mulR ?_ ?_ ?_); (· omega); (· omega))
  | with_reducible refine w_lenL (sqL (by assumption)) ?_ | with_reducible refine w_lenL (by assumption) ?_ | with_reducible refine w_lenT (sqT (by assumption)) ?_ | with_reducible refine w_lenT (by assumption) ?_))
local macro_rules | `(tactic| walk_at "go") => `(tactic| repeat walk_at "go1")
/-! ### the law's own defs -/
theorem tl_len (ts : List Str) : (tupleText ts).length ≤ piled ts + 2 := PySem.fmt_text ts
theorem int_len {i : Int} (h : i.natAbs.log2 < 1920) : (Str.ofString (toString i)).length ≤ 1921 := by
  rw [PySem.ofString_length]
  exact int_text_length_le (by decide) h
theorem shw_str {K : PySem.W.Frag} {H : Hp} {v : V} {t : Int × Int × Bool × Int × Int × Bool} (h : Dp K H v (strD t)) (h1 : 0 ≤ t.1 ∧ t.1 ≤ 1000) (h2 : 0 ≤ t.2.1 ∧ t.2.1 ≤ 1000) (h3 : 0 ≤ t.2.2.2.1 ∧ t.2.2.2.1 ≤ 1000) (h4 : 0 ≤ t.2.2.2.2.1 ∧ t.2.2.2.2.1 ≤ 1000) : Shw K H v (strD t) := by
  obtain ⟨a, b, il, c, d, ih⟩ := t
  dsimp only at h1 h2 h3 h4
  have l1 := log_small h1.1 (by omega)
  have l2 := log_small h2.1 (by omega)
  have l3 := log_small h3.1 (by omega)
  have l4 := log_small h4.1 (by omega)
  refine ⟨h, ?_, ?_, ?_⟩
  · simp only [strD, PyData.showable, PyData.showableAll, decide_eq_true l1, decide_eq_true l2, decide_eq_true l3, decide_eq_true l4, Bool.and_true]
  · simp only [strD, PyData.shown, PyData.shownAll]
    have k1 := int_len l1
    have k2 := int_len l2
    have k3 := int_len l3
    have k4 := int_len l4
    have b1 : ∀ x : Bool, (if x = true then Str.ofString "True" else Str.ofString "False").length ≤ 5 := fun x => by cases x <;> decide +kernel
    have t1 := tl_len [Str.ofString (toString a), Str.ofString (toString b)]
    have t2 := tl_len [Str.ofString (toString c), Str.ofString (toString d)]
    simp only [piled_cons, piled_nil] at t1 t2
    have b2 := b1 il
    have b3 := b1 ih
    refine Nat.le_trans (tl_len _) ?_
    simp only [piled_cons, piled_nil]
    rw [sizeLine_eq]
    omega
  · simp only [strD, PyData.depth, PyData.depthAll]
    decide
theorem gz_div {a u : Int} (h0 : 0 ≤ a) (hu : 0 < u) : 0 ≤ a / gz a u ∧ a / gz a u ≤ a ∧ 0 ≤ u / gz a u ∧ u / gz a u ≤ u := by
  have g := gz_pos (a := a) hu
  exact ⟨Int.ediv_nonneg h0 (by omega), Int.ediv_le_self _ h0, Int.ediv_nonneg (by omega) (by omega), Int.ediv_le_self _ (by omega)⟩
theorem strZ_small {b : Int} {how : Str} {sh : Sh} (hb : 2 ≤ b) (hb2 : b ≤ 100) (hs : sh.ok b) : (0 ≤ (strZ b how sh).1 ∧ (strZ b how sh).1 ≤ 1000) ∧ (0 ≤ (strZ b how sh).2.1 ∧ (strZ b how sh).2.1 ≤ 1000) ∧ (0 ≤ (strZ b how sh).2.2.2.1 ∧ (strZ b how sh).2.2.2.1 ≤ 1000) ∧ (0 ≤ (strZ b how sh).2.2.2.2.1 ∧ (strZ b how sh).2.2.2.2.1 ≤ 1000) := by
  cases sh with
  | none => exact (by decide : (0 ≤ (0 : Int) ∧ (0 : Int) ≤ 1000) ∧ (0 ≤ (1 : Int) ∧ (1 : Int) ≤ 1000) ∧ (0 ≤ (0 : Int) ∧ (0 : Int) ≤ 1000) ∧ 0 ≤ (1 : Int) ∧ (1 : Int) ≤ 1000)
  | some =>
    show (0 ≤ (0 : Int) ∧ (0 : Int) ≤ 1000) ∧ (0 ≤ (1 : Int) ∧ (1 : Int) ≤ 1000) ∧ (0 ≤ (1 : Int) ∧ (1 : Int) ≤ 1000) ∧ 0 ≤ b ∧ b ≤ 1000
    omega
  | n s =>
    obtain ⟨s0, s1⟩ : 0 ≤ s ∧ s ≤ b := hs
    have hl : 0 ≤ (lowZ how s).1 ∧ (lowZ how s).1 ≤ 210 := by
      have hx : (halvesZ how s).1 ≤ 2 * s := by
        unfold halvesZ
        split
        · exact Int.le_refl _
        · split
          · show 2 * s - 2 ≤ 2 * s
            omega
          · show 2 * s - 1 ≤ 2 * s
            omega
      unfold lowZ
      split
      · exact ⟨Int.le_refl _, by decide⟩
      · exact ⟨by show 0 ≤ (halvesZ how s).1; omega, by show (halvesZ how s).1 ≤ 210; omega⟩
    have hh : 0 ≤ (highZ b how s).1 ∧ (highZ b how s).1 ≤ 210 := by
      have hx : 2 * s ≤ (halvesZ how s).2.2.1 := by
        unfold halvesZ
        split
        · show 2 * s ≤ 2 * s + 2
          omega
        · split
          · exact Int.le_refl _
          · show 2 * s ≤ 2 * s + 1
            omega
      unfold highZ
      split
      · exact ⟨by show 0 ≤ 2 * b; omega, by show 2 * b ≤ 210; omega⟩
      · exact ⟨by show 0 ≤ (halvesZ how s).2.2.1; omega, by show (halvesZ how s).2.2.1 ≤ 210; omega⟩
    have d1 := gz_div (u := 2 * b) hl.1 (by omega)
    have d2 := gz_div (u := 2 * b) hh.1 (by omega)
    show (0 ≤ (lowZ how s).1 / gz (lowZ how s).1 (2 * b) ∧ (lowZ how s).1 / gz (lowZ how s).1 (2 * b) ≤ 1000) ∧ (0 ≤ 2 * b / gz (lowZ how s).1 (2 * b) ∧ 2 * b / gz (lowZ how s).1 (2 * b) ≤ 1000) ∧ (0 ≤ (highZ b how s).1 / gz (highZ b how s).1 (2 * b) ∧ (highZ b how s).1 / gz (highZ b how s).1 (2 * b) ≤ 1000) ∧ 0 ≤ 2 * b / gz (highZ b how s).1 (2 * b) ∧ 2 * b / gz (highZ b how s).1 (2 * b) ≤ 1000
    omega
theorem rg_share {b : Int} {x : V} (h : x ∈ rgV 0 (b + 1)) : ∃ sh : Sh, x = sh.v ∧ sh.ok b := by
  unfold rgV at h
  obtain ⟨i, hi, rfl⟩ := List.mem_map.mp h
  have := List.mem_range.mp hi
  exact ⟨.n (0 + (i : Int)), rfl, by show 0 ≤ 0 + (i : Int) ∧ 0 + (i : Int) ≤ b; omega⟩
theorem fresh_but {p : Addr} {H H1 : Hp} {a : Addr} {o : HO} (b : But p H H1) (hp1 : H1 p = some o) (na : H1 a = none) : H a = none := by
  cases e : H a with
  | none => rfl
  | some u =>
    have hap : a ≠ p := fun z => by
      rw [z, hp1] at na
      cases na
    rw [b _ _ hap e] at na
    cases na
def spLUR : Sp := fun vs H Q _ => ∃ p n xs, vs = [.ref p] ∧ H p = some (.lst xs) ∧ PotL n xs ∧ n < 50000 ∧ ∀ H' ys, But p H H' → H' p = some (.lst ys) → PotL (n + 200) ys → Q (.bl true) H'
def spLR : Sp := fun vs H Q _ => ∃ p xs, vs = [.ref p] ∧ H p = some (.lst xs) ∧ PotL 0 xs ∧ ∀ H', But p H H' → Q (.bl true) H'
def spLaw (K : PySem.W.Frag) : Sp := fun vs H Q _ => ∃ (a : Addr) (ns : List Int), vs = [.ref a] ∧ SqL K H a (ns.map V.int) ∧ ∀ H', Q (.bl true) H'
theorem But.tupT {K : PySem.W.Frag} {p : Addr} {H H' : Hp} {xs : List V} {a : Addr} {ys : List V} (b : But p H H') (hp : H p = some (.lst xs)) (h : SqT K H a ys) : SqT K H' a ys := by
  have ne : ∀ o, H a = some o → (∀ zs, o ≠ .lst zs) → a ≠ p := fun o e n z => by
    rw [z, hp] at e
    exact n xs (Option.some.inj e).symm
  rcases h with (h | ⟨o, h⟩) | h
  · exact .inl (.inl (b _ _ (ne _ h fun _ z => by cases z) h))
  · exact .inl (.inr ⟨o, b _ _ (ne _ h fun _ z => by cases z) h⟩)
  · exact .inr h
section
variable {P : Program} {w : World} {K : PySem.W.Frag} {mg : Str → Option Value} {base : Heap}
theorem C_l_units_right (T : Txt K mg) : Cal P w K mg base 6 "_law_units_right" ["_law_pot_here"] spLUR := by
  have C_l_units := C_l_units (P := P) (w := w) (base := base) T
  have C_l_take := C_l_take (P := P) (w := w) (base := base) T
  have C_l_of := C_l_of (P := P) (w := w) (base := base) T
  have C_l_stretch := C_l_stretch (P := P) (w := w) (base := base) T
  have C_l_is_within := C_l_is_within (P := P) (w := w) (base := base) T
  have C_l_is_right := C_l_is_right (P := P) (w := w) (base := base) T
  have C_stretch := C_stretch (P := P) (w := w) (base := base) T
  obtain ⟨fd, F⟩ := T.d_l_units_right
  refine ⟨_, fd, okG F sc_l_units_right (fun vs H Q E h => ?_) (fun cdv A outer s H vs Q E hr hgd h => ?_), T.g_l_units_right, F.kp, (F.bindsN fun _ _ _ _ _ _ us hl => match us, hl with | [_], _ => rfl)⟩
  · obtain ⟨p, n, xs, rfl, _⟩ := h
    rfl
  · obtain ⟨p, n, xs, rfl, hp, hP, hn, q⟩ := h
    refine ⟨_, PSs.nox (pss_cons (ps_set (i := 1) sc_l_units_right.nd rfl (.inl rfl) (pe_cal C_l_units (hr.mono (by decide)) hgd (by rfl) (pa_cons (pv 0) (pa_cons pe_int pa_nil))))
    (pss_cons (ps_set (i := 2) sc_l_units_right.nd rfl (.inl rfl) (pe_op o_cat (pe_lst (pa_cons pe_str (pa_cons pe_str pa_nil))) (pe_listRg rfl (by rfl) T.z_list (prg_1 (by rfl) T.z_range (pe_op o_add (pe_ix (x_ix (K := K) rfl) (pv 1) pe_int (fun _ _ => rfl)) pe_int)))))
    (pss_cons (ps_for PassesOwn.never rfl (xi_list (K := K) rfl (pv 2)) (pg_name (i := 3) sc_l_units_right.nd rfl (.inl rfl))
    (pss_one (ps_if (pt_cmpR op_ne (pe_callB (x_repr (K := K) rfl hr hgd) (by rfl) T.z_repr (by decide +kernel) (pa_cons (pe_cal C_stretch (hr.mono (by decide)) hgd (by rfl) (pa_cons (pv 1) (pa_cons (pv 3) pa_nil))) pa_nil)) (pe_callB (x_repr (K := K) rfl hr hgd) (by rfl) T.z_repr (by decide +kernel) (pa_cons (pe_cal C_l_stretch (hr.mono (by decide)) hgd (by rfl) (pa_cons (pv 1) (pa_cons (pv 3) pa_nil))) pa_nil)) (nomark _)) (pss_one (ps_ret pe_bl)) pss_nil)))
    (pss_cons (ps_for PassesOwn.never rfl (pi_range1 (by rfl) T.z_range (pa_cons pe_int pa_nil)) (pg_name (i := 4) sc_l_units_right.nd rfl (.inl rfl))
    (pss_cons (ps_set (i := 3) sc_l_units_right.nd rfl (.inl rfl) (pe_cal C_l_of (hr.mono (by decide)) hgd (by rfl) (pa_cons (pv 0) (pa_cons (pe_op o_cat (pv 2) (pe_lst (pa_cons pe_str (pa_cons pe_int (pa_cons (pe_ix (x_ix (K := K) rfl) (pv 1) pe_int (fun _ _ => rfl)) (pa_cons pe_str pa_nil)))))) pa_nil))))
    (pss_cons (ps_set (i := 5) sc_l_units_right.nd rfl (.inl rfl) (pe_op o_add pe_int (pe_cal C_l_of (hr.mono (by decide)) hgd (by rfl) (pa_cons (pv 0) (pa_cons (pe_lst (pa_cons (pe_cal C_l_take (hr.mono (by decide)) hgd (by rfl) (pa_cons (pv 0) (pa_cons pe_int pa_nil))) (pa_cons (pe_op o_sub (pe_op o_mul pe_int (pe_ix (x_ix (K := K) rfl) (pv 1) pe_int (fun _ _ => rfl))) pe_int) (pa_cons (pe_cal C_l_take (hr.mono (by decide)) hgd (by rfl) (pa_cons (pv 0) (pa_cons (pe_op o_pow pe_int pe_int) pa_nil))) pa_nil)))) pa_nil)))))
    (pss_cons (ps_set (i := 6) sc_l_units_right.nd rfl (.inl rfl) (pe_cal C_l_of (hr.mono (by decide)) hgd (by rfl) (pa_cons (pv 0) (pa_cons (pe_lst (pa_cons (pe_cal C_l_take (hr.mono (by decide)) hgd (by rfl) (pa_cons (pv 0) (pa_cons (pe_op o_add (pv 5) pe_int) pa_nil))) (pa_cons pe_int (pa_cons (pv 5) (pa_cons pe_int (pa_cons (pe_cal C_l_take (hr.mono (by decide)) hgd (by rfl) (pa_cons (pv 0) (pa_cons (pe_op o_add (pv 5) pe_int) pa_nil))) pa_nil)))))) pa_nil))))
    (pss_one (ps_if (pt_cmpR op_ne (pe_cal C_l_is_within (hr.mono (by decide)) hgd (by rfl) (pa_cons (pe_cal C_stretch (hr.mono (by decide)) hgd (by rfl) (pa_cons (pv 1) (pa_cons (pv 3) pa_nil))) (pa_cons (pv 6) (pa_cons (pv 5) pa_nil)))) (pe_cal C_l_is_right (hr.mono (by decide)) hgd (by rfl) (pa_cons (pv 1) (pa_cons (pv 3) (pa_cons (pv 6) (pa_cons (pv 5) pa_nil))))) (nomark _)) (pss_one (ps_ret pe_bl)) pss_nil))))))
    (pss_one (ps_ret pe_bl)))))), ?_⟩
    try dsimp only [cxOf, Cx.nox, Cx.wish]
    rw [st_l_units_right]; walk_at "go"
    refine ⟨p, n, xs, 100, rfl, hp, hP, by omega, by decide, by decide, ?_⟩
    rintro v H1 zs b1 hp1 hP1 ⟨u, b, how, rfl, hu, nu, hb, hb2, hh⟩
    walk_at "go"
    refine w_newL rfl (fun l1 H2 nl1 hl1 s2 => ?_)
    have hu2 := s2 _ _ hu
    walk_at "go"
    refine w_newR (by decide) (by decide) (by omega) (by omega) (fun l2 H3 nl2 hl2 s3 => ?_)
    walk_at "go"
    have hlen : (rgV 0 (b + 1)).length ≤ 200 := by
      rw [rgV_length]
      omega
    refine w_cat (s3 _ _ hl1) hl2 (by show 2 + (rgV 0 (b + 1)).length ≤ 100000; omega) (fun l H4 nl hl s4 => ?_)
    have sh : ∀ x ∈ [V.str "none", V.str "some"] ++ rgV 0 (b + 1), ∃ sh : Sh, x = sh.v ∧ sh.ok b := fun x hx => by
      rcases List.mem_append.mp hx with hx | hx
      · simp only [List.mem_cons, List.not_mem_nil, or_false] at hx
        rcases hx with rfl | rfl
        · exact ⟨.none, rfl, trivial⟩
        · exact ⟨.some, rfl, trivial⟩
      · exact rg_share hx
    have llen : ([V.str "none", V.str "some"] ++ rgV 0 (b + 1)).length ≤ 202 := by
      rw [List.length_append]
      show 2 + _ ≤ 202
      omega
    have lpos : 2 ≤ ([V.str "none", V.str "some"] ++ rgV 0 (b + 1)).length := by
      rw [List.length_append]
      show 2 ≤ 2 + _
      omega
    generalize [V.str "none", V.str "some"] ++ rgV 0 (b + 1) = shares at *
    have hp4 : H4 p = some (.lst zs) := s4 _ _ (s3 _ _ (s2 _ _ hp1))
    have hu4 : H4 u = some (.tup [.int b, .str how]) := s4 _ _ (s3 _ _ hu2)
    have b4 : But p H H4 := b1.trans (s2.but.trans (s3.but.trans s4.but))
    have hpl : p ≠ l := fun z => by
      rw [← z, s3 _ _ (s2 _ _ hp1)] at nl
      cases nl
    walk_at "go"
    -- the first loop: both stretches
    refine ⟨_, rfl, l, rfl, ⟨_, sqL hl⟩, for_list (K := K) (a := l) (xs := shares) (fun i σ' H' => ∃ y3 y4 y5 y6, σ' = [some (.ref p), some (.ref u), some (.ref l), y3, y4, y5, y6] ∧ Same H4 H') ⟨none, none, none, none, rfl, Same.refl _⟩ (fun i σ' H' _ h => by obtain ⟨_, _, _, _, _, s5⟩ := h; exact s5.seq (sqL hl)) ?_ ?_⟩
    · rintro i x σ' H5 hx ⟨y3, y4, y5, y6, rfl, s5⟩
      obtain ⟨sx, rfl, ok⟩ := sh x (List.mem_of_getElem? hx)
      have hu5 := s5 _ _ hu4
      show tIfS _ _ _ _ _ _
      walk_at "go"
      refine ⟨_, sx, b, how, rfl, ⟨u, rfl, sqT hu5, hb, hb2, hh⟩, ok, fun v H6 s6 hd6 => ?_⟩
      obtain ⟨z1, z2, z3, z4⟩ := strZ_small (how := how) hb hb2 ok
      walk_at "go"
      refine w_reprD (shw_str hd6 z1 z2 z3 z4) ?_
      walk_at "go"
      refine ⟨u, sx, b, how, rfl, sqT (s6 _ _ hu5), hh, hb, hb2, ok, fun v2 H7 s7 hd7 => ?_⟩
      walk_at "go"
      refine w_reprD (shw_str hd7 z1 z2 z3 z4) ?_
      walk_at "go"
      refine w_ifN (fun e => absurd rfl e) (fun _ => ?_)
      walk_at "go"
      exact ⟨_, _, _, _, rfl, s5.trans (s6.trans s7)⟩
    · rintro σ' H5 ⟨y3, y4, y5, y6, rfl, s5⟩
      have hp5 := s5 _ _ hp4
      have hu5 := s5 _ _ hu4
      have hl5 := s5 _ _ hl
      walk_at "go"
      refine w_forR (n := 12) (fun i σ' H' => ∃ y3 y4 y5 y6 ys, σ' = [some (.ref p), some (.ref u), some (.ref l), y3, y4, y5, y6] ∧ But p H H' ∧ H' p = some (.lst ys) ∧ PotL (n + 2 + 10 * i) ys ∧ H' l = some (.lst shares) ∧ H' u = some (.tup [.int b, .str how]))
        (fun R h => h) (by decide) ⟨_, _, _, _, zs, rfl, b4.trans s5.but, hp5, hP1, hl5, hu5⟩ ?_ ?_
      · rintro i σ' H6 hi ⟨y3, y4, y5, y6, ys, rfl, b6, hp6, hP6, hl6, hu6⟩
        show tSeq _ _ _ _ _
        walk_at "go"
        refine w_newL rfl (fun l3 H7 nl3 hl3 s7 => ?_)
        walk_at "go"
        refine w_cat (s7 _ _ hl6) hl3 (by show shares.length + 4 ≤ 100000; omega) (fun l4 H8 nl4 hl4 s8 => ?_)
        have hp8 := s8 _ _ (s7 _ _ hp6)
        have hpl4 : p ≠ l4 := fun z => by
          rw [← z, s7 _ _ hp6] at nl4
          cases nl4
        walk_at "go"
        refine ⟨p, _, ys, l4, _, rfl, hp8, hP6, by omega, hpl4, sqL hl4, by rw [List.length_append]; omega, by rw [List.length_append]; show shares.length + 4 ≤ 1000; omega, ?_⟩
        intro v H9 ws b9 hp9 hP9 mv
        obtain ⟨sx, rfl, ok⟩ : ∃ sx : Sh, v = sx.v ∧ sx.ok b := by
          rcases List.mem_append.mp mv with hx | hx
          · exact sh v hx
          · simp only [List.mem_cons, List.not_mem_nil, or_false] at hx
            rcases hx with rfl | rfl | rfl | rfl
            · exact ⟨.some, rfl, trivial⟩
            · exact ⟨.n 0, rfl, by show 0 ≤ (0 : Int) ∧ 0 ≤ b; omega⟩
            · exact ⟨.n b, rfl, by show 0 ≤ b ∧ b ≤ b; omega⟩
            · exact ⟨.none, rfl, trivial⟩
        have hu9 : H9 u = some (.tup [.int b, .str how]) := b9.tups hp8 _ _ (s8 _ _ (s7 _ _ hu6))
        have hl9 : H9 l = some (.lst shares) := b9 _ _ hpl.symm (s8 _ _ (s7 _ _ hl6))
        have B9 : But p H H9 := b6.trans (s7.but.trans (s8.but.trans b9))
        walk_at "go"
        refine ⟨p, _, 40, ws, rfl, hp9, hP9, by omega, by decide, by decide, ?_⟩
        rintro v H10 ws10 b10 hp10 hP10 ⟨t1, rfl, t10, t11⟩
        have hu10 : H10 u = some (.tup [.int b, .str how]) := b10.tups hp9 _ _ hu9
        walk_at "go"
        refine w_pow (cpow_of (by decide) (by decide) (by decide) (by decide)) ?_
        walk_at "go"
        refine ⟨p, _, _, ws10, rfl, hp10, hP10, by omega, by decide, by decide, ?_⟩
        rintro v H11 ws11 b11 hp11 hP11 ⟨t2, rfl, t20, t21⟩
        walk_at "go"
        refine w_newL rfl (fun l5 H12 nl5 hl5 s12 => ?_)
        have hpl5 : p ≠ l5 := ne_of_none hp11 nl5
        walk_at "go"
        refine ⟨p, _, ws11, l5, _, rfl, s12 _ _ hp11, hP11, by omega, hpl5, sqL hl5, by show 0 < 3; decide, by show 3 ≤ 1000; decide, ?_⟩
        intro v H13 ws13 b13 hp13 hP13 mv
        obtain ⟨wh, rfl, w0, w1⟩ : ∃ wh : Int, v = .int wh ∧ 0 ≤ wh ∧ wh < 100000000 := by
          simp only [List.mem_cons, List.not_mem_nil, or_false] at mv
          have t22 : t2 < 100000000 := t21
          rcases mv with rfl | rfl | rfl
          · exact ⟨_, rfl, by omega, by omega⟩
          · exact ⟨_, rfl, by omega, by omega⟩
          · exact ⟨_, rfl, by omega, by omega⟩
        walk_at "go"
        refine ⟨p, _, _, ws13, rfl, hp13, hP13, by omega, by omega, by omega, ?_⟩
        rintro v H14 ws14 b14 hp14 hP14 ⟨t3, rfl, t30, t31⟩
        walk_at "go"
        refine ⟨p, _, _, ws14, rfl, hp14, hP14, by omega, by omega, by omega, ?_⟩
        rintro v H15 ws15 b15 hp15 hP15 ⟨t4, rfl, t40, t41⟩
        walk_at "go"
        refine w_newL rfl (fun l6 H16 nl6 hl6 s16 => ?_)
        have hpl6 : p ≠ l6 := ne_of_none hp15 nl6
        walk_at "go"
        refine ⟨p, _, ws15, l6, _, rfl, s16 _ _ hp15, hP15, by omega, hpl6, sqL hl6, by show 0 < 5; decide, by show 5 ≤ 1000; decide, ?_⟩
        intro v H17 ws17 b17 hp17 hP17 mv
        obtain ⟨m, rfl, m0, m1⟩ : ∃ m : Int, v = .int m ∧ 0 ≤ m ∧ m ≤ 1 + wh := by
          simp only [List.mem_cons, List.not_mem_nil, or_false] at mv
          rcases mv with rfl | rfl | rfl | rfl | rfl
          · exact ⟨_, rfl, by omega, by omega⟩
          · exact ⟨_, rfl, by omega, by omega⟩
          · exact ⟨_, rfl, by omega, by omega⟩
          · exact ⟨_, rfl, by omega, by omega⟩
          · exact ⟨_, rfl, by omega, by omega⟩
        have c1 : But p H9 H17 := b10.trans (b11.trans (s12.but.trans (b13.trans (b14.trans (b15.trans (s16.but.trans b17))))))
        have hu17 : H17 u = some (.tup [.int b, .str how]) := c1.tups hp9 _ _ hu9
        walk_at "go"
        refine ⟨_, sx, b, how, rfl, ⟨u, rfl, sqT hu17, hb, hb2, hh⟩, ok, fun v H18 s18 hd18 => ?_⟩
        walk_at "go"
        refine ⟨v, _, m, _, rfl, hd18, m0, by omega, by omega, by omega, ?_⟩
        walk_at "go"
        refine ⟨u, sx, b, how, m, _, rfl, sqT (s18 _ _ hu17), hh, hb, hb2, m0, m1, by omega, by omega, ?_⟩
        walk_at "go"
        rw [withinB_eq (hows_mem hh) hb m0 m1 (by omega) ok]
        refine w_ifN (fun e => absurd rfl e) (fun _ => ?_)
        walk_at "go"
        exact ⟨_, _, _, _, ws17, rfl, B9.trans (c1.trans s18.but), s18 _ _ hp17, hP17.mono (by omega), s18 _ _ (c1 _ _ hpl.symm hl9), s18 _ _ hu17⟩
      · rintro σ' H6 ⟨y3, y4, y5, y6, ys, rfl, b6, hp6, hP6, hl6, hu6⟩
        walk_at "go"
        exact q _ _ b6 hp6 (hP6.mono (by omega))
/-- a comprehension over a range whose turns change what stands at p -/
theorem w_lcRp {σ : L2.St} {H : Hp} {Q : VK} {p : Addr} {k n : Nat} {te : TE} {tA : TA} (Pt : Nat → Hp → Prop) (hA : ∀ R : List V → Hp → Prop, R [.int n] H → tA σ H R) (hn : n ≤ 1000) (hp : ∃ o, H p = some o) (h0 : ∀ D H', H D = none → Same H H' → Pt 0 H')
    (step : ∀ i H' (Nx : VK), i < n → Pt i H' → (∀ H3, But p H' H3 → Pt (i + 1) H3 → Nx (.bl true) H3) → te ((wipe σ [k]).set k (some (.int (i : Int)))) H' Nx)
    (keep : ∀ i H' D acc, H' D ≠ none → D ≠ p → Pt i H' → Pt i (upd H' D acc))
    (hw : ∀ i : Int, wipe ((wipe σ [k]).set k (some (.int i))) [k] = wipe σ [k])
    (q : ∀ D H' ys, H D = none → But p H H' → Pt n H' → H' D = some (.lst ys) → (∀ (i : Nat) (y : V), ys[i]? = some y → y = .bl true) → Q (.ref D) H') : tLc (iRng1 tA) (gName k) tYes te [k] σ H Q := by
  refine hA _ ⟨(n : Int), rfl, by omega, by omega, fun D hD => ?_⟩
  have e : ((n : Int)).toNat = n := by omega
  rw [e]
  obtain ⟨o, hpo⟩ := hp
  have hDp : D ≠ p := fun z => by
    rw [z, hpo] at hD
    cases hD
  refine lc_range (lo := 0) (n := n) (fun i H' => But p H H' ∧ Pt i H' ∧ ∃ acc, H' D = some (.lst acc) ∧ acc.length = i ∧ ∀ y ∈ acc, y = V.bl true) ⟨(same_new hD).but, h0 D _ hD (same_new hD), [], upd_same, rfl, fun y hy => by cases hy⟩ (fun i H' hi h => ?_) (fun H' h => ?_)
  · obtain ⟨b1, pt, acc, hacc, hlen, hall⟩ := h
    rw [Int.zero_add]
    refine ⟨hw _, step i H' _ hi pt (fun H3 b3 pt3 => ?_)⟩
    · have hacc3 := b3 _ _ hDp hacc
      refine ⟨acc, hacc3, Nat.lt_of_le_of_lt (show acc.length ≤ 1000 by omega) (small1000 (Nat.le_refl _)), ?_, keep _ _ _ _ (by rw [hacc3]; simp) hDp pt3, acc ++ [.bl true], upd_same, by simp [hlen], fun y hy => ?_⟩
      · intro c u nc hc
        by_cases hcD : c = D
        · rw [hcD, hD] at hc
          cases hc
        · rw [upd_ne hcD]
          exact b3 _ _ nc (b1 _ _ nc hc)
      · rcases List.mem_append.mp hy with hy | hy
        · exact hall y hy
        · simpa using hy
  · obtain ⟨b1, pt, acc, hacc, hlen, hall⟩ := h
    exact q D H' acc hD b1 pt hacc (fun i y hy => hall y (List.mem_of_getElem? hy))
theorem C_l_right (T : Txt K mg) : Cal P w K mg base 7 "_law_right" ["_law_pot_here"] spLR := by
  have C_l_units_right := C_l_units_right (P := P) (w := w) (base := base) T
  obtain ⟨fd, F⟩ := T.d_l_right
  refine ⟨_, fd, okG F sc_l_right (fun vs H Q E h => ?_) (fun cdv A outer s H vs Q E hr hgd h => ?_), T.g_l_right, F.kp, (F.bindsN fun _ _ _ _ _ _ us hl => match us, hl with | [_], _ => rfl)⟩
  · obtain ⟨p, xs, rfl, _⟩ := h
    rfl
  · obtain ⟨p, xs, rfl, hp, hP, q⟩ := h
    refine ⟨_, PSs.nox (pss_one (ps_ret (pe_callB (x_all (K := K) rfl rfl) (by rfl) T.z_all (by decide +kernel) (pa_cons (pe_lc (own := [("_law_lap", 1)]) (g := gName 1) rfl sc_l_right.nd (pi_range1 (by rfl) T.z_range (pa_cons pe_int pa_nil)) (blkOk_by (own := [("_law_lap", 1)]) (N := ["_law_pot_here", "_law_lap"]) (sc := defScope s_l_right) (by decide +kernel)) (fun _ _ _ _ _ => (pg_name (i := 1) sc_l_right.nd rfl (.inl rfl))) (fun _ _ _ _ _ => pts_nil) (fun _ _ _ _ _ => (pe_cal C_l_units_right (hr.mono (by decide)) hgd (by rfl) (pa_cons (pv 0) pa_nil)))) pa_nil)))), ?_⟩
    try dsimp only [cxOf, Cx.nox, Cx.wish]
    rw [st_l_right]; walk_at "go"
    refine w_lcRp (p := p) (n := 3) (fun i H' => ∃ ys, H' p = some (.lst ys) ∧ PotL (200 * i) ys) (fun R h => h) (by decide) ⟨_, hp⟩ (fun D H' _ s1 => ⟨xs, s1 _ _ hp, hP⟩) ?_ ?_ (fun _ => rfl) ?_
    · rintro i H1 Nx hi ⟨ys, hp1, hP1⟩ nx
      walk_at "go"
      refine ⟨p, _, ys, rfl, hp1, hP1, by omega, fun H2 zs b2 hp2 hP2 => ?_⟩
      exact nx H2 b2 ⟨zs, hp2, hP2.mono (by omega)⟩
    · rintro i H1 D acc _ hD ⟨ys, hp1, hP1⟩
      exact ⟨ys, by rw [upd_ne hD.symm]; exact hp1, hP1⟩
    · rintro D H1 ys nD b1 _ hD hy
      walk_at "go"
      exact w_allT (sqL hD) hy (q _ b1)
theorem ok_law (T : Txt K mg) {fd : FuncData} (F : FnP K "law" s_law (He.ga K "law") fd) : FnG P w K mg base 8 (He.ga K "law") fd ["_law_script"] (spLaw K) := by
  have C_l_cells := C_l_cells (P := P) (w := w) (base := base) T
  have C_l_pot := C_l_pot (P := P) (w := w) (base := base) T
  have C_l_right := C_l_right (P := P) (w := w) (base := base) T
  refine okG F sc_law (fun vs H Q E h => ?_) (fun cdv A outer s H vs Q E hr hgd h => ?_)
  · obtain ⟨p, xs, rfl, _⟩ := h
    rfl
  · obtain ⟨a, ns, rfl, hS, q⟩ := h
    refine ⟨_, PSs.nox (pss_one (ps_ret (pe_callB (x_all (K := K) rfl rfl) (by rfl) T.z_all (by decide +kernel) (pa_cons (pe_lc (own := [("_law_place", 1)]) (g := gName 1) rfl sc_law.nd (xi_list (K := K) rfl (pe_cal C_l_cells (hr.mono (by decide)) hgd (by rfl) (pa_cons (pv 0) (pa_cons pe_int pa_nil)))) (blkOk_by (own := [("_law_place", 1)]) (N := ["_law_script", "_law_place"]) (sc := defScope s_law) (by decide +kernel)) (fun _ _ _ _ _ => (pg_name (i := 1) sc_law.nd rfl (.inl rfl))) (fun _ _ _ _ _ => pts_nil) (fun _ _ _ _ _ => (pe_cal C_l_right (hr.mono (by decide)) hgd (by rfl) (pa_cons (pe_cal C_l_pot (hr.mono (by decide)) hgd (by rfl) (pa_cons (pv 0) (pa_cons (pv 1) pa_nil))) pa_nil)))) pa_nil)))), ?_⟩
    try dsimp only [cxOf, Cx.nox, Cx.wish]
    rw [st_law]; walk_at "go"
    refine ⟨a, 4, ns, rfl, hS, by decide, by decide, fun l H1 n nl s1 hn hl => ?_⟩
    have hz : (rgV 0 n).length ≤ 1000 := by
      rw [rgV_length]
      omega
    refine w_lcL (xs := rgV 0 n) (fun _ y => y = .bl true) (sqL hl) (by omega) ?_ ?_
    · intro i x H2 Nx hx s2 nx
      obtain ⟨k, rfl, k0, k1⟩ : ∃ k : Int, x = .int k ∧ 0 ≤ k ∧ k ≤ 100 := by
        have hx2 : ((List.range (n - 0).toNat).map fun i => V.int (0 + (i : Nat)))[i]? = some x := hx
        rw [List.getElem?_map] at hx2
        cases e : (List.range (n - 0).toNat)[i]? with
        | none =>
          rw [e] at hx2
          cases hx2
        | some j =>
          rw [e] at hx2
          have hj := List.mem_range.mp (List.mem_of_getElem? e)
          exact ⟨_, (Option.some.inj hx2).symm, by omega, by omega⟩
      refine ⟨rfl, ?_⟩
      walk_at "go"
      refine ⟨a, k, ns, rfl, s2.seq (s1.seq hS), k0, k1, fun p H3 ys np s3 hp hP => ?_⟩
      refine ⟨p, ys, rfl, hp, hP, fun H4 b4 => ?_⟩
      refine nx _ _ (fun c o hc => b4 _ _ (fun z => ?_) (s3 _ _ hc)) rfl
      rw [z, np] at hc
      cases hc
    · intro D H3 ys nD s3 hD hlen hy
      walk_at "go"
      exact w_allT (sqL hD) hy (q _)
end

end Ak
namespace Ak
open PySem PySem.Spec PyProof.Rows L2
set_option maxHeartbeats 0
def names0 : List PySem.Str := ["AskedError", "BadUnits", "BadShare", "PAIR", "is_integer", "is_between", "is_tuple", "is_word", "divisor_of", "fraction", "NEAR", "EVEN", "DOWN", "UP", "HOWS"]
def names1 : List PySem.Str := ["NONE", "SOME", "LEAST_UNITS", "MOST_UNITS", "is_units", "check_units", "is_share", "check_share", "halves", "stretch", "_law_pot", "_law_take", "_law_of", "_law_cells", "_law_units"]
def names2 : List PySem.Str := ["_law_rounded", "_law_is_right", "_law_common", "_law_pair", "_law_stretch", "_law_is_within", "_law_units_right", "_law_right"]
def names : List PySem.Str := names0 ++ names1 ++ names2
def fa0 : List He.Fa := [.glo "is_integer", .glo "is_between", .glo "is_tuple", .glo "is_word", .glo "divisor_of", .glo "fraction", .glo "is_units", .glo "check_units", .glo "is_share", .glo "check_share", .glo "halves", .glo "stretch", .glo "_law_pot", .glo "_law_take", .glo "_law_of"]
def fa1 : List He.Fa := [.glo "_law_cells", .glo "_law_units", .glo "_law_rounded", .glo "_law_is_right", .glo "_law_common", .glo "_law_pair", .glo "_law_stretch", .glo "_law_is_within", .glo "_law_units_right", .glo "_law_right", .glo "law", .int "PAIR" 2, .str "NEAR" "near", .str "EVEN" "even", .str "DOWN" "down"]
def fa2 : List He.Fa := [.str "UP" "up", .glo "HOWS", .str "NONE" "none", .str "SOME" "some", .int "LEAST_UNITS" 2, .int "MOST_UNITS" 100, .free "abs", .free "all", .free "bool", .free "int", .free "isinstance", .free "len", .free "list", .free "max", .free "min"]
def fa3 : List He.Fa := [.free "range", .free "repr", .free "str", .free "tuple"]
def fa : List He.Fa := fa0 ++ fa1 ++ fa2 ++ fa3
def fn0 : List He.DefD := [⟨("is_integer", none), "is_integer", "is_integer", defArgs s_is_integer, defBody s_is_integer, defScope s_is_integer, [], []⟩,
  ⟨("is_between", none), "is_between", "is_between", defArgs s_is_between, defBody s_is_between, defScope s_is_between, [], []⟩,
  ⟨("is_tuple", none), "is_tuple", "is_tuple", defArgs s_is_tuple, defBody s_is_tuple, defScope s_is_tuple, [], []⟩,
  ⟨("is_word", none), "is_word", "is_word", defArgs s_is_word, defBody s_is_word, defScope s_is_word, [], []⟩,
  ⟨("divisor_of", none), "divisor_of", "divisor_of", defArgs s_divisor_of, defBody s_divisor_of, defScope s_divisor_of, [], []⟩,
  ⟨("fraction", none), "fraction", "fraction", defArgs s_fraction, defBody s_fraction, defScope s_fraction, [], []⟩,
  ⟨("is_units", none), "is_units", "is_units", defArgs s_is_units, defBody s_is_units, defScope s_is_units, [], []⟩,
  ⟨("check_units", none), "check_units", "check_units", defArgs s_check_units, defBody s_check_units, defScope s_check_units, [], []⟩,
  ⟨("is_share", none), "is_share", "is_share", defArgs s_is_share, defBody s_is_share, defScope s_is_share, [], []⟩,
  ⟨("check_share", none), "check_share", "check_share", defArgs s_check_share, defBody s_check_share, defScope s_check_share, [], []⟩]
def fn1 : List He.DefD := [⟨("halves", none), "halves", "halves", defArgs s_halves, defBody s_halves, defScope s_halves, [], []⟩,
  ⟨("stretch", none), "stretch", "stretch", defArgs s_stretch, defBody s_stretch, defScope s_stretch, [], []⟩,
  ⟨("_law_pot", none), "_law_pot", "_law_pot", defArgs s_l_pot, defBody s_l_pot, defScope s_l_pot, [], []⟩,
  ⟨("_law_take", none), "_law_take", "_law_take", defArgs s_l_take, defBody s_l_take, defScope s_l_take, [], []⟩,
  ⟨("_law_of", none), "_law_of", "_law_of", defArgs s_l_of, defBody s_l_of, defScope s_l_of, [], []⟩,
  ⟨("_law_cells", none), "_law_cells", "_law_cells", defArgs s_l_cells, defBody s_l_cells, defScope s_l_cells, [], []⟩,
  ⟨("_law_units", none), "_law_units", "_law_units", defArgs s_l_units, defBody s_l_units, defScope s_l_units, [], []⟩,
  ⟨("_law_rounded", none), "_law_rounded", "_law_rounded", defArgs s_l_rounded, defBody s_l_rounded, defScope s_l_rounded, [], []⟩,
  ⟨("_law_is_right", none), "_law_is_right", "_law_is_right", defArgs s_l_is_right, defBody s_l_is_right, defScope s_l_is_right, [], []⟩,
  ⟨("_law_common", none), "_law_common", "_law_common", defArgs s_l_common, defBody s_l_common, defScope s_l_common, [], []⟩]
def fn2 : List He.DefD := [⟨("_law_pair", none), "_law_pair", "_law_pair", defArgs s_l_pair, defBody s_l_pair, defScope s_l_pair, [], []⟩,
  ⟨("_law_stretch", none), "_law_stretch", "_law_stretch", defArgs s_l_stretch, defBody s_l_stretch, defScope s_l_stretch, [], []⟩,
  ⟨("_law_is_within", none), "_law_is_within", "_law_is_within", defArgs s_l_is_within, defBody s_l_is_within, defScope s_l_is_within, [], []⟩,
  ⟨("_law_units_right", none), "_law_units_right", "_law_units_right", defArgs s_l_units_right, defBody s_l_units_right, defScope s_l_units_right, [], []⟩,
  ⟨("_law_right", none), "_law_right", "_law_right", defArgs s_l_right, defBody s_l_right, defScope s_l_right, [], []⟩,
  ⟨("law", none), "law", "law", defArgs s_law, defBody s_law, defScope s_law, [], []⟩]
def fn : List He.DefD := fn0 ++ fn1 ++ fn2
def ex (K : PySem.W.Frag) : Bool := (He.tupB K "HOWS" [(.str "near"), (.str "even"), (.str "down"), (.str "up")])
abbrev R : PySem.W.OpenRow := PySem.W.OpenLaw.row PySem.Challenge.rw_anyasked_k02_stretches_of_all_shares
abbrev hk : PySem.W.Hook := He.hookX 5 fa fn [] [] ex
def ob (s : PySem.W.SharedT) : He.AlX := He.obsX 5 fa fn [] [] ex (HandSHeadRun.getT s)
theorem ob_eq (s : PySem.W.SharedT) : ob s = hk.obs s.abs := He.obsX_eq (HandSHeadRun.getT_eq s)
theorem run (w : World) : HandSHeadRun.RunEq R (PySem.W.view R.prog [42]) hk ob 40000 names w := by
  intro os
  kernel_rfl
theorem txt_of {K : PySem.W.Frag} {h : Heap} {mg : Str → Option Value} {w : World} {h2 : Heap} (X : K.In h) (G : h.Ns mainGlobals mg) (cx : He.SaysX fa fn [] [] ex w h2 K) : Txt K mg := by
  have c := cx.t.d
  have m : ex K = true := cx.more
  unfold ex at m
  exact { d_is_integer := c.def_ 0, g_is_integer := He.glo_ok X G (c.fact 0), d_is_between := c.def_ 1, g_is_between := He.glo_ok X G (c.fact 1), d_is_tuple := c.def_ 2, g_is_tuple := He.glo_ok X G (c.fact 2), d_is_word := c.def_ 3, g_is_word := He.glo_ok X G (c.fact 3), d_divisor_of := c.def_ 4, g_divisor_of := He.glo_ok X G (c.fact 4), d_fraction := c.def_ 5, g_fraction := He.glo_ok X G (c.fact 5), d_is_units := c.def_ 6, g_is_units := He.glo_ok X G (c.fact 6), d_check_units := c.def_ 7, g_check_units := He.glo_ok X G (c.fact 7), d_is_share := c.def_ 8, g_is_share := He.glo_ok X G (c.fact 8), d_check_share := c.def_ 9, g_check_share := He.glo_ok X G (c.fact 9), d_halves := c.def_ 10, g_halves := He.glo_ok X G (c.fact 10), d_stretch := c.def_ 11, g_stretch := He.glo_ok X G (c.fact 11), d_l_pot := c.def_ 12, g_l_pot := He.glo_ok X G (c.fact 12), d_l_take := c.def_ 13, g_l_take := He.glo_ok X G (c.fact 13), d_l_of := c.def_ 14, g_l_of := He.glo_ok X G (c.fact 14), d_l_cells := c.def_ 15, g_l_cells := He.glo_ok X G (c.fact 15), d_l_units := c.def_ 16, g_l_units := He.glo_ok X G (c.fact 16), d_l_rounded := c.def_ 17, g_l_rounded := He.glo_ok X G (c.fact 17), d_l_is_right := c.def_ 18, g_l_is_right := He.glo_ok X G (c.fact 18), d_l_common := c.def_ 19, g_l_common := He.glo_ok X G (c.fact 19), d_l_pair := c.def_ 20, g_l_pair := He.glo_ok X G (c.fact 20), d_l_stretch := c.def_ 21, g_l_stretch := He.glo_ok X G (c.fact 21), d_l_is_within := c.def_ 22, g_l_is_within := He.glo_ok X G (c.fact 22), d_l_units_right := c.def_ 23, g_l_units_right := He.glo_ok X G (c.fact 23), d_l_right := c.def_ 24, g_l_right := He.glo_ok X G (c.fact 24), d_law := c.def_ 25, g_law := He.glo_ok X G (c.fact 25), c_PAIR := He.int_ok X G (c.fact 26), c_NEAR := He.str_ok X G (c.fact 27), c_EVEN := He.str_ok X G (c.fact 28), c_DOWN := He.str_ok X G (c.fact 29), c_UP := He.str_ok X G (c.fact 30), c_HOWS := He.glo_ok X G (c.fact 31), c_NONE := He.str_ok X G (c.fact 32), c_SOME := He.str_ok X G (c.fact 33), c_LEAST_UNITS := He.int_ok X G (c.fact 34), c_MOST_UNITS := He.int_ok X G (c.fact 35), z_abs := He.free_ok X G (c.fact 36), z_all := He.free_ok X G (c.fact 37), z_bool := He.free_ok X G (c.fact 38), z_int := He.free_ok X G (c.fact 39), z_isinstance := He.free_ok X G (c.fact 40), z_len := He.free_ok X G (c.fact 41), z_list := He.free_ok X G (c.fact 42), z_max := He.free_ok X G (c.fact 43), z_min := He.free_ok X G (c.fact 44), z_range := He.free_ok X G (c.fact 45), z_repr := He.free_ok X G (c.fact 46), z_str := He.free_ok X G (c.fact 47), z_tuple := He.free_ok X G (c.fact 48), t_HOWS := fun H => He.tupB_ok m H }
end Ak
open PySem PySem.W PySem.Calls PyProof.Rows
theorem PySem.Challenge.cw_anyasked_k02_stretches_of_all_shares_holds : PySem.Challenge.rw_anyasked_k02_stretches_of_all_shares.Holds := by
  w_on; o_law
  refine HandSHeadRun.head_any (r := OpenLaw.row PySem.Challenge.rw_anyasked_k02_stretches_of_all_shares) (q := view (OpenLaw.row PySem.Challenge.rw_anyasked_k02_stretches_of_all_shares).prog [42]) (H := Ak.hk) (ob := Ak.ob) (M := 40000) (loose := Ak.names) (d := HandSHeadRun.topDef (OpenLaw.row PySem.Challenge.rw_anyasked_k02_stretches_of_all_shares).prog 42) (kwd := []) Ak.ob_eq
    (by kernel_rfl) (fun s => by kernel_rfl) Ak.run (by kernel_rfl) (by kernel_rfl) (by kernel_rfl) (by rfl) (by first | assumption | decide +kernel) (by decide +kernel) ⟨rfl, rfl, rfl, rfl, rfl, by decide +kernel⟩ ?hw ?hc
  case hw => w_witness2
  case hc =>
    refine Ak.walk_G (l := PySem.Challenge.rw_anyasked_k02_stretches_of_all_shares) (n := 63) (k := 8) (x := "_law_script") rfl (by decide) (by kernel_rfl) ⟨rfl, by decide, by decide⟩ ?F
    intro w mg fa h Y G hmg0
    obtain ⟨K, KX, c⟩ := Y
    have hmg : mg ("law" : PySem.Str) = some (.ref fa) := by
      have e : (HandSHeadRun.topDef (OpenLaw.row PySem.Challenge.rw_anyasked_k02_stretches_of_all_shares).prog 42).name = ("law" : PySem.Str) := by kernel_rfl
      rw [← e]
      exact hmg0
    have T := Ak.txt_of KX G c
    have e := hmg.symm.trans T.g_law
    cases e
    obtain ⟨fd, F⟩ := T.d_law
    have b := L2.FunD.bindsA (ps := ["_law_script"]) F fun _ _ _ _ _ _ us hl => match us, hl with | [_], _ => rfl
    exact ⟨K, fd, Ak.spLaw K, KX, fun s v => b s [v] rfl, fun H a ns hl hS => ⟨a, ns, rfl, hS, fun _ => rfl⟩, fun base _ _ => Ak.ok_law T F⟩

