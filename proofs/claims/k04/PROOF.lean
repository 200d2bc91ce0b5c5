import PyProof.Rows.All
import Wide.All
import OpenK.AllK
import Wide.FinOn
import KE.KStateDown
import Lean
import HandS.ForMost
import HandS.Exc
import HandS.ExcOwn
import HandS.TryOnly
import HandS.Walk
import HandS.Property
import HandS.TupAny
import HandS.WordsExc
import HandS.Wide
import HandS.WideBits
import HandS.Conv
import HandS.IsInst
import HandS.RaiseMore
import HandS.FStrTup
import KE.KTupSum
import HandS.Defaults
import HandS.Head0
import HandS.Head1
import HandS.Head2
import HandS.HeadEnd
import HandS.HeadHook1
import HandS.HeadHook2
import HandS.HeadHook3
import HandS.HeadHook4
import HandS.Star
import HandS.Zip
import HandS.TupMul
import HandS.Deep
import HandS.TupLe
import HandS.Lambda
import HandS.EndTab
import HandS.NestedK
import HandS.ExcInit
import HandS.ExcField
import HandS.ExcIs
import HandS.ExcCtx
import KE.KExcSuper
import KE.KExcIs
import PySem.Challenge.RW_anyasked_k04_units_shares_and_counts_ref
set_option Elab.async false
set_option linter.all false
set_option maxRecDepth 100000
set_option maxHeartbeats 4000000

namespace Ak
open PySem PySem.Spec PyProof.Rows L2
/-! ### defs whose callers repr nothing just now: what is known of the stack -/
structure FnG (P : Program) (w : World) (K : PySem.W.Frag) (mg : Str → Option Value) (base : Heap) (k : Nat) (f : Addr) (fd : FuncData) (ps : List Str) (sp : Sp) : Prop where
  many : ∀ vs H Q E, sp vs H Q E → vs.length = ps.length
  goes : ∀ (A : Around) (outer : List Env) (s : Shared) (H : Hp) (args : Args) (us : List Value) (vs : List V) (Q : VK) (E : XK), Room k A → A.guards = some [] → Env0 P w K mg base A outer s H → BindsTo s fd args (ps.zip us) → Vals vs us → sp vs H Q E →
    codeAny (model P w) A (.call (.ref f) args) (CR (L2.CX P w) outer P w H s Q E) s
theorem FnG.up {P : Program} {w : World} {K : PySem.W.Frag} {mg : Str → Option Value} {base : Heap} {j k : Nat} {f : Addr} {fd : FuncData} {ps : List Str} {sp : Sp} (F : FnG P w K mg base j f fd ps sp) (le : j ≤ k) : FnG P w K mg base k f fd ps sp :=
  ⟨F.many, fun A outer s H args us vs Q E room => F.goes A outer s H args us vs Q E (room.mono le)⟩
section
variable {P : Program} {w : World} {K : PySem.W.Frag} {mg : Str → Option Value} {base : Heap}
theorem okG {x qual : Str} {params : Arguments} {body : List Stmt} {scope : Scope} {dvs : List V} {kws : List (Str × V)} {f : Addr} {fd : FuncData} {N ps : List Str} {k : Nat} {sp : Sp} (F : FunD K x qual params body scope dvs kws f fd) (S : FnScope N ps scope) (many : ∀ vs H Q E, sp vs H Q E → vs.length = ps.length)
    (walk : ∀ (cdv : Value) (A : Around) (outer : List Env) (s : Shared) (H : Hp) (vs : List V) (Q : VK) (E : XK), Room k (A.deeper (envOfC qual scope s.heap.objs.size f cdv)) → A.guards = some [] → sp vs H Q E →
      ∃ t, PSs (cxOf (L2.CX P w) P w K mg base N qual scope f cdv A outer s H E) body t ∧ t { nx := fun _ H' => Q .non H', rt := Q } (L2.start N vs) H) : FnG P w K mg base (k + 1) f fd ps sp := by
  obtain ⟨oc, od, dV, kV, doc, pm, an, cdv, ct, osl, rfl, there, code, _⟩ := F.ex
  refine ⟨many, fun A outer s H args us vs Q E room gd e0 bound rel want => ?_⟩
  have KX : K.In s.heap := e0.mod.kin.keeps fun b o z => (e0.bs b o z).1
  have nolim : s.heap.NoLimit := e0.mod.nolimit.keeps fun b o z => (e0.bs b o z).1
  have kinds : ((ps.zip us).all fun y => scope.names.lookup y.1 == some .local || scope.names.lookup y.1 == some .cell) = true := by
    rw [List.all_eq_true]
    intro y hy
    rcases S.par y.1 (List.of_mem_zip (a := y.1) (b := y.2) hy).1 with z | z
    · rw [z]
      rfl
    · rw [z]
      rfl
  refine Att.call_fn (binds := ps.zip us) KX nolim there code room.depth bound kinds (fun s1 inC => ?_) S.co S.gen S.kind
  obtain ⟨t, runs, goal⟩ := walk cdv A outer s H vs Q E (room.deeper _) gd want
  have J := inv_start (CX := L2.CX P w) (E := E) S room.hd e0 (many _ _ _ _ want) rel inC
  refine wpAny_mono (runs.run [] s1 (L2.start N vs) H _ J goal) (fun fl s2 z => ?_) (fun e s2 z => z)
  cases fl with
  | ret u =>
    obtain ⟨v, σ2, H2, J2, r2, q2⟩ := z
    exact ⟨v, H2, J2.os, J2.bare, J2.base, J2.hok, r2, q2⟩
  | next =>
    obtain ⟨σ2, H2, J2, q2⟩ := z
    exact ⟨.non, H2, J2.os, J2.bare, J2.base, J2.hok, rfl, q2⟩
  | brk =>
    obtain ⟨_, _, _, no⟩ := z
    exact no.elim
  | cont =>
    obtain ⟨_, _, _, no⟩ := z
    exact no.elim
end
/-! ### calls of defs by their names -/
structure Cal (P : Program) (w : World) (K : PySem.W.Frag) (mg : Str → Option Value) (base : Heap) (k : Nat) (x : Str) (ps : List Str) (sp : Sp) : Prop where
  ex : ∃ f fd, FnG P w K mg base k f fd ps sp ∧ mg x = some (.ref f) ∧ PySem.W.keepIn K (.ref f) = true ∧ Binds K fd ps []
section
variable {X : Cx}
theorem runG {k : Nat} {f : Addr} {fd : FuncData} {ps : List Str} {sp : Sp} {pins : List (Addr × Obj)} {σ : L2.St} {H : Hp} {s : Shared} {Q : VK} {E : XK} {us : List Value} {vs : List V} (G : FnG X.prog X.w X.K X.mg X.base k f fd ps sp) (room : Room k X.A) (gd : X.A.guards = some []) (b : Binds X.K fd ps [])
    (px : Passes (L2.CX X.prog X.w) X E) (I : Inv X pins σ H s) (rel : Vals vs us) (want : sp vs H Q E) : wpAny (model X.prog X.w) X.A (call (.ref f) us) (EP X pins σ Q) X.xe s := by
  have hl : us.length = ps.length := rel.length.symm.trans (G.many _ _ _ _ want)
  have bt : BindsTo s fd ⟨us, []⟩ (ps.zip us) := by
    have z := b s us I.kIn (by rw [List.append_nil]; exact hl)
    rw [List.append_nil] at z
    exact z
  refine wpAny_call (codeAny_mono (G.goes X.A X.stack s H ⟨us, []⟩ us vs Q E room gd I.env0 bt rel want) fun out s2 z => ?_)
  match out, z with
  | .error e, z => exact px pins σ H s e s2 I z
  | .ok (.ret u), z => exact I.after z
  | .ok .next, z => exact z.elim
  | .ok .brk, z => exact z.elim
  | .ok .cont, z => exact z.elim
/-- a call whose errors are wanted as E -/
theorem pe_calE {k : Nat} {x : Str} {ps : List Str} {sp : Sp} {E : XK} {e : Expr} {es : List Expr} {t : TA} {p pos : Pos} (px : Passes (L2.CX X.prog X.w) X E) (C : Cal X.prog X.w X.K X.mg X.base k x ps sp) (room : Room k X.A) (gd : X.A.guards = some []) (gl : Gl X x) (args : PA X (e :: es) t)
    (n1 : (x == ("__debug__" : Str)) = false := by decide) (n2 : starEach (e :: es) X.env = (false, eval e X.env) :: starEach es X.env := by rfl) (n3 : (backTo pos (starEach es X.env)).any (·.1) = false := by rfl) :
    PE X (.Call (.Name x p) (e :: es) [] pos) (tCall sp [] E t) := by
  obtain ⟨f, fd, G, at_, kp, b⟩ := C.ex
  refine ⟨fun pins s σ H Q I want => wpAny_Call_Name_kw (ld_glob I gl at_ ?_ n1)⟩
  refine PySem.W.callWith_K (h₀ := X.base) I.ok.mod.kin kp (thn (args.run pos pins s σ H _ I want) fun us s1 z => ?_) n2 n3
  obtain ⟨vs, H1, I1, rel, q⟩ := z
  refine ⟨I1.kIn, runG G room gd b px I1 rel ?_⟩
  have q2 : sp (vs ++ []) H1 Q E := q
  rw [List.append_nil] at q2
  exact q2
theorem pe_cal {k : Nat} {x : Str} {ps : List Str} {sp : Sp} {e : Expr} {es : List Expr} {t : TA} {p pos : Pos} (C : Cal X.prog X.w X.K X.mg X.base k x ps sp) (room : Room k X.A) (gd : X.A.guards = some []) (gl : Gl X x) (args : PA X (e :: es) t)
    (n1 : (x == ("__debug__" : Str)) = false := by decide) (n2 : starEach (e :: es) X.env = (false, eval e X.env) :: starEach es X.env := by rfl) (n3 : (backTo pos (starEach es X.env)).any (·.1) = false := by rfl) :
    PE X (.Call (.Name x p) (e :: es) [] pos) (tCall sp [] E0 t) := pe_calE passL C room gd gl args n1 n2 n3
/-! ### repr of data -/
mutual
theorem dp_noDict {K : PySem.W.Frag} {H : Hp} : ∀ (d : PyData) (v : V), Dp K H v d → d.hasDict = false
  | _, _, .non => rfl
  | _, _, .bl _ => rfl
  | _, _, .int _ => rfl
  | _, _, .str _ => rfl
  | _, _, .lst _ h => by
    simp only [PyData.hasDict]
    exact dp_noDictAll _ _ h
  | _, _, .tup _ h => by
    simp only [PyData.hasDict]
    exact dp_noDictAll _ _ h
theorem dp_noDictAll {K : PySem.W.Frag} {H : Hp} : ∀ (ds : List PyData) (vs : List V), DpAll K H vs ds → PyData.hasDictAll ds = false
  | _, _, .nil => rfl
  | _, _, .cons h r => by
    simp only [PyData.hasDictAll, dp_noDict _ _ h, dp_noDictAll _ _ r, Bool.or_false]
end
/-- a value that repr takes -/
structure Shw (K : PySem.W.Frag) (H : Hp) (x : V) (d : PyData) : Prop where
  dp : Dp K H x d
  ok : d.showable = true
  sz : d.shown.length ≤ sizeLine
  dep : d.depth ≤ 40
def rReprD (K : PySem.W.Frag) : List V → Hp → VK → Prop := fun xs H Q => ∃ x d, xs = [x] ∧ Shw K H x d ∧ Q (.str d.shown) H
theorem call_repr_data {prog : Program} {w : World} {A : Around} {E : Value → Shared → Prop} {s : Shared} {Q : Value → Shared → Prop} {v : Value} {d : PyData} {as : List Addr} (r : Reads s.heap v d as) (hs : d.showable = true) (hd : d.hasDict = false) (hz : d.shown.length ≤ sizeLine) (gd : A.guards = some []) (hu : A.units + (d.depth + 2) < cLine)
    (q : ∀ h' u tk, (∀ b o, s.heap.get? b = some o → h'.get? b = some o) → Q (.str d.shown u) { s with heap := h', toks := tk }) : wpAny (model prog w) A (call (.builtin "repr") [v]) Q E s := by
  cases r with
  | none => exact PySem.P.repr_of_none (q s.heap _ _ fun _ _ z => z)
  | bool b => exact PySem.P.repr_of_bool (by simpa only [PyData.shown] using q s.heap _ _ fun _ _ z => z)
  | int i t => exact PySem.P.repr_of_int (by simpa [PyData.showable] using hs) (by simpa only [PyData.shown] using q s.heap _ _ fun _ _ z => z)
  | str x t => exact PySem.P.repr_of_str (by simpa only [PyData.shown] using q s.heap _ _ fun _ _ z => z) (by simpa only [PyData.shown] using hz)
  | tuple h1 h2 h3 h4 =>
    rename_i a o items n xs
    have hz2 : (tupleText (PyData.shownAll xs)).length ≤ sizeLine := by simpa only [PyData.shown] using hz
    obtain ⟨bs, hb, hk⟩ := ReprAllK.of_readsAll (prog := prog) (w := w) h4 (by simpa [PyData.showable] using hs) (fun z => by rw [show PyData.hasDictAll xs = false by simpa [PyData.hasDict] using hd] at z; cases z) (fun t ht => Nat.le_trans (tupleText_mem_le ht) hz2)
    have rr : Reads s.heap (.ref a) (.tuple xs) _ := .tuple h1 h2 h3 h4
    have na : a ∉ bs := not_mem_of_deeper rr (by simp only [PyData.depth]; omega) hb
    simp only [PyData.depth] at hu
    refine call_repr_slot (by omega) ⟨_, h1, h2⟩ F.slot_tuple_repr (call_tuple_reprK h1 h2 h3 na hk gd (fun b _ => Clear.nil b) (by show A.units + 1 + _ < _; omega) (fun _ _ z => z) (fun h' u tk k => ⟨_, _, rfl, ?_⟩) hz2)
    simpa only [PyData.shown] using q h' u tk k
  | list h1 h2 h3 h4 =>
    rename_i a o items n xs as
    have hz2 : (listText (PyData.shownAll xs)).length ≤ sizeLine := by simpa only [PyData.shown] using hz
    obtain ⟨bs, hb, hk⟩ := ReprAllK.of_readsAll (prog := prog) (w := w) h4 (by simpa [PyData.showable] using hs) (fun z => by rw [show PyData.hasDictAll xs = false by simpa [PyData.hasDict] using hd] at z; cases z) (fun t ht => Nat.le_trans (listText_mem_le ht) hz2)
    have rr : Reads s.heap (.ref a) (.list xs) _ := .list h1 h2 h3 h4
    have na : a ∉ bs := not_mem_of_deeper rr (by simp only [PyData.depth]; omega) hb
    simp only [PyData.depth] at hu
    obtain ⟨l⟩ := items
    cases l with
    | nil =>
      have h4' : ReadsAll s.heap [] xs _ := h4
      cases h4'
      refine call_repr_slot (by omega) ⟨_, h1, h2⟩ F.slot_list_repr.toG (call_list_repr_empty ⟨_, h1, h2⟩ h1 h3 ⟨_, _, rfl, ?_⟩)
      simpa only [PyData.shown, PyData.shownAll, listText_nil] using q s.heap _ _ fun _ _ z => z
    | cons y l =>
      refine call_repr_slot (by omega) ⟨_, h1, h2⟩ F.slot_list_repr.toG (call_list_reprK h1 h2 h3 na (by simpa using hk.length_eq) (fun i y e => hk.item i y (by simpa using e)) gd (fun b _ => Clear.nil b) (by show A.units + 1 + _ < _; omega) (fun _ _ z => z) (fun h' u tk k => ⟨_, _, rfl, ?_⟩) hz2)
      simpa only [PyData.shown] using q h' u tk k
  | dict h1 h2 h3 h4 h5 =>
    simp only [PyData.hasDict] at hd
    cases hd
theorem c_reprD {k : Nat} (room : Room k X.A) (gd : X.A.guards = some []) : CallR X (.builtin "repr") (rReprD X.K) := by
  intro pins s σ H xs us Q I rel want
  obtain ⟨x, d, rfl, sh, q⟩ := want
  obtain ⟨u, rfl, ru⟩ := vals1 rel
  obtain ⟨as, rd⟩ := Dp.reads I d x u sh.dp ru
  have hu := room.units
  have hd := sh.dep
  exact call_repr_data rd sh.ok (dp_noDict _ _ sh.dp) sh.sz gd (by omega) fun h' t tk k => ⟨.str d.shown, H, I.kept k, ⟨t, rfl⟩, q⟩
end

section
variable {X : Cx}
theorem pe_con {x : Str} {v : V} {u : Tok → Value} {pos : Pos} (hm : ∃ t, X.mg x = some (u t)) (hg : Gl X x) (r : ∀ t, RelV v (u t) := by intro t; exact ⟨t, rfl⟩) (hd : (x == ("__debug__" : Str)) = false := by decide) : PE X (.Name x pos) (tC v) := by
  obtain ⟨t, e⟩ := hm
  exact pe_glob hg e (r t) hd
theorem pe_ci {x : Str} {i : Int} {pos : Pos} (hm : ∃ t, X.mg x = some (.int i t)) (hg : Gl X x) (hd : (x == ("__debug__" : Str)) = false := by decide) : PE X (.Name x pos) (tC (.int i)) := by
  obtain ⟨t, e⟩ := hm
  exact pe_glob hg e ⟨t, rfl⟩ hd
theorem pe_cs {x s : Str} {pos : Pos} (hm : ∃ t, X.mg x = some (.str s t)) (hg : Gl X x) (hd : (x == ("__debug__" : Str)) = false := by decide) : PE X (.Name x pos) (tC (.str s)) := by
  obtain ⟨t, e⟩ := hm
  exact pe_glob hg e ⟨t, rfl⟩ hd
/-! ### rules whose readings name the written part K -/
section
variable {K : PySem.W.Frag}
theorem x_repr {k : Nat} (e : X.K = K) (room : Room k X.A) (gd : X.A.guards = some []) : CallR X (.builtin "repr") (rReprD K) := by subst e; exact c_reprD room gd
theorem x_ix (e : X.K = K) : IxR X (rIx K) := by subst e; exact ix_seq
theorem x_isi (e : X.K = K) : CallR X (.builtin "isinstance") (rIsi K) := by subst e; exact call_isi
theorem x_all (e : X.K = K) (hc : X.calm = true) : CallR X (.builtin "all") (rAll K) := by subst e; exact cr_all hc
theorem x_any (e : X.K = K) (hc : X.calm = true) : CallR X (.builtin "any") (rAny K) := by subst e; exact cr_any hc
theorem x_sum (e : X.K = K) (hc : X.calm = true) : CallR X (.builtin "sum") (rSum K) := by subst e; exact cr_sum hc
theorem x_in (e : X.K = K) : OpR X (compareOp .In) (rIn K false) := by subst e; exact op_in_seq
theorem x_notIn (e : X.K = K) : OpR X (compareOp .NotIn) (rIn K true) := by subst e; exact op_notIn_seq
def rLenS (K : PySem.W.Frag) : List V → Hp → VK → Prop := fun xs H Q => ∃ p ys, xs = [.ref p] ∧ (SqL K H p ys ∨ SqT K H p ys) ∧ Q (.int ys.length) H
theorem x_len (e : X.K = K) : CallR X (.builtin "len") (rLenS K) := by subst e; exact call_len_seq
theorem xi_list {tg it : Expr} {tl : TE} (e : X.K = K) (h : PE X it tl) : PI X tg it (iList K tl) := by subst e; exact pi_list h
theorem xi_tup {tg it : Expr} {tl : TE} (e : X.K = K) (h : PE X it tl) : PI X tg it (iTup K tl) := by subst e; exact pi_tup h
def iSeq (K : PySem.W.Frag) (tl : TE) : TI := fun σ H R => iList K tl σ H R ∨ iTup K tl σ H R
theorem xi_seq {tg it : Expr} {tl : TE} (e : X.K = K) (h : PE X it tl) : PI X tg it (iSeq K tl) := ⟨fun pins s σ H R I z => by
  rcases z with z | z
  · exact (xi_list e h).run pins s σ H R I z
  · exact (xi_tup e h).run pins s σ H R I z⟩
theorem xg_tup {es : List Expr} {k : Nat} {t : TGs} {n : Nat} {pos : Pos} (e : X.K = K) (hc : X.calm = true) (h : PGs X es t) (hn : (assignEach es X.env).length = n := by rfl) (hst : (assignEach es X.env).findIdx? (·.1) = none := by rfl) : PG X (.Tuple es k pos) (gTup K n t) := by subst e; exact pg_tup hc h hn hst
end
/-! ### operators on greater ints -/
def CPowW (i j : Int) : Prop := 0 ≤ j ∧ j ≤ 100 ∧ i.natAbs < 2 ^ 4096
theorem op_powW : OpR X (binaryOp .Pow) (rI CPowW fun i j => .int (i ^ j.toNat)) := opI fun i j _ _ _ _ _ hc q => by
  obtain ⟨h1, h2, h3⟩ := hc
  have b : Builtin.Int.intBits i ≤ 4096 := by
    have hl : i.natAbs.log2 < 4096 := PySem.Flt.log2_lt_of (by decide) h3
    unfold Builtin.Int.intBits
    split <;> omega
  refine pow_int h1 ?_ q
  have b2 : (Builtin.Int.intBits i : Int) ≤ 4096 := by omega
  have : (Builtin.Int.intBits i : Int) * j ≤ 4096 * 100 := Int.mul_le_mul b2 h2 h1 (by decide)
  exact Int.le_trans this (by decide)
/-! ### readings by names -/
def rAddI : R2 := rI0 fun i j => .int (i + j)
theorem o_add : OpR X (binaryOp .Add) rAddI := op_add
def rSubI : R2 := rI0 fun i j => .int (i - j)
theorem o_sub : OpR X (binaryOp .Sub) rSubI := op_sub
def rMulI : R2 := rI (fun i j => IntMulOk i j) fun i j => .int (i * j)
theorem o_mul : OpR X (binaryOp .Mult) rMulI := opI fun _ _ _ _ _ _ _ ok q => mul_int q ok
def rFdivI : R2 := rI CDivW fun i j => .int (i / j)
theorem o_fdiv : OpR X (binaryOp .FloorDiv) rFdivI := op_fdivW
def rModI : R2 := rI (fun _ j => 0 < j) fun i j => .int (i % j)
theorem o_mod : OpR X (binaryOp .Mod) rModI := op_mod
def rPowI : R2 := rI CPowW fun i j => .int (i ^ j.toNat)
theorem o_pow : OpR X (binaryOp .Pow) rPowI := op_powW
def rLtI : R2 := rI0 fun i j => .bl (decide (i < j))
theorem o_lt : OpR X (compareOp .Lt) rLtI := op_lt
def rLeI : R2 := rI0 fun i j => .bl (decide (i ≤ j))
theorem o_le : OpR X (compareOp .LtE) rLeI := op_le
def rGtI : R2 := rI0 fun i j => .bl (decide (j < i))
theorem o_gt : OpR X (compareOp .Gt) rGtI := op_gt
def rGeI : R2 := rI0 fun i j => .bl (decide (j ≤ i))
theorem o_ge : OpR X (compareOp .GtE) rGeI := op_ge
def rIsN : R2 := fun x y H Q => y = .non ∧ Q (.bl (decide (x = .non))) H
theorem o_isN : OpR X (compareOp .Is) rIsN := op_isN
def rNotN : R2 := fun x y H Q => y = .non ∧ Q (.bl (!decide (x = .non))) H
theorem o_notN : OpR X (compareOp .IsNot) rNotN := op_notN
def rCatL : R2 := rCat
theorem o_cat : OpR X (binaryOp .Add) rCatL := op_cat
def rNegI : V → Hp → VK → Prop := rU fun i => .int (-i)
theorem u_neg : UnR X (unaryOp .USub) rNegI := un_neg
def rInt1 : List V → Hp → VK → Prop := fun xs H Q => (∃ i, xs = [.int i] ∧ Q (.int i) H) ∨ ∃ k, xs = [.bl k] ∧ Q (.int (if k then 1 else 0)) H
theorem c_int1 : CallR X (.type "int") rInt1 := call_int1
def rAbs : List V → Hp → VK → Prop := fun xs H Q => ∃ i, xs = [.int i] ∧ Q (.int (if i < 0 then -i else i)) H
theorem c_abs : CallR X (.builtin "abs") rAbs := call_abs
def rMax2 : List V → Hp → VK → Prop := fun xs H Q => ∃ i j, xs = [.int i, .int j] ∧ Q (.int (if j > i then j else i)) H
theorem c_max2 (hc : X.calm = true) : CallR X (.builtin "max") rMax2 := call_max2 hc
def rMin2 : List V → Hp → VK → Prop := fun xs H Q => ∃ i j, xs = [.int i, .int j] ∧ Q (.int (if j < i then j else i)) H
theorem c_min2 (hc : X.calm = true) : CallR X (.builtin "min") rMin2 := call_min2 hc
def rDivmod : List V → Hp → VK → Prop := fun xs H Q => ∃ i j, xs = [.int i, .int j] ∧ CDivP i j ∧ ∀ p, H p = none → Q (.ref p) (upd H p (.tup [.int (i / j), .int (i % j)]))
theorem c_divmod : CallR X (.builtin "divmod") rDivmod := call_divmodW
end
/-! ### steps of readings -/
def NewT (xs : List V) (H : Hp) (Q : VK) : Prop := xs.length ≤ sizeLine ∧ ∀ p, H p = none → Q (.ref p) (upd H p (.tup xs))
def NewR (a b : Int) (H : Hp) (Q : VK) : Prop := RgOk a b ∧ ∀ q, H q = none → Q (.ref q) (upd H q (.lst (rgV a b)))
def NewL (xs : List V) (H : Hp) (Q : VK) : Prop := xs.length ≤ sizeLine ∧ ∀ p, H p = none → Q (.ref p) (upd H p (.lst xs))
section
variable {σ : L2.St} {H : Hp} {Q : VK} {D : Ends} {ta tb tc te : TE} {tt tu : TT} {t1 t2 : TS} {i j : Int} {v x y : V} {K : PySem.W.Frag} {n : Nat} {p : Addr} {xs : List V}
theorem w_seq (h : t1 { D with nx := t2 D } σ H) : tSeq t1 t2 D σ H := h
theorem w_next (h : D.nx σ H) : tNext D σ H := h
theorem w_set {k : Nat} (h : te σ H fun x H1 => D.nx (σ.set k (some x)) H1) : tAsg te (gName k) D σ H := h
theorem w_asgS {ti to : TE} {s : TSet} (h : te σ H fun x H1 => to σ H1 fun o H2 => ti σ H2 fun i H3 => s o i x H3 fun H4 => D.nx σ H4) : tAsg te (gSub to ti s) D σ H := h
theorem w_ret (h : te σ H D.rt) : tRet te D σ H := h
theorem w_drop (h : te σ H fun _ H1 => D.nx σ H1) : tDrop te D σ H := h
theorem w_ifS (h : tt σ H fun b H1 => if b = true then t1 D σ H1 else t2 D σ H1) : tIfS tt t1 t2 D σ H := h
theorem w_op {r : R2} (h : ta σ H fun x H1 => tb σ H1 fun y H2 => r x y H2 Q) : tOp r ta tb σ H Q := h
theorem w_un {r : V → Hp → VK → Prop} (h : ta σ H fun x H1 => r x H1 Q) : tUn r ta σ H Q := h
theorem w_var (h : σ[n]? = some (some v)) (q : Q v H) : tVar n σ H Q := ⟨v, h, q⟩
theorem w_c (q : Q v H) : tC v σ H Q := q
theorem w_I0 {g : Int → Int → V} (q : Q (g i j) H) : rI0 g (.int i) (.int j) H Q := ⟨i, j, rfl, rfl, q⟩
theorem w_I {C : Int → Int → Prop} {g : Int → Int → V} (c : C i j) (q : Q (g i j) H) : rI C g (.int i) (.int j) H Q := ⟨i, j, rfl, rfl, c, q⟩
theorem w_U {g : Int → V} (q : Q (g i) H) : rU g (.int i) H Q := ⟨i, rfl, q⟩
theorem w_add (q : Q (.int (i + j)) H) : rAddI (.int i) (.int j) H Q := ⟨i, j, rfl, rfl, q⟩
theorem w_sub (q : Q (.int (i - j)) H) : rSubI (.int i) (.int j) H Q := ⟨i, j, rfl, rfl, q⟩
theorem w_mulL (h1 : -18446744073709551616 < i) (h2 : i < 18446744073709551616) (q : Q (.int (i * j)) H) : rMulI (.int i) (.int j) H Q := ⟨i, j, rfl, rfl, CMul.ok (.inl ⟨h1, h2⟩), q⟩
theorem w_mulR (h1 : -18446744073709551616 < j) (h2 : j < 18446744073709551616) (q : Q (.int (i * j)) H) : rMulI (.int i) (.int j) H Q := ⟨i, j, rfl, rfl, CMul.ok (.inr ⟨h1, h2⟩), q⟩
theorem w_mulW (h : CMulW i j) (q : Q (.int (i * j)) H) : rMulI (.int i) (.int j) H Q := ⟨i, j, rfl, rfl, h.ok, q⟩
theorem log_small {i : Int} (h0 : 0 ≤ i) (h : i < 1073741824) : i.natAbs.log2 < 1920 := PySem.Flt.log2_lt_of (by decide) (Nat.lt_of_lt_of_le (show i.natAbs < 2 ^ 30 by omega) (Nat.pow_le_pow_right (i := 30) (j := 1920) (by decide) (by decide)))
theorem w_fdiv (h1 : 0 < j) (h2 : j < 1073741824) (q : Q (.int (i / j)) H) : rFdivI (.int i) (.int j) H Q := ⟨i, j, rfl, rfl, ⟨h1, Nat.lt_trans (log_small (Int.le_of_lt h1) h2) (by decide)⟩, q⟩
theorem w_fdivW (h : CDivW i j) (q : Q (.int (i / j)) H) : rFdivI (.int i) (.int j) H Q := ⟨i, j, rfl, rfl, h, q⟩
theorem w_mod (h1 : 0 < j) (q : Q (.int (i % j)) H) : rModI (.int i) (.int j) H Q := ⟨i, j, rfl, rfl, h1, q⟩
theorem w_modG (h1 : 0 < j) (q : ∀ r, 0 ≤ r → r < j → Q (.int r) H) : rModI (.int i) (.int j) H Q := ⟨i, j, rfl, rfl, h1, q _ (Int.emod_nonneg i (by omega)) (Int.emod_lt_of_pos i h1)⟩
theorem w_pow (h1 : CPowW i j) (q : Q (.int (i ^ j.toNat)) H) : rPowI (.int i) (.int j) H Q := ⟨i, j, rfl, rfl, h1, q⟩
theorem w_lt (q : Q (.bl (decide (i < j))) H) : rLtI (.int i) (.int j) H Q := ⟨i, j, rfl, rfl, q⟩
theorem w_le (q : Q (.bl (decide (i ≤ j))) H) : rLeI (.int i) (.int j) H Q := ⟨i, j, rfl, rfl, q⟩
theorem w_gt (q : Q (.bl (decide (j < i))) H) : rGtI (.int i) (.int j) H Q := ⟨i, j, rfl, rfl, q⟩
theorem w_ge (q : Q (.bl (decide (j ≤ i))) H) : rGeI (.int i) (.int j) H Q := ⟨i, j, rfl, rfl, q⟩
theorem w_isN (q : Q (.bl (decide (x = .non))) H) : rIsN x .non H Q := ⟨rfl, q⟩
theorem w_notN (q : Q (.bl (!decide (x = .non))) H) : rNotN x .non H Q := ⟨rfl, q⟩
theorem w_neg (q : Q (.int (-i)) H) : rNegI (.int i) H Q := ⟨i, rfl, q⟩
theorem w_bl {b : Bool} {R : Bool → Prop} (q : R b) : ∃ k, V.bl b = V.bl k ∧ R k := ⟨b, rfl, q⟩
theorem same_new {q : Addr} {o : HO} (hq : H q = none) : Same H (upd H q o) := fun b u e => by
  rw [upd_ne (ne_of_none e hq)]
  exact e
theorem w_divmod (h1 : 0 < j) (h2 : j < 1073741824) (q : ∀ p H', H p = none → H' p = some (.tup [.int (i / j), .int (i % j)]) → Same H H' → Q (.ref p) H') : rDivmod [.int i, .int j] H Q := ⟨i, j, rfl, ⟨h1, PyProof.noPylong_small (by omega)⟩, fun p hp => q p _ hp upd_same (same_new hp)⟩
theorem w_eq (h : scal x y = true) (q : Q (.bl (decide (x = y))) H) : rEq x y H Q := ⟨h, q⟩
theorem w_ne (h : scal x y = true) (q : Q (.bl (!decide (x = y))) H) : rNe x y H Q := ⟨h, q⟩
theorem w_test {R : Bool → Hp → Prop} (h : te σ H fun x H' => ∃ k, x = .bl k ∧ R k H') : tTest te σ H R := h
theorem w_B {R : Bool → Hp → Prop} (h : te σ H fun x H' => ∃ k, x = .bl k ∧ R k H') : tB te σ H R := h
theorem w_or {R : Bool → Hp → Prop} (h : tt σ H fun c H1 => if c = true then R true H1 else tu σ H1 R) : tOr tt tu σ H R := h
theorem w_and {R : Bool → Hp → Prop} (h : tt σ H fun c H1 => if c = true then tu σ H1 R else R false H1) : tAnd tt tu σ H R := h
theorem w_not {R : Bool → Hp → Prop} (h : tt σ H fun c H1 => R (!c) H1) : tNot tt σ H R := h
theorem w_andV (h : ta σ H fun x H1 => ∃ c, x = .bl c ∧ if c = true then tb σ H1 Q else Q (.bl false) H1) : tAndV ta tb σ H Q := h
theorem w_orV (h : ta σ H fun x H1 => ∃ c, x = .bl c ∧ if c = true then Q (.bl true) H1 else tb σ H1 Q) : tOrV ta tb σ H Q := h
theorem w_notV (h : ta σ H fun x H1 => ∃ c, x = .bl c ∧ Q (.bl (!c)) H1) : tNotV ta σ H Q := h
theorem w_ifE (h : tt σ H fun c H1 => if c = true then ta σ H1 Q else tb σ H1 Q) : tIf tt ta tb σ H Q := h
theorem w_chain {r r' : R2} (h : ta σ H fun x H1 => tb σ H1 fun y H2 => r x y H2 fun z H3 => ∃ k, z = .bl k ∧ (if k = true then tc σ H3 fun w H4 => r' y w H4 Q else Q (.bl false) H3)) : tChain r r' ta tb tc σ H Q := h
theorem w_cb {r : List V → Hp → VK → Prop} {tA : TA} (h : tA σ H fun vs H1 => r vs H1 Q) : tCB r tA σ H Q := h
theorem w_nil {R : List V → Hp → Prop} (h : R [] H) : tNil σ H R := h
theorem w_cons {tA : TA} {R : List V → Hp → Prop} (h : ta σ H fun x H1 => tA σ H1 fun xs H2 => R (x :: xs) H2) : tCons ta tA σ H R := h
theorem w_tup {tA : TA} (h : tA σ H fun xs H1 => NewT xs H1 Q) : tTup tA σ H Q := h
theorem w_lst {tA : TA} (h : tA σ H fun xs H1 => NewL xs H1 Q) : tLst tA σ H Q := h
theorem w_call {sp : Sp} {E : XK} {tA : TA} (h : tA σ H fun vs H1 => sp (vs ++ []) H1 Q E) : tCall sp [] E tA σ H Q := h
theorem w_int1 (q : Q (.int i) H) : rInt1 [.int i] H Q := .inl ⟨i, rfl, q⟩
theorem w_int1b {b : Bool} (q : Q (.int (if b then 1 else 0)) H) : rInt1 [.bl b] H Q := .inr ⟨b, rfl, q⟩
theorem w_int1G {b : Bool} (q : ∀ k, 0 ≤ k → k ≤ 1 → Q (.int k) H) : rInt1 [.bl b] H Q := .inr ⟨b, rfl, q _ (by cases b <;> decide) (by cases b <;> decide)⟩
theorem w_abs (q : Q (.int (if i < 0 then -i else i)) H) : rAbs [.int i] H Q := ⟨i, rfl, q⟩
theorem w_max2 (q : Q (.int (if j > i then j else i)) H) : rMax2 [.int i, .int j] H Q := ⟨i, j, rfl, q⟩
theorem w_min2 (q : Q (.int (if j < i then j else i)) H) : rMin2 [.int i, .int j] H Q := ⟨i, j, rfl, q⟩
theorem w_lenL (h : SqL K H p xs) (q : Q (.int xs.length) H) : rLenS K [.ref p] H Q := ⟨p, xs, rfl, .inl h, q⟩
theorem w_lenT (h : SqT K H p xs) (q : Q (.int xs.length) H) : rLenS K [.ref p] H Q := ⟨p, xs, rfl, .inr h, q⟩
theorem w_reprD {d : PyData} (h : Shw K H x d) (q : Q (.str d.shown) H) : rReprD K [x] H Q := ⟨x, d, rfl, h, q⟩
theorem shw_int (h : i.natAbs.log2 < 1920) : Shw K H (.int i) (.int i) := ⟨.int i, by simp only [PyData.showable]; exact decide_eq_true h, by simp only [PyData.shown]; exact PySem.int_text_fits h, by simp only [PyData.depth]; omega⟩
theorem w_repr (h : i.natAbs.log2 < 1920) (q : Q (.str (toString i)) H) : rReprD K [.int i] H Q := w_reprD (shw_int h) (by simpa only [PyData.shown] using q)
theorem w_ixL (h : SqL K H p xs) (e : atI xs i = some v) (q : Q v H) : rIx K (.ref p) (.int i) H Q := .inl ⟨p, xs, i, v, rfl, rfl, h, e, q⟩
theorem w_ixT (h : SqT K H p xs) (e : atI xs i = some v) (q : Q v H) : rIx K (.ref p) (.int i) H Q := .inr (.inl ⟨p, xs, i, v, rfl, rfl, h, e, q⟩)
theorem w_setL {k : Nat} {R : Hp → Prop} (h : H p = some (.lst xs)) (e : ixN xs.length i = some k) (q : R (upd H p (.lst (xs.set k v)))) : rSetL (.ref p) (.int i) v H R := ⟨p, xs, i, k, rfl, rfl, h, e, q⟩
theorem w_asgT {K : PySem.W.Frag} {m : Nat} {t : TGs} (h : te σ H fun v H1 => ∃ a xs, v = .ref a ∧ SqT K H1 a xs ∧ xs.length = m ∧ t xs σ H1 D.nx) : tAsg te (gTup K m t) D σ H := h
theorem w_gcons {k : Nat} {t : TGs} {r : List V} {R : L2.St → Hp → Prop} (h : t r (σ.set k (some v)) H R) : gCons (gName k) t (v :: r) σ H R := ⟨v, r, rfl, h⟩
theorem w_gnil {R : L2.St → Hp → Prop} (h : R σ H) : gNil [] σ H R := ⟨rfl, h⟩
theorem w_par {a b : Nat} {tA : TA} (h : tA σ H fun vs H1 => ∃ v w, vs = [v, w] ∧ D.nx ((σ.set a (some v)).set b (some w)) H1) : tPar a b tA D σ H := h
theorem w_pair {R : V → V → Prop} (q : R x y) : ∃ v w, [x, y] = [v, w] ∧ R v w := ⟨x, y, rfl, q⟩
theorem w_mknx {a bb cc : L2.St → Hp → Prop} {b : VK} (h : a σ H) : (Ends.mk a b bb cc).nx σ H := h
theorem w_mkrt {a bb cc : L2.St → Hp → Prop} {b : VK} (h : b v H) : (Ends.mk a b bb cc).rt v H := h
theorem w_mkbk {a bb cc : L2.St → Hp → Prop} {b : VK} (h : bb σ H) : (Ends.mk a b bb cc).bk σ H := h
theorem w_mkct {a bb cc : L2.St → Hp → Prop} {b : VK} (h : cc σ H) : (Ends.mk a b bb cc).ct σ H := h
theorem w_if {c : Prop} [Decidable c] {A B : Prop} (h1 : c → A) (h2 : ¬ c → B) : if decide c = true then A else B := by
  by_cases h : c
  · rw [if_pos (decide_eq_true h)]
    exact h1 h
  · rw [if_neg (by simpa using h)]
    exact h2 h
theorem w_ifT {A B : Prop} (h : A) : if true = true then A else B := by
  rw [if_pos rfl]
  exact h
theorem w_ifF {A B : Prop} (h : B) : if false = true then A else B := by
  rw [if_neg Bool.false_ne_true]
  exact h
theorem w_ifNT {A B : Prop} (h : B) : if (!true) = true then A else B := w_ifF h
theorem w_ifNF {A B : Prop} (h : A) : if (!false) = true then A else B := w_ifT h
theorem ne_IS {s : Str} : ¬ V.int i = V.str s := by intro e; cases e
theorem ne_SI {s : Str} : ¬ V.str s = V.int i := by intro e; cases e
theorem ne_IN : ¬ V.int i = V.non := by intro e; cases e
theorem ne_SN {s : Str} : ¬ V.str s = V.non := by intro e; cases e
theorem ne_RN : ¬ V.ref p = V.non := by intro e; cases e
theorem w_ifDT {c : Prop} [Decidable c] {A B : Prop} (h : c) (a : A) : if decide c = true then A else B := w_if (fun _ => a) (fun n => absurd h n)
theorem w_ifDF {c : Prop} [Decidable c] {A B : Prop} (h : ¬ c) (b : B) : if decide c = true then A else B := w_if (fun z => absurd z h) (fun _ => b)
theorem w_ifI {A B : Prop} (h1 : i = j → A) (h2 : i ≠ j → B) : if decide (V.int i = V.int j) = true then A else B := w_if (fun e => h1 (V.int.inj e)) (fun e => h2 fun z => e (by rw [z]))
theorem w_ifNI {A B : Prop} (h1 : i ≠ j → A) (h2 : i = j → B) : if (!decide (V.int i = V.int j)) = true then A else B := by
  by_cases h : i = j
  · rw [if_neg (by simp [h])]
    exact h2 h
  · rw [if_pos (by simp [h])]
    exact h1 h
theorem w_ifN {c : Prop} [Decidable c] {A B : Prop} (h1 : ¬ c → A) (h2 : c → B) : if (!decide c) = true then A else B := by
  by_cases h : c
  · rw [if_neg (by simp [h])]
    exact h2 h
  · rw [if_pos (by simp [h])]
    exact h1 h
theorem w_newT (hl : Nat.ble xs.length 1000 = true) (h : ∀ p H', H p = none → H' p = some (.tup xs) → Same H H' → Q (.ref p) H') : NewT xs H Q := ⟨Nat.le_of_lt (small1000 (Nat.le_of_ble_eq_true hl)), fun p hp => h p _ hp upd_same (same_new hp)⟩
theorem w_newL (hl : Nat.ble xs.length 1000 = true) (h : ∀ p H', H p = none → H' p = some (.lst xs) → Same H H' → Q (.ref p) H') : NewL xs H Q := ⟨Nat.le_of_lt (small1000 (Nat.le_of_ble_eq_true hl)), fun p hp => h p _ hp upd_same (same_new hp)⟩
theorem w_lrg {te : L2.St → Hp → (Int → Int → Hp → Prop) → Prop} (h : te σ H fun a b H1 => NewR a b H1 Q) : tLstRg te σ H Q := h
theorem w_rg1 {R : Int → Int → Hp → Prop} (h : ta σ H fun x H1 => ∃ n, x = .int n ∧ R 0 n H1) : tRg1 ta σ H R := h
theorem w_rg2 {R : Int → Int → Hp → Prop} (h : ta σ H fun x H1 => tb σ H1 fun y H2 => ∃ i j, x = .int i ∧ y = .int j ∧ R i j H2) : tRg2 ta tb σ H R := h
theorem w_exI {R : Int → Prop} (q : R i) : ∃ n, V.int i = .int n ∧ R n := ⟨i, rfl, q⟩
theorem w_exI2 {R : Int → Int → Prop} (q : R i j) : ∃ n m, V.int i = .int n ∧ V.int j = .int m ∧ R n m := ⟨i, j, rfl, rfl, q⟩
theorem w_newR {a b : Int} (h0 : 0 ≤ a) (h1 : a ≤ 10000) (h2 : b ≤ 10000) (h3 : 0 ≤ b) (h : ∀ p H', H p = none → H' p = some (.lst (rgV a b)) → Same H H' → Q (.ref p) H') : NewR a b H Q := ⟨RgOk.of_le h0 (by omega) (by omega) h3, fun p hp => h p _ hp upd_same (same_new hp)⟩
theorem w_cat {p1 p2 : Addr} {ys : List V} (h1 : H p1 = some (.lst xs)) (h2 : H p2 = some (.lst ys)) (hl : xs.length + ys.length ≤ 100000) (h : ∀ p H', H p = none → H' p = some (.lst (xs ++ ys)) → Same H H' → Q (.ref p) H') : rCatL (.ref p1) (.ref p2) H Q :=
  ⟨p1, p2, xs, ys, rfl, rfl, h1, h2, Nat.le_trans hl (by decide), fun p hp => h p _ hp upd_same (same_new hp)⟩
theorem w_setG {k : Nat} {R : Hp → Prop} (h : H p = some (.lst xs)) (e : ixN xs.length i = some k) (q : ∀ H', H' p = some (.lst (xs.set k v)) → (∀ b o, b ≠ p → H b = some o → H' b = some o) → R H') : rSetL (.ref p) (.int i) v H R :=
  ⟨p, xs, i, k, rfl, rfl, h, e, q _ upd_same fun b o n hb => by rw [upd_ne n]; exact hb⟩
theorem atI_ex {m : Int} (h0 : 0 ≤ m) (h1 : m < xs.length) : ∃ v, atI xs m = some v ∧ v ∈ xs := by
  have hl : m.toNat < xs.length := by omega
  refine ⟨xs[m.toNat], ?_, List.getElem_mem hl⟩
  unfold atI ixN
  rw [if_pos h0, if_pos h1]
  simp [hl]
theorem sqL (h : H p = some (.lst xs)) : SqL K H p xs := .inl (.inl h)
theorem sqT (h : H p = some (.tup xs)) : SqT K H p xs := .inl (.inl h)
end


/-! ### loops and comprehensions -/
section
variable {σ : L2.St} {H : Hp} {Q : VK} {D : Ends} {K : PySem.W.Frag}
theorem w_forR {n j : Nat} {tb : TS} {tA : TA} (Pv : Nat → L2.St → Hp → Prop) (hA : ∀ R : List V → Hp → Prop, R [.int n] H → tA σ H R) (hn : n ≤ 1000000) (h0 : Pv 0 σ H)
    (hs : ∀ i σ' H', i < n → Pv i σ' H' → tb { D with nx := Pv (i + 1), ct := Pv (i + 1), bk := D.nx } (σ'.set j (some (.int (i : Int)))) H') (hd : ∀ σ' H', Pv n σ' H' → D.nx σ' H') : tFor (iRng1 tA) (gName j) tb D σ H := by
  refine hA _ ⟨(n : Int), rfl, by omega, by omega, ?_⟩
  have e : ((n : Int)).toNat = n := by omega
  rw [e]
  refine for_range (lo := 0) (n := n) Pv h0 (fun i σ' H' hi p => ?_) hd
  show tb { D with nx := Pv (i + 1), ct := Pv (i + 1), bk := D.nx } (σ'.set j (some (.int ((0 : Int) + (i : Int))))) H'
  rw [Int.zero_add]
  exact hs i σ' H' hi p
def LcAt (K : PySem.W.Frag) (x : V) (g : TG) (tt : TT) (te : TE) (vs : List Nat) (σ : L2.St) (H : Hp) (Q : VK) : Prop := tLc (iList K (tC x)) g tt te vs σ H Q
theorem w_lc {tl te : TE} {g : TG} {tt : TT} {vs : List Nat} (h : tl σ H fun x H1 => LcAt K x g tt te vs σ H1 Q) : tLc (iList K tl) g tt te vs σ H Q := h
/-- a comprehension without a test over a list that stands still; what it makes leaves the heap as it was, but for new things -/
theorem w_lcL {a : Addr} {xs : List V} {g : TG} {te : TE} {vs : List Nat} (f : Nat → V → Prop) (ha : SqL K H a xs) (hz : xs.length ≤ 1000000)
    (step : ∀ i x H' (Nx : VK), xs[i]? = some x → Same H H' → (∀ y H3, Same H' H3 → f i y → Nx y H3) → g x (wipe σ vs) H' fun σ2 H2 => wipe σ2 vs = wipe σ vs ∧ te σ2 H2 Nx)
    (q : ∀ D H' ys, H D = none → Same H H' → H' D = some (.lst ys) → ys.length = xs.length → (∀ i y, ys[i]? = some y → f i y) → Q (.ref D) H') : LcAt K (.ref a) g tYes te vs σ H Q := by
  refine ⟨a, rfl, ⟨xs, ha⟩, fun D hD => ?_⟩
  refine lc_list (K := K) (a := a) (xs := xs) (fun i H' => Same H H' ∧ ∃ acc, H' D = some (.lst acc) ∧ acc.length = i ∧ ∀ j y, acc[j]? = some y → f j y) ⟨same_new hD, [], upd_same, rfl, fun j y e => by simp at e⟩ (fun i H' _ h => h.1.seq ha) (fun i x H' hx h => ?_) (fun H' h => ?_)
  · obtain ⟨s1, acc, hacc, hlen, hf⟩ := h
    refine step i x H' _ hx s1 (fun y H3 s3 fy => ?_)
    have hi : i < xs.length := (List.getElem?_eq_some_iff.mp hx).1
    refine ⟨acc, s3 _ _ hacc, Nat.lt_of_le_of_lt (show acc.length ≤ 1000000 by omega) (by decide), fun b o hb => ?_, acc ++ [y], upd_same, by simp [hlen], fun j z e => ?_⟩
    · rw [upd_ne (ne_of_none hb hD)]
      exact s3 _ _ (s1 _ _ hb)
    · by_cases hj : j < acc.length
      · rw [List.getElem?_append_left hj] at e
        exact hf j z e
      · rw [List.getElem?_append_right (by omega)] at e
        have hj2 : j - acc.length = 0 := by
          rcases Nat.eq_zero_or_pos (j - acc.length) with h | h
          · exact h
          · rw [List.getElem?_eq_none (show [y].length ≤ j - acc.length from h)] at e
            cases e
        rw [hj2] at e
        have ez : y = z := Option.some.inj e
        have : j = i := by omega
        rw [this, ← ez]
        exact fy
  · obtain ⟨s1, acc, hacc, hlen, hf⟩ := h
    exact q D H' acc hD s1 hacc hlen hf
theorem w_allT {a : Addr} {ys : List V} (h : SqL K H a ys) (ht : ∀ (i : Nat) (y : V), ys[i]? = some y → y = .bl true) (q : Q (.bl true) H) : rAll K [.ref a] H Q := by
  have e : ys = (List.replicate ys.length true).map V.bl := by
    apply List.ext_getElem?
    intro i
    cases hy : ys[i]? with
    | none =>
      have := List.getElem?_eq_none_iff.mp hy
      rw [List.getElem?_eq_none (by simpa using this)]
    | some y =>
      have hlt := (List.getElem?_eq_some_iff.mp hy).1
      rw [ht i y hy, List.getElem?_map, List.getElem?_replicate, if_pos hlt]
      rfl
  rw [e] at h
  refine ⟨a, _, rfl, h, ?_⟩
  have e2 : (List.replicate ys.length true).all id = true := by simp
  rw [e2]
  exact q
end
/-! ### comprehensions over any walk, slices, == of data -/
section
variable {X : Cx} {K : PySem.W.Frag}
theorem x_eqD (e : X.K = K) (hu : X.A.units + 64 < cLine) : OpR X (compareOp .Eq) (rEqD K) := by subst e; exact op_eqD hu
theorem x_neD (e : X.K = K) (hu : X.A.units + 64 < cLine) : OpR X (compareOp .NotEq) (rNeD K) := by subst e; exact op_neD hu
theorem x_slL (e : X.K = K) : SlR X (rSlL K) := by subst e; exact sl_list
theorem x_slT (e : X.K = K) : SlR X (rSlA K) := by subst e; exact sl_tupA
theorem xi_enum {e : Expr} {ta : TA} {p pos tpos : Pos} {elts : List Expr} {kk : Nat} (ek : X.K = K) (hg : Gl X "enumerate") (hm : X.mg "enumerate" = none) (ha : PA X [e] ta) (hs : starEach [e] X.env = [(false, eval e X.env)] := by rfl) : PI X (.Tuple elts kk tpos) (.Call (.Name "enumerate" p) [e] [] pos) (iEnum K ta) := by subst ek; exact pi_enum hg hm ha hs
theorem xi_zip {e e2 : Expr} {ta : TA} {p pos tpos : Pos} {elts : List Expr} {kk : Nat} (ek : X.K = K) (hg : Gl X "zip") (hm : X.mg "zip" = none) (ha : PA X [e, e2] ta) (hs : starEach [e, e2] X.env = (false, eval e X.env) :: starEach [e2] X.env := by rfl) (hpl : (backTo pos (starEach [e2] X.env)).any (·.1) = false := by rfl) : PI X (.Tuple elts kk tpos) (.Call (.Name "zip" p) [e, e2] [] pos) (iZip K ta) := by subst ek; exact pi_zip hg hm ha hs hpl
end
section
variable {σ : L2.St} {H : Hp} {Q : VK} {D : Ends} {K : PySem.W.Frag}
theorem w_sl {r : V → Option Int → Option Int → Hp → VK → Prop} {te : TE} {tl th : TO} (h : te σ H fun x H1 => tl σ H1 fun l H2 => th σ H2 fun u H3 => r x l u H3 Q) : tSl r te tl th σ H Q := h
theorem w_part {te : TE} {R : Option Int → Hp → Prop} (h : te σ H fun x H1 => ∃ i, x = .int i ∧ R (some i) H1) : tPart te σ H R := h
theorem w_noPart {R : Option Int → Hp → Prop} (h : R none H) : tNoPart σ H R := h
theorem w_slL {a : Addr} {xs : List V} {lo hi : Option Int} (h : SqL K H a xs) (q : ∀ p H', H p = none → H' p = some (.lst (cutV xs lo hi)) → Same H H' → Q (.ref p) H') : rSlL K (.ref a) lo hi H Q := ⟨a, xs, rfl, h, fun p hp => q p _ hp upd_same (same_new hp)⟩
theorem w_slT {a : Addr} {xs : List V} {lo hi : Option Int} (h : SqT K H a xs) (n : ¬ (HT.sIx xs.length 0 lo = 0 ∧ HT.sIx xs.length xs.length hi = xs.length)) (q : ∀ p H', H p = none → H' p = some (.tup (cutV xs lo hi)) → Same H H' → Q (.ref p) H') : rSlA K (.ref a) lo hi H Q := ⟨a, xs, rfl, h, fun z => absurd z n, fun _ p hp => q p _ hp upd_same (same_new hp)⟩
theorem w_eqD {x y : V} {d e : PyData} (hx : Dp K H x d) (hy : Dp K H y e) (s1 : SeqAt.shaped d = true) (s2 : SeqAt.shaped e = true) (q : Q (.bl (PyData.eqv d e)) H) : rEqD K x y H Q := ⟨d, e, hx, hy, s1, s2, q⟩
theorem w_neD {x y : V} {d e : PyData} (hx : Dp K H x d) (hy : Dp K H y e) (s1 : SeqAt.shaped d = true) (s2 : SeqAt.shaped e = true) (q : Q (.bl (!PyData.eqv d e)) H) : rNeD K x y H Q := ⟨d, e, hx, hy, s1, s2, q⟩
/-- both sides the same data -/
theorem w_eqS {x y : V} {d : PyData} (hx : Dp K H x d) (hy : Dp K H y d) (s1 : SeqAt.shaped d = true) (q : Q (.bl true) H) : rEqD K x y H Q := ⟨d, d, hx, hy, s1, s1, by rw [SeqAt.eqv_refl d (SeqAt.canLay_of_shaped s1)]; exact q⟩
theorem w_neS {x y : V} {d : PyData} (hx : Dp K H x d) (hy : Dp K H y d) (s1 : SeqAt.shaped d = true) (q : Q (.bl false) H) : rNeD K x y H Q := ⟨d, d, hx, hy, s1, s1, by rw [SeqAt.eqv_refl d (SeqAt.canLay_of_shaped s1)]; exact q⟩
/-- what is left of a comprehension when it has been said over what it walks -/
def LcJ (J : It) (g : TG) (tt : TT) (te : TE) (vs : List Nat) (σ : L2.St) (H : Hp) (Q : VK) : Prop := tLc (fun _ H R => R J H) g tt te vs σ H Q
theorem w_lcE {tA : TA} {g : TG} {tt : TT} {te : TE} {vs : List Nat} (h : tA σ H fun ws H1 => ∃ a xs, ws = [.ref a] ∧ SqL K H1 a xs ∧ LcJ (Ite K a) g tt te vs σ H1 Q) : tLc (iEnum K tA) g tt te vs σ H Q := h
theorem w_lcZ {tA : TA} {g : TG} {tt : TT} {te : TE} {vs : List Nat} (h : tA σ H fun ws H1 => ∃ a b xs ys, ws = [.ref a, .ref b] ∧ SqL K H1 a xs ∧ SqL K H1 b ys ∧ LcJ (Itz K a b) g tt te vs σ H1 Q) : tLc (iZip K tA) g tt te vs σ H Q := h
theorem w_lcI {a : Addr} {xs : List V} {g : TG} {tt : TT} {te : TE} {vs : List Nat} (h : SqL K H a xs) (q : LcJ (Itl K a) g tt te vs σ H Q) : LcAt K (.ref a) g tt te vs σ H Q := ⟨a, rfl, ⟨xs, h⟩, q⟩
theorem w_lcRg {n : Nat} {tA : TA} {g : TG} {tt : TT} {te : TE} {vs : List Nat} (hA : ∀ R : List V → Hp → Prop, R [.int n] H → tA σ H R) (hn : n ≤ 1000000) (q : LcJ (Itr 0 n) g tt te vs σ H Q) : tLc (iRng1 tA) g tt te vs σ H Q := by
  refine hA _ ⟨(n : Int), rfl, by omega, by omega, ?_⟩
  have e : ((n : Int)).toNat = n := by omega
  rw [e]
  exact q
/-- I i l: behind i turns l has been made; the new list itself may be anything -/
theorem w_lcW {J : It} {n : Nat} {G : Hp → Prop} {Y : Nat → Hp → V → Hp → Prop} (w : Walk J n G Y) {g : TG} {tt : TT} {te : TE} {vs : List Nat} (I : Nat → List V → Hp → Prop) (hn : n ≤ 1000000)
    (i0 : ∀ A, H A = none → I 0 [] (upd H A (.lst []))) (keep : ∀ A i l H' ys zs, H A = none → H' A = some (.lst ys) → I i l H' → I i l (upd H' A (.lst zs))) (hG : ∀ i l H', I i l H' → G H') (hlen : ∀ i l H', I i l H' → l.length ≤ i)
    (step : ∀ A i x H1 H2 acc (Nx : V → Hp → Prop) (Sk : Hp → Prop), H A = none → i < n → I i acc H1 → H1 A = some (.lst acc) → Y i H1 x H2 → (∀ y H3, H3 A = some (.lst acc) → I (i + 1) (acc ++ [y]) H3 → Nx y H3) → (∀ H3, H3 A = some (.lst acc) → I (i + 1) acc H3 → Sk H3) →
      g x (wipe σ vs) H2 fun σ2 H3 => wipe σ2 vs = wipe σ vs ∧ tt σ2 H3 fun b H4 => if b = true then te σ2 H4 Nx else Sk H4)
    (q : ∀ A H' l, H A = none → H' A = some (.lst l) → I n l H' → Q (.ref A) H') : LcJ J g tt te vs σ H Q := by
  intro A hA
  refine lc_it w (fun i H' => ∃ l, H' A = some (.lst l) ∧ I i l H') ⟨[], upd_same, i0 A hA⟩ (fun i H' _ h => ?_) (fun i x H1 H2 hi h y => ?_) (fun H' h => ?_)
  · obtain ⟨l, _, h⟩ := h
    exact hG _ _ _ h
  · obtain ⟨acc, hacc, h⟩ := h
    refine step A i x H1 H2 acc _ _ hA hi h hacc y (fun v H3 e3 h3 => ?_) (fun H3 e3 h3 => ⟨acc, e3, h3⟩)
    have hl := hlen _ _ _ h
    exact ⟨acc, e3, Nat.lt_of_le_of_lt (show acc.length ≤ 1000000 by omega) (by decide), acc ++ [v], upd_same, keep A _ _ H3 _ _ hA e3 h3⟩
  · obtain ⟨l, h1, h2⟩ := h
    exact q A H' l hA h1 h2
theorem w_yes {R : Bool → Hp → Prop} (h : R true H) : tYes σ H R := h
theorem acc_snoc {Pr : Nat → V → Prop} {acc : List V} {i : Nat} {y : V} (hl : acc.length = i) (h : ∀ j z, acc[j]? = some z → Pr j z) (hy : Pr i y) : ∀ j z, (acc ++ [y])[j]? = some z → Pr j z := fun j z e => by
  by_cases hj : j < acc.length
  · rw [List.getElem?_append_left hj] at e
    exact h j z e
  · rw [List.getElem?_append_right (by omega)] at e
    have hj2 : j - acc.length = 0 := by
      rcases Nat.eq_zero_or_pos (j - acc.length) with h | h
      · exact h
      · rw [List.getElem?_eq_none (show [y].length ≤ j - acc.length from h)] at e
        cases e
    rw [hj2] at e
    have ez : y = z := Option.some.inj e
    have : j = i := by omega
    rw [this, ← ez]
    exact hy
theorem same_upd {H H' : Hp} {A : Addr} {zs : List V} (h : H A = none) (s : Same H H') : Same H (upd H' A (.lst zs)) := fun b o e => by
  rw [upd_ne (ne_of_none e h)]
  exact s _ _ e
theorem same_pair {H H' : Hp} {T : Addr} {o : HO} (h : H T = none) (e : H' = upd H T o) : Same H H' := by
  rw [e]
  exact same_new h
end


/-! ### the end: a law's def over such promises -/
theorem law_G {P : Program} {w : World} {K : PySem.W.Frag} {mg mb : Str → Option Value} {k : Nat} {fa a : Addr} {fd : FuncData} {x : Str} {sp : Sp} {s₁ : Shared} {vs : List Value} {ns : List Int}
    (KX : K.In s₁.heap) (hns : s₁.heap.Ns mainGlobals mg) (hb : s₁.heap.Ns builtinsNs mb) (hbb : ∀ x : Str, x ≠ "__name__" → mb x = bootBuiltins x) (nolim : s₁.heap.NoLimit) (gens : s₁.gens = #[])
    (obj : s₁.heap.get? a = some { cls := .type "list", data := .seq vs.toArray }) (nums : IntsAre vs ns) (len : ns.length ≤ sizeLine) (room : Room k callerA)
    (F : ∀ base : Heap, K.In base → base.Ns mainGlobals mg → FnG P w K mg base k fa fd [x] sp) (bind : ∀ (s : Shared) (u : Value), BindsTo s fd ⟨[u], []⟩ [(x, u)])
    (want : ∀ H : Hp, SqL K H a (ns.map V.int) → sp [.ref a] H (fun v _ => v = .bl true) fun _ _ _ => False) :
    codeAny (model P w) callerA (.call (.ref fa) ⟨[.ref a], []⟩) (fun r s' => r = .ok (.ret (.bool true)) ∧ OldK s₁.heap s'.heap ∧ s'.os = s₁.os ∧ AllBare s'.gens) s₁ := by
  have rel := vals_ints nums
  -- what is tracked: the script, as it stands, or nothing (it is one of the module's own)
  obtain ⟨H, only, script, ok, own⟩ : ∃ H : Hp, (∀ b u, H b = some u → b = a ∧ ∃ o zs, u = .frz o (.lst zs)) ∧ SqL K H a (ns.map V.int) ∧ HOk P w H s₁.heap ∧ ∀ b, H b ≠ none → K.lookup b = none := by
    cases known : K.lookup a with
    | some o =>
      have z := KX a o known
      rw [obj] at z
      cases z
      exact ⟨fun _ => none, (fun b u z => nomatch (show (none : Option HO) = some u from z)), .inr ⟨_, vs.toArray, _, known, rfl, rfl, rfl, by rw [List.size_toArray, nums.length]; exact len, by simpa using rel⟩, (fun b u z => nomatch (show (none : Option HO) = some u from z)), fun b z => absurd rfl z⟩
    | none =>
      let ob : Obj := { cls := .type "list", data := .seq vs.toArray }
      have one : ∀ b u, (if b = a then some (HO.frz ob (.lst (ns.map V.int))) else none) = some u → b = a ∧ u = .frz ob (.lst (ns.map V.int)) := fun b u z => by
        by_cases q : b = a
        · rw [if_pos q] at z
          exact ⟨q, (Option.some.inj z).symm⟩
        · rw [if_neg q] at z
          cases z
      refine ⟨fun b => if b = a then some (.frz ob (.lst (ns.map V.int))) else none, fun b u z => ?_, .inl (.inr ⟨ob, if_pos rfl⟩), fun b u z => ?_, fun b z => ?_⟩
      · obtain ⟨q1, q2⟩ := one b u z
        exact ⟨q1, _, _, q2⟩
      · obtain ⟨q1, q2⟩ := one b u z
        subst q1 q2
        exact ⟨obj, by rw [List.length_map]; exact len, vs, _, rel, obj⟩
      · have z2 : (if b = a then some (HO.frz ob (.lst (ns.map V.int))) else none) ≠ none := z
        by_cases q : b = a
        · rw [q]
          exact known
        · rw [if_neg q] at z2
          exact absurd rfl z2
  have untold : ∀ {b : Addr} {o : Obj} {es : Array DictEntry} {n : Nat}, s₁.heap.get? b = some o → o.data = .dict es n → H b = none := fun {b o es n} z d => by
    cases q : H b with
    | none => rfl
    | some u =>
      obtain ⟨q1, _⟩ := only b u q
      rw [q1, obj] at z
      cases z
      have d2 : Data.seq vs.toArray _ = Data.dict es n := d
      cases d2
  have names : ∀ {b : Addr} {m : Str → Option Value}, s₁.heap.Ns b m → (hidT s₁.heap H).Ns b m := fun {b m} ⟨o, es, n, z, d, r⟩ => ⟨o, es, n, hidT_get z (untold z d), d, r⟩
  have KB : K.In (hidT s₁.heap H) := fun b o z => hidT_get (KX b o z) (by
    cases q : H b with
    | none => rfl
    | some u =>
      rw [own b (by rw [q]; simp)] at z
      cases z)
  obtain ⟨mc, l1, l2⟩ := nolim
  have M : Mod K mg (hidT s₁.heap H) := ⟨KB, names hns, ⟨mb, names hb, hbb⟩, ⟨mc, names l1, l2⟩⟩
  have e0 : Env0 P w K mg (hidT s₁.heap H) callerA [] s₁ H := ⟨rfl, M, fun _ _ z => of_hidT z, Nat.le_of_eq (hidT_size _ _), trivial, (fun b z => nomatch (show b ∈ ([] : List Addr) from z)), ok, .of_eq gens⟩
  refine codeAny_mono ((F _ KB (names hns)).goes callerA [] s₁ H ⟨[.ref a], []⟩ [.ref a] [.ref a] _ _ room rfl e0 (bind s₁ (.ref a)) (.cons rfl .nil) (want H script)) fun out s2 z => ?_
  match out, z with
  | .error e, z =>
    obtain ⟨_, _, _, _, _, _, _, _, _, _, _, _, no⟩ := z
    exact no.elim
  | .ok .next, z => exact z.elim
  | .ok .brk, z => exact z.elim
  | .ok .cont, z => exact z.elim
  | .ok (.ret u), z =>
    obtain ⟨v, H2, os, bare, un, ok2, r2, q⟩ := z
    have q2 : v = .bl true := q
    subst q2
    obtain rfl : u = Value.bool true := r2
    refine ⟨rfl, OldK.of_keep fun b o there => ?_, os, bare⟩
    cases q : H b with
    | none => exact un.keep b o there q (fun z => nomatch (show b ∈ ([] : List Addr) from z)) (by simp)
    | some u =>
      obtain ⟨_, ob, zs, rfl⟩ := only b u q
      obtain ⟨e1, _⟩ := ok b _ q
      obtain ⟨e2, _⟩ := ok2 b _ (un.frzs b ob _ q)
      rw [there] at e1
      cases e1
      exact e2
theorem walk_G {l : PySem.W.OpenLaw} {n k : Nat} {q : Program} {loose : List Str} {XP : (Str → Option Value) → Heap → Prop} {YP : World → Heap → Prop} {d : DefRec} {x : Str}
    (hn : l.most = some n) (hn2 : n ≤ sizeLine) (hdf : d.params.defaults = []) (room : Room k callerA)
    (F : ∀ (w : World) (mg : Str → Option Value) (fa : Addr) (h : Heap), YP w h → h.Ns mainGlobals mg → mg d.name = some (.ref fa) →
      ∃ (K : PySem.W.Frag) (fd : FuncData) (sp : Sp), K.In h ∧ (∀ (s : Shared) (u : Value), BindsTo s fd ⟨[u], []⟩ [(x, u)]) ∧
        (∀ (H : Hp) (a : Addr) (ns : List Int), ns.length ≤ n → SqL K H a (ns.map V.int) → sp [.ref a] H (fun v _ => v = .bl true) fun _ _ _ => False) ∧
        ∀ base : Heap, K.In base → base.Ns mainGlobals mg → FnG l.prog w K mg base k fa fd [x] sp) :
    PySem.W.WalkO q loose XP YP l.row.toRowW d [] (fun f vs => PySem.call f vs) := by
  refine Att.attach_call hn hdf fun w s0 s1 mg mb fa o pm cd doc a vs ns G Y _ _ _ at_ obj nums len gens => ?_
  obtain ⟨K, fd, sp, KX, bind, want, hF⟩ := F w mg fa _ Y G.T.g at_
  exact law_G KX G.T.g G.T.b G.T.builtins G.T.nolimit gens obj nums (Nat.le_trans len hn2) room hF bind fun H z => want H a ns len z

/-! ### the end: as law_G, with defs that make lambdas (cs: their code objects, their tables) -/
theorem law_GT {P : Program} {w : World} {K : PySem.W.Frag} {mg mb : Str → Option Value} {k : Nat} {fa a : Addr} {fd : FuncData} {x : Str} {sp : Sp} {s₁ : Shared} {vs : List Value} {ns : List Int} {cs : List (Addr × Addr)}
    (KX : K.In s₁.heap) (hns : s₁.heap.Ns mainGlobals mg) (hb : s₁.heap.Ns builtinsNs mb) (hbb : ∀ x : Str, x ≠ "__name__" → mb x = bootBuiltins x) (nolim : s₁.heap.NoLimit) (gens : s₁.gens = #[])
    (empty : ∀ p ∈ cs, s₁.heap.get? p.2 = some { cls := .none, data := .fields #[] }) (out : ∀ p ∈ cs, K.lookup p.2 = none) (heads : ∀ p ∈ cs, PySem.W.codeHdIn K p.1 p.2 = true)
    (hbm : ∃ (bm : Addr) (ob : Obj), mg "__builtins__" = some (.ref bm) ∧ bm ≠ builtinsNs ∧ s₁.heap.get? bm = some ob ∧ ob.cls = .type "module" ∧ ob.dict = some builtinsNs ∧ ob.data = .plain)
    (obj : s₁.heap.get? a = some { cls := .type "list", data := .seq vs.toArray }) (nums : IntsAre vs ns) (len : ns.length ≤ sizeLine) (room : Room k callerA)
    (F : ∀ base : Heap, K.In base → base.Ns mainGlobals mg → (∀ p ∈ cs, LamX.TabB base mg p.1 p.2) → FnG P w K mg base k fa fd [x] sp) (bind : ∀ (s : Shared) (u : Value), BindsTo s fd ⟨[u], []⟩ [(x, u)])
    (want : ∀ H : Hp, (∀ p ∈ cs, H p.2 = some (.tbl #[])) → SqL K H a (ns.map V.int) → sp [.ref a] H (fun v _ => v = .bl true) fun _ _ _ => False) :
    codeAny (model P w) callerA (.call (.ref fa) ⟨[.ref a], []⟩) (fun r s' => r = .ok (.ret (.bool true)) ∧ OldK s₁.heap s'.heap ∧ s'.os = s₁.os ∧ AllBare s'.gens) s₁ := by
  have rel := vals_ints nums
  let ob : Obj := { cls := .type "list", data := .seq vs.toArray }
  have lies : ∀ b, b ∈ cs.map (·.2) → s₁.heap.get? b = some { cls := .none, data := .fields #[] } ∧ K.lookup b = none := fun b m => by
    obtain ⟨p, hp, rfl⟩ := List.mem_map.mp m
    exact ⟨empty p hp, out p hp⟩
  have apart : a ∉ cs.map (·.2) := fun m => by
    have z := (lies a m).1
    rw [obj] at z
    cases z
  -- what is told: the tables, and the script unless it is one of the module's own
  obtain ⟨H, only, tabs, script, ok, own⟩ : ∃ H : Hp, (∀ b u, H b = some u → (b ∈ cs.map (·.2) ∧ u = .tbl #[]) ∨ (b = a ∧ u = .frz ob (.lst (ns.map V.int)))) ∧ (∀ b ∈ cs.map (·.2), H b = some (.tbl #[])) ∧ SqL K H a (ns.map V.int) ∧ HOk P w H s₁.heap ∧ ∀ b, H b ≠ none → K.lookup b = none := by
    have okT : ∀ (H : Hp) (b : Addr), b ∈ cs.map (·.2) → ObjOk P w H s₁.heap b (.tbl #[]) := fun H b m => (lies b m).1
    cases known : K.lookup a with
    | some o =>
      have z := KX a o known
      rw [obj] at z
      cases z
      have say : ∀ b u, (if b ∈ cs.map (·.2) then some (HO.tbl #[]) else none) = some u → b ∈ cs.map (·.2) ∧ u = .tbl #[] := fun b u z => by
        by_cases m : b ∈ cs.map (·.2)
        · rw [if_pos m] at z
          exact ⟨m, (Option.some.inj z).symm⟩
        · rw [if_neg m] at z
          cases z
      refine ⟨fun b => if b ∈ cs.map (·.2) then some (.tbl #[]) else none, fun b u z => .inl (say b u z), fun b m => if_pos m, .inr ⟨_, vs.toArray, _, known, rfl, rfl, rfl, by rw [List.size_toArray, nums.length]; exact len, by simpa using rel⟩, fun b u z => ?_, fun b z => ?_⟩
      · obtain ⟨m, rfl⟩ := say b u z
        exact okT _ b m
      · by_cases m : b ∈ cs.map (·.2)
        · exact (lies b m).2
        · exact absurd (if_neg m) z
    | none =>
      have say : ∀ b u, (if b ∈ cs.map (·.2) then some (HO.tbl #[]) else if b = a then some (HO.frz ob (.lst (ns.map V.int))) else none) = some u → (b ∈ cs.map (·.2) ∧ u = .tbl #[]) ∨ (b = a ∧ u = .frz ob (.lst (ns.map V.int))) := fun b u z => by
        by_cases m : b ∈ cs.map (·.2)
        · rw [if_pos m] at z
          exact .inl ⟨m, (Option.some.inj z).symm⟩
        · rw [if_neg m] at z
          by_cases q : b = a
          · rw [if_pos q] at z
            exact .inr ⟨q, (Option.some.inj z).symm⟩
          · rw [if_neg q] at z
            cases z
      refine ⟨fun b => if b ∈ cs.map (·.2) then some (.tbl #[]) else if b = a then some (.frz ob (.lst (ns.map V.int))) else none, say, fun b m => if_pos m, .inl (.inr ⟨ob, (if_neg apart).trans (if_pos rfl)⟩), fun b u z => ?_, fun b z => ?_⟩
      · rcases say b u z with ⟨m, rfl⟩ | ⟨rfl, rfl⟩
        · exact okT _ b m
        · exact ⟨obj, by rw [List.length_map]; exact len, vs, _, rel, obj⟩
      · by_cases m : b ∈ cs.map (·.2)
        · exact (lies b m).2
        · have z2 : (if b ∈ cs.map (·.2) then some (HO.tbl #[]) else if b = a then some (HO.frz ob (.lst (ns.map V.int))) else none) ≠ none := z
          rw [if_neg m] at z2
          by_cases q : b = a
          · rw [q]
            exact known
          · rw [if_neg q] at z2
            exact absurd rfl z2
  have untold : ∀ {b : Addr} {o : Obj}, s₁.heap.get? b = some o → (∀ vs n, o.data ≠ .seq vs n) → (∀ vs, o.data ≠ .fields vs) → H b = none := fun {b o} z d1 d2 => by
    cases q : H b with
    | none => rfl
    | some u =>
      rcases only b u q with ⟨m, _⟩ | ⟨q1, _⟩
      · rw [(lies b m).1] at z
        cases z
        exact absurd rfl (d2 _)
      · rw [q1, obj] at z
        cases z
        exact absurd rfl (d1 _ _)
  have names : ∀ {b : Addr} {m : Str → Option Value}, s₁.heap.Ns b m → (hidT s₁.heap H).Ns b m := fun {b m} ⟨o, es, n, z, d, r⟩ => ⟨o, es, n, hidT_get z (untold z (fun _ _ y => by rw [d] at y; cases y) fun _ y => by rw [d] at y; cases y), d, r⟩
  have KB : K.In (hidT s₁.heap H) := fun b o z => hidT_get (KX b o z) (by
    cases q : H b with
    | none => rfl
    | some u =>
      rw [own b (by rw [q]; simp)] at z
      cases z)
  obtain ⟨mc, l1, l2⟩ := nolim
  have M : Mod K mg (hidT s₁.heap H) := ⟨KB, names hns, ⟨mb, names hb, hbb⟩, ⟨mc, names l1, l2⟩⟩
  have e0 : Env0 P w K mg (hidT s₁.heap H) callerA [] s₁ H := ⟨rfl, M, fun _ _ z => of_hidT z, Nat.le_of_eq (hidT_size _ _), trivial, (fun b z => nomatch (show b ∈ ([] : List Addr) from z)), ok, .of_eq gens⟩
  have TB : ∀ p ∈ cs, LamX.TabB (hidT s₁.heap H) mg p.1 p.2 := fun p hp => by
    have hT := empty p hp
    have gP : mainGlobals ≠ p.2 := fun z => by
      obtain ⟨o, es, n, q, d, _⟩ := hns
      rw [z, hT] at q
      cases q
      cases d
    obtain ⟨bm, om, b1, b2, b3, b4, b5, b6⟩ := hbm
    refine NdefX.tabB_of_K KB (heads p hp) ⟨bm, om, b1, b2, fun z => ?_, fun z => ?_, hidT_get b3 (untold b3 (fun _ _ y => by rw [b6] at y; cases y) fun _ y => by rw [b6] at y; cases y), b4, b5, b6⟩ gP
    · obtain ⟨o, es, n, q, d, _⟩ := hns
      rw [z, q] at b3
      cases b3
      rw [d] at b6
      cases b6
    · rw [z, hT] at b3
      cases b3
      cases b6
  refine codeAny_mono ((F _ KB (names hns) TB).goes callerA [] s₁ H ⟨[.ref a], []⟩ [.ref a] [.ref a] _ _ room rfl e0 (bind s₁ (.ref a)) (.cons rfl .nil) (want H (fun p hp => tabs _ (List.mem_map.mpr ⟨p, hp, rfl⟩)) script)) fun out s2 z => ?_
  match out, z with
  | .error e, z =>
    obtain ⟨_, _, _, _, _, _, _, _, _, _, _, _, no⟩ := z
    exact no.elim
  | .ok .next, z => exact z.elim
  | .ok .brk, z => exact z.elim
  | .ok .cont, z => exact z.elim
  | .ok (.ret u), z =>
    obtain ⟨v, H2, os, bare, un, ok2, r2, q⟩ := z
    have q2 : v = .bl true := q
    subst q2
    obtain rfl : u = Value.bool true := r2
    have old : ∀ b o, b ∉ cs.map (·.2) → s₁.heap.get? b = some o → s2.heap.get? b = some o := fun b o m there => by
      cases q : H b with
      | none => exact un.keep b o there q (fun z => nomatch (show b ∈ ([] : List Addr) from z)) (by simp)
      | some u =>
        rcases only b u q with ⟨z, _⟩ | ⟨_, rfl⟩
        · exact absurd z m
        · obtain ⟨e1, _⟩ := ok b _ q
          obtain ⟨e2, _⟩ := ok2 b _ (un.frzs b ob _ q)
          rw [there] at e1
          cases e1
          exact e2
    have grown : ∀ b ∈ cs.map (·.2), ∃ more : Array Value, s2.heap.get? b = some { cls := .none, data := .fields more } := fun b m => by
      obtain ⟨more, z⟩ := un.tbls b #[] (tabs b m)
      exact ⟨_, ok2 b _ z⟩
    refine ⟨rfl, ⟨fun b o there => ?_, fun b o there => ?_⟩, os, bare⟩
    · by_cases m : b ∈ cs.map (·.2)
      · obtain ⟨p, hp, rfl⟩ := List.mem_map.mp m
        obtain ⟨more, now⟩ := grown _ m
        rw [empty p hp] at there
        cases there
        exact .inr (.inl ⟨((PySem.W.codeHd_of_K KX (heads p hp)).tab (empty p hp)).isCodeTable, rfl, #[], more, rfl, by rw [Array.empty_append]; exact now⟩)
      · exact .inl (old b o m there)
    · by_cases m : b ∈ cs.map (·.2)
      · obtain ⟨more, now⟩ := grown _ m
        exact ⟨_, now⟩
      · exact ⟨o, old b o m there⟩
theorem walk_GT {l : PySem.W.OpenLaw} {n k : Nat} {q : Program} {loose : List Str} {XP : (Str → Option Value) → Heap → Prop} {YP : World → Heap → Prop} {d : DefRec} {x : Str}
    (hn : l.most = some n) (hn2 : n ≤ sizeLine) (hdf : d.params.defaults = []) (room : Room k callerA)
    (F : ∀ (w : World) (mg : Str → Option Value) (fa : Addr) (h : Heap), YP w h → h.Ns mainGlobals mg → mg d.name = some (.ref fa) →
      ∃ (K : PySem.W.Frag) (fd : FuncData) (sp : Sp) (cs : List (Addr × Addr)), K.In h ∧ (∀ p ∈ cs, h.get? p.2 = some { cls := .none, data := .fields #[] }) ∧ (∀ p ∈ cs, K.lookup p.2 = none) ∧ (∀ p ∈ cs, PySem.W.codeHdIn K p.1 p.2 = true) ∧ (∀ (s : Shared) (u : Value), BindsTo s fd ⟨[u], []⟩ [(x, u)]) ∧
        (∀ (H : Hp) (a : Addr) (ns : List Int), ns.length ≤ n → (∀ p ∈ cs, H p.2 = some (.tbl #[])) → SqL K H a (ns.map V.int) → sp [.ref a] H (fun v _ => v = .bl true) fun _ _ _ => False) ∧
        ∀ base : Heap, K.In base → base.Ns mainGlobals mg → (∀ p ∈ cs, LamX.TabB base mg p.1 p.2) → FnG l.prog w K mg base k fa fd [x] sp) :
    PySem.W.WalkO q loose XP YP l.row.toRowW d [] (fun f vs => PySem.call f vs) := by
  refine Att.attach_call hn hdf fun w s0 s1 mg mb fa o pm cd doc a vs ns G Y _ _ _ at_ obj nums len gens => ?_
  obtain ⟨K, fd, sp, cs, KX, empty, out, heads, bind, want, hF⟩ := F w mg fa _ Y G.T.g at_
  exact law_GT KX G.T.g G.T.b G.T.builtins G.T.nolimit gens empty out heads G.T.bmain obj nums (Nat.le_trans len hn2) room hF bind fun H hH z => want H a ns len hH z

/-! ### methods, new instances, properties: calls by promises -/
theorem make_guards {A : Around} {C : Addr} {us : List Value} {kw : List (Str × Value)} : (A.under (.builtin "type.__call__" ⟨.ref C :: us, kw⟩)).guards = A.guards := by
  first | rfl | simp [Around.under, Code.weight, Code.isCreation, Code.isGuard, Code.isCaller, Code.frames, Code.isFrame, guardIds]
structure MCal (P : Program) (w : World) (K : PySem.W.Frag) (mg : Str → Option Value) (base : Heap) (k : Nat) (C : Addr) (m : Str) (ps : List Str) (sp : Sp) : Prop where
  c : Cls K C
  ex : ∃ f fd, FnG P w K mg base k f fd ps sp ∧ Meth K C m f ∧ Binds K fd ps [] ∧ PySem.W.fnIn K f = true
structure NCal (P : Program) (w : World) (K : PySem.W.Frag) (mg : Str → Option Value) (base : Heap) (k : Nat) (x : Str) (C : Addr) (ps : List Str) (sp : Sp) : Prop where
  ex : ∃ f fd, FnG P w K mg base k f fd ps sp ∧ Mk K C f ∧ mg x = some (.ref C) ∧ Binds K fd ps []
structure PCal (P : Program) (w : World) (K : PySem.W.Frag) (mg : Str → Option Value) (base : Heap) (k : Nat) (C : Addr) (n : Str) (ps : List Str) (sp : Sp) : Prop where
  c : Cls K C
  ex : ∃ p f fd, FnG P w K mg base k f fd ps sp ∧ PropOf K C n p f ∧ Binds K fd ps []
section
variable {X : Cx} {k : Nat} {C : Addr} {m x : Str} {ps : List Str} {sp : Sp} {e o : Expr} {es : List Expr} {ta : TE} {t : TA} {p pos apos : Pos}
theorem pe_mcal {pl : Sem Bool} (he : PE X o ta) (M : MCal X.prog X.w X.K X.mg X.base k C m ps sp) (room : Room k X.A) (gd : X.A.guards = some []) (args : PA X (e :: es) t)
    (hst : starEach (e :: es) X.env = (false, eval e X.env) :: starEach es X.env := by rfl) (hpl : (backTo pos (starEach es X.env)).any (·.1) = false := by rfl)
    (ht : eval (.Call (.Attribute o m apos) (e :: es) [] pos) X.env = (do
      let ov ← eval o X.env
      standAt apos.atName
      let (f, first) ← holding [ov] (getMethod ov m pl)
      callWith pos f first (backTo pos (starEach (e :: es) X.env)) (backToKw pos (keywordEach [] X.env))) := by rfl) :
    PE X (.Call (.Attribute o m apos) (e :: es) [] pos) (tMeth C m sp [] E0 ta t) := by
  obtain ⟨f, fd, G, hm, b, _⟩ := M.ex
  refine ⟨fun pins s σ H Q I want => PySem.W.methodCall_KW (pl := pl) (thn (he.run pins s σ H _ I want) fun u s1 z => ?_) ht⟩
  obtain ⟨y, H1, I1, ry, a, dx, fs, ey, ea, l, q⟩ := z
  subst ey
  obtain rfl : u = Value.ref a := ry
  refine getmeth_ok I1 ea M.c hm l (PySem.W.callWith_K (first := [.ref a]) (h₀ := X.base) I.ok.mod.kin hm.kp (thn (args.run pos pins s1 σ H1 _ I1 q) fun us s2 z2 => ?_) hst hpl)
  obtain ⟨vs, H2, I2, r, q2⟩ := z2
  rw [List.append_nil] at q2
  exact ⟨I2.kIn, runG (us := .ref a :: us) (vs := .ref a :: vs) G room gd b passL I2 (.cons rfl r) q2⟩
theorem pe_mcal0 {pl : Sem Bool} (he : PE X o ta) (M : MCal X.prog X.w X.K X.mg X.base k C m ps sp) (room : Room k X.A) (gd : X.A.guards = some [])
    (ht : eval (.Call (.Attribute o m apos) [] [] pos) X.env = (do
      let ov ← eval o X.env
      standAt apos.atName
      let (f, first) ← holding [ov] (getMethod ov m pl)
      callWith pos f first (backTo pos (starEach [] X.env)) (backToKw pos (keywordEach [] X.env))) := by rfl) :
    PE X (.Call (.Attribute o m apos) [] [] pos) (tMeth C m sp [] E0 ta tNil) := by
  obtain ⟨f, fd, G, hm, b, _⟩ := M.ex
  refine ⟨fun pins s σ H Q I want => PySem.W.methodCall_KW (pl := pl) (thn (he.run pins s σ H _ I want) fun u s1 z => ?_) ht⟩
  obtain ⟨y, H1, I1, ry, a, dx, fs, ey, ea, l, q⟩ := z
  subst ey
  obtain rfl : u = Value.ref a := ry
  exact getmeth_ok I1 ea M.c hm l (PySem.W.callWith_K0 (first := [.ref a]) I1.kIn hm.kp (runG (us := [.ref a]) (vs := [.ref a]) G room gd b passL I1 (.cons rfl .nil) q))
theorem pe_ncal (M : NCal X.prog X.w X.K X.mg X.base k x C ps sp) (room : Room (k + 1) X.A) (gd : X.A.guards = some []) (gl : Gl X x) (args : PA X (e :: es) t)
    (n1 : (x == ("__debug__" : Str)) = false := by decide) (n2 : starEach (e :: es) X.env = (false, eval e X.env) :: starEach es X.env := by rfl) (n3 : (backTo pos (starEach es X.env)).any (·.1) = false := by rfl) :
    PE X (.Call (.Name x p) (e :: es) [] pos) (tMake C sp [] E0 t) := by
  obtain ⟨f, fd, G, mk, at_, b⟩ := M.ex
  refine ⟨fun pins s0 σ H0 Q I0 want => wpAny_Call_Name_kw (ld_glob I0 gl at_ ?_ n1)⟩
  refine PySem.W.callWith_K (h₀ := X.base) I0.ok.mod.kin mk.kp (thn (args.run pos pins s0 σ H0 _ I0 want) fun us s z => ?_) n2 n3
  obtain ⟨vs, H, I, r, q⟩ := z
  refine ⟨I.kIn, ?_⟩
  have want2 := q (s.heap.objs.size + 1) s.heap.objs.size (I.hok.fresh (Nat.le_succ _)) (I.hok.fresh (Nat.le_refl _)) (Nat.ne_of_lt (Nat.lt_succ_self _))
  rw [List.append_nil] at want2
  have I2 := Inv.made (C := C) I
  have r2 : Vals (V.ref (s.heap.objs.size + 1) :: vs) (Value.ref (s.heap.objs.size + 1) :: us) := .cons rfl r
  have hl : (Value.ref (s.heap.objs.size + 1) :: us).length = ps.length := r2.length.symm.trans (G.many _ _ _ _ want2)
  have bt := b { s with heap := (s.heap.push PySem.W.emptyDict).push (PySem.W.instObj C s.heap.objs.size) } (Value.ref (s.heap.objs.size + 1) :: us) I2.kIn (by rw [List.append_nil]; exact hl)
  rw [List.append_nil] at bt
  refine wpAny_call (make_map (f := f) I.kIn mk.makes mk.init (beq_iff_eq.mp mk.fn) (codeAny_mono (G.goes _ X.stack _ _ ⟨Value.ref (s.heap.objs.size + 1) :: us, []⟩ _ _ _ E0 (room.make C us []) (make_guards.trans gd) (I2.env0.make C us []) bt r2 want2) fun out s' z => ?_))
  match out, z with
  | .error er, z => exact passL pins σ _ _ er s' I2 z
  | .ok (.ret u), z =>
    obtain ⟨v, H', I3, rv, ev, q3⟩ := I2.after z
    subst ev
    exact ⟨rv, ⟨V.ref (s.heap.objs.size + 1), H', I3, rfl, q3⟩⟩
  | .ok .next, z => exact z.elim
  | .ok .brk, z => exact z.elim
  | .ok .cont, z => exact z.elim
theorem pe_pcal {n : Str} (he : PE X e ta) (M : PCal X.prog X.w X.K X.mg X.base k C n ps sp) (room : Room (k + 1) X.A) (gd : X.A.guards = some []) (hab : attributeBase e n X.env (eval e X.env) = eval e X.env := by rfl) : PE X (.Attribute e n pos) (tProp C sp [] E0 ta) := by
  obtain ⟨p, f, fd, G, hp, b⟩ := M.ex
  refine ⟨fun pins s0 σ H0 Q I0 want => attr_of hab (thn (he.run pins s0 σ H0 _ I0 want) fun u s z => ?_)⟩
  obtain ⟨y, H, I, ry, a, dx, fs, ey, ea, q⟩ := z
  subst ey
  obtain rfl : u = Value.ref a := ry
  obtain ⟨mA, O, _, _, _, _⟩ := ins_get I.hok ea
  obtain ⟨od, J, _⟩ := O.look
  obtain ⟨rest, hrec⟩ := hp.rec_
  have I1 := I.tok (s.toks + 1)
  have hl : ([Value.ref a] : List Value).length = ps.length := G.many _ _ _ _ q
  have hc : (PySem.W.clsIn X.K C).isSome = true := by
    obtain ⟨cd, hc, _⟩ := PySem.W.any_some M.c.hd
    rw [hc]
    rfl
  have bt := b { s with toks := s.toks + 1 } [.ref a] I1.kIn (by rw [List.append_nil]; exact hl)
  rw [List.append_nil] at bt
  refine PySem.W.get_bind I.kIn J (PySem.W.plainGet_of (M.c.get n)).1 (PySem.W.findObj_data hc hp.at_ hp.get hp.tak) (PySem.W.plainGet_of (M.c.get n)).2 (wpAny_call (PySem.W.prop_get (s := { s with toks := s.toks + 1 }) I.kIn hrec ?_))
  refine codeAny_mono (G.goes X.A.in1 X.stack { s with toks := s.toks + 1 } H ⟨[.ref a], []⟩ [.ref a] [.ref a] Q E0 room.in1 gd I1.env0.in1 bt (.cons rfl .nil) q) fun out s' z => ?_
  match out, z with
  | .error er, z => exact False.elim (passL pins σ H { s with toks := s.toks + 1 } er s' (I1.wish fun _ _ => False) z)
  | .ok (.ret u), z =>
    obtain ⟨v, H', I3, rv, q3⟩ := I1.after z
    show wpAny _ _ (handedOut u) _ _ _
    rw [PySem.W.handedOut_of (handed_of rv)]
    exact wpAny_pure ⟨v, H', I3, rv, q3⟩
  | .ok .next, z => exact z.elim
  | .ok .brk, z => exact z.elim
  | .ok .cont, z => exact z.elim
end

/-! ### own __contains__, __getitem__, __len__ -/
theorem fn_there {K : PySem.W.Frag} {x qual : Str} {params : Arguments} {body : List Stmt} {scope : Scope} {dvs : List V} {kws : List (Str × V)} {f : Addr} {fd : FuncData} (F : FunD K x qual params body scope dvs kws f fd) : PySem.W.fnIn K f = true := by
  obtain ⟨oc, od, dV, kV, doc, pm, an, cdv, ct, osl, _, there, _⟩ := F.ex
  unfold PySem.W.fnIn
  rw [there]
def rInO (C : Addr) (sp : Sp) (neg : Bool) : R2 := fun x y H Q => ∃ a dx fs, y = .ref a ∧ H a = some (.ins C dx fs) ∧ sp [.ref a, x] H (fun v H' => ∃ b, v = .bl b ∧ Q (.bl (if neg then !b else b)) H') E0
def rIxO (C : Addr) (sp : Sp) : R2 := fun x y H Q => ∃ a dx fs, x = .ref a ∧ H a = some (.ins C dx fs) ∧ sp [.ref a, y] H Q E0
def rLenO (C : Addr) (sp : Sp) : List V → Hp → VK → Prop := fun xs H Q => ∃ a dx fs, xs = [.ref a] ∧ H a = some (.ins C dx fs) ∧ sp [.ref a] H (fun v H' => ∃ n : Int, v = .int n ∧ 0 ≤ n ∧ n < 9223372036854775808 ∧ Q (.int n) H') E0
section
variable {X : Cx} {k : Nat} {C : Addr} {ps : List Str} {sp : Sp}
theorem runI {f : Addr} {fd : FuncData} {pins : List (Addr × Obj)} {σ : L2.St} {H : Hp} {s : Shared} {Q : VK} {us : List Value} {vs : List V} (G : FnG X.prog X.w X.K X.mg X.base k f fd ps sp) (room : Room (k + 1) X.A) (gd : X.A.guards = some []) (b : Binds X.K fd ps [])
    (I : Inv X pins σ H s) (rel : Vals vs us) (want : sp vs H Q E0) : wpAny (model X.prog X.w) X.A.in1 (call (.ref f) us) (EP X pins σ Q) X.xe s := by
  have hl : us.length = ps.length := rel.length.symm.trans (G.many _ _ _ _ want)
  have bt : BindsTo s fd ⟨us, []⟩ (ps.zip us) := by
    have z := b s us I.kIn (by rw [List.append_nil]; exact hl)
    rw [List.append_nil] at z
    exact z
  refine wpAny_call (codeAny_mono (G.goes X.A.in1 X.stack s H ⟨us, []⟩ us vs Q E0 room.in1 gd I.env0.in1 bt rel want) fun out s2 z => ?_)
  match out, z with
  | .error e, z => exact passL pins σ H s e s2 I z
  | .ok (.ret u), z => exact I.after z
  | .ok .next, z => exact z.elim
  | .ok .brk, z => exact z.elim
  | .ok .cont, z => exact z.elim
theorem o_inO (M : MCal X.prog X.w X.K X.mg X.base k C "__contains__" ps sp) (room : Room k X.A) (gd : X.A.guards = some []) : OpR X (compareOp .In) (rInO C sp false) := by
  intro pins s σ H x y v u Q I rx ry h
  obtain ⟨a, dx, fs, rfl, ea, q⟩ := h
  obtain rfl : u = Value.ref a := ry
  obtain ⟨f, fd, G, hm, b, _⟩ := M.ex
  obtain ⟨mA, O, _, _, _, _⟩ := ins_get I.hok ea
  obtain ⟨od, J, _⟩ := O.look
  obtain ⟨mm, fr⟩ := I.fr
  refine PySem.W.in_K fr I.ok.mod.kin J hm.at_ hm.fn (wpAny_mono (runG (us := [.ref a, v]) (vs := [.ref a, x]) G room gd b passL I (.cons rfl (.cons rx .nil)) q) (fun r s' z => ?_) fun _ _ z => z)
  obtain ⟨z, H', I', rz, bb, rfl, q'⟩ := z
  obtain rfl : r = Value.bool bb := rz
  exact wpAny_pure ⟨.bl bb, H', I', rfl, q'⟩
theorem o_notInO (M : MCal X.prog X.w X.K X.mg X.base k C "__contains__" ps sp) (room : Room k X.A) (gd : X.A.guards = some []) : OpR X (compareOp .NotIn) (rInO C sp true) := by
  intro pins s σ H x y v u Q I rx ry h
  obtain ⟨a, dx, fs, rfl, ea, q⟩ := h
  obtain rfl : u = Value.ref a := ry
  obtain ⟨f, fd, G, hm, b, _⟩ := M.ex
  obtain ⟨mA, O, _, _, _, _⟩ := ins_get I.hok ea
  obtain ⟨od, J, _⟩ := O.look
  obtain ⟨mm, fr⟩ := I.fr
  refine PySem.W.notIn_K fr I.ok.mod.kin J hm.at_ hm.fn (wpAny_mono (runG (us := [.ref a, v]) (vs := [.ref a, x]) G room gd b passL I (.cons rfl (.cons rx .nil)) q) (fun r s' z => ?_) fun _ _ z => z)
  obtain ⟨z, H', I', rz, bb, rfl, q'⟩ := z
  obtain rfl : r = Value.bool bb := rz
  exact wpAny_pure ⟨.bl (!bb), H', I', rfl, q'⟩
theorem pe_ixO {a b : Expr} {ta tb : TE} {pos : Pos} (M : MCal X.prog X.w X.K X.mg X.base k C "__getitem__" ps sp) (room : Room (k + 1) X.A) (gd : X.A.guards = some []) (ha : PE X a ta) (hb : PE X b tb) (hs : ∀ v u, subscripted b true v u = runValue (.builtin "lifetime.subscript" ⟨[v, u], []⟩) := by intro _ _; rfl) : PE X (.Subscript a b pos) (tOp (rIxO C sp) ta tb) := by
  refine ⟨fun pins s0 σ H0 Q I0 want => Subscript_ (binT ha hb I0 want fun v u s x y H I rx ry h => ?_)⟩
  obtain ⟨p, dx, fs, rfl, ea, q⟩ := h
  obtain rfl : v = Value.ref p := rx
  obtain ⟨f, fd, G, hm, b, fn⟩ := M.ex
  obtain ⟨mA, O, _, _, _, _⟩ := ins_get I.hok ea
  obtain ⟨od, J, _⟩ := O.look
  obtain ⟨mm, fr⟩ := I.fr
  exact PySem.W.sub_K fr I.ok.mod.kin J hm.at_ fn hm.fn (runI (us := [.ref p, u]) (vs := [.ref p, y]) G room gd b I (.cons rfl (.cons ry .nil)) q) (hs _ _)
theorem c_lenO (M : MCal X.prog X.w X.K X.mg X.base k C "__len__" ps sp) (room : Room (k + 1) X.A) (gd : X.A.guards = some []) : CallR X (.builtin "len") (rLenO C sp) := by
  intro pins s σ H xs us Q I rel h
  obtain ⟨a, dx, fs, rfl, ea, q⟩ := h
  obtain ⟨u, rfl, ru⟩ := vals1 rel
  obtain rfl : u = Value.ref a := ru
  obtain ⟨f, fd, G, hm, b, _⟩ := M.ex
  obtain ⟨mA, O, _, _, _, _⟩ := ins_get I.hok ea
  obtain ⟨od, J, _⟩ := O.look
  obtain ⟨mm, fr⟩ := I.fr
  refine PySem.W.len_K fr I.ok.mod.kin J hm.at_ hm.fn (wpAny_mono (runI (us := [.ref a]) (vs := [.ref a]) G room gd b I (.cons rfl .nil) q) (fun r s' z => ?_) fun _ _ z => z)
  obtain ⟨z, H', I', rz, n, rfl, n0, n1, q'⟩ := z
  obtain ⟨t, rfl⟩ := rz
  exact ⟨⟨n0, by omega⟩, .int n, H', I'.tok _, ⟨_, rfl⟩, q'⟩
end

/-! ### enumerate(list, start) -/
section
variable {prog : Program} {w : World} {A : Around} {E : Value → Shared → Prop} {s : Shared}
theorem enS_next {en it l : Addr} {i : Nat} {c : Int} {its : Array Value} {x old : Value} {Q : Value → Shared → Prop} (he : IsEnum s.heap en it c old) (hit : s.heap.IsListIter it l i) (hl : s.heap.IsList l its) (hx : its[i]? = some x) (ne : en ≠ it)
    (q : ∀ h', IsEnumOut h' en it (c + 1) x s.heap.objs.size → h'.IsListIter it l (i + 1) → h'.get? s.heap.objs.size = some { cls := .type "tuple", data := .seq #[.int c s.toks, x] } → h'.objs.size = s.heap.objs.size + 1 → (∀ b o, b ≠ en → b ≠ it → s.heap.get? b = some o → h'.get? b = some o) → Q (.ref s.heap.objs.size) { s with heap := h', toks := s.toks + 1 }) :
    wpAny (model prog w) A (Builtin.«enumerate.__next__» ⟨[.ref en], []⟩) (fun fin s' => ∃ v, fin = .done (.ret v) ∧ Q v s') E s := by
  obtain ⟨hp, g, d, tk, os⟩ := s
  have lt0 : en < hp.objs.size := Heap.lt_size he
  show wpAny _ _ (field (.ref en) 2 >>= _) _ _ _
  refine wpAny_bind (wpAny_field he rfl (x := .ref it) rfl (wpAny_bind (wpAny_nextOf_list_item hit hl hx fun ha ita sa => ?_)))
  replace sa : Heap.SameBut it hp ha := sa
  have ea : IsEnum ha en it c old := (sa.2 en ne).trans he
  show wpAny _ _ (field (.ref en) 3 >>= _) _ _ ⟨ha, g, d, tk, os⟩
  refine wpAny_bind (wpAny_field ea rfl (x := rawInt c) rfl ?_)
  show wpAny _ _ (field (.ref en) 4 >>= _) _ _ ⟨ha, g, d, tk, os⟩
  refine wpAny_bind (wpAny_field ea rfl (x := .none) rfl ?_)
  show wpAny _ _ (mkInt c >>= _) _ _ ⟨ha, g, d, tk, os⟩
  refine wpAny_bind (wpAny_mkInt ?_)
  show wpAny _ _ (setField (.ref en) 3 (rawInt (c + 1)) >>= _) _ _ ⟨ha, g, d, tk + 1, os⟩
  refine wpAny_bind (wpAny_setField_rec ea (by simp) fun hb eb sb => ?_)
  replace sb : Heap.SameBut en ha hb := sb
  replace eb : IsEnum hb en it (c + 1) old := eb
  show wpAny _ _ (setField (.ref en) 4 .none >>= _) _ _ ⟨hb, g, d, tk + 1, os⟩
  refine wpAny_bind (wpAny_setField_rec eb (by simp) fun hc ec sc => ?_)
  replace sc : Heap.SameBut en hb hc := sc
  replace ec : IsEnum hc en it (c + 1) old := ec
  show wpAny _ _ (newTuple [.int c tk, x] >>= _) _ _ ⟨hc, g, d, tk + 1, os⟩
  refine wpAny_bind (wpAny_newTuple ?_)
  have z3 : hc.objs.size = hp.objs.size := by rw [sc.1, sb.1, sa.1]
  have ed : IsEnum (hc.push { cls := .type "tuple", data := .seq #[.int c tk, x] }) en it (c + 1) old := Heap.get?_push_of_some _ ec
  generalize e4 : hc.push { cls := .type "tuple", data := .seq #[.int c tk, x] } = hd at ed
  have td : hd.get? hp.objs.size = some { cls := .type "tuple", data := .seq #[.int c tk, x] } := by
    rw [← e4, ← z3]
    exact Heap.get?_push_size _ rfl
  have zd : hd.objs.size = hp.objs.size + 1 := by rw [← e4, Heap.size_push, z3]
  have kd : ∀ b o, b ≠ en → b ≠ it → hp.get? b = some o → hd.get? b = some o := fun b o n1 n2 z => by
    rw [← e4]
    exact Heap.get?_push_of_some _ (sc.extBut b o n1 (sb.extBut b o n1 (sa.extBut b o n2 z)))
  have id4 : hd.IsListIter it l (i + 1) := by
    rw [← e4]
    obtain ⟨o, ho, r⟩ := (ita.extBut sb.extBut ne.symm).extBut sc.extBut ne.symm
    exact ⟨o, Heap.get?_push_of_some _ ho, r⟩
  show wpAny _ _ (Builtin.SmallTypes.ownedTupleIsFree (.ref en) >>= _) _ _ ⟨hd, g, d, tk + 1, os⟩
  rw [z3]
  clear e4 ec sc eb sb ea sa ita z3 hc hb ha
  refine wpAny_bind ?_
  unfold Builtin.SmallTypes.ownedTupleIsFree
  refine wpAny_bind (wpAny_field ed rfl (x := .none) rfl (wpAny_pure ?_))
  simp only [if_true]
  refine wpAny_bind (wpAny_rule (wpAny_bind (wpAny_field ed rfl (x := old) rfl (wpAny_bind (wpAny_setField_rec ed (by simp) fun hf ef sf => ?_)))))
  replace sf : Heap.SameBut en hd hf := sf
  replace ef : IsEnum hf en it (c + 1) x := ef
  show wpAny _ _ (Builtin.SmallTypes.ownedTupleHandOut (.ref en) (.ref hp.objs.size) >>= _) _ _ ⟨hf, g, d, tk + 1, os⟩
  refine wpAny_bind ?_
  unfold Builtin.SmallTypes.ownedTupleHandOut
  refine wpAny_bind (wpAny_setField_rec ef (by simp) fun hi ei si => ?_)
  replace si : Heap.SameBut en hf hi := si
  replace ei : IsEnumOut hi en it (c + 1) x hp.objs.size := ei
  refine wpAny_setField_rec ei (by simp) fun hj ej sj => ?_
  replace sj : Heap.SameBut en hi hj := sj
  replace ej : IsEnumOut hj en it (c + 1) x hp.objs.size := ej
  refine wpAny_bind (wpAny_letGo (wpAny_pure ⟨_, rfl, q hj ej ?_ ?_ ?_ ?_⟩))
  · exact ((id4.extBut sf.extBut ne.symm).extBut si.extBut ne.symm).extBut sj.extBut ne.symm
  · exact sj.extBut _ _ (Nat.ne_of_gt lt0) (si.extBut _ _ (Nat.ne_of_gt lt0) (sf.extBut _ _ (Nat.ne_of_gt lt0) td))
  · rw [sj.1, si.1, sf.1, zd]
  · exact fun b o n1 n2 z => sj.extBut b o n1 (si.extBut b o n1 (sf.extBut b o n1 (kd b o n1 n2 z)))
theorem enS_item {en it l : Addr} {i : Nat} {c : Int} {its : Array Value} {x old : Value} {Q : Option Value → Shared → Prop} (he : IsEnum s.heap en it c old) (hit : s.heap.IsListIter it l i) (hl : s.heap.IsList l its) (hx : its[i]? = some x) (ne : en ≠ it)
    (q : ∀ h', IsEnumOut h' en it (c + 1) x s.heap.objs.size → h'.IsListIter it l (i + 1) → h'.get? s.heap.objs.size = some { cls := .type "tuple", data := .seq #[.int c s.toks, x] } → h'.objs.size = s.heap.objs.size + 1 → (∀ b o, b ≠ en → b ≠ it → s.heap.get? b = some o → h'.get? b = some o) → Q (some (.ref s.heap.objs.size)) { s with heap := h', toks := s.toks + 1 }) :
    wpAny (model prog w) A (pyNext (.ref en)) Q E s := by
  have ty : s.TypeIs (.ref en) "enumerate" := ⟨_, he, rfl⟩
  unfold pyNext
  refine wpAny_bind (wpAny_attempt (wpAny_callSpecial?_slot (name := Str.ofString "__next__") ty F.slot_enumerate_next (wpAny_call_entry F.slot_enumerate_next ty F.entry_enumerate_next ?_ (F.args_enumerate_next_1 _))))
  exact enS_next he hit hl hx ne fun h' a b c d k => wpAny_pure (q h' a b c d k)
theorem enS_end {en it l : Addr} {i : Nat} {c : Int} {its : Array Value} {old : Value} {Q : Option Value → Shared → Prop} (hh : A.handled = none) (he : IsEnum s.heap en it c old) (hit : s.heap.IsListIter it l i) (hl : s.heap.IsList l its) (hx : its[i]? = none)
    (q : ∀ h', Heap.ExtBut it s.heap h' → Q none { s with heap := h' }) : wpAny (model prog w) A (pyNext (.ref en)) Q E s := by
  have ty : s.TypeIs (.ref en) "enumerate" := ⟨_, he, rfl⟩
  unfold pyNext
  refine wpAny_bind (wpAny_attempt (wpAny_callSpecial?_slot (name := Str.ofString "__next__") ty F.slot_enumerate_next (wpAny_call_entry F.slot_enumerate_next ty F.entry_enumerate_next ?_ (F.args_enumerate_next_1 _))))
  show wpAny _ _ (field (.ref en) 2 >>= _) _ _ _
  refine wpAny_bind (wpAny_field he rfl (x := .ref it) rfl (wpAny_bind (wpAny_nextOf_list_end hh hit hl hx fun h' x k z => ?_)))
  obtain ⟨o, ho, hc⟩ := z
  exact wpAny_bind (wpAny_isInstance (T := "StopIteration") (b := true) ⟨o, ho, hc⟩ isSubtype_stop (wpAny_pure (q _ k)))
theorem enS_new (l : Addr) (its : Array Value) (n : Nat) (dct : Option Addr) (sl : Array (Option Value)) (t : Tok) :
    Meets (Builtin.«enumerate.__new__» ⟨[.type "enumerate", .ref l, .int 2 t], []⟩) (fun _ R s => s.heap.get? l = some { cls := .type "list", dict := dct, data := .seq its n, slots := sl } ∧
      R (.ok (.ret (.ref (s.heap.push { cls := .type "list_iterator", data := .fields #[.ref l, .int 0 0] }).objs.size))) { s with heap := (s.heap.push { cls := .type "list_iterator", data := .fields #[.ref l, .int 0 0] }).push { cls := .type "enumerate", data := .fields #[.none, .bool false, .ref s.heap.objs.size, rawInt 2, .none, .none] } }) :=
  .of_wp fun prog w A R s h => by
    obtain ⟨hp, g, d, tk, os⟩ := s
    obtain ⟨hl, h⟩ := h
    have hs := sub_enumerate
    have hL : Heap.IsList (Shared.heap ⟨hp, g, d, tk, os⟩) l its := ⟨_, hl, rfl, n, rfl⟩
    wp_walk using AutoSeq1.wpAny_loadPart' hl
    refine wpAny_stack_any fun st => wpAny_pure ?_
    split
    · rename_i c _ _ _ _ _
      cases (c == Value.type "enumerate") <;> (wp_walk using AutoSeq1.wpAny_loadPart' hl, wpAny_pyIter_list hL; exact ⟨_, rfl, h⟩)
    · wp_walk using AutoSeq1.wpAny_loadPart' hl, wpAny_pyIter_list hL
      exact ⟨_, rfl, h⟩
end
section
variable {prog : Program} {w : World} {A : Around} {E : Value → Shared → Prop} {s : Shared}
theorem enS_call {l : Addr} {its : Array Value} {t : Tok} {Q : Value → Shared → Prop} (hL : s.heap.IsList l its)
    (q : ∀ h', IsEnum h' (s.heap.objs.size + 1) s.heap.objs.size 2 .none → h'.IsListIter s.heap.objs.size l 0 → h'.objs.size = s.heap.objs.size + 2 → (∀ b o, s.heap.get? b = some o → h'.get? b = some o) → Q (.ref (s.heap.objs.size + 1)) { s with heap := h' }) :
    wpAny (model prog w) A (call (.type "enumerate") [.ref l, .int 2 t]) Q E s := by
  obtain ⟨⟨c, dct, dt, sl⟩, hl, hc, n, hd⟩ := hL
  have hc2 : c = .type "list" := hc
  have hd2 : dt = .seq its n := hd
  subst hc2 hd2
  refine callType_new F.called_enumerate (by decide) (by kernel_rfl) (by kernel_rfl) (fun obj => F.args_object_init_3 obj _ _) F.entry_enumerate_new (enS_new l its n dct sl t) ⟨hl, ?_⟩
  have z1 : (s.heap.push { cls := .type "list_iterator", data := .fields #[.ref l, .int 0 0] }).objs.size = s.heap.objs.size + 1 := Heap.size_push ..
  show _ ∧ _
  rw [z1]
  have he : IsEnum ((s.heap.push { cls := .type "list_iterator", data := .fields #[.ref l, .int 0 0] }).push { cls := .type "enumerate", data := .fields #[.none, .bool false, .ref s.heap.objs.size, rawInt 2, .none, .none] }) (s.heap.objs.size + 1) s.heap.objs.size 2 .none := by
    have z := Heap.get?_push_size (s.heap.push { cls := .type "list_iterator", data := .fields #[.ref l, .int 0 0] }) (o := { cls := .type "enumerate", data := .fields #[.none, .bool false, .ref s.heap.objs.size, rawInt 2, .none, .none] }) rfl
    rw [z1] at z
    exact z
  exact ⟨⟨_, he, rfl⟩, q _ he ⟨_, Heap.get?_push_of_some _ (Heap.get?_push_size _ rfl), rfl, rfl⟩ (by rw [Heap.size_push, z1]) fun b o y => Heap.get?_push_of_some _ (Heap.get?_push_of_some _ y)⟩
end
/-- the list at a, each item in a new pair behind 2 + its place -/
def It2 (K : PySem.W.Frag) (a : Addr) : It :=
  ⟨fun i H => ∃ (xs : List V) (x : V), SqL K H a xs ∧ xs[i]? = some x, fun i H v H' => ∃ T x, v = .ref T ∧ H T = none ∧ H' = upd H T (.tup [.int (2 + (i : Nat)), x]) ∧ ∀ xs, SqL K H a xs → xs[i]? = some x, fun i H => ∃ xs : List V, SqL K H a xs ∧ xs.length ≤ i⟩
theorem turn_enS {P : Program} {w : World} {K : PySem.W.Frag} {elts : List Expr} {kk : Nat} {tpos : Pos} (a en it : Addr) :
    Turn P w K (.Tuple elts kk tpos) (It2 K a) [en, it] en (fun i h => (∃ old, IsEnum h en it (2 + ((i : Nat) : Int)) old) ∧ h.IsListIter it a i ∧ en ≠ it) where
  mem := by simp
  obj := fun i h st b hb => by
    obtain ⟨⟨old, he⟩, ⟨o, ho, hc, hd⟩, _⟩ := st
    have z : b = en ∨ b = it := by simpa using hb
    rcases z with rfl | rfl
    · exact ⟨_, he, fun v q => nomatch q⟩
    · exact ⟨o, ho, fun v q => by rw [hd] at q; cases q⟩
  keep := fun i h h' st k => by
    obtain ⟨⟨old, he⟩, hi, ne⟩ := st
    exact ⟨⟨old, k en (by simp) _ he⟩, hi.at fun o q => k it (by simp) o q, ne⟩
  item := by
    intro X hP hw hK hc i pins s σ H E I hf st hg
    subst hP hw hK
    obtain ⟨⟨old, he⟩, hit, ne⟩ := st
    obtain ⟨xs, x, hq, hx⟩ := hg
    obtain ⟨its, rv, p, hz⟩ := I.list hq
    obtain ⟨u, hu, ru⟩ := rv.get hx
    have l1 : en < s.heap.objs.size := Heap.lt_size he
    have l2 : it < s.heap.objs.size := by
      obtain ⟨_, q, _⟩ := hit
      exact Heap.lt_size q
    refine enS_item he hit p.isList (x := u) (by simpa using hu) ne fun h' ho hit' hT hsz hk => ⟨_, rfl, wpAny_letOwnedTupleGo_enum (s := { s with heap := h', toks := s.toks + 1 }) ho fun h2 he2 sb => ?_⟩
    have hT2 : h2.get? s.heap.objs.size = some { cls := .type "tuple", data := .seq #[.int (2 + (i : Int)) s.toks, u] } := (sb.2 _ (Nat.ne_of_gt l1)).trans hT
    have new : ObjOk X.prog X.w (upd H s.heap.objs.size (.tup [.int (2 + (i : Nat)), x])) h2 s.heap.objs.size (.tup [.int (2 + (i : Nat)), x]) := ⟨by show 2 ≤ sizeLine; decide, [.int (2 + (i : Int)) s.toks, u], .cons ⟨_, rfl⟩ (.cons ru .nil), ⟨_, hT2, rfl, _, rfl⟩⟩
    have I1 : Inv X pins σ (upd H s.heap.objs.size (.tup [.int (2 + (i : Nat)), x])) { s with heap := h2, toks := s.toks + 1 } :=
      I.turnedNew (ch := [en, it]) (fun b ob hb q => (sb.2 b (fun z => hb (by simp [z]))).trans (hk b ob (fun z => hb (by simp [z])) (fun z => hb (by simp [z])) q)) hf (Nat.le_refl _) new
    refine ⟨.ref s.heap.objs.size, _, I1, rfl, ⟨_, x, rfl, I.hok.fresh (Nat.le_refl _), rfl, fun ys hy => by rw [I.list_inj hy hq]; exact hx⟩, ⟨⟨u, ?_⟩, hit'.at fun o q => (sb.2 it ne.symm).trans q, ne⟩, fun b hb => ?_⟩
    · have z : 2 + ((i + 1 : Nat) : Int) = 2 + (i : Int) + 1 := by omega
      rw [z]
      exact he2
    · have lt : b < s.heap.objs.size := by
        have z : b = en ∨ b = it := by simpa using hb
        rcases z with z | z <;> (rw [z]; assumption)
      rw [upd_ne (Nat.ne_of_lt lt)]
      exact (hf b hb).1
  done := by
    intro X hP hw hK hc i pins s σ H E I hf st hg
    subst hP hw hK
    obtain ⟨⟨old, he⟩, hit, ne⟩ := st
    obtain ⟨xs, hq, hx⟩ := hg
    obtain ⟨its, rv, p, hz⟩ := I.list hq
    obtain ⟨f0, f1, f2, f3, f4, f5⟩ := hf it (by simp)
    have hl := rv.length
    exact enS_end (I.ok.hd hc) he hit p.isList (by simp; omega) fun h' eb => ⟨rfl, I.turned (t' := s.toks) (fun b o hb q => eb b o hb q) f0 f1 f3 f4 f5⟩
  self := fun A i s Q E st h => by
    obtain ⟨⟨_, he⟩, _⟩ := st
    exact wpAny_pyIter_enum he h
def iEn2 (K : PySem.W.Frag) (ta : TA) : TI := fun σ H R => ta σ H fun vs H1 => ∃ a xs, vs = [.ref a, .int 2] ∧ SqL K H1 a xs ∧ R (It2 K a) H1
theorem xi_en2 {X : Cx} {K : PySem.W.Frag} {e e2 : Expr} {ta : TA} {p pos tpos : Pos} {elts : List Expr} {kk : Nat} (ek : X.K = K) (hg : Gl X "enumerate") (hm : X.mg "enumerate" = none) (ha : PA X [e, e2] ta) (hs : starEach [e, e2] X.env = (false, eval e X.env) :: starEach [e2] X.env := by rfl) (hpl : (backTo pos (starEach [e2] X.env)).any (·.1) = false := by rfl) :
    PI X (.Tuple elts kk tpos) (.Call (.Name "enumerate" p) [e, e2] [] pos) (iEn2 K ta) := by
  subst ek
  refine ⟨fun pins s σ H R I h => Call_ (ld_blt I hg hm boot_enumerate (PyProof.Rows.callWith_type1 (thn (ha.run pos pins s σ H _ I h) fun us s1 z => ?_) hs hpl))⟩
  obtain ⟨vs, H1, I1, r1, a, xs, rfl, hq, q⟩ := z
  cases r1 with
  | cons r rr => cases rr with
    | cons r' rr =>
      cases rr
      cases r
      obtain ⟨t, rfl⟩ := r'
      obtain ⟨its, rv, p', hz⟩ := I1.list hq
      refine enS_call p'.isList fun h' he hit hsz hk => wpAny_pyIter_enum he ?_
      have I2 : Inv X pins σ H1 { s1 with heap := h' } := I1.kept (t' := s1.toks) hk
      refine ⟨s1.heap.objs.size + 1, [s1.heap.objs.size + 1, s1.heap.objs.size], _, _, H1, rfl, I2, turn_enS a (s1.heap.objs.size + 1) s1.heap.objs.size, ⟨⟨.none, he⟩, hit, Nat.succ_ne_self _⟩, fun b hb => ?_, q⟩
      have z : b = s1.heap.objs.size + 1 ∨ b = s1.heap.objs.size := by simpa using hb
      have le : s1.heap.objs.size ≤ b := by
        rcases z with z | z
        · rw [z]
          exact Nat.le_succ _
        · rw [z]
          exact Nat.le_refl _
      exact I1.fpOk le (I1.hok.fresh le)
theorem walk_enS {K : PySem.W.Frag} {a : Addr} {xs : List V} : Walk (It2 K a) xs.length (fun H => SqL K H a xs) (YPair (fun i => some (.int (2 + (i : Nat)))) (fun i => xs[i]?)) := by
  refine ⟨fun i _ hi q => ⟨xs, xs[i], q, by simp [hi]⟩, fun _ q => ⟨xs, q, Nat.le_refl _⟩, fun i H v H' _ q y => ?_⟩
  obtain ⟨T, x, h1, h2, h3, h4⟩ := y
  exact ⟨T, .int (2 + (i : Nat)), x, h1, h2, h3, rfl, h4 xs q⟩

/-! ### words[1::2] of at most four words -/
def OddOf (xs ys : List V) : Prop := (xs = [] ∧ ys = []) ∨ (∃ a b, xs = [a, b] ∧ ys = [b]) ∨ ∃ a b c d, xs = [a, b, c, d] ∧ ys = [b, d]
theorem bnd2 : sliceBounds (some 1) none (some 2) 2 = (1, 2, 2) := by decide
theorem bnd4 : sliceBounds (some 1) none (some 2) 4 = (1, 4, 2) := by decide
theorem rng2 : sliceRange 1 2 2 = [1] := by decide
theorem rng4 : sliceRange 1 4 2 = [1, 3] := by decide
theorem pick2 (a b : Value) : slicePick #[a, b] (some 1) none (some 2) = #[b] := by
  unfold slicePick
  show ((sliceRange (sliceBounds (some 1) none (some 2) 2).1 (sliceBounds (some 1) none (some 2) 2).2.1 (sliceBounds (some 1) none (some 2) 2).2.2).filterMap (#[a, b][·]?)).toArray = _
  rw [bnd2, rng2]
  rfl
theorem pick4 (a b c d : Value) : slicePick #[a, b, c, d] (some 1) none (some 2) = #[b, d] := by
  unfold slicePick
  show ((sliceRange (sliceBounds (some 1) none (some 2) 4).1 (sliceBounds (some 1) none (some 2) 4).2.1 (sliceBounds (some 1) none (some 2) 4).2.2).filterMap (#[a, b, c, d][·]?)).toArray = _
  rw [bnd4, rng4]
  rfl
theorem pick_odd {xs ys : List V} {its : List Value} (o : OddOf xs ys) (r : Vals xs its) : ∃ us : List Value, slicePick its.toArray (some 1) none (some 2) = us.toArray ∧ Vals ys us ∧ ys.length ≤ 2 := by
  rcases o with ⟨rfl, rfl⟩ | ⟨a, b, rfl, rfl⟩ | ⟨a, b, c, d, rfl, rfl⟩
  · cases r
    exact ⟨[], rfl, .nil, by decide⟩
  · cases r with
    | cons r1 r => cases r with
      | cons r2 r =>
        cases r
        exact ⟨[_], pick2 _ _, .cons r2 .nil, by show 1 ≤ 2; decide⟩
  · cases r with
    | cons r1 r => cases r with
      | cons r2 r => cases r with
        | cons r3 r => cases r with
          | cons r4 r =>
            cases r
            exact ⟨[_, _], pick4 _ _ _ _, .cons r2 (.cons r4 .nil), by show 2 ≤ 2; decide⟩
def tOdd (K : PySem.W.Frag) (te : TE) : TE := fun σ H Q => te σ H fun x H1 => ∃ a xs ys, x = .ref a ∧ SqL K H1 a xs ∧ OddOf xs ys ∧ ∀ p, H1 p = none → Q (.ref p) (upd H1 p (.lst ys))
theorem xe_odd {X : Cx} {K : PySem.W.Frag} {e : Expr} {te : TE} {k1 k2 : Nat} {p1 p2 p3 pos : Pos} (ek : X.K = K) (he : PE X e te) : PE X (.Subscript e (.Slice (some (.Constant (.int 1) k1 p1)) none (some (.Constant (.int 2) k2 p2)) p3) pos) (tOdd K te) := by
  subst ek
  refine ⟨fun pins s σ H Q I h => Subscript_ (thn (he.run pins s σ H _ I h) fun v s1 z => ?_)⟩
  obtain ⟨x, H1, I1, r1, a, xs, ys, rfl, hx, od, q⟩ := z
  cases r1
  have c1 : PO X (some (.Constant (.int 1) k1 p1)) (tPart (tC (.int 1))) := po_some pe_int
  have c2 : PO X (some (.Constant (.int 2) k2 p2)) (tPart (tC (.int 2))) := po_some pe_int
  refine wpAny_Slice (thn (c1.run pins s1 σ H1 (fun o H2 => o = some 1 ∧ H2 = H1) I1 ⟨1, rfl, rfl, rfl⟩) fun vl s2 z2 => ?_)
  obtain ⟨l, H2, I2, pl, rfl, rfl⟩ := z2
  refine thn (po_none.run pins s2 σ H2 (fun o H3 => o = none ∧ H3 = H2) I2 ⟨rfl, rfl⟩) fun vu s3 z3 => ?_
  obtain ⟨u, H3, I3, pu, rfl, rfl⟩ := z3
  refine thn (c2.run pins s3 σ H3 (fun o H4 => o = some 2 ∧ H4 = H3) I3 ⟨2, rfl, rfl, rfl⟩) fun vs s4 z4 => ?_
  obtain ⟨o, H4, I4, ps, rfl, rfl⟩ := z4
  have I5 : Inv X pins σ H4 { s4 with heap := s4.heap.push { cls := .type "slice", data := .fields #[vl, vu, vs] } } := I4.kept (t' := s4.toks) fun b ob q => Heap.get?_push_of_some _ q
  obtain ⟨its, r, ht, hz⟩ := I5.list hx
  obtain ⟨us, e1, r2, le⟩ := pick_odd od r
  have hlen := r.length
  show wpAny (model X.prog X.w) X.A (subscriptTail e (.Slice (some (.Constant (.int 1) k1 p1)) none (some (.Constant (.int 2) k2 p2)) p3) (.ref a) (.ref s4.heap.objs.size)) (EP X pins σ Q) X.xe { s4 with heap := s4.heap.push { cls := .type "slice", data := .fields #[vl, vu, vs] } }
  refine tail_any (ops := [.ref a, .ref s4.heap.objs.size]) ht.isList.typeIs PySem.slot_list_getitem.lookup ?_ (by with_unfolding_all rfl)
  refine wpAny_getItem_list_slice ht.isList (Heap.IsSliceOf.new _ vl vu vs) pl pu ps (by decide) ?_ (by rw [List.size_toArray]; omega)
  rw [e1]
  refine ⟨.ref _, _, I5.laid (t' := s4.toks) (o := .lst ys) (fun b ob q => Heap.get?_push_of_some _ q) (Nat.le_refl _) ?_, rfl, q _ (I5.hok.fresh (Nat.le_refl _))⟩
  exact ⟨Nat.le_of_lt (small1000 (by omega)), us, 0, r2, Heap.get?_push_size _ rfl⟩
theorem w_odd {σ : L2.St} {H : Hp} {Q : VK} {K : PySem.W.Frag} {te : TE} (h : te σ H fun x H1 => ∃ a xs ys, x = .ref a ∧ SqL K H1 a xs ∧ OddOf xs ys ∧ ∀ p, H1 p = none → Q (.ref p) (upd H1 p (.lst ys))) : tOdd K te σ H Q := h

/-! ### a dict of the module whose keys are ints -/
def keyI (e : DictEntry) : Option Int × Int := (match e.key with | .int i _ => some i | _ => none, e.hash)
def idB (K : PySem.W.Frag) (x : Str) (ks : List Int) : Bool := match K.lookup (He.ga K x) with
  | some ⟨.type c, none, .dict es _, sl⟩ => decide (c = "dict") && (decide (sl.size = 0) && (decide (es.toList.map keyI = ks.map fun k => (some k, hashInt k)) && !(He.ga K x == sysModules)))
  | _ => false
structure IDict (K : PySem.W.Frag) (x : Str) (ks : List Int) : Prop where
  at_ : ∃ es n, K.lookup (He.ga K x) = some ⟨.type "dict", none, .dict es n, #[]⟩ ∧ es.toList.map keyI = ks.map fun k => (some k, hashInt k)
  low : (He.ga K x == sysModules) = false
theorem idB_ok {K : PySem.W.Frag} {x : Str} {ks : List Int} (h : idB K x ks = true) : IDict K x ks := by
  unfold idB at h
  split at h
  · rename_i c es n sl e
    obtain ⟨h1, h2⟩ := Bool.and_eq_true_iff.mp h
    obtain ⟨h2, h3⟩ := Bool.and_eq_true_iff.mp h2
    obtain ⟨h3, h4⟩ := Bool.and_eq_true_iff.mp h3
    have e1 := of_decide_eq_true h1
    have e2 : sl = #[] := Array.eq_empty_of_size_eq_zero (of_decide_eq_true h2)
    subst e1 e2
    exact ⟨⟨es, n, e, of_decide_eq_true h3⟩, by simpa using h4⟩
  · cases h
theorem keyI_of {e : DictEntry} {k : Int} (h : keyI e = (some k, hashInt k)) : ∃ t, e.key = .int k t ∧ e.hash = hashInt k := by
  unfold keyI at h
  obtain ⟨h1, h2⟩ := Prod.mk.inj h
  split at h1
  · rename_i i t z
    cases h1
    exact ⟨t, z, h2⟩
  · cases h1
theorem keys_of : ∀ {l : List DictEntry} {ks : List Int}, l.map keyI = ks.map (fun k => (some k, hashInt k)) → ∀ e ∈ l, ∃ k ∈ ks, ∃ t, e.key = .int k t ∧ e.hash = hashInt k
  | [], _, _, _, h => by cases h
  | d :: l, [], h, _, _ => by cases h
  | d :: l, k :: ks, h, e, m => by
    rw [List.map_cons, List.map_cons] at h
    obtain ⟨h1, h2⟩ := List.cons.inj h
    cases m with
    | head => exact ⟨k, .head _, keyI_of h1⟩
    | tail _ m =>
      obtain ⟨j, mj, z⟩ := keys_of h2 e m
      exact ⟨j, .tail _ mj, z⟩
theorem find_ids : ∀ {l : List DictEntry} {ks : List Int} (i : Int), l.map keyI = ks.map (fun k => (some k, hashInt k)) → (l.find? fun e => Value.isInt i e.key).isSome = decide (i ∈ ks)
  | [], [], i, _ => by simp
  | [], _ :: _, _, h => by cases h
  | d :: l, [], _, h => by cases h
  | d :: l, k :: ks, i, h => by
    rw [List.map_cons, List.map_cons] at h
    obtain ⟨h1, h2⟩ := List.cons.inj h
    obtain ⟨t, e, _⟩ := keyI_of h1
    have ih := find_ids i h2
    rw [List.find?_cons]
    by_cases z : i = k
    · subst z
      have : Value.isInt i d.key = true := by rw [e]; simp [Value.isInt]
      rw [this]
      simp
    · have : Value.isInt i d.key = false := by rw [e]; simpa [Value.isInt] using fun y => z y.symm
      rw [this, ih]
      simp [z]
/-- where the tuple at a key of such a dict stands -/
def idA (K : PySem.W.Frag) (x : Str) (k : Int) : Addr := match K.lookup (He.ga K x) with
  | some ⟨_, _, .dict es _, _⟩ => (match (findBy Value.isInt es k : Option Value) with | some (.ref a) => a | _ => 0)
  | _ => 0
def idR (K : PySem.W.Frag) (x : Str) (k : Int) : Bool := match K.lookup (He.ga K x) with
  | some ⟨_, _, .dict es _, _⟩ => decide ((findBy Value.isInt es k : Option Value) = some (.ref (idA K x k)))
  | _ => false
/-- a tuple of the written part -/
def tupA (K : PySem.W.Frag) (a : Addr) (vs : List V) : Bool := match K.lookup a with
  | some ⟨.type c, _, .seq its _, _⟩ => decide (c = "tuple") && (decide (its.size ≤ sizeLine) && He.relAll vs its.toList)
  | _ => false
theorem tupA_ok {K : PySem.W.Frag} {a : Addr} {vs : List V} (h : tupA K a vs = true) (H : Hp) : SqT K H a vs := by
  unfold tupA at h
  split at h
  · rename_i c d its n sl e
    obtain ⟨h1, h2⟩ := Bool.and_eq_true_iff.mp h
    obtain ⟨h2, h3⟩ := Bool.and_eq_true_iff.mp h2
    exact .inr ⟨_, its, n, e, congrArg Value.type (of_decide_eq_true h1), rfl, of_decide_eq_true h2, He.relAll_ok h3⟩
  · cases h
def rInId (K : PySem.W.Frag) (nm : Str) (ks : List Int) (neg : Bool) : R2 := fun x y H Q => ∃ i, x = .int i ∧ y = .ref (He.ga K nm) ∧ Q (.bl (if neg then !decide (i ∈ ks) else decide (i ∈ ks))) H
def rIxId (K : PySem.W.Frag) (nm : Str) : R2 := fun x y H Q => ∃ i, x = .ref (He.ga K nm) ∧ y = .int i ∧ idR K nm i = true ∧ Q (.ref (idA K nm i)) H
section
variable {X : Cx} {K : PySem.W.Frag} {nm : Str} {ks : List Int}
theorem map_id {h : Heap} {es : Array DictEntry} {n : Nat} (k : K.In h) (l : K.lookup (He.ga K nm) = some ⟨.type "dict", none, .dict es n, #[]⟩) (e : es.toList.map keyI = ks.map fun k => (some k, hashInt k)) : h.MapOf (PySem.intKind X.prog X.w) (He.ga K nm) (fun k => findBy Value.isInt es k) := by
  refine ⟨_, es, n, k _ _ l, ⟨rfl, rfl, rfl⟩, rfl, fun d hd => ?_, fun _ => rfl⟩
  obtain ⟨k, _, t, h1, h2⟩ := keys_of e d (Array.mem_toList_iff.mpr hd)
  exact ⟨k, by rw [h1]; exact PySem.intKind_is X.prog X.w k t, h2⟩
theorem find_id {es : Array DictEntry} (i : Int) (e : es.toList.map keyI = ks.map fun k => (some k, hashInt k)) : (findBy Value.isInt es i).isSome = decide (i ∈ ks) := by
  obtain ⟨l⟩ := es
  unfold findBy
  rw [List.find?_toArray, Option.isSome_map]
  exact find_ids i e
theorem x_inId (ek : X.K = K) (D : IDict K nm ks) : OpR X (compareOp .In) (rInId K nm ks false) := by
  subst ek
  intro pins s σ H x y v u Q I rx ry h
  obtain ⟨i, rfl, rfl, q⟩ := h
  obtain ⟨t, rfl⟩ := rx
  cases ry
  obtain ⟨es, n, l, e⟩ := D.at_
  refine wpAny_in_of (PySem.intKind_is X.prog X.w i t) D.low (map_id (X := X) I.kIn l e) ?_
  rw [find_id i e]
  exact ⟨.bl _, H, I.tok _, rfl, q⟩
theorem x_notInId (ek : X.K = K) (D : IDict K nm ks) : OpR X (compareOp .NotIn) (rInId K nm ks true) := by
  subst ek
  intro pins s σ H x y v u Q I rx ry h
  obtain ⟨i, rfl, rfl, q⟩ := h
  obtain ⟨t, rfl⟩ := rx
  cases ry
  obtain ⟨es, n, l, e⟩ := D.at_
  refine wpAny_notIn_of (PySem.intKind_is X.prog X.w i t) D.low (map_id (X := X) I.kIn l e) ?_
  rw [find_id i e]
  exact ⟨.bl _, H, I.tok _, rfl, q⟩
theorem x_ixId (ek : X.K = K) (D : IDict K nm ks) : IxR X (rIxId K nm) := by
  subst ek
  intro value slice pins s σ H x y v u Q I rx ry h hs
  obtain ⟨i, rfl, rfl, hr, q⟩ := h
  obtain ⟨t, rfl⟩ := ry
  cases rx
  obtain ⟨es, n, l, e⟩ := D.at_
  have hv : (findBy Value.isInt es i : Option Value) = some (.ref (idA X.K nm i)) := by
    unfold idR at hr
    rw [l] at hr
    exact of_decide_eq_true hr
  have m := map_id (X := X) I.kIn l e
  exact tail_any (ops := [.ref (He.ga X.K nm), .int i t]) m.typeIs PySem.F.slot_dict_getitem.lookup (wpAny_getItem_of (PySem.intKind_is X.prog X.w i t) m hv ⟨.ref _, H, I.tok _, rfl, q⟩) hs
end

/-! ### own exceptions: __init__ says super().__init__(repr(value)), then self.value = value -/
/-- a class of errors: f its __init__, which stands in the class D -/
structure XcC (K : PySem.W.Frag) (D f : Addr) (C : Addr) : Prop where
  o : OexC K C
  ini : PySem.W.findIn K (.ref C) "__init__" = some (some (.ref f))
  tf : PySem.W.typeIn K (.ref f) = some (.type "function")
  sup : PySem.W.ks_superIn K C D "__init__" = some (some (.builtin "ValueError.__init__"))
  sub : PySem.W.mroIn K C (.ref D) = some true
  ve : PySem.W.subIn K (.ref C) (.type "ValueError") = some true
  nov : PySem.W.findIn K (.ref C) "value" = some none
  x : XfC K C
  ha : PySem.W.findIn K (.ref C) "__class__" = some (some (.builtin "object.__class__"))
  hn : PySem.W.specialIn K (.builtin "object.__class__") "__get__" = some (some (.builtin "getset_descriptor.__get__"))
  htk : PySem.W.takesIn K (.builtin "object.__class__") = some true
  hm : PySem.W.mroIn K C (.type "object") = some true
  no : ∀ T ∈ ["int", "bool", "str", "tuple", "list", "dict"], PySem.W.kitOne K (.ref C) (.type T) = some false
/-- that __init__ as it stands: cda its code, cc the cell of its class -/
structure XinK (P : Program) (K : PySem.W.Frag) (D f cda cc : Addr) (params : Arguments) (body : List Stmt) (scope : Scope) : Prop where
  fn : ∃ (oc : Value) (od : Option Addr) (osl : Array (Option Value)) (kV doc pm : Value) (an : Option Addr) (ct : Value), K.lookup f = some ⟨oc, od, .func (PySem.W.ksFn "__init__" "AskedError.__init__" params body scope .none kV doc pm an (.ref cda) ct cc), osl⟩
  code : PySem.W.codeIn K (.ref cda) "AskedError.__init__" = true
  file : ∃ (ccl : Value) (cdd : Option Addr) (vs : Array Value) (ccs : Array (Option Value)) (file : Str) (tf : Tok), K.lookup cda = some ⟨ccl, cdd, .fields vs, ccs⟩ ∧ vs[2]? = some (.str file tf) ∧ ((P.main.file : Str) == file) = true
  cell : ∃ (cl : Value) (cld : Option Addr) (csl : Array (Option Value)), K.lookup cc = some ⟨cl, cld, .cell (some (.ref D)), csl⟩
  dcl : (PySem.W.clsIn K D).isSome = true
  opq : PySem.W.nsIn K cStatics "thirdparty.any" = some none
  kp : PySem.W.keepIn K (.ref f) = true
/-- its names -/
structure XinS (scope : Scope) : Prop where
  kind : scope.kind = .function
  co : scope.isCoroutine = false
  gen : scope.isGenerator = false
  s1 : scope.names.lookup ("self" : Str) = some .local
  s2 : scope.names.lookup ("value" : Str) = some .local
  s3 : scope.names.lookup ("super" : Str) = some .globalImplicit
  s4 : scope.names.lookup ("__class__" : Str) = some .free
  s5 : scope.names.lookup ("repr" : Str) = some .globalImplicit
  nc : ∀ y ∈ scope.names, y.2 ≠ .cell
  nf : ∀ y ∈ scope.names, y.2 = .free → y.1 = "__class__"
def xiBody (p0 p1 p2 p3 p4 p5 p6 p7 p8 p9 p10 p11 : Pos) : List Stmt :=
  [.Expr (.Call (.Attribute (.Call (.Name "super" p0) [] [] p1) "__init__" p2) [.Call (.Name "repr" p3) [.Name "value" p4] [] p5] [] p6) p7, .Assign [.Attribute (.Name "self" p8) "value" p9] (.Name "value" p10) p11]
abbrev xiEnv (scope : Scope) (L f cda cc : Addr) : Env := PySem.W.ksEnv "AskedError.__init__" scope L f (.ref cda) cc
def xiCx (P : Program) (w : World) (K : PySem.W.Frag) (mg : Str → Option Value) (base : Heap) (scope : Scope) (f cda cc : Addr) (A : Around) (outer : List Env) (s : Shared) (H : Hp) (E : XK) : Cx where
  prog := P
  w := w
  K := K
  mg := mg
  base := base
  A := A.deeper (xiEnv scope s.heap.objs.size f cda cc)
  N := ["self", "value"]
  s_0 := s
  H_0 := H
  env := xiEnv scope s.heap.objs.size f cda cc
  outer := outer
  stack := xiEnv scope s.heap.objs.size f cda cc :: outer
  ex := []
  fn := fun _ => false
  calm := true
  pn := []
  xe := fun e s' => wpAny (model P w) (A.deeper (xiEnv scope s.heap.objs.size f cda cc)) (leaving (xiEnv scope s.heap.objs.size f cda cc) e) (fun _ s'' => L2.CX P w outer H s E e s'') (fun e' s'' => L2.CX P w outer H s E e' s'') s'
section
variable {P : Program} {w : World} {K : PySem.W.Frag} {mg : Str → Option Value} {base : Heap} {scope : Scope} {f cda cc D C a u : Addr} {A : Around} {outer : List Env} {s : Shared} {H : Hp} {E : XK} {params : Arguments} {body : List Stmt}
theorem xi_start {v0 v1 : V} {u0 u1 : Value} {h1 : Heap} {tk : Nat} (T : XinK P K D f cda cc params body scope) (S : XinS scope) (e0 : Env0 P w K mg base A outer s H) (hd : A.handled = none) (r0 : RelV v0 u0) (r1 : RelV v1 u1)
    (hns : h1.Ns s.heap.objs.size fun y => ([("self", u0), ("value", u1)] : List (Str × Value)).reverse.lookup y) (kp : ∀ b o, s.heap.get? b = some o → h1.get? b = some o) :
    Inv (xiCx P w K mg base scope f cda cc A outer s H E) [] [some v0, some v1] H { s with heap := h1, toks := tk } := by
  obtain ⟨cl, cld, csl, hcc⟩ := T.cell
  have bcc := e0.mod.kin _ _ hcc
  obtain ⟨scc, ncc⟩ := e0.bs _ _ bcc
  have only : ∀ {y : Str} {c : Addr}, (xiEnv scope s.heap.objs.size f cda cc).cells.lookup y = some c → y = "__class__" ∧ c = cc := fun {y c} e => by
    have e : ([(("__class__" : Str), cc)] : List (Str × Addr)).lookup y = some c := e
    by_cases q : y = ("__class__" : Str)
    · subst q
      simp [List.lookup] at e
      exact ⟨rfl, e.symm⟩
    · have qq : (y == ("__class__" : Str)) = false := by simpa using q
      simp [List.lookup, qq] at e
  have noA : ∀ b : Addr, b ∉ (xiCx P w K mg base scope f cda cc A outer s H E).ex := fun b z => nomatch (show b ∈ ([] : List Addr) from z)
  refine ⟨⟨e0.mod, S.kind, rfl, rfl, Nat.le_refl _, fun y z c q1 q2 => (only q1).1.trans (only q2).1.symm, fun y hy => ?_, fun y c z _ => (nomatch (show false = true from z)), fun _ => hd, Around.frames_deeper e0.frames, .inr ⟨rfl, rfl⟩, fun b z => absurd z (noA b), e0.bs, e0.bsz, fun b _ _ => noA b,
      fun b z => absurd z (noA b), e0.funs, e0.frf⟩,
    rfl, e0.bare, Un.kept kp, ⟨_, hns, fun i y v q1 q2 q3 => ?_⟩, fun y c q => ?_, e0.hok.fresh (Nat.le_refl _), fun y c q => ?_, fun q hq => absurd (show q ∈ ([] : List (Addr × Obj)) ++ [] from hq) (by simp), e0.hok.kept kp, rfl⟩
  · have hy : scope.names.lookup y = some .cell ∨ scope.names.lookup y = some .free := hy
    rcases hy with hy | hy
    · exact absurd rfl (S.nc _ (PySem.mem_of_lookup hy))
    · have e := S.nf _ (PySem.mem_of_lookup hy) rfl
      have e : y = "__class__" := e
      subst e
      exact ⟨cc, rfl⟩
  · match i with
    | 0 =>
      cases q1
      cases q2
      exact ⟨u0, r0, .inl ⟨S.s1, rfl⟩⟩
    | 1 =>
      cases q1
      cases q2
      exact ⟨u1, r1, .inl ⟨S.s2, rfl⟩⟩
    | i + 2 =>
      have q2 : ([] : List (Option V))[i]? = some (some v) := q2
      simp at q2
  · obtain ⟨_, e⟩ := only q
    subst e
    exact ⟨_, ⟨_, kp _ _ scc, rfl⟩⟩
  · obtain ⟨_, e⟩ := only q
    subst e
    exact ncc
/-- the built-in's __init__, bound to the error, called: its args are laid anew -/
theorem mw_call {h : Heap} {g : Array GenState} {d : Drawn} {t : Nat} {os : OsState} {A : Around} {E : Value → Shared → Prop} {rest : List Value} {Q : Value → Shared → Prop} {t0 : Addr} (T : OexC K C) (KX : K.In h) (he : h.get? a = some (PySem.HandSPX.excO C t0)) (hu : h.get? u = some (PySem.W.kxs_mw "ValueError.__init__" a)) (hl : rest.length ≤ sizeLine)
    (q : ∀ h' t1, (∀ b o, b ≠ a → h.get? b = some o → h'.get? b = some o) → h'.get? a = some (PySem.HandSPX.excO C t1) → Q .none ⟨h', g, d, t, os⟩) :
    wpAny (model P w) A (call (.ref u) rest) Q E ⟨h, g, d, t, os⟩ := by
  obtain ⟨nm, qn, N, bs, bm, sn, sb, ab, col, dd, k0, k1, k2, k3, k5, hC, _⟩ := T.cls
  refine wpAny_call (codeAny_of_tree (show wpAny _ A.in1 (callAny (.ref u) ⟨rest, []⟩) _ _ _ from ?_))
  unfold callAny
  refine wpAny_bind (wpAny_load hu (W.KFB.if_so (show (Value.type "method-wrapper" == Value.type "method" || Value.type "method-wrapper" == Value.type "builtin_function_or_method" || Value.type "method-wrapper" == Value.type "method-wrapper") = true by decide) (wpAny_bind ?_)))
  refine PySem.W.check_bound_init F.excBase_ValueError.toExcCallFacts (KX _ _ hC) he rfl ?_
  refine wpAny_bind (wpAny_pure (wpAny_pure ⟨plainId_quiet F.excBase_ValueError.init.plain _, codeAny_builtin F.excBase_ValueError.initEntry ?_⟩))
  exact PySem.W.exc_init_tree (cls := .ref C) (t0 := t0) (dv := none) (c2 := .none) (c3 := .none) (b4 := .bool false) he hl fun h' k e' _ => q h' _ k e'
end
/-- repr takes it, whatever stands beside it -/
structure ShwR (P : Program) (w : World) (K : PySem.W.Frag) (H : Hp) (v : V) (d : PyData) : Prop where
  rd : ∀ (h : Heap) (u : Value), K.In h → HOk P w H h → RelV v u → ∃ as, Reads h u d as ∧ (d.hasDict = true → sysModules ∉ as)
  ok : d.showable = true
  sz : d.shown.length ≤ sizeLine
  dep : d.depth ≤ 40
section
variable {P : Program} {w : World} {K : PySem.W.Frag} {H : Hp} {v : V} {d : PyData}
theorem repr_call {A : Around} {E : Value → Shared → Prop} {s : Shared} {Q : Value → Shared → Prop} {u : Value} {as : List Addr} (r : Reads s.heap u d as) (hs : d.showable = true) (hm : d.hasDict = true → sysModules ∉ as) (hz : d.shown.length ≤ sizeLine) (gd : A.guards = some []) (hu : A.units + (d.depth + 2) < cLine)
    (q : ∀ h' t tk, (∀ b o, s.heap.get? b = some o → h'.get? b = some o) → Q (.str d.shown t) { s with heap := h', toks := tk }) : wpAny (model P w) A (call (.builtin "repr") [u]) Q E s := by
  cases u with
  | ref a => exact PySem.repr_of_reads' r hs hm gd (by omega) (fun _ _ z => z) q hz
  | none =>
    cases r
    exact PySem.P.repr_of_none (q s.heap _ _ fun _ _ z => z)
  | bool b =>
    cases r
    exact PySem.P.repr_of_bool (by simpa only [PyData.shown] using q s.heap _ _ fun _ _ z => z)
  | int i t =>
    cases r
    exact PySem.P.repr_of_int (by simpa [PyData.showable] using hs) (by simpa only [PyData.shown] using q s.heap _ _ fun _ _ z => z)
  | str x t =>
    cases r
    exact PySem.P.repr_of_str (by simpa only [PyData.shown] using q s.heap _ _ fun _ _ z => z) (by simpa only [PyData.shown] using hz)
  | _ => cases r
theorem repr_calm {X : Cx} {k : Nat} {pins : List (Addr × Obj)} {σ : L2.St} {s : Shared} {Q : Value → Shared → Prop} {E : Value → Shared → Prop} {u : Value} (sh : ShwR X.prog X.w X.K H v d) (room : Room k X.A) (gd : X.A.guards = some []) (I : Inv X pins σ H s) (r : RelV v u)
    (q : ∀ s', Inv X pins σ H s' → ∀ t, Q (.str d.shown t) s') : wpAny (model X.prog X.w) X.A (call (.builtin "repr") [u]) Q E s := by
  obtain ⟨as, rd, hm⟩ := sh.rd _ _ I.kIn I.hok r
  have hu := room.units
  have hd := sh.dep
  exact repr_call rd sh.ok hm sh.sz gd (by omega) fun h' t tk k => q _ (I.kept k) t
end
def rReprR (P : Program) (w : World) (K : PySem.W.Frag) : List V → Hp → VK → Prop := fun xs H Q => ∃ v d, xs = [v] ∧ ShwR P w K H v d ∧ Q (.str d.shown) H
theorem c_reprR {X : Cx} {k : Nat} (room : Room k X.A) (gd : X.A.guards = some []) : CallR X (.builtin "repr") (rReprR X.prog X.w X.K) := by
  intro pins s σ H xs us Q I rel want
  obtain ⟨v, d, rfl, sh, q⟩ := want
  obtain ⟨u, rfl, ru⟩ := vals1 rel
  exact repr_calm sh room gd I ru fun s' I' t => ⟨.str d.shown, H, I', ⟨t, rfl⟩, q⟩
theorem cls_of {K : PySem.W.Frag} {D : Addr} {cd : ClassData} {h : Heap} (X : K.In h) (e : PySem.W.clsIn K D = some cd) : ∃ o, h.get? D = some o ∧ o.data = .cls cd := by
  unfold PySem.W.clsIn at e
  split at e
  · rename_i q
    cases e
    exact ⟨_, X _ _ q, rfl⟩
  · cases e
/-- what is asked of the call: the new error lies at a, no field as yet; behind it it keeps the value -/
def spXi (P : Program) (w : World) (K : PySem.W.Frag) (D f : Addr) : Sp := fun vs H Q _ => ∃ (a C : Addr) (v : V) (d : PyData), vs = [.ref a, v] ∧ XcC K D f C ∧ H a = some (exo a C none) ∧ ShwR P w K H v d ∧
  ∀ dx, H dx = none → dx ≠ a → Q .non (upd (upd H dx (exd dx [("value", v)])) a (exo a C (some dx)))
theorem Boot_super : bootBuiltins "super" = some (.type "super") := PyProof.Rows.Boot.«super»
section
variable {P : Program} {w : World} {K : PySem.W.Frag} {mg : Str → Option Value} {base : Heap} {scope : Scope} {f cda cc D : Addr} {params : Arguments} {p0 p1 p2 p3 p4 p5 p6 p7 p8 p9 p10 p11 : Pos}
theorem G_xi {k : Nat} {pl : Sem Bool} (T : XinK P K D f cda cc params (xiBody p0 p1 p2 p3 p4 p5 p6 p7 p8 p9 p10 p11) scope) (S : XinS scope) (hsuper : mg "super" = none) (hrepr : mg "repr" = none) (htop : (P.main.scope.names.lookup ("super" : Str)).isSome = false)
    (he : ∀ L : Addr, eval (.Call (.Attribute (.Call (.Name "super" p0) [] [] p1) "__init__" p2) [.Call (.Name "repr" p3) [.Name "value" p4] [] p5] [] p6) (xiEnv scope L f cda cc) = (do
      let ov ← attributeBase (.Call (.Name "super" p0) [] [] p1) "__init__" (xiEnv scope L f cda cc) (eval (.Call (.Name "super" p0) [] [] p1) (xiEnv scope L f cda cc))
      standAt p2.atName
      let (g, first) ← holding [ov] (getMethod ov "__init__" pl)
      callWith p6 g first (backTo p6 (starEach [.Call (.Name "repr" p3) [.Name "value" p4] [] p5] (xiEnv scope L f cda cc))) []))
    (hpar : ∃ ar : Arg, (params.posonlyargs ++ params.args).head? = some ar ∧ ar.arg = "self")
    (hbind : ∀ (kV doc pm : Value) (an : Option Addr) (ct u0 u1 : Value), bindArgs (PySem.W.ksFn "__init__" "AskedError.__init__" params (xiBody p0 p1 p2 p3 p4 p5 p6 p7 p8 p9 p10 p11) scope .none kV doc pm an (.ref cda) ct cc) ⟨[u0, u1], []⟩ = pure [(("self" : Str), u0), (("value" : Str), u1)]) :
    ∃ fd, FnG P w K mg base (k + 1) f fd ["self", "value"] (spXi P w K D f) ∧ Binds K fd ["self", "value"] [] := by
  obtain ⟨oc, od, osl, kV, doc, pm, an, ct, hf⟩ := T.fn
  obtain ⟨ccl, cdd, vs, ccs, file, tf, hcode, hvs, hfile⟩ := T.file
  obtain ⟨cl, cld, csl, hcell⟩ := T.cell
  obtain ⟨ar, har, hself⟩ := hpar
  refine ⟨PySem.W.ksFn "__init__" "AskedError.__init__" params (xiBody p0 p1 p2 p3 p4 p5 p6 p7 p8 p9 p10 p11) scope .none kV doc pm an (.ref cda) ct cc, ⟨fun vs H Q E h => ?_, fun A outer s H args us vs Q E room gd e0 bound rel want => ?_⟩, fun s us _ hl => ?_⟩
  · obtain ⟨_, _, _, _, rfl, _⟩ := h
    rfl
  · obtain ⟨a, C, v, d, rfl, hC, ha, sh, want⟩ := want
    obtain ⟨u0, u1, rfl, r0, r1⟩ : ∃ u0 u1, us = [u0, u1] ∧ u0 = .ref a ∧ RelV v u1 := by
      cases rel with
      | cons q0 q =>
        cases q with
        | cons q1 q =>
          cases q
          exact ⟨_, _, rfl, q0, q1⟩
    subst r0
    have KX : K.In s.heap := e0.mod.kin.keeps fun b o z => (e0.bs b o z).1
    have nolim : s.heap.NoLimit := e0.mod.nolimit.keeps fun b o z => (e0.bs b o z).1
    refine ks_codeAny_call_defAt (fd := PySem.W.ksFn "__init__" "AskedError.__init__" params (xiBody p0 p1 p2 p3 p4 p5 p6 p7 p8 p9 p10 p11) scope .none kV doc pm an (.ref cda) ct cc) (body := xiBody p0 p1 p2 p3 p4 p5 p6 p7 p8 p9 p10 p11) (binds := [("self", .ref a), ("value", u1)])
      room.depth (KX _ _ hf) rfl nolim (PySem.W.codeRec_of KX T.code) rfl bound S.nc (fun y hy => ?_) (fun h1 hns kp => ?_) S.co S.gen S.kind
    · rcases List.mem_cons.mp hy with rfl | hy
      · exact S.s1
      · rcases List.mem_cons.mp hy with rfl | hy
        · exact S.s2
        · cases hy
    · have I1 : Inv (xiCx P w K mg base scope f cda cc A outer s H E) [] [some (.ref a), some v] H { s with heap := h1, toks := s.toks + 2 } := xi_start T S e0 room.hd rfl r1 hns kp
      have gd1 : (xiCx P w K mg base scope f cda cc A outer s H E).A.guards = some [] := gd
      have room1 : Room k (xiCx P w K mg base scope f cda cc A outer s H E).A := room.deeper _
      have K1 : K.In h1 := I1.kIn
      obtain ⟨cdD, hD⟩ := Option.isSome_iff_exists.mp T.dcl
      obtain ⟨oD, hD1, hD2⟩ := cls_of K1 hD
      obtain ⟨t0, hx⟩ := exo_at I1.hok ha
      have hx : h1.get? a = some (PySem.HandSPX.excO C t0) := hx
      obtain ⟨mb, bl1, bl2⟩ := I1.mod.blt
      show PySem.wpAt _ _ _ (execs _ (xiEnv scope s.heap.objs.size f cda cc)) _ _ _
      have hi : interactive (xiEnv scope s.heap.objs.size f cda cc) = false := by
        unfold interactive
        rw [show (xiEnv scope s.heap.objs.size f cda cc).scope.kind = .function from S.kind]
        rfl
      refine ks_wpAt_execs_cons (ks_wpAt_Expr_any (ks_wpAt_MethodCall (pl := pl) ?_ (he _)) hi)
      refine ks_wpAt_super_base (env := xiEnv scope s.heap.objs.size f cda cc) S.s3 S.s4 (by decide) rfl (K1 _ _ hf) rfl har rfl (K1 _ _ hcode) rfl hvs hfile htop ?_
      refine PySem.W.ks_loadName_global S.kind S.s3 (Calls.loadGlobal_builtin (I1.mod.glob.keeps I1.bk) hsuper (bl1.keeps I1.bk) ((bl2 _ (by decide)).trans Boot_super) ⟨rfl, ?_⟩)
      refine wpAny_loadName_free S.kind S.s4 rfl ⟨_, K1 _ _ hcell, rfl⟩ ?_
      rw [hself]
      refine wpAny_loadName_local S.kind S.s1 hns rfl ?_
      refine ks_wpAny_isType_cls hD1 hD2 ⟨rfl, ?_⟩
      refine ks_wpAny_call_super hD1 hD2 hx rfl (fun c z => by cases z) (PySem.W.looks_mroIn K1 hC.sub) (fun h2 e2 k2 => ?_)
      have I2 : Inv (xiCx P w K mg base scope f cda cc A outer s H E) [] [some (.ref a), some v] H { s with heap := h2, toks := s.toks + 2 } := I1.kept k2
      have K2 : K.In h2 := I2.kIn
      have hx2 := k2 _ _ hx
      have IA : PySem.W.InstAt h2 a (PySem.HandSPX.excO C t0) C none := ⟨hx2, rfl, rfl, True.intro⟩
      obtain ⟨cdC, hcC, hsup⟩ : ∃ cd, PySem.W.clsIn K C = some cd ∧ PySem.W.alongIn K "__init__" ((cd.mro.dropWhile (· != .ref D)).drop 1) = some (some (.builtin "ValueError.__init__")) := Option.bind_eq_some_iff.mp hC.sup
      refine PySem.W.kxs_getMethod PySem.W.kxs_ValueError e2 (PySem.W.looks_opaque K2 T.opq) (l₀ := cdC.mro) (fun A Q E s k q => wpAny_bind ((PySem.W.looks_clsIn K2 hcC) A _ E s k (wpAny_pure q))) rfl K2 hsup (IA.type.andThen (PySem.W.looks_subIn K2 hC.ve)) (PySem.W.ks_ne K2 IA hcC) (by decide) ?_
      have I3 : Inv (xiCx P w K mg base scope f cda cc A outer s H E) [] [some (.ref a), some v] H { s with heap := h2.push (PySem.W.kxs_mw "ValueError.__init__" a), toks := s.toks + 2 + 1 } := I2.kept fun b o z => Heap.get?_push_of_some _ z
      have hu3 : (h2.push (PySem.W.kxs_mw "ValueError.__init__" a)).get? h2.objs.size = some (PySem.W.kxs_mw "ValueError.__init__" a) := Heap.get?_push_size _ rfl
      have nL : h2.objs.size ≠ s.heap.objs.size := Nat.ne_of_gt I2.lt
      have I4 := I3.pins_of (pins' := [(h2.objs.size, PySem.W.kxs_mw "ValueError.__init__" a)]) fun p hp => by
        rcases List.mem_cons.mp hp with rfl | hp
        · exact ⟨hu3, I2.hok.fresh (Nat.le_refl _), nL, I2.nofs (Nat.le_refl _), fun v z => by cases z⟩
        · cases hp
      have ga : PA (xiCx P w K mg base scope f cda cc A outer s H E) [.Call (.Name "repr" p3) [.Name "value" p4] [] p5] (tCons (tCB (rReprR P w K) (tCons (tVar 1) tNil)) tNil) :=
        pa_cons (pe_callB (c_reprR room1 gd1) S.s5 hrepr (by decide +kernel) (pa_cons (pe_var (i := 1) rfl (.inl S.s2)) pa_nil)) pa_nil
      refine PySem.W.kxs_callWith (i := "ValueError.__init__") (x := a) rfl (Calls.evalArgs_plain ?_)
      refine wpAny_mono (ga.run p6 _ _ [some (.ref a), some v] H (fun vs H' => vs = [.str d.shown] ∧ H' = H) I4 ?_) (fun us s5 z => ?_) fun _ _ z => z
      · exact ⟨v, rfl, v, d, rfl, sh, rfl, rfl⟩
      · obtain ⟨vs, H5, I5, rv, ev, eH⟩ := z
        subst ev eH
        have hu5 := (I5.pin (h2.objs.size, PySem.W.kxs_mw "ValueError.__init__" a) (List.mem_append_right _ List.mem_cons_self)).1
        refine ⟨hu5, ?_⟩
        obtain ⟨t5, hx5⟩ := exo_at I5.hok ha
        obtain ⟨h5, g5, d5, tk5, os5⟩ := s5
        refine mw_call (t0 := t5) hC.o I5.kIn hx5 hu5 (by rw [List.nil_append, ← Paired.length rv, sizeLine_eq]; show 1 ≤ _; decide) fun h6 t6 k6 e6 => ?_
        have I6 := (I5.pins_of (pins' := []) fun p hp => by cases hp).write (t' := tk5) (x := a) (e := a) (o := exo a C none) (by rw [ha]; exact True.intro) (.inl rfl) k6 ⟨_, e6⟩ (exo_ok e6)
        have eu : upd H5 a (exo a C none) = H5 := by
          funext b
          by_cases hb : b = a
          · rw [hb, upd_same, ha]
          · rw [upd_ne hb]
        rw [eu] at I6
        refine wpAt_of_wpAny ?_
        have st := pss_one (ps_ost (X := xiCx P w K mg base scope f cda cc A outer s H5 E) (f := "value") (pos := p11) (p' := p9) (pe_var (pos := p8) (i := 0) rfl (.inl S.s1)) (pe_var (pos := p10) (i := 1) rfl (.inl S.s2)))
        refine wpAny_mono (st.run [] _ [some (.ref a), some v] H5 { nx := fun _ H' => Q .non H', rt := Q } I6 ?_) (fun fl s7 z => ?_) fun _ _ z => z
        · exact ⟨v, rfl, .ref a, rfl, a, C, rfl, hC.o, hC.nov, .inl ⟨ha, fun dx n1 n2 => want dx n1 n2⟩⟩
        · cases fl with
          | next =>
            obtain ⟨σ7, H7, I7, q7⟩ := z
            exact ⟨.non, H7, I7.os, I7.bare, I7.base, I7.hok, rfl, q7⟩
          | ret u =>
            obtain ⟨v7, σ7, H7, I7, r7, q7⟩ := z
            exact ⟨v7, H7, I7.os, I7.bare, I7.base, I7.hok, r7, q7⟩
          | brk =>
            obtain ⟨_, _, _, no⟩ := z
            exact no.elim
          | cont =>
            obtain ⟨_, _, _, no⟩ := z
            exact no.elim
  · match us, hl with
    | [u0, u1], _ => exact BindsTo.of_eq (hbind kV doc pm an ct u0 u1)
end
/-! by looks at the written part -/
def oexB (K : PySem.W.Frag) (C : Addr) : Bool := match K.lookup C with
  | some ⟨.type "type", _, .cls cd, sl⟩ => (match cd.mro, sl.toList with
    | c :: bm, [_, _, _, _, some (.builtin n), _] => c == .ref C && (n == "ValueError.__new__" && (cd.hasDict && (!cd.hasDel && PySem.HandSPX.refsVE bm)))
    | _, _ => false)
  | _ => false
theorem oexB_ok {K : PySem.W.Frag} {C : Addr} (h : oexB K C = true) : ∃ nm q N bs bm sn sub ab col dd k0 k1 k2 k3 k5, K.lookup C = some (excClassObj nm q C N bs bm true sn sub ab col dd k0 k1 k2 k3 k5 "ValueError.__new__") ∧ PySem.HandSPX.refsVE bm = true := by
  unfold oexB at h
  cases e : K.lookup C with
  | none =>
    rw [e] at h
    cases h
  | some o =>
    rw [e] at h
    split at h
    · rename_i dd cd sl q
      split at h
      · rename_i c bm k0 k1 k2 k3 n k5 m1 m2
        obtain ⟨h1, h⟩ := Bool.and_eq_true_iff.mp h
        obtain ⟨h2, h⟩ := Bool.and_eq_true_iff.mp h
        obtain ⟨h3, h⟩ := Bool.and_eq_true_iff.mp h
        obtain ⟨h4, h5⟩ := Bool.and_eq_true_iff.mp h
        obtain ⟨nm, bs, mro, ns, qn, hd, sn, sub, ab, col, del⟩ := cd
        dsimp only at m1 h3 h4
        have h4 : del = false := by simpa using h4
        have e1 : c = .ref C := by simpa using h1
        have e2 : n = "ValueError.__new__" := by simpa using h2
        subst m1 h3 h4 e1 e2
        have e3 : sl = #[k0, k1, k2, k3, some (.builtin "ValueError.__new__"), k5] := by
          obtain ⟨l⟩ := sl
          dsimp only at m2
          rw [m2]
        subst e3
        exact ⟨nm, qn, ns, bs, bm, sn, sub, ab, col, dd, k0, k1, k2, k3, k5, q, h5⟩
      · cases h
    · cases h
def xcB (K : PySem.W.Frag) (D f C : Addr) : Bool :=
  oexB K C && (He.eqO (PySem.W.findIn K (.ref C) "__setattr__") (some (some (.builtin "object.__setattr__"))) && (decide (PySem.W.subIn K (.ref C) (.type "BaseException") = some true) && (decide (PySem.W.typeIn K (.ref C) = some (.type "type")) && (PySem.W.keepIn K (.ref C) &&
  (He.eqO (PySem.W.findIn K (.ref C) "__init__") (some (some (.ref f))) && (decide (PySem.W.typeIn K (.ref f) = some (.type "function")) && (He.eqO (PySem.W.ks_superIn K C D "__init__") (some (some (.builtin "ValueError.__init__"))) && (decide (PySem.W.mroIn K C (.ref D) = some true) &&
  (decide (PySem.W.subIn K (.ref C) (.type "ValueError") = some true) && (He.eqO (PySem.W.findIn K (.ref C) "value") (some none) && (xfB K C &&
  (He.eqO (PySem.W.findIn K (.ref C) "__class__") (some (some (.builtin "object.__class__"))) && (He.eqO (PySem.W.specialIn K (.builtin "object.__class__") "__get__") (some (some (.builtin "getset_descriptor.__get__"))) && (decide (PySem.W.takesIn K (.builtin "object.__class__") = some true) && (decide (PySem.W.mroIn K C (.type "object") = some true) && ["int", "bool", "str", "tuple", "list", "dict"].all fun T => decide (PySem.W.kitOne K (.ref C) (.type T) = some false))))))))))))))))
theorem xcB_ok {K : PySem.W.Frag} {D f C : Addr} (h : xcB K D f C = true) : XcC K D f C := by
  unfold xcB at h
  simp only [Bool.and_eq_true, decide_eq_true_eq] at h
  obtain ⟨h1, h2, h3, h4, h5, h6, h7, h8, h9, h10, h11, h12, h13, h14, h15, h16, h17⟩ := h
  exact ⟨⟨oexB_ok h1, He.eqO_ok h2, h3, h4, h5⟩, He.eqO_ok h6, h7, He.eqO_ok h8, h9, h10, He.eqO_ok h11, xfB_ok h12, He.eqO_ok h13, He.eqO_ok h14, h15, h16, fun T hT => of_decide_eq_true (List.all_eq_true.mp h17 T hT)⟩
/-- where AskedError's __init__ stands, its code, its cell -/
def xD (K : PySem.W.Frag) : Addr := He.ga K "AskedError"
def xF (K : PySem.W.Frag) : Addr := He.ma K (xD K) "__init__"
def xCode (K : PySem.W.Frag) : Addr := match K.lookup (xF K) with
  | some ⟨_, _, .func fd, _⟩ => (match fd.code with | .ref c => c | _ => 0)
  | _ => 0
def xCell (K : PySem.W.Frag) : Addr := match K.lookup (xF K) with
  | some ⟨_, _, .func fd, _⟩ => (match fd.closure with | (_, c) :: _ => c | _ => 0)
  | _ => 0
abbrev XcK (K : PySem.W.Frag) (c : Str) : Prop := XcC K (xD K) (xF K) (He.ga K c)
/-! ### an error made: as a value, or to be raised -/
/-- an error at rest: its class, where its fields lie -/
def exO (a C dx : Addr) : HO := .ext fun h => ∃ (oe : Obj) (vs : Array Value), h.get? a = some oe ∧ oe.cls = .ref C ∧ oe.dict = some dx ∧ oe.data = .fields vs
theorem exO_mk {P : Program} {w : World} {H : Hp} {h : Heap} {a C dx : Addr} {oe : Obj} {vs : Array Value} (h1 : h.get? a = some oe) (h2 : oe.cls = .ref C) (h3 : oe.dict = some dx) (h4 : oe.data = .fields vs) : ObjOk P w H h a (exO a C dx) :=
  ⟨⟨oe, vs, h1, h2, h3, h4⟩, ⟨oe, h1⟩, fun h h' z k => by
    obtain ⟨o, vs, q, r⟩ := z
    exact ⟨o, vs, k o q, r⟩⟩
theorem exO_get {P : Program} {w : World} {H : Hp} {h : Heap} {a C dx : Addr} (hok : HOk P w H h) (e : H a = some (exO a C dx)) : ∃ (oe : Obj) (vs : Array Value), h.get? a = some oe ∧ oe.cls = .ref C ∧ oe.dict = some dx ∧ oe.data = .fields vs := by
  have x : ObjOk P w H h a (.ext _) := hok a _ e
  exact x.1
section
variable {X : Cx} {C D f : Addr} {x : Str} {e : Expr} {ta : TE} {p pos : Pos} {k : Nat} {fd : FuncData}
theorem xi_call {pins : List (Addr × Obj)} {σ : L2.St} {H : Hp} {s : Shared} {v : V} {u : Value} {d : PyData} {R : Result → Shared → Prop} (T : XcC X.K D f C) (G : FnG X.prog X.w X.K X.mg X.base k f fd ["self", "value"] (spXi X.prog X.w X.K D f)) (b : Binds X.K fd ["self", "value"] []) (room : Room (k + 1) X.A) (gd : X.A.guards = some [])
    (I : Inv X pins σ H s) (r : RelV v u) (sh : ∀ a, H a = none → ShwR X.prog X.w X.K (upd H a (exo a C none)) v d) (pass : ∀ I2 : Inv X pins σ (upd H (s.heap.objs.size + 1) (exo (s.heap.objs.size + 1) C none)) ⟨(s.heap.push (PySem.W.kdv_tup [u])).push (PySem.HandSPX.excO C s.heap.objs.size), s.gens, s.drawn, s.toks, s.os⟩, ∀ (e : Value) (s' : Shared), L2.CX X.prog X.w X.stack (upd H (s.heap.objs.size + 1) (exo (s.heap.objs.size + 1) C none)) ⟨(s.heap.push (PySem.W.kdv_tup [u])).push (PySem.HandSPX.excO C s.heap.objs.size), s.gens, s.drawn, s.toks, s.os⟩ E0 e s' → R (.error e) s')
    (h : Inv X pins σ (upd H (s.heap.objs.size + 1) (exo (s.heap.objs.size + 1) C none)) ⟨(s.heap.push (PySem.W.kdv_tup [u])).push (PySem.HandSPX.excO C s.heap.objs.size), s.gens, s.drawn, s.toks, s.os⟩ → ∀ (v2 : Value) (s' : Shared), CE X.stack X.prog X.w (upd H (s.heap.objs.size + 1) (exo (s.heap.objs.size + 1) C none)) ⟨(s.heap.push (PySem.W.kdv_tup [u])).push (PySem.HandSPX.excO C s.heap.objs.size), s.gens, s.drawn, s.toks, s.os⟩ (fun v2 H2 => v2 = .non ∧ ∃ dx, H dx = none ∧ dx ≠ s.heap.objs.size + 1 ∧ H2 = upd (upd H dx (exd dx [("value", v)])) (s.heap.objs.size + 1) (exo (s.heap.objs.size + 1) C (some dx))) v2 s' → v2 = .none ∧ R (.ok (.ret (.ref (s.heap.objs.size + 1)))) s') :
    codeAny (model X.prog X.w) X.A (.call (.ref C) ⟨[u], []⟩) R s := by
  obtain ⟨nm, q, N, bs, bm, sn, sub, ab, col, dd, k0, k1, k2, k3, k5, hC, hbm⟩ := T.o.cls
  obtain ⟨hp, g, dr, tk, os⟩ := s
  have hn : H (hp.objs.size + 1) = none := I.hok.fresh (Nat.le_succ _)
  have kk : ∀ b o, hp.get? b = some o → ((hp.push (PySem.W.kdv_tup [u])).push (PySem.HandSPX.excO C hp.objs.size)).get? b = some o := fun b o z => Heap.get?_push_of_some _ (Heap.get?_push_of_some _ z)
  have hget : ((hp.push (PySem.W.kdv_tup [u])).push (PySem.HandSPX.excO C hp.objs.size)).get? (hp.objs.size + 1) = some (PySem.HandSPX.excO C hp.objs.size) := by heap_get
  have I2 : Inv X pins σ (upd H (hp.objs.size + 1) (exo (hp.objs.size + 1) C none)) ⟨(hp.push (PySem.W.kdv_tup [u])).push (PySem.HandSPX.excO C hp.objs.size), g, dr, tk, os⟩ := I.laid (t' := tk) kk (Nat.le_succ _) (exo_ok hget)
  refine PySem.HandSPX.call_own F.excBase_ValueError (fun Y => PySem.HandSPX.refsVE_contains Y bm hbm) (I.kIn _ _ hC) (PySem.W.looks_findIn I.kIn T.ini) (fun self => PySem.W.bind_fn I.kIn self T.tf) (by rw [sizeLine_eq]; show 1 ≤ _; decide) ?_
  have want : spXi X.prog X.w X.K D f [V.ref (hp.objs.size + 1), v] (upd H (hp.objs.size + 1) (exo (hp.objs.size + 1) C none)) (fun v2 H2 => v2 = .non ∧ ∃ dx, H dx = none ∧ dx ≠ hp.objs.size + 1 ∧ H2 = upd (upd H dx (exd dx [("value", v)])) (hp.objs.size + 1) (exo (hp.objs.size + 1) C (some dx))) E0 := by
    refine ⟨_, C, v, d, rfl, T, upd_same, sh _ hn, fun dx n1 n2 => ⟨rfl, dx, by rw [upd_ne n2] at n1; exact n1, n2, ?_⟩⟩
    funext b
    by_cases hb : b = hp.objs.size + 1
    · rw [hb, upd_same, upd_same]
    · rw [upd_ne hb, upd_ne hb]
      by_cases hd : b = dx
      · rw [hd, upd_same, upd_same]
      · rw [upd_ne hd, upd_ne hd, upd_ne hb]
  have bt := b ⟨(hp.push (PySem.W.kdv_tup [u])).push (PySem.HandSPX.excO C hp.objs.size), g, dr, tk, os⟩ [.ref (hp.objs.size + 1), u] I2.kIn rfl
  have r2 : Vals [V.ref (hp.objs.size + 1), v] [Value.ref (hp.objs.size + 1), u] := .cons rfl (.cons r .nil)
  refine codeAny_mono (G.goes _ X.stack _ _ ⟨[.ref (hp.objs.size + 1), u], []⟩ _ _ _ E0 (room.make C [u] []) (make_guards.trans gd) (I2.env0.make C [u] []) bt r2 want) fun out s' z => ?_
  match out, z with
  | .error er, z => exact pass I2 er s' z
  | .ok (.ret v2), z => exact h I2 v2 s' z
  | .ok .next, z => exact z.elim
  | .ok .brk, z => exact z.elim
  | .ok .cont, z => exact z.elim
/-- C(e) as a value -/
theorem pe_xnew {te : TE} (T : XcC X.K D f C) (G : FnG X.prog X.w X.K X.mg X.base k f fd ["self", "value"] (spXi X.prog X.w X.K D f)) (b : Binds X.K fd ["self", "value"] []) (room : Room (k + 1) X.A) (gd : X.A.guards = some []) (hg : Gl X x) (hm : X.mg x = some (.ref C)) (he : PE X e te)
    (n1 : (x == ("__debug__" : Str)) = false := by decide) (n2 : starEach [e] X.env = (false, eval e X.env) :: starEach [] X.env := by rfl) :
    PE X (.Call (.Name x p) [e] [] pos) (fun σ H Q => te σ H fun v H1 => ∃ d, (∀ a, H1 a = none → ShwR X.prog X.w X.K (upd H1 a (exo a C none)) v d) ∧ ∀ a dx, H1 a = none → H1 dx = none → dx ≠ a → Q (.ref a) (upd (upd H1 dx (.xd [("value", v)])) a (exO a C dx))) := by
  refine ⟨fun pins s0 σ H0 Q I0 want => wpAny_Call_Name_kw (ld_glob I0 hg hm ?_ n1)⟩
  refine PySem.W.callWith_K (h₀ := X.base) I0.ok.mod.kin T.o.kC ?_ n2 (by rfl)
  rw [n2]
  show wpAny _ _ (spliced ((false, eval e X.env) :: backTo pos (starEach [] X.env))) _ _ s0
  refine Calls.spliced_cons (thn (he.run pins s0 σ H0 _ I0 want) fun u s ⟨v, H, I, r, d, sh, q⟩ => ?_)
  refine Calls.spliced_nil ⟨I.kIn, ?_⟩
  show wpAny _ _ (call (.ref C) [u]) _ _ _
  refine wpAny_call (xi_call T G b room gd I r sh (fun I2 er s' z => passL pins σ _ _ er s' I2 z) fun I2 v2 s' z => ?_)
  obtain ⟨w2, H2, I3, rv, rfl, dx, n1, n2, rfl⟩ := I2.after z
  refine ⟨rv, ?_⟩
  have ea : upd (upd H dx (exd dx [("value", v)])) (s.heap.objs.size + 1) (exo (s.heap.objs.size + 1) C (some dx)) (s.heap.objs.size + 1) = some (exo (s.heap.objs.size + 1) C (some dx)) := upd_same
  have ed : upd (upd H dx (exd dx [("value", v)])) (s.heap.objs.size + 1) (exo (s.heap.objs.size + 1) C (some dx)) dx = some (exd dx [("value", v)]) := by rw [upd_ne n2, upd_same]
  obtain ⟨t1, ho⟩ := exo_at I3.hok ea
  obtain ⟨mA, hns, rel⟩ := exd_at I3.hok ed
  have od : ∃ u, s'.heap.get? dx = some u := by
    obtain ⟨o, _, _, h1, _⟩ := hns
    exact ⟨o, h1⟩
  have I4 := I3.write (h' := s'.heap) (t' := s'.toks) (x := dx) (e := dx) (o := .xd [("value", v)]) (by rw [ed]; exact True.intro) (.inl rfl) (fun _ _ _ z => z) od ⟨mA, hns, rel⟩
  have I5 := I4.write (h' := s'.heap) (t' := s'.toks) (x := s.heap.objs.size + 1) (e := s.heap.objs.size + 1) (o := exO (s.heap.objs.size + 1) C dx) (by rw [upd_ne (Ne.symm n2), ea]; exact True.intro) (.inl rfl) (fun _ _ _ z => z) ⟨_, ho⟩ (exO_mk ho rfl rfl rfl)
  have eh : upd (upd (upd (upd H dx (exd dx [("value", v)])) (s.heap.objs.size + 1) (exo (s.heap.objs.size + 1) C (some dx))) dx (.xd [("value", v)])) (s.heap.objs.size + 1) (exO (s.heap.objs.size + 1) C dx) = upd (upd H dx (.xd [("value", v)])) (s.heap.objs.size + 1) (exO (s.heap.objs.size + 1) C dx) := by
    funext c
    by_cases h1 : c = s.heap.objs.size + 1
    · rw [h1, upd_same, upd_same]
    · rw [upd_ne h1, upd_ne h1]
      by_cases h2 : c = dx
      · rw [h2, upd_same, upd_same]
      · rw [upd_ne h2, upd_ne h2, upd_ne h1, upd_ne h2]
  rw [eh] at I5
  exact ⟨.ref (s.heap.objs.size + 1), _, I5, rfl, q _ dx (I.hok.fresh (Nat.le_succ _)) n1 n2⟩
/-- C(e), to be raised -/
theorem pmk_xc {te : TE} (T : XcC X.K D f C) (G : FnG X.prog X.w X.K X.mg X.base k f fd ["self", "value"] (spXi X.prog X.w X.K D f)) (b : Binds X.K fd ["self", "value"] []) (room : Room (k + 1) X.A) (gd : X.A.guards = some []) (hg : Gl X x) (hm : X.mg x = some (.ref C)) (he : PE X e te)
    (n1 : (x == ("__debug__" : Str)) = false := by decide) (n2 : starEach [e] X.env = (false, eval e X.env) :: starEach [] X.env := by rfl) :
    PMk X (.Call (.Name x p) [e] [] pos) (fun σ H Q => te σ H fun v H1 => ∃ d, (∀ a, H1 a = none → ShwR X.prog X.w X.K (upd H1 a (exo a C none)) v d) ∧ ∀ dx, H1 dx = none → Q (.ref C) (some dx) (upd H1 dx (.xd [("value", v)]))) := by
  intro pins s0 σ H0 Q I0 want
  refine wpAny_Call_Name_kw (ld_glob I0 hg hm ?_ n1)
  refine PySem.W.callWith_K (h₀ := X.base) I0.ok.mod.kin T.o.kC ?_ n2 (by rfl)
  rw [n2]
  show wpAny _ _ (spliced ((false, eval e X.env) :: backTo pos (starEach [] X.env))) _ _ s0
  refine Calls.spliced_cons (thn (he.run pins s0 σ H0 _ I0 want) fun u s ⟨v, H, I, r, d, sh, q⟩ => ?_)
  refine Calls.spliced_nil ⟨I.kIn, ?_⟩
  show wpAny _ _ (call (.ref C) [u]) _ _ _
  refine wpAny_call (xi_call T G b room gd I r sh (fun I2 er s' z => passL pins σ _ _ er s' I2 z) fun I2 v2 s' z => ?_)
  obtain ⟨w2, H2, os2, bare2, un2, hok2, rv, rfl, dx, n1, n2, eH⟩ := z
  obtain ⟨h2, g2, d2, t2, os'⟩ := s'
  obtain ⟨hp, g1, d1, t1, os1⟩ := s
  have ea : H2 (hp.objs.size + 1) = some (exo (hp.objs.size + 1) C (some dx)) := by rw [eH, upd_same]
  have ed : H2 dx = some (exd dx [("value", v)]) := by rw [eH, upd_ne n2, upd_same]
  have eh : upd (del H2 (hp.objs.size + 1)) dx (.xd [("value", v)]) = upd H dx (.xd [("value", v)]) := by
    funext c
    by_cases h1 : c = dx
    · rw [h1, upd_same, upd_same]
    · rw [upd_ne h1, upd_ne h1]
      by_cases h2 : c = hp.objs.size + 1
      · rw [h2, del_same]
        exact (I.hok.fresh (Nat.le_succ _)).symm
      · rw [del_ne h2, eH, upd_ne h2, upd_ne h1]
  refine ⟨rv, mk_end (raises_own T.o.exC T.o.tyC) I (Nat.le_succ _) (fun b o z => Heap.get?_push_of_some _ (Heap.get?_push_of_some _ z)) un2 hok2 os2 bare2 ea ed n1 ?_⟩
  rw [eh]
  exact q dx n1
end

/-! ### the head's facts with properties -/
structure PrD where
  cls : Str
  fld : Str
  qual : Str
  params : Arguments
  body : List Stmt
  scope : Scope
/-- where a property's getter stands -/
def prA (K : PySem.W.Frag) (x f : Str) : Addr := match PySem.W.findIn K (.ref (He.ga K x)) f with
  | some (some (.ref p)) => p
  | _ => 0
def prG (K : PySem.W.Frag) (x f : Str) : Addr := match PySem.W.recIn K (prA K x f) "property" with
  | some (.ref g :: _) => g
  | _ => 0
def xiW (K : PySem.W.Frag) : He.FnW := match K.lookup (xF K) with
  | some ⟨_, _, .func fd, _⟩ => some (fd.name, fd.qualname, fd.params, fd.body, fd.scope, fd.globals, fd.closure.map fun p => (p.1, 0), fd.builtins)
  | _ => none
def xiVal (d : PrD) : He.FnW := some ("__init__", "AskedError.__init__", d.params, .stmts d.body, d.scope, mainGlobals, [("__class__", 0)], builtinsNs)
def noneB : Value → Bool
  | .none => true
  | _ => false
theorem noneB_ok {v : Value} (h : noneB v = true) : v = .none := by
  cases v <;> first | rfl | cases h
def refB (a : Addr) : Value → Bool
  | .ref c => decide (c = a)
  | _ => false
theorem refB_ok {a : Addr} {v : Value} (h : refB a v = true) : v = .ref a := by
  cases v with
  | ref c => exact congrArg Value.ref (of_decide_eq_true h)
  | _ => cases h
def cellB (a : Addr) : List (Str × Addr) → Bool
  | [p] => decide (p.2 = a)
  | _ => false
theorem cellB_ok {a : Addr} {l : List (Str × Addr)} (h : cellB a l = true) : ∃ x, l = [(x, a)] := by
  match l, h with
  | [(x, c)], h => exact ⟨x, by rw [show c = a from of_decide_eq_true h]⟩
def xiB (K : PySem.W.Frag) (d : PrD) : Bool :=
  (match K.lookup (xF K) with | some ⟨_, _, .func fd, _⟩ => noneB fd.defaults && (refB (xCode K) fd.code && cellB (xCell K) fd.closure) | _ => false) &&
  (PySem.W.codeIn K (.ref (xCode K)) "AskedError.__init__" && ((match K.lookup (xCode K) with | some ⟨_, _, .fields vs, _⟩ => (match (vs[2]? : Option Value) with | some (Value.str file _) => d.fld == file | _ => false) | _ => false) &&
  ((match K.lookup (xCell K) with | some ⟨_, _, .cell (some (.ref D)), _⟩ => decide (D = xD K) | _ => false) && ((PySem.W.clsIn K (xD K)).isSome && (He.eqO (PySem.W.nsIn K cStatics "thirdparty.any") (some none) && PySem.W.keepIn K (.ref (xF K)))))))
theorem xin_of {P : Program} {K : PySem.W.Frag} {d : PrD} (e : xiW K = xiVal d) (h : xiB K d = true) (hf : ((P.main.file : Str) == d.fld) = true) : XinK P K (xD K) (xF K) (xCode K) (xCell K) d.params d.body d.scope := by
  unfold xiB at h
  simp only [Bool.and_eq_true] at h
  obtain ⟨h1, h2, h3, h4, h5, h6, h7⟩ := h
  refine ⟨?_, h2, ?_, ?_, h5, He.eqO_ok h6, h7⟩
  · unfold xiW at e
    cases q : K.lookup (xF K) with
    | none =>
      rw [q] at e
      cases e
    | some o =>
      obtain ⟨oc, od, dt, osl⟩ := o
      rw [q] at e h1
      cases dt with
      | func fd =>
        obtain ⟨n1, n2, n3, n4, n5, n6, n7, n8, n9, n10, n11, n12, n13, n14, n15⟩ := fd
        have e2 : (some (n1, n2, n3, n4, n5, n6, n7.map fun p => (p.1, 0), n15) : He.FnW) = xiVal d := e
        unfold xiVal at e2
        simp only [Option.some.injEq, Prod.mk.injEq] at e2
        obtain ⟨g1, g2, g3, g4, g5, g6, g7, g8⟩ := e2
        subst g1 g2 g3 g4 g5 g6 g8
        have h1 : (noneB n8 && (refB (xCode K) n13 && cellB (xCell K) n7)) = true := h1
        simp only [Bool.and_eq_true] at h1
        obtain ⟨k1, k2, k3⟩ := h1
        have k1 := noneB_ok k1
        have k2 := refB_ok k2
        obtain ⟨x, k3⟩ := cellB_ok k3
        subst k1 k2 k3
        have gx : x = "__class__" := by
          have : [((x, 0) : Str × Addr)] = [((("__class__" : Str), 0) : Str × Addr)] := g7
          simpa using this
        subst gx
        exact ⟨_, _, _, _, _, _, _, _, rfl⟩
      | _ => cases e
  · cases q : K.lookup (xCode K) with
    | none =>
      rw [q] at h3
      cases h3
    | some o =>
      obtain ⟨oc, od, dt, osl⟩ := o
      rw [q] at h3
      cases dt with
      | fields vs =>
        dsimp only at h3
        cases q2 : vs[2]? with
        | none =>
          rw [q2] at h3
          cases h3
        | some x =>
          rw [q2] at h3
          cases x with
          | str file t =>
            have h3 : (d.fld == file) = true := h3
            exact ⟨_, _, _, _, file, t, rfl, q2, by rw [← beq_iff_eq.mp h3]; exact hf⟩
          | _ => cases h3
      | _ => cases h3
  · cases q : K.lookup (xCell K) with
    | none =>
      rw [q] at h4
      cases h4
    | some o =>
      obtain ⟨oc, od, dt, osl⟩ := o
      rw [q] at h4
      cases dt with
      | cell v =>
        cases v with
        | none => cases h4
        | some v =>
          cases v with
          | ref D =>
            have h4 : D = xD K := of_decide_eq_true h4
            subst h4
            exact ⟨_, _, _, rfl⟩
          | _ => cases h4
      | _ => cases h4
def prW (K : PySem.W.Frag) (d : PrD) : He.FnW := if d.cls = "!" then xiW K else match K.lookup (prG K d.cls d.fld) with
  | some ⟨_, _, .func fd, _⟩ => some (fd.name, fd.qualname, fd.params, fd.body, fd.scope, fd.globals, fd.closure, fd.builtins)
  | _ => none
def PrD.val (d : PrD) : He.FnW := if d.cls = "!" then xiVal d else some (d.fld, d.qual, d.params, .stmts d.body, d.scope, mainGlobals, [], builtinsNs)
def PrD.ok (K : PySem.W.Frag) (d : PrD) : Bool := if d.cls = "!" then xiB K d else
  He.eqO (PySem.W.findIn K (.ref (He.ga K d.cls)) d.fld) (some (some (.ref (prA K d.cls d.fld)))) && (He.eqO (PySem.W.specialIn K (.ref (prA K d.cls d.fld)) "__get__") (some (some (.builtin "property.__get__"))) && (decide (PySem.W.takesIn K (.ref (prA K d.cls d.fld)) = some true) &&
  ((match PySem.W.recIn K (prA K d.cls d.fld) "property" with | some (.ref g :: _) => decide (g = prG K d.cls d.fld) | _ => false) && (PySem.W.keepIn K (.ref (prG K d.cls d.fld)) && (match K.lookup (prG K d.cls d.fld) with | some ⟨_, _, .func fd, _⟩ => PySem.W.codeIn K fd.code d.qual && (He.dflB K fd.defaults [] && He.kwdB K fd.kwdefaults []) | _ => false)))))
theorem PrD.good {K : PySem.W.Frag} {d : PrD} (hne : d.cls ≠ "!") (e : prW K d = d.val) (c : d.ok K = true) : PropOf K (He.ga K d.cls) d.fld (prA K d.cls d.fld) (prG K d.cls d.fld) ∧ ∃ fd, FunD K d.fld d.qual d.params d.body d.scope [] [] (prG K d.cls d.fld) fd := by
  unfold PrD.ok at c
  unfold prW PrD.val at e
  rw [if_neg hne] at c
  rw [if_neg hne, if_neg hne] at e
  obtain ⟨c1, c⟩ := Bool.and_eq_true_iff.mp c
  obtain ⟨c2, c⟩ := Bool.and_eq_true_iff.mp c
  obtain ⟨c3, c⟩ := Bool.and_eq_true_iff.mp c
  obtain ⟨c4, c⟩ := Bool.and_eq_true_iff.mp c
  obtain ⟨c5, c6⟩ := Bool.and_eq_true_iff.mp c
  refine ⟨⟨He.eqO_ok c1, He.eqO_ok c2, of_decide_eq_true c3, ?_⟩, ?_⟩
  · split at c4
    · rename_i g r z
      have zg := of_decide_eq_true c4
      exact ⟨r, by rw [z, zg]⟩
    · cases c4
  · cases q : K.lookup (prG K d.cls d.fld) with
    | none =>
      rw [q] at c6
      cases c6
    | some o =>
      obtain ⟨oc, od, dt, osl⟩ := o
      rw [q] at c6 e
      cases dt with
      | func fd =>
        obtain ⟨n1, n2, n3, n4, n5, n6, n7, n8, n9, n10, n11, n12, n13, n14, n15⟩ := fd
        have e2 : (some (n1, n2, n3, n4, n5, n6, n7, n15) : He.FnW) = some (d.fld, d.qual, d.params, .stmts d.body, d.scope, mainGlobals, [], builtinsNs) := e
        simp only [Option.some.injEq, Prod.mk.injEq] at e2
        obtain ⟨h1, h2, h3, h4, h5, h6, h7, h8⟩ := e2
        subst h1 h2 h3 h4 h5 h6 h7 h8
        have c7 : (PySem.W.codeIn K n13 d.qual && (He.dflB K n8 [] && He.kwdB K n9 [])) = true := c6
        obtain ⟨k1, k2⟩ := Bool.and_eq_true_iff.mp c7
        obtain ⟨k3, k4⟩ := Bool.and_eq_true_iff.mp k2
        exact ⟨_, ⟨oc, od, n8, n9, n10, n11, n12, n13, n14, osl, rfl, q, k1, He.dflB_ok k3, He.kwdB_ok k4⟩, c5⟩
      | _ => cases c6
theorem PrD.xi {P : Program} {K : PySem.W.Frag} {d : PrD} (hx : d.cls = "!") (e : prW K d = d.val) (c : d.ok K = true) (hf : ((P.main.file : Str) == d.fld) = true) : XinK P K (xD K) (xF K) (xCode K) (xCell K) d.params d.body d.scope := by
  unfold PrD.ok at c
  unfold prW PrD.val at e
  rw [if_pos hx] at c
  rw [if_pos hx, if_pos hx] at e
  exact xin_of e c hf
/-! ### the hook: facts, defs, one more Bool, properties, the defs' empty tables -/
def asZ (g : Addr → Option Obj) (n : Nat) : List Addr := cStatics :: sysModules :: He.asD g n
def frZ (g : Addr → Option Obj) (n : Nat) : PySem.W.Frag := He.frT g (asZ g n)
abbrev AlP : Type := He.AlD × (Bool × List He.FnW)
def obsP (n : Nat) (fa : List He.Fa) (fn : List He.DefD) (ex : PySem.W.Frag → Bool) (pr : List PrD) (tf : List He.Defn) (g : Addr → Option Obj) : AlP := (He.obsD fa fn (frZ g n), (ex (frZ g n) && (He.tabsB g tf (frZ g n) && pr.all fun d => d.ok (frZ g n)), pr.map fun d => prW (frZ g n) d))
def valP (fn : List He.DefD) (pr : List PrD) : AlP := (He.valD fn, (true, pr.map PrD.val))
structure SaysP (fa : List He.Fa) (fn : List He.DefD) (ex : PySem.W.Frag → Bool) (pr : List PrD) (tf : List He.Defn) (w : World) (h : Heap) (K : PySem.W.Frag) : Prop where
  d : He.SaysD fa fn K
  more : ex K = true
  ok : (pr.all fun d => d.ok K) = true
  fn : (pr.map fun d => prW K d) = pr.map PrD.val
  hd : ∀ p ∈ tf, PySem.W.codeHdIn K (He.cT K p).1 (He.cT K p).2 = true
  out : ∀ p ∈ tf, K.lookup (He.cT K p).2 = none
  empty : ∀ p ∈ tf, h.get? (He.cT K p).2 = some { cls := .none, data := .fields #[] }
theorem saysP_of {n : Nat} {fa : List He.Fa} {fn : List He.DefD} {ex : PySem.W.Frag → Bool} {pr : List PrD} {tf : List He.Defn} {w : World} {h : Heap} (e : obsP n fa fn ex pr tf h.get? = valP fn pr) : SaysP fa fn ex pr tf w h (frZ h.get? n) := by
  have e1 : He.obsD fa fn (frZ h.get? n) = He.valD fn := congrArg (fun z : AlP => z.1) e
  have e2 : (ex (frZ h.get? n) && (He.tabsB h.get? tf (frZ h.get? n) && pr.all fun d => d.ok (frZ h.get? n))) = true := congrArg (fun z : AlP => z.2.1) e
  have e3 : (pr.map fun d => prW (frZ h.get? n) d) = pr.map PrD.val := congrArg (fun z : AlP => z.2.2) e
  simp only [Bool.and_eq_true] at e2
  obtain ⟨m1, m2, m3⟩ := e2
  have tab : ∀ p ∈ tf, PySem.W.codeHdIn (frZ h.get? n) (He.cT (frZ h.get? n) p).1 (He.cT (frZ h.get? n) p).2 = true ∧ ∃ o, h.get? (He.cT (frZ h.get? n) p).2 = some o ∧ He.emptyTab o = true := fun p hp => by
    have z := List.all_eq_true.mp m2 p hp
    rw [Bool.and_eq_true] at z
    refine ⟨z.1, ?_⟩
    cases q : h.get? (He.cT (frZ h.get? n) p).2 with
    | none =>
      rw [q] at z
      cases z.2
    | some o =>
      rw [q] at z
      exact ⟨o, rfl, z.2⟩
  refine ⟨e1, m1, m3, e3, fun p hp => (tab p hp).1, fun p hp => ?_, fun p hp => ?_⟩
  · obtain ⟨_, o, q, z⟩ := tab p hp
    exact He.frT_none q z
  · obtain ⟨_, o, q, z⟩ := tab p hp
    rw [q, He.emptyTab_eq z]
def hookP (n : Nat) (fa : List He.Fa) (fn : List He.DefD) (ex : PySem.W.Frag → Bool) (pr : List PrD) (tf : List He.Defn) : PySem.W.Hook where
  α := AlP
  obs := fun s => obsP n fa fn ex pr tf s.heap.get?
  val := fun _ => valP fn pr
  says := fun w h => ∃ K : PySem.W.Frag, K.In h ∧ SaysP fa fn ex pr tf w h K
  of := fun _ _ e => ⟨_, He.frT_in, saysP_of e⟩
  keeps := fun _ _ _ y k => by
    obtain ⟨K, hK, c⟩ := y
    exact ⟨K, PySem.W.Frag.In.keeps hK k, ⟨c.d, c.more, c.ok, c.fn, c.hd, c.out, fun p hp => k _ _ (c.empty p hp)⟩⟩
theorem obsP_eq {n : Nat} {fa : List He.Fa} {fn : List He.DefD} {ex : PySem.W.Frag → Bool} {pr : List PrD} {tf : List He.Defn} {g : Addr → Option Obj} {s : Shared} (h : ∀ a, g a = s.heap.get? a) : obsP n fa fn ex pr tf g = (hookP n fa fn ex pr tf).obs s := by
  have e : g = s.heap.get? := funext h
  rw [e]
  rfl
theorem SaysP.at_ {fa : List He.Fa} {fn : List He.DefD} {ex : PySem.W.Frag → Bool} {pr : List PrD} {tf : List He.Defn} {w : World} {h : Heap} {K : PySem.W.Frag} (c : SaysP fa fn ex pr tf w h K) (i : Nat) {d : PrD} (e : pr[i]? = some d) : prW K d = d.val ∧ d.ok K = true := by
  refine ⟨?_, List.all_eq_true.mp c.ok d (List.mem_of_getElem? e)⟩
  have z := congrArg (fun l : List He.FnW => l[i]?) c.fn
  rw [List.getElem?_map, List.getElem?_map, e] at z
  exact Option.some.inj z
theorem SaysP.prop {fa : List He.Fa} {fn : List He.DefD} {ex : PySem.W.Frag → Bool} {pr : List PrD} {tf : List He.Defn} {w : World} {h : Heap} {K : PySem.W.Frag} (c : SaysP fa fn ex pr tf w h K) (i : Nat) {d : PrD} (e : pr[i]? = some d := by rfl) (hne : d.cls ≠ "!" := by decide) : PropOf K (He.ga K d.cls) d.fld (prA K d.cls d.fld) (prG K d.cls d.fld) ∧ ∃ fd, FunD K d.fld d.qual d.params d.body d.scope [] [] (prG K d.cls d.fld) fd := by
  obtain ⟨h1, h2⟩ := c.at_ i e
  exact PrD.good hne h1 h2
theorem SaysP.xi {P : Program} {fa : List He.Fa} {fn : List He.DefD} {ex : PySem.W.Frag → Bool} {pr : List PrD} {tf : List He.Defn} {w : World} {h : Heap} {K : PySem.W.Frag} (c : SaysP fa fn ex pr tf w h K) (i : Nat) {d : PrD} (e : pr[i]? = some d) (hx : d.cls = "!") (hf : ((P.main.file : Str) == d.fld) = true) : XinK P K (xD K) (xF K) (xCode K) (xCell K) d.params d.body d.scope := by
  obtain ⟨h1, h2⟩ := c.at_ i e
  exact PrD.xi hx h1 h2 hf
/-- the head's run looked at piece by piece -/
theorem obsD_app {fa1 fa2 : List He.Fa} {fn1 fn2 : List He.DefD} {K : PySem.W.Frag} (h1 : He.obsD fa1 fn1 K = He.valD fn1) (h2 : He.obsD fa2 fn2 K = He.valD fn2) : He.obsD (fa1 ++ fa2) (fn1 ++ fn2) K = He.valD (fn1 ++ fn2) := by
  have a1 := congrArg (fun z : He.AlD => z.1) h1
  have b1 := congrArg (fun z : He.AlD => z.2) h1
  have a2 := congrArg (fun z : He.AlD => z.1) h2
  have b2 := congrArg (fun z : He.AlD => z.2) h2
  dsimp only [He.obsD, He.valD] at a1 b1 a2 b2 ⊢
  rw [Bool.and_eq_true] at a1 a2
  rw [List.map_append, List.map_append, b1, b2, List.all_append, List.all_append, a1.1, a1.2, a2.1, a2.2]
  rfl
theorem obsP_app {n : Nat} {fa1 fa2 : List He.Fa} {fn1 fn2 : List He.DefD} {ex : PySem.W.Frag → Bool} {pr : List PrD} {tf : List He.Defn} {g : Addr → Option Obj} (h1 : obsP n fa1 fn1 ex pr tf g = valP fn1 pr) (h2 : obsP n fa2 fn2 (fun _ => true) [] [] g = valP fn2 []) : obsP n (fa1 ++ fa2) (fn1 ++ fn2) ex pr tf g = valP (fn1 ++ fn2) pr := by
  have a1 : He.obsD fa1 fn1 (frZ g n) = He.valD fn1 := congrArg (fun z : AlP => z.1) h1
  have a2 : He.obsD fa2 fn2 (frZ g n) = He.valD fn2 := congrArg (fun z : AlP => z.1) h2
  have b1 : (ex (frZ g n) && (He.tabsB g tf (frZ g n) && pr.all fun d => d.ok (frZ g n)), pr.map fun d => prW (frZ g n) d) = (true, pr.map PrD.val) := congrArg (fun z : AlP => z.2) h1
  unfold obsP valP
  rw [obsD_app a1 a2, b1]
/-- the head's run: the state behind it, looked at in pieces -/
noncomputable abbrev EndOf (r : PySem.W.OpenRow) (M : Nat) (w : World) (os : OsState) : Option PySem.W.SharedT := HandSHeadRun.endF (HandSHeadRun.stepQ (HandSHeadRun.denQ HandSHeadRun.tabQ) r.prog w) M r.prog w os
def RunL (r : PySem.W.OpenRow) (M : Nat) (w : World) : Prop := ∀ os : OsState, (EndOf r M w os).map (fun s => HandSHeadRun.looksF r.prog (PySem.W.boot_heap w.params) s.abs) = some true
def RunS (r : PySem.W.OpenRow) (q : Program) (M : Nat) (loose : List PySem.Str) (w : World) : Prop := ∀ os : OsState, (EndOf r M w os).map (fun s => HandSHeadRun.seenQ q loose (importedModules r.prog.main.body) (fun s => PySem.W.xlAt q [] s && PySem.W.recOk r.toRowW.records s) s.abs) = some (PySem.W.openGood q loose)
theorem run_base {r : PySem.W.OpenRow} {q : Program} {H : PySem.W.Hook} {ob : PySem.W.SharedT → H.α} {M : Nat} {loose : List PySem.Str} {w : World} (rL : RunL r M w) (rS : RunS r q M loose w) (rF : ∀ os : OsState, (EndOf r M w os).map ob = some (H.val w)) : HandSHeadRun.RunEq r q H ob M loose w := by
  intro os
  obtain ⟨s, hs, hv⟩ := Option.map_eq_some_iff.mp (rL os)
  obtain ⟨s2, hs2, hv2⟩ := Option.map_eq_some_iff.mp (rS os)
  obtain ⟨s3, hs3, hv3⟩ := Option.map_eq_some_iff.mp (rF os)
  have e2 : s2 = s := Option.some.inj (hs2.symm.trans hs)
  have e3 : s3 = s := Option.some.inj (hs3.symm.trans hs)
  subst e2
  subst e3
  have hs : HandSHeadRun.endF (HandSHeadRun.stepQ (HandSHeadRun.denQ HandSHeadRun.tabQ) r.prog w) M r.prog w os = some s3 := hs
  rw [hs]
  show some (_, _, _) = some (_, _, _)
  rw [hv, hv2, hv3]
def RunF (r : PySem.W.OpenRow) (n M : Nat) (fa : List He.Fa) (fn : List He.DefD) (ex : PySem.W.Frag → Bool) (pr : List PrD) (tf : List He.Defn) (w : World) : Prop := ∀ os : OsState, (EndOf r M w os).map (fun s => obsP n fa fn ex pr tf (HandSHeadRun.getT s)) = some (valP fn pr)
theorem run_app {r : PySem.W.OpenRow} {n M : Nat} {fa1 fa2 : List He.Fa} {fn1 fn2 : List He.DefD} {ex : PySem.W.Frag → Bool} {pr : List PrD} {tf : List He.Defn} {w : World}
    (r1 : RunF r n M fa1 fn1 ex pr tf w) (r2 : RunF r n M fa2 fn2 (fun _ => true) [] [] w) : RunF r n M (fa1 ++ fa2) (fn1 ++ fn2) ex pr tf w := by
  intro os
  obtain ⟨s, hs, hv⟩ := Option.map_eq_some_iff.mp (r1 os)
  obtain ⟨s2, hs2, hv2⟩ := Option.map_eq_some_iff.mp (r2 os)
  have es : s2 = s := Option.some.inj (hs2.symm.trans hs)
  subst es
  have c : obsP n (fa1 ++ fa2) (fn1 ++ fn2) ex pr tf _ = valP (fn1 ++ fn2) pr := obsP_app hv hv2
  rw [hs]
  exact congrArg some c
def sixT : List String := ["int", "bool", "str", "tuple", "list", "dict"]
def ownB (K : PySem.W.Frag) (c : Str) : Bool := He.eqO (PySem.W.findIn K (.ref (He.ga K c)) "__class__") (some (some (.builtin "object.__class__"))) && (He.eqO (PySem.W.specialIn K (.builtin "object.__class__") "__get__") (some (some (.builtin "getset_descriptor.__get__"))) &&
  (decide (PySem.W.takesIn K (.builtin "object.__class__") = some true) && (decide (PySem.W.mroIn K (He.ga K c) (.type "object") = some true) && sixT.all fun T => decide (PySem.W.kitOne K (.ref (He.ga K c)) (.type T) = some false))))
def isiB (K : PySem.W.Frag) (c : Str) (cs : List Str) : Bool := (("NoneType" :: sixT).all fun T => decide (PySem.W.kitOne K (.type T) (.ref (He.ga K c)) = some false)) && cs.all fun c' => decide (PySem.W.kitOne K (.ref (He.ga K c')) (.ref (He.ga K c)) = some (decide (c' = c)))
/-! isinstance of errors, by looks -/
def subX (c' c : Str) : Bool := decide (c' = c) || decide (c = "AskedError")
structure IsxC (K : PySem.W.Frag) (c : Str) (xs : List Str) : Prop where
  tys : ∀ T ∈ "NoneType" :: sixT, PySem.W.kitOne K (.type T) (.ref (He.ga K c)) = some false
  exc : ∀ c' ∈ xs, PySem.W.kitOne K (.ref (He.ga K c')) (.ref (He.ga K c)) = some (subX c' c)
def isxB (K : PySem.W.Frag) (c : Str) (xs : List Str) : Bool := (("NoneType" :: sixT).all fun T => decide (PySem.W.kitOne K (.type T) (.ref (He.ga K c)) = some false)) && xs.all fun c' => decide (PySem.W.kitOne K (.ref (He.ga K c')) (.ref (He.ga K c)) = some (subX c' c))
theorem isxB_ok {K : PySem.W.Frag} {c : Str} {xs : List Str} (h : isxB K c xs = true) : IsxC K c xs := by
  obtain ⟨h1, h2⟩ := Bool.and_eq_true_iff.mp h
  exact ⟨fun T hT => of_decide_eq_true (List.all_eq_true.mp h1 T hT), fun c' hc => of_decide_eq_true (List.all_eq_true.mp h2 c' hc)⟩
def isvB (K : PySem.W.Frag) (xs : List Str) : Bool := xs.all fun c' => decide (PySem.W.kitOne K (.ref (He.ga K c')) (.type "ValueError") = some true)
def sysB (K : PySem.W.Frag) : Bool := match K.lookup sysModules with
  | some ⟨.type c, _, _, _⟩ => decide (c = "dict")
  | _ => false
theorem sysB_ok {K : PySem.W.Frag} (h : sysB K = true) : ∃ o : Obj, K.lookup sysModules = some o ∧ o.cls = .type "dict" := by
  unfold sysB at h
  split at h
  · rename_i c d e f q
    exact ⟨_, q, congrArg Value.type (of_decide_eq_true h)⟩
  · cases h
/-- classes of errors that AskedError catches -/
def xsB (K : PySem.W.Frag) (xs : List Str) : Bool := xs.all fun c => xcB K (xD K) (xF K) (He.ga K c) && decide (PySem.W.exmOne K (.ref (He.ga K c)) (.ref (He.ga K "AskedError")) = some true)

end Ak
namespace Ak
open PySem PySem.Spec PyProof.Rows L2
set_option maxHeartbeats 0
def topS (i : Nat) : Stmt := PySem.Challenge.pw_anyasked_k04_units_shares_and_counts_ref.main.body.getD i (.Pass ⟨0, 0, 0, 0⟩)
abbrev s_AskedError___init__ : Stmt := inClass (topS 1) 0
abbrev s_is_integer : Stmt := topS 7
abbrev s_is_between : Stmt := topS 8
abbrev s_is_tuple : Stmt := topS 9
abbrev s_is_word : Stmt := topS 10
abbrev s_divisor_of : Stmt := topS 11
abbrev s_fraction : Stmt := topS 12
abbrev s_is_units : Stmt := topS 23
abbrev s_check_units : Stmt := topS 24
abbrev s_is_share : Stmt := topS 25
abbrev s_check_share : Stmt := topS 26
abbrev s_rounded : Stmt := topS 27
abbrev s_shown : Stmt := topS 28
abbrev s_halves : Stmt := topS 29
abbrev s_stretch : Stmt := topS 30
abbrev s_l_pot : Stmt := topS 32
abbrev s_l_take : Stmt := topS 33
abbrev s_l_of : Stmt := topS 34
abbrev s_l_cells : Stmt := topS 35
abbrev s_l_units : Stmt := topS 36
abbrev s_l_is_int : Stmt := topS 37
abbrev s_l_told : Stmt := topS 38
abbrev s_l_odd : Stmt := topS 39
abbrev s_l_bent : Stmt := topS 40
abbrev s_l_is_units : Stmt := topS 41
abbrev s_l_is_due : Stmt := topS 42
abbrev s_l_shown_due : Stmt := topS 43
abbrev s_l_stretch_due : Stmt := topS 44
abbrev s_l_right : Stmt := topS 45
abbrev s_law : Stmt := topS 46
theorem sc_is_integer : FnScope ["value"] ["value"] (defScope s_is_integer) := ⟨rfl, rfl, rfl, by decide +kernel, rfl, by decide +kernel, by decide +kernel⟩
theorem sc_is_between : FnScope ["value", "low", "high"] ["value", "low", "high"] (defScope s_is_between) := ⟨rfl, rfl, rfl, by decide +kernel, rfl, by decide +kernel, by decide +kernel⟩
theorem sc_is_tuple : FnScope ["value", "least", "most"] ["value", "least", "most"] (defScope s_is_tuple) := ⟨rfl, rfl, rfl, by decide +kernel, rfl, by decide +kernel, by decide +kernel⟩
theorem sc_is_word : FnScope ["value", "words"] ["value", "words"] (defScope s_is_word) := ⟨rfl, rfl, rfl, by decide +kernel, rfl, by decide +kernel, by decide +kernel⟩
theorem sc_divisor_of : FnScope ["numbers", "found", "number", "rest"] ["numbers"] (defScope s_divisor_of) := ⟨rfl, rfl, rfl, by decide +kernel, rfl, by decide +kernel, by decide +kernel⟩
theorem sc_fraction : FnScope ["above", "under", "by"] ["above", "under"] (defScope s_fraction) := ⟨rfl, rfl, rfl, by decide +kernel, rfl, by decide +kernel, by decide +kernel⟩
theorem sc_is_units : FnScope ["value"] ["value"] (defScope s_is_units) := ⟨rfl, rfl, rfl, by decide +kernel, rfl, by decide +kernel, by decide +kernel⟩
theorem sc_check_units : FnScope ["value"] ["value"] (defScope s_check_units) := ⟨rfl, rfl, rfl, by decide +kernel, rfl, by decide +kernel, by decide +kernel⟩
theorem sc_is_share : FnScope ["units", "value"] ["units", "value"] (defScope s_is_share) := ⟨rfl, rfl, rfl, by decide +kernel, rfl, by decide +kernel, by decide +kernel⟩
theorem sc_check_share : FnScope ["units", "value"] ["units", "value"] (defScope s_check_share) := ⟨rfl, rfl, rfl, by decide +kernel, rfl, by decide +kernel, by decide +kernel⟩
theorem sc_rounded : FnScope ["how", "above", "under", "low", "rest"] ["how", "above", "under"] (defScope s_rounded) := ⟨rfl, rfl, rfl, by decide +kernel, rfl, by decide +kernel, by decide +kernel⟩
theorem sc_shown : FnScope ["units", "many", "whole"] ["units", "many", "whole"] (defScope s_shown) := ⟨rfl, rfl, rfl, by decide +kernel, rfl, by decide +kernel, by decide +kernel⟩
theorem sc_halves : FnScope ["how", "share", "is_even"] ["how", "share"] (defScope s_halves) := ⟨rfl, rfl, rfl, by decide +kernel, rfl, by decide +kernel, by decide +kernel⟩
theorem sc_stretch : FnScope ["units", "share", "parts", "how", "low", "is_low", "high", "is_high"] ["units", "share"] (defScope s_stretch) := ⟨rfl, rfl, rfl, by decide +kernel, rfl, by decide +kernel, by decide +kernel⟩
theorem sc_l_pot : FnScope ["_law_script", "_law_place", "_law_cell", "_law_own", "_law_small"] ["_law_script", "_law_place"] (defScope s_l_pot) := ⟨rfl, rfl, rfl, by decide +kernel, rfl, by decide +kernel, by decide +kernel⟩
theorem sc_l_take : FnScope ["_law_pot_here", "_law_upto", "_law_digit", "_law_prime", "_law_stir"] ["_law_pot_here", "_law_upto"] (defScope s_l_take) := ⟨rfl, rfl, rfl, by decide +kernel, rfl, by decide +kernel, by decide +kernel⟩
theorem sc_l_of : FnScope ["_law_pot_here", "_law_some"] ["_law_pot_here", "_law_some"] (defScope s_l_of) := ⟨rfl, rfl, rfl, by decide +kernel, rfl, by decide +kernel, by decide +kernel⟩
theorem sc_l_cells : FnScope ["_law_script", "_law_most"] ["_law_script", "_law_most"] (defScope s_l_cells) := ⟨rfl, rfl, rfl, by decide +kernel, rfl, by decide +kernel, by decide +kernel⟩
theorem sc_l_units : FnScope ["_law_pot_here", "_law_most"] ["_law_pot_here", "_law_most"] (defScope s_l_units) := ⟨rfl, rfl, rfl, by decide +kernel, rfl, by decide +kernel, by decide +kernel⟩
theorem sc_l_is_int : FnScope ["_law_value", "_law_low", "_law_high"] ["_law_value", "_law_low", "_law_high"] (defScope s_l_is_int) := ⟨rfl, rfl, rfl, by decide +kernel, rfl, by decide +kernel, by decide +kernel⟩
theorem sc_l_told : FnScope ["_law_look", "_law_caught", "_law_back", "error"] ["_law_look"] (defScope s_l_told) := ⟨rfl, rfl, rfl, by decide +kernel, rfl, by decide +kernel, by decide +kernel⟩
theorem sc_l_odd : FnScope ["_law_pot_here", "_law_some"] ["_law_pot_here"] (defScope s_l_odd) := ⟨rfl, rfl, rfl, by decide +kernel, rfl, by decide +kernel, by decide +kernel⟩
theorem sc_l_bent : FnScope ["_law_pot_here", "_law_value", "_law_at", "_law_some"] ["_law_pot_here", "_law_value"] (defScope s_l_bent) := ⟨rfl, rfl, rfl, by decide +kernel, rfl, by decide +kernel, by decide +kernel⟩
theorem sc_l_is_units : FnScope ["_law_value"] ["_law_value"] (defScope s_l_is_units) := ⟨rfl, rfl, rfl, by decide +kernel, rfl, by decide +kernel, by decide +kernel⟩
theorem sc_l_is_due : FnScope ["_law_look", "_law_word", "_law_value", "_law_caught", "_law_marks", "_law_one"] ["_law_look", "_law_word", "_law_value"] (defScope s_l_is_due) := ⟨rfl, rfl, rfl, by decide +kernel, rfl, by decide +kernel, by decide +kernel⟩
theorem sc_l_shown_due : FnScope ["_law_units_here", "_law_many", "_law_whole"] ["_law_units_here", "_law_many", "_law_whole"] (defScope s_l_shown_due) := ⟨rfl, rfl, rfl, by decide +kernel, rfl, by decide +kernel, by decide +kernel⟩
theorem sc_l_stretch_due : FnScope ["_law_units_here", "_law_share"] ["_law_units_here", "_law_share"] (defScope s_l_stretch_due) := ⟨rfl, rfl, rfl, by decide +kernel, rfl, by decide +kernel, by decide +kernel⟩
theorem sc_l_right : FnScope ["_law_pot_here", "_law_lap", "_law_right_here", "_law_wrong", "_law_units_here", "_law_whole", "_law_many", "_law_due", "_law_top", "_law_some", "_law_share"] ["_law_pot_here"] (defScope s_l_right) := ⟨rfl, rfl, rfl, by decide +kernel, rfl, by decide +kernel, by decide +kernel⟩
theorem sc_law : FnScope ["_law_script", "_law_place"] ["_law_script"] (defScope s_law) := ⟨rfl, rfl, rfl, by decide +kernel, rfl, by decide +kernel, by decide +kernel⟩
theorem st_AskedError___init__ (a0 a1 : V) : L2.start ["self", "value"] [a0, a1] = [some a0, some a1] := rfl
theorem st_is_integer (a0 : V) : L2.start ["value"] [a0] = [some a0] := rfl
theorem st_is_between (a0 a1 a2 : V) : L2.start ["value", "low", "high"] [a0, a1, a2] = [some a0, some a1, some a2] := rfl
theorem st_is_tuple (a0 a1 a2 : V) : L2.start ["value", "least", "most"] [a0, a1, a2] = [some a0, some a1, some a2] := rfl
theorem st_is_word (a0 a1 : V) : L2.start ["value", "words"] [a0, a1] = [some a0, some a1] := rfl
theorem st_divisor_of (a0 : V) : L2.start ["numbers", "found", "number", "rest"] [a0] = [some a0, none, none, none] := rfl
theorem st_fraction (a0 a1 : V) : L2.start ["above", "under", "by"] [a0, a1] = [some a0, some a1, none] := rfl
theorem st_is_units (a0 : V) : L2.start ["value"] [a0] = [some a0] := rfl
theorem st_check_units (a0 : V) : L2.start ["value"] [a0] = [some a0] := rfl
theorem st_is_share (a0 a1 : V) : L2.start ["units", "value"] [a0, a1] = [some a0, some a1] := rfl
theorem st_check_share (a0 a1 : V) : L2.start ["units", "value"] [a0, a1] = [some a0, some a1] := rfl
theorem st_rounded (a0 a1 a2 : V) : L2.start ["how", "above", "under", "low", "rest"] [a0, a1, a2] = [some a0, some a1, some a2, none, none] := rfl
theorem st_shown (a0 a1 a2 : V) : L2.start ["units", "many", "whole"] [a0, a1, a2] = [some a0, some a1, some a2] := rfl
theorem st_halves (a0 a1 : V) : L2.start ["how", "share", "is_even"] [a0, a1] = [some a0, some a1, none] := rfl
theorem st_stretch (a0 a1 : V) : L2.start ["units", "share", "parts", "how", "low", "is_low", "high", "is_high"] [a0, a1] = [some a0, some a1, none, none, none, none, none, none] := rfl
theorem st_l_pot (a0 a1 : V) : L2.start ["_law_script", "_law_place", "_law_cell", "_law_own", "_law_small"] [a0, a1] = [some a0, some a1, none, none, none] := rfl
theorem st_l_take (a0 a1 : V) : L2.start ["_law_pot_here", "_law_upto", "_law_digit", "_law_prime", "_law_stir"] [a0, a1] = [some a0, some a1, none, none, none] := rfl
theorem st_l_of (a0 a1 : V) : L2.start ["_law_pot_here", "_law_some"] [a0, a1] = [some a0, some a1] := rfl
theorem st_l_cells (a0 a1 : V) : L2.start ["_law_script", "_law_most"] [a0, a1] = [some a0, some a1] := rfl
theorem st_l_units (a0 a1 : V) : L2.start ["_law_pot_here", "_law_most"] [a0, a1] = [some a0, some a1] := rfl
theorem st_l_is_int (a0 a1 a2 : V) : L2.start ["_law_value", "_law_low", "_law_high"] [a0, a1, a2] = [some a0, some a1, some a2] := rfl
theorem st_l_told (a0 : V) : L2.start ["_law_look", "_law_caught", "_law_back", "error"] [a0] = [some a0, none, none, none] := rfl
theorem st_l_odd (a0 : V) : L2.start ["_law_pot_here", "_law_some"] [a0] = [some a0, none] := rfl
theorem st_l_bent (a0 a1 : V) : L2.start ["_law_pot_here", "_law_value", "_law_at", "_law_some"] [a0, a1] = [some a0, some a1, none, none] := rfl
theorem st_l_is_units (a0 : V) : L2.start ["_law_value"] [a0] = [some a0] := rfl
theorem st_l_is_due (a0 a1 a2 : V) : L2.start ["_law_look", "_law_word", "_law_value", "_law_caught", "_law_marks", "_law_one"] [a0, a1, a2] = [some a0, some a1, some a2, none, none, none] := rfl
theorem st_l_shown_due (a0 a1 a2 : V) : L2.start ["_law_units_here", "_law_many", "_law_whole"] [a0, a1, a2] = [some a0, some a1, some a2] := rfl
theorem st_l_stretch_due (a0 a1 : V) : L2.start ["_law_units_here", "_law_share"] [a0, a1] = [some a0, some a1] := rfl
theorem st_l_right (a0 : V) : L2.start ["_law_pot_here", "_law_lap", "_law_right_here", "_law_wrong", "_law_units_here", "_law_whole", "_law_many", "_law_due", "_law_top", "_law_some", "_law_share"] [a0] = [some a0, none, none, none, none, none, none, none, none, none, none] := rfl
theorem st_law (a0 : V) : L2.start ["_law_script", "_law_place"] [a0] = [some a0, none] := rfl
def names0 : List PySem.Str := ["AskedError", "BadUnits", "BadCount", "BadShare", "PAIR", "is_integer", "is_between", "is_tuple", "is_word", "divisor_of", "fraction", "NEAR", "EVEN", "DOWN", "UP"]
def names1 : List PySem.Str := ["HOWS", "NONE", "SOME", "LEAST_UNITS", "MOST_UNITS", "is_units", "check_units", "is_share", "check_share", "rounded", "shown", "halves", "stretch", "_law_pot", "_law_take"]
def names2 : List PySem.Str := ["_law_of", "_law_cells", "_law_units", "_law_is_int", "_law_told", "_law_odd", "_law_bent", "_law_is_units", "_law_is_due", "_law_shown_due", "_law_stretch_due", "_law_right"]
def names : List PySem.Str := names0 ++ names1 ++ names2
def fa0 : List He.Fa := [.glo "is_integer", .glo "is_between", .glo "is_tuple", .glo "is_word", .glo "divisor_of", .glo "fraction", .glo "is_units", .glo "check_units", .glo "is_share", .glo "check_share", .glo "rounded", .glo "shown", .glo "halves", .glo "stretch", .glo "_law_pot"]
def fa1 : List He.Fa := [.glo "_law_take", .glo "_law_of", .glo "_law_cells", .glo "_law_units", .glo "_law_is_int", .glo "_law_told", .glo "_law_odd", .glo "_law_bent", .glo "_law_is_units", .glo "_law_is_due", .glo "_law_shown_due", .glo "_law_stretch_due", .glo "_law_right", .glo "law", .glo "AskedError"]
def fa2 : List He.Fa := [.glo "BadUnits", .glo "BadCount", .glo "BadShare", .int "PAIR" 2, .str "NEAR" "near", .str "EVEN" "even", .str "DOWN" "down", .str "UP" "up", .glo "HOWS", .str "NONE" "none", .str "SOME" "some", .int "LEAST_UNITS" 2, .int "MOST_UNITS" 100, .free "abs", .free "all"]
def fa3 : List He.Fa := [.free "bool", .free "divmod", .free "int", .free "isinstance", .free "len", .free "list", .free "max", .free "min", .free "range", .free "repr", .free "str", .free "super", .free "tuple"]
def fa : List He.Fa := fa0 ++ fa1 ++ fa2 ++ fa3
def fn0 : List He.DefD := [⟨("is_integer", none), "is_integer", "is_integer", defArgs s_is_integer, defBody s_is_integer, defScope s_is_integer, [], []⟩,
  ⟨("is_between", none), "is_between", "is_between", defArgs s_is_between, defBody s_is_between, defScope s_is_between, [], []⟩,
  ⟨("is_tuple", none), "is_tuple", "is_tuple", defArgs s_is_tuple, defBody s_is_tuple, defScope s_is_tuple, [], []⟩,
  ⟨("is_word", none), "is_word", "is_word", defArgs s_is_word, defBody s_is_word, defScope s_is_word, [], []⟩,
  ⟨("divisor_of", none), "divisor_of", "divisor_of", defArgs s_divisor_of, defBody s_divisor_of, defScope s_divisor_of, [], []⟩,
  ⟨("fraction", none), "fraction", "fraction", defArgs s_fraction, defBody s_fraction, defScope s_fraction, [], []⟩,
  ⟨("is_units", none), "is_units", "is_units", defArgs s_is_units, defBody s_is_units, defScope s_is_units, [], []⟩,
  ⟨("check_units", none), "check_units", "check_units", defArgs s_check_units, defBody s_check_units, defScope s_check_units, [], []⟩,
  ⟨("is_share", none), "is_share", "is_share", defArgs s_is_share, defBody s_is_share, defScope s_is_share, [], []⟩,
  ⟨("check_share", none), "check_share", "check_share", defArgs s_check_share, defBody s_check_share, defScope s_check_share, [], []⟩]
def fn1 : List He.DefD := [⟨("rounded", none), "rounded", "rounded", defArgs s_rounded, defBody s_rounded, defScope s_rounded, [], []⟩,
  ⟨("shown", none), "shown", "shown", defArgs s_shown, defBody s_shown, defScope s_shown, [], []⟩,
  ⟨("halves", none), "halves", "halves", defArgs s_halves, defBody s_halves, defScope s_halves, [], []⟩,
  ⟨("stretch", none), "stretch", "stretch", defArgs s_stretch, defBody s_stretch, defScope s_stretch, [], []⟩,
  ⟨("_law_pot", none), "_law_pot", "_law_pot", defArgs s_l_pot, defBody s_l_pot, defScope s_l_pot, [], []⟩,
  ⟨("_law_take", none), "_law_take", "_law_take", defArgs s_l_take, defBody s_l_take, defScope s_l_take, [], []⟩,
  ⟨("_law_of", none), "_law_of", "_law_of", defArgs s_l_of, defBody s_l_of, defScope s_l_of, [], []⟩,
  ⟨("_law_cells", none), "_law_cells", "_law_cells", defArgs s_l_cells, defBody s_l_cells, defScope s_l_cells, [], []⟩,
  ⟨("_law_units", none), "_law_units", "_law_units", defArgs s_l_units, defBody s_l_units, defScope s_l_units, [], []⟩,
  ⟨("_law_is_int", none), "_law_is_int", "_law_is_int", defArgs s_l_is_int, defBody s_l_is_int, defScope s_l_is_int, [], []⟩]
def fn2 : List He.DefD := [⟨("_law_told", none), "_law_told", "_law_told", defArgs s_l_told, defBody s_l_told, defScope s_l_told, [], []⟩,
  ⟨("_law_odd", none), "_law_odd", "_law_odd", defArgs s_l_odd, defBody s_l_odd, defScope s_l_odd, [], []⟩,
  ⟨("_law_bent", none), "_law_bent", "_law_bent", defArgs s_l_bent, defBody s_l_bent, defScope s_l_bent, [], []⟩,
  ⟨("_law_is_units", none), "_law_is_units", "_law_is_units", defArgs s_l_is_units, defBody s_l_is_units, defScope s_l_is_units, [], []⟩,
  ⟨("_law_is_due", none), "_law_is_due", "_law_is_due", defArgs s_l_is_due, defBody s_l_is_due, defScope s_l_is_due, [], []⟩,
  ⟨("_law_shown_due", none), "_law_shown_due", "_law_shown_due", defArgs s_l_shown_due, defBody s_l_shown_due, defScope s_l_shown_due, [], []⟩,
  ⟨("_law_stretch_due", none), "_law_stretch_due", "_law_stretch_due", defArgs s_l_stretch_due, defBody s_l_stretch_due, defScope s_l_stretch_due, [], []⟩,
  ⟨("_law_right", none), "_law_right", "_law_right", defArgs s_l_right, defBody s_l_right, defScope s_l_right, [], []⟩,
  ⟨("law", none), "law", "law", defArgs s_law, defBody s_law, defScope s_law, [], []⟩]
def fn : List He.DefD := fn0 ++ fn1 ++ fn2
def xsL : List Str := ["AskedError", "BadUnits", "BadCount", "BadShare"]
def ex (K : PySem.W.Frag) : Bool := (xcB K (xD K) (xF K) (He.ga K "AskedError")) && (isxB K "AskedError" xsL) && (xcB K (xD K) (xF K) (He.ga K "BadUnits")) && (isxB K "BadUnits" xsL) && (xcB K (xD K) (xF K) (He.ga K "BadCount")) && (isxB K "BadCount" xsL) && (xcB K (xD K) (xF K) (He.ga K "BadShare")) && (isxB K "BadShare" xsL) && (xsB K xsL) && (isvB K xsL) && (sysB K) && (He.tupB K "HOWS" [(.str "near"), (.str "even"), (.str "down"), (.str "up")])
abbrev R : PySem.W.OpenRow := PySem.W.OpenLaw.row PySem.Challenge.rw_anyasked_k04_units_shares_and_counts_ref
def fileT : Str := PySem.Challenge.pw_anyasked_k04_units_shares_and_counts_ref.main.file
def pr : List PrD := [⟨"!", fileT, "", defArgs s_AskedError___init__, defBody s_AskedError___init__, defScope s_AskedError___init__⟩]
def tf : List He.Defn := [("_law_right", none)]
abbrev hk : PySem.W.Hook := hookP 8 fa fn ex pr tf
def ob (s : PySem.W.SharedT) : AlP := obsP 8 fa fn ex pr tf (HandSHeadRun.getT s)
theorem ob_eq (s : PySem.W.SharedT) : ob s = hk.obs s.abs := obsP_eq (HandSHeadRun.getT_eq s)
theorem run (w : World) : HandSHeadRun.RunEq R (PySem.W.view R.prog [46]) hk ob 40000 names w := by
  intro os
  kernel_rfl
set_option maxHeartbeats 4000000
end Ak
namespace Ak
open PySem PySem.Spec PyProof.Rows L2
/-- the tables of code objects that may grow: where each lies, the name that it tells -/
class Tb where
  t : List (Addr × Str)
  u : ∀ p ∈ t, ∀ q ∈ t, p.1 = q.1 → p.2 = q.2
def tb0 : Tb := ⟨[], fun _ h => nomatch h⟩
variable [Tb]
/-- an instance of a class of the program's own -/
structure OwnC (K : PySem.W.Frag) (C : Addr) : Prop where
  cl : Cls K C
  ha : PySem.W.findIn K (.ref C) "__class__" = some (some (.builtin "object.__class__"))
  hn : PySem.W.specialIn K (.builtin "object.__class__") "__get__" = some (some (.builtin "getset_descriptor.__get__"))
  htk : PySem.W.takesIn K (.builtin "object.__class__") = some true
  hm : PySem.W.mroIn K C (.type "object") = some true
  no : ∀ T ∈ ["int", "bool", "str", "tuple", "list", "dict"], PySem.W.kitOne K (.ref C) (.type T) = some false
/-! ### values as trees, and what denotes them -/
inductive D where
  | non | bl (b : Bool) | int (i : Int) | str (x : Str)
  | tup (xs : List D) | lst (xs : List D)
  | dic (ks : List Key) (vs : List D)
  | obj (c : Str) (ks : List Str) (vs : List D)
  | exc (c : Str) (x : D)
instance : Inhabited D := ⟨.non⟩
mutual
/-- F: the part of the heap that is never written any more -/
inductive Den (K : PySem.W.Frag) (F : Hp) : V → D → Prop
  | non : Den K F .non .non
  | bl (b : Bool) : Den K F (.bl b) (.bl b)
  | int (i : Int) : Den K F (.int i) (.int i)
  | str (x : Str) : Den K F (.str x) (.str x)
  | tup {a : Addr} {vs : List V} {ds : List D} : (F a = some (.tup vs) ∨ ∀ H, SqT K H a vs) → DenAll K F vs ds → Den K F (.ref a) (.tup ds)
  | lst {a : Addr} {vs : List V} {ds : List D} : F a = some (.lst vs) → DenAll K F vs ds → Den K F (.ref a) (.lst ds)
  | dic {a : Addr} {ks : List Key} {vs : List V} {ds : List D} : F a = some (.dK (ks.zip vs)) → ks.length = vs.length → DenAll K F vs ds → Den K F (.ref a) (.dic ks ds)
  | obj {a dx : Addr} {c : Str} {ks : List Str} {vs : List V} {ds : List D} : OwnC K (He.ga K c) → F a = some (.ins (He.ga K c) dx (ks.zip vs)) → ks.length = vs.length → DenAll K F vs ds → Den K F (.ref a) (.obj c ks ds)
  | exc {a dx : Addr} {c : Str} {v : V} {d : D} : XcK K c → F a = some (exO a (He.ga K c) dx) → F dx = some (.xd [("value", v)]) → Den K F v d → Den K F (.ref a) (.exc c d)
inductive DenAll (K : PySem.W.Frag) (F : Hp) : List V → List D → Prop
  | nil : DenAll K F [] []
  | cons {v : V} {vs : List V} {d : D} {ds : List D} : Den K F v d → DenAll K F vs ds → DenAll K F (v :: vs) (d :: ds)
end
def Le (F F' : Hp) : Prop := ∀ a u, F a = some u → F' a = some u
theorem Le.refl {F : Hp} : Le F F := fun _ _ h => h
theorem Le.trans {F F1 F2 : Hp} (a : Le F F1) (b : Le F1 F2) : Le F F2 := fun x u h => b x u (a x u h)
section
variable {K : PySem.W.Frag} {F F' H H' : Hp}
mutual
theorem Den.mono (le : Le F F') : ∀ {v : V} {d : D}, Den K F v d → Den K F' v d
  | _, _, .non => .non
  | _, _, .bl b => .bl b
  | _, _, .int i => .int i
  | _, _, .str x => .str x
  | _, _, .tup h r => .tup (h.imp (le _ _) id) (DenAll.mono le r)
  | _, _, .lst h r => .lst (le _ _ h) (DenAll.mono le r)
  | _, _, .dic h l r => .dic (le _ _ h) l (DenAll.mono le r)
  | _, _, .obj w h l r => .obj w (le _ _ h) l (DenAll.mono le r)
  | _, _, .exc w h1 h2 r => .exc w (le _ _ h1) (le _ _ h2) (Den.mono le r)
theorem DenAll.mono (le : Le F F') : ∀ {vs : List V} {ds : List D}, DenAll K F vs ds → DenAll K F' vs ds
  | _, _, .nil => .nil
  | _, _, .cons h r => .cons (Den.mono le h) (DenAll.mono le r)
end
theorem DenAll.length : ∀ {vs : List V} {ds : List D}, DenAll K F vs ds → vs.length = ds.length
  | _, _, .nil => rfl
  | _, _, .cons _ r => congrArg (· + 1) (DenAll.length r)
theorem DenAll.get : ∀ {vs : List V} {ds : List D} {i : Nat} {v : V}, DenAll K F vs ds → vs[i]? = some v → ∃ d, ds[i]? = some d ∧ Den K F v d
  | _, _, _, _, .nil, e => by simp at e
  | _, _, 0, _, .cons h _, e => by
    simp at e
    subst e
    exact ⟨_, rfl, h⟩
  | _, _, i + 1, v, .cons _ r, e => by
    obtain ⟨d, h1, h2⟩ := DenAll.get (i := i) (v := v) r (by simpa using e)
    exact ⟨d, by simpa using h1, h2⟩
theorem DenAll.getD : ∀ {vs : List V} {ds : List D} {i : Nat} {d : D}, DenAll K F vs ds → ds[i]? = some d → ∃ v, vs[i]? = some v ∧ Den K F v d
  | _, _, _, _, .nil, e => by simp at e
  | _, _, 0, _, .cons h _, e => by
    simp at e
    subst e
    exact ⟨_, rfl, h⟩
  | _, _, i + 1, d, .cons _ r, e => by
    obtain ⟨v, h1, h2⟩ := DenAll.getD (i := i) (d := d) r (by simpa using e)
    exact ⟨v, by simpa using h1, h2⟩
theorem DenAll.append : ∀ {vs ws : List V} {ds es : List D}, DenAll K F vs ds → DenAll K F ws es → DenAll K F (vs ++ ws) (ds ++ es)
  | _, _, _, _, .nil, h => h
  | _, _, _, _, .cons h r, s => .cons h (DenAll.append r s)
theorem DenAll.snoc {vs : List V} {ds : List D} {v : V} {d : D} (h : DenAll K F vs ds) (h2 : Den K F v d) : DenAll K F (vs ++ [v]) (ds ++ [d]) := h.append (.cons h2 .nil)
theorem DenAll.set {v : V} {d : D} (h2 : Den K F v d) : ∀ {vs : List V} {ds : List D} (i : Nat), DenAll K F vs ds → DenAll K F (vs.set i v) (ds.set i d)
  | _, _, _, .nil => .nil
  | _, _, 0, .cons _ r => .cons h2 r
  | _, _, i + 1, .cons h r => .cons h (DenAll.set h2 i r)
theorem DenAll.take : ∀ {vs : List V} {ds : List D} (n : Nat), DenAll K F vs ds → DenAll K F (vs.take n) (ds.take n)
  | _, _, 0, _ => .nil
  | _, _, _ + 1, .nil => .nil
  | _, _, n + 1, .cons h r => .cons h (DenAll.take n r)
theorem DenAll.drop : ∀ {vs : List V} {ds : List D} (n : Nat), DenAll K F vs ds → DenAll K F (vs.drop n) (ds.drop n)
  | _, _, 0, h => h
  | _, _, _ + 1, .nil => .nil
  | _, _, n + 1, .cons _ r => DenAll.drop n r
theorem DenAll.rev {vs : List V} {ds : List D} (h : DenAll K F vs ds) : DenAll K F vs.reverse ds.reverse := by
  have go : ∀ {vs : List V} {ds : List D}, DenAll K F vs ds → DenAll K F vs.reverse ds.reverse := by
    intro vs
    induction vs with
    | nil =>
      intro ds h
      cases h
      exact .nil
    | cons v vs ih =>
      intro ds h
      cases h with
      | cons h r =>
        rw [List.reverse_cons, List.reverse_cons]
        exact (ih r).snoc h
  exact go h
/-- no table of code objects: what is never written behind one's back -/
abbrev NoTab (o : HO) : Prop := ∀ ps, o ≠ .tbl ps
/-- the mark of such a table in F: each code object that it tells bears the name q -/
def tabM (q : Str) : HO := .tbl #[.str q 0]
/-- what F holds stands in the heap; a dict may be locked; a table is known by its names alone -/
structure Sub (F H : Hp) : Prop where
  fn : ∀ a u, F a = some u → (NoTab u ∧ (H a = some u ∨ ((∃ kvs, u = .dK kvs) ∧ ∃ o, H a = some (.frz o u)))) ∨ ∃ q, (a, q) ∈ Tb.t ∧ u = tabM q ∧ LamX.TabS H a q
  tb : ∀ p ∈ Tb.t, F p.1 = some (tabM p.2)
instance {F H : Hp} : CoeFun (Sub F H) fun _ => ∀ a u, F a = some u → (NoTab u ∧ (H a = some u ∨ ((∃ kvs, u = .dK kvs) ∧ ∃ o, H a = some (.frz o u)))) ∨ ∃ q, (a, q) ∈ Tb.t ∧ u = tabM q ∧ LamX.TabS H a q := ⟨Sub.fn⟩
theorem Sub.isS (s : Sub F H) {a : Addr} {u : HO} (h : F a = some u) : ∃ o, H a = some o := by
  rcases s a u h with ⟨_, h | ⟨_, o, h⟩⟩ | ⟨q, _, _, ps, h, _⟩
  · exact ⟨_, h⟩
  · exact ⟨_, h⟩
  · exact ⟨_, h⟩
theorem Sub.ne (s : Sub F H) {a b : Addr} {u : HO} (h : F a = some u) (n : H b = none) : a ≠ b := fun e => by
  obtain ⟨o, ho⟩ := s.isS h
  rw [e, n] at ho
  cases ho
theorem Sub.isN (s : Sub F H) {a : Addr} (n : H a = none) : F a = none := by
  cases e : F a with
  | none => rfl
  | some u => exact absurd rfl (s.ne e n)
theorem Sub.rd (s : Sub F H) {a : Addr} {u : HO} (h : F a = some u) (nt : NoTab u := by intro ps z; cases z) : Rd H a u := by
  rcases s a u h with ⟨_, h⟩ | ⟨q, _, e, _⟩
  · exact h.imp id fun z => z.2
  · exact absurd e (nt _)
theorem Sub.rc (s : Sub F H) {a : Addr} {u : HO} (h : F a = some u) (nt : NoTab u := by intro ps z; cases z) : H a = some u ∨ ((∃ kvs, u = .dK kvs) ∧ ∃ o, H a = some (.frz o u)) := by
  rcases s a u h with ⟨_, h⟩ | ⟨q, _, e, _⟩
  · exact h
  · exact absurd e (nt _)
theorem Sub.at (s : Sub F H) {a : Addr} {u : HO} (h : F a = some u) (n : ∀ kvs, u ≠ .dK kvs) (nt : NoTab u := by intro ps z; cases z) : H a = some u := by
  rcases s.rc h nt with h | ⟨⟨kvs, e⟩, _⟩
  · exact h
  · exact absurd e (n kvs)
theorem Sub.sqT (s : Sub F H) {a : Addr} {vs : List V} (h : F a = some (.tup vs) ∨ ∀ H, SqT K H a vs) : SqT K H a vs := by
  rcases h with h | h
  · exact .inl (s.rd h)
  · exact h H
theorem Sub.lst (s : Sub F H) {a : Addr} {vs : List V} (h : F a = some (.lst vs)) : H a = some (.lst vs) := s.at h (fun _ z => nomatch z)
theorem Sub.sqL (s : Sub F H) {a : Addr} {vs : List V} (h : F a = some (.lst vs)) : SqL K H a vs := .inl (s.rd h)
theorem Sub.ins (s : Sub F H) {a C dx : Addr} {fs : List (Str × V)} (h : F a = some (.ins C dx fs)) : H a = some (.ins C dx fs) := s.at h (fun _ z => nomatch z)
/-- what stood stands; tables alone may have grown -/
def Kept (H H' : Hp) : Prop := ∀ a o, H a = some o → ∃ o', H' a = some o' ∧ (NoTab o → o' = o)
theorem Kept.at {H H' : Hp} (k : Kept H H') {a : Addr} {o : HO} (h : H a = some o) (nt : NoTab o := by intro ps z; cases z) : H' a = some o := by
  obtain ⟨o', e, q⟩ := k a o h
  rw [e, q nt]
theorem Kept.refl {H : Hp} : Kept H H := fun _ o h => ⟨o, h, fun _ => rfl⟩
theorem Kept.of {H H' : Hp} (e : Same H H') : Kept H H' := fun a o h => ⟨o, e a o h, fun _ => rfl⟩
theorem Kept.trans {H H1 H2 : Hp} (a : Kept H H1) (b : Kept H1 H2) : Kept H H2 := fun x o h => by
  obtain ⟨o1, e1, q1⟩ := a x o h
  obtain ⟨o2, e2, q2⟩ := b x o1 e1
  refine ⟨o2, e2, fun n => ?_⟩
  have e := q1 n
  rw [e] at q2
  exact q2 n
theorem Kept.none {H H' : Hp} (k : Kept H H') {a : Addr} (h : H' a = Option.none) : H a = Option.none := by
  cases e : H a with
  | none => rfl
  | some o =>
    obtain ⟨o', e', _⟩ := k a o e
    rw [e'] at h
    cases h
/-- a thing that is neither a table nor a code object -/
def Plain (o : HO) : Prop := NoTab o ∧ ∀ f, o ≠ .ext f
theorem tabS_but {H H' : Hp} {a p : Addr} {q : Str} (t : LamX.TabS H a q) (hp : ∀ o', H p = some o' → Plain o') (same : ∀ b, b ≠ p → H' b = H b) : LamX.TabS H' a q := by
  obtain ⟨ps, h1, h2, h3⟩ := t
  have na : a ≠ p := fun e => by
    rw [e] at h1
    exact (hp _ h1).1 ps rfl
  refine ⟨ps, by rw [same a na]; exact h1, h2, fun pos cv hc => ?_⟩
  obtain ⟨c, e1, e2⟩ := h3 pos cv hc
  have nc : c ≠ p := fun e => by
    rw [e] at e2
    exact (hp _ e2).2 _ rfl
  exact ⟨c, e1, by rw [same c nc]; exact e2⟩
theorem Sub.but {H' : Hp} (s : Sub F H) {p : Addr} (nF : F p = none) (hp : ∀ o', H p = some o' → Plain o') (same : ∀ b, b ≠ p → H' b = H b) : Sub F H' := ⟨fun a u h => by
  have e : a ≠ p := fun z => by
    rw [z, nF] at h
    cases h
  rcases s a u h with ⟨n, h | ⟨k, o', h⟩⟩ | ⟨q, e0, e1, t⟩
  · exact .inl ⟨n, .inl (by rw [same a e]; exact h)⟩
  · exact .inl ⟨n, .inr ⟨k, o', by rw [same a e]; exact h⟩⟩
  · exact .inr ⟨q, e0, e1, tabS_but t hp same⟩, s.tb⟩
theorem plain_of {p : Addr} {o : HO} (h : H p = some o) (n : Plain o := by exact ⟨fun _ z => (nomatch z), fun _ z => (nomatch z)⟩) : ∀ o', H p = some o' → Plain o' := fun o' e => by
  rw [h] at e
  cases e
  exact n
theorem tabS_upd {a p : Addr} {q : Str} {o : HO} (t : LamX.TabS H a q) (hp : ∀ o', H p = some o' → Plain o') : LamX.TabS (upd H p o) a q := by
  obtain ⟨ps, h1, h2, h3⟩ := t
  have na : a ≠ p := fun e => by
    rw [e] at h1
    exact (hp _ h1).1 ps rfl
  refine ⟨ps, by rw [upd_ne na]; exact h1, h2, fun pos cv hc => ?_⟩
  obtain ⟨c, e1, e2⟩ := h3 pos cv hc
  have nc : c ≠ p := fun e => by
    rw [e] at e2
    exact (hp _ e2).2 _ rfl
  exact ⟨c, e1, by rw [upd_ne nc]; exact e2⟩
theorem Sub.updN (s : Sub F H) {p : Addr} {o : HO} (nF : F p = none) (hp : ∀ o', H p = some o' → Plain o') : Sub F (upd H p o) := ⟨fun a u h => by
  have e : a ≠ p := fun z => by
    rw [z, nF] at h
    cases h
  rcases s a u h with ⟨n, h | ⟨k, o', h⟩⟩ | ⟨q, e0, e1, t⟩
  · exact .inl ⟨n, .inl (by rw [upd_ne e]; exact h)⟩
  · exact .inl ⟨n, .inr ⟨k, o', by rw [upd_ne e]; exact h⟩⟩
  · exact .inr ⟨q, e0, e1, tabS_upd t hp⟩, s.tb⟩
theorem plain_none {p : Addr} (n : H p = none) : ∀ o', H p = some o' → Plain o' := fun o' e => by
  rw [n] at e
  cases e
/-- F gets what lies at p -/
theorem Sub.laid (s : Sub F H) {p : Addr} {o : HO} (h : H p = some o) (nt : NoTab o) : Sub (L2.upd F p o) H := ⟨fun a u hu => by
  by_cases e : a = p
  · subst e
    rw [upd_same] at hu
    cases hu
    exact .inl ⟨nt, .inl h⟩
  · rw [upd_ne e] at hu
    exact s a u hu, fun q hq => by
  by_cases e : q.1 = p
  · obtain ⟨q', _, _, ps, t, _⟩ := (s _ _ (s.tb q hq)).resolve_left fun z => z.1 _ rfl
    rw [e, h] at t
    exact absurd (Option.some.inj t) (nt ps)
  · rw [upd_ne e]
    exact s.tb q hq⟩
theorem Sub.same {H' : Hp} (s : Sub F H) (e : Same H H') : Sub F H' := ⟨fun a u h => by
  rcases s a u h with ⟨n, h | ⟨k, o', h⟩⟩ | ⟨q, e0, e1, t⟩
  · exact .inl ⟨n, .inl (e _ _ h)⟩
  · exact .inl ⟨n, .inr ⟨k, o', e _ _ h⟩⟩
  · exact .inr ⟨q, e0, e1, t.ext e⟩, s.tb⟩
/-- less of F -/
theorem Sub.less {F' : Hp} (s : Sub F' H) (le : Le F F') (mk : ∀ p ∈ Tb.t, F p.1 = some (tabM p.2)) : Sub F H := ⟨fun a u h => s a u (le a u h), mk⟩
/-- nothing but the tables -/
def mkF : Hp := fun a => match Tb.t.find? (fun p => p.1 == a) with
  | some p => some (tabM p.2)
  | none => none
theorem mkF_at {p : Addr × Str} (h : p ∈ Tb.t) : mkF p.1 = some (tabM p.2) := by
  unfold mkF
  cases e : Tb.t.find? (fun q => q.1 == p.1) with
  | none => exact absurd (by simp : (p.1 == p.1) = true) (List.find?_eq_none.mp e p h)
  | some q =>
    have h1 := List.mem_of_find?_eq_some e
    have h2 : (q.1 == p.1) = true := by simpa using List.find?_some e
    have h2 : q.1 = p.1 := by simpa using h2
    show some (tabM q.2) = _
    rw [Tb.u q h1 p h h2]
theorem mkF_of {a : Addr} {u : HO} (h : mkF a = some u) : ∃ q, (a, q) ∈ Tb.t ∧ u = tabM q := by
  unfold mkF at h
  cases e : Tb.t.find? (fun q => q.1 == a) with
  | none =>
    rw [e] at h
    cases h
  | some q =>
    rw [e] at h
    cases h
    have h1 := List.mem_of_find?_eq_some e
    have h2 : (q.1 == a) = true := by simpa using List.find?_some e
    have h2 : q.1 = a := by simpa using h2
    exact ⟨q.2, by rw [← h2]; exact h1, rfl⟩
theorem mkF_sub (h : ∀ p ∈ Tb.t, LamX.TabS H p.1 p.2) : Sub mkF H := ⟨fun a u e => by
  obtain ⟨q, h1, h2⟩ := mkF_of e
  exact .inr ⟨q, h1, h2, h _ h1⟩, fun p hp => mkF_at hp⟩
theorem mkF_le (s : Sub F H) : Le mkF F := fun a u e => by
  obtain ⟨q, h1, h2⟩ := mkF_of e
  rw [h2]
  exact s.tb _ h1
/-- what stands, and is no table, is not among the tables -/
theorem mkF_no (s : Sub F H) {a : Addr} {o : HO} (h : H a = some o) (nt : NoTab o := by intro ps z; cases z) : (mkF a : Option HO) = none := by
  cases e : (mkF a : Option HO) with
  | none => rfl
  | some u =>
    obtain ⟨q, h1, h2⟩ := mkF_of e
    obtain ⟨q', _, _, ps, t, _⟩ := (s _ _ (s.tb _ h1)).resolve_left fun z => z.1 _ rfl
    rw [h] at t
    exact absurd (Option.some.inj t) (nt ps)
structure Ext (F H F' H' : Hp) : Prop where
  le : Le F F'
  sub : Sub F' H'
  same : Kept H H'
  new : ∀ a, F' a ≠ none → F a ≠ none ∨ H a = none
theorem Ext.refl (s : Sub F H) : Ext F H F H := ⟨Le.refl, s, Kept.refl, fun _ h => .inl h⟩
theorem upd_le {F : Hp} {p : Addr} {o : HO} (h : F p = none) : Le F (upd F p o) := fun b u e => by
  rw [upd_ne (ne_of_none e h)]
  exact e
theorem Ext.laid (s : Sub F H) {p : Addr} {o : HO} (n : H p = none) (nt : NoTab o := by intro ps z; cases z) : Ext F H (upd F p o) (upd H p o) := by
  refine ⟨upd_le (s.isN n), (s.updN (s.isN n) (plain_none n)).laid upd_same nt, Kept.of (same_new n), fun a h => ?_⟩
  by_cases e : a = p
  · subst e
    exact .inr n
  · rw [upd_ne e] at h
    exact .inl h
/-- a new thing that is not yet frozen -/
theorem Ext.fresh (s : Sub F H) {p : Addr} {o : HO} (n : H p = none) : Ext F H F (upd H p o) := ⟨Le.refl, s.updN (s.isN n) (plain_none n), Kept.of (same_new n), fun a h => .inl h⟩
theorem Ext.trans {F1 H1 F2 H2 : Hp} (a : Ext F H F1 H1) (b : Ext F1 H1 F2 H2) : Ext F H F2 H2 := by
  refine ⟨a.le.trans b.le, b.sub, a.same.trans b.same, fun x h => ?_⟩
  rcases b.new x h with h | h
  · exact a.new x h
  · exact .inr (a.same.none h)
/-- what is wanted of a pure result -/
def Out (K : PySem.W.Frag) (F H : Hp) (d : D) (Q : VK) : Prop := ∀ v H' F', Ext F H F' H' → Den K F' v d → Q v H'
theorem Out.here {d : D} {Q : VK} {v : V} (o : Out K F H d Q) (s : Sub F H) (h : Den K F v d) : Q v H := o v H F (Ext.refl s) h
theorem Out.tup {ds : List D} {vs : List V} {Q : VK} (o : Out K F H (.tup ds) Q) (s : Sub F H) (h : DenAll K F vs ds) {p : Addr} (n : H p = none) : Q (.ref p) (upd H p (.tup vs)) :=
  o _ _ _ (Ext.laid s n) (.tup (.inl upd_same) (h.mono (upd_le (s.isN n))))
theorem Out.lst {ds : List D} {vs : List V} {Q : VK} (o : Out K F H (.lst ds) Q) (s : Sub F H) (h : DenAll K F vs ds) {p : Addr} (n : H p = none) : Q (.ref p) (upd H p (.lst vs)) :=
  o _ _ _ (Ext.laid s n) (.lst upd_same (h.mono (upd_le (s.isN n))))
end
/-! ### the state of a def: its names, the pot -/
inductive LV where
  | d (x : D) | l (xs : List D) | k (ks : List Key) (vs : List D) | p
def LV.own : LV → Bool
  | .l _ => true
  | .k _ _ => true
  | _ => false
structure Pot where
  a : Int
  b : Int
  c : Int
/-- what is borrowed: the pot, or an object that is changed (its class, its fields) -/
inductive Bw where
  | pot (p : Pot) | obj (c : Str) (ks : List Str) (vs : List D)
  | rd (u : D) (ks : List Key) (vs : List D) (ks2 : List Key) (vs2 : List D)
/-- where the borrowed thing stands: its own address, those of what it alone holds -/
structure Plc where
  root : Addr
  more : List Addr
def Plc.has (pa : Plc) (a : Addr) : Prop := a = pa.root ∨ a ∈ pa.more
abbrev Env' := List (Option LV)
structure S where
  e : Env'
  p : Bw
def SlotOk (K : PySem.W.Frag) (pa : Plc) (F H : Hp) : V → LV → Prop
  | v, .d x => Den K F v x
  | .ref a, .l xs => F a = none ∧ ∃ vs, H a = some (.lst vs) ∧ DenAll K F vs xs
  | .ref a, .k ks xs => F a = none ∧ ∃ vs, H a = some (.dK (ks.zip vs)) ∧ ks.length = vs.length ∧ DenAll K F vs xs
  | .ref a, .p => a = pa.root
  | _, _ => False
def Owns (σ : L2.St) (e : Env') (i : Nat) (a : Addr) : Prop := σ[i]? = some (some (.ref a)) ∧ ∃ x, e[i]? = some (some x) ∧ x.own = true
def HasP (e : Env') : Prop := ∃ i : Nat, e[i]? = some (some .p)
def Pot.vs (p : Pot) : List V := [.int p.a, .int p.b, .int p.c]
def BorAt (K : PySem.W.Frag) (F H : Hp) (pa : Plc) : Bw → Prop
  | .pot p => pa.more = [] ∧ H pa.root = some (.lst p.vs)
  | .obj c ks ds => pa.more = [] ∧ OwnC K (He.ga K c) ∧ ∃ dx vs, H pa.root = some (.ins (He.ga K c) dx (ks.zip vs)) ∧ ks.length = vs.length ∧ DenAll K F vs ds
  | .rd u ks ds ks2 ds2 => OwnC K (He.ga K "Reading") ∧ ∃ r q dx uv vs vs2, pa.more = [r, q] ∧ r ≠ q ∧ pa.root ≠ r ∧ pa.root ≠ q ∧ H pa.root = some (.ins (He.ga K "Reading") dx [("own_units", uv), ("own_rows", .ref r), ("own_depths", .ref q)]) ∧ Den K F uv u ∧
      H r = some (.dK (ks.zip vs)) ∧ ks.length = vs.length ∧ DenAll K F vs ds ∧ H q = some (.dK (ks2.zip vs2)) ∧ ks2.length = vs2.length ∧ DenAll K F vs2 ds2
theorem BorAt.isS {K : PySem.W.Frag} {F H : Hp} {pa : Plc} {p : Bw} (h : BorAt K F H pa p) {a : Addr} (ha : pa.has a) : ∃ o, H a = some o := by
  cases p with
  | pot p =>
    obtain ⟨h1, h2⟩ := h
    rcases ha with rfl | ha
    · exact ⟨_, h2⟩
    · rw [h1] at ha
      cases ha
  | obj c ks ds =>
    obtain ⟨h1, _, dx, vs, h, _⟩ := h
    rcases ha with rfl | ha
    · exact ⟨_, h⟩
    · rw [h1] at ha
      cases ha
  | rd u ks ds ks2 ds2 =>
    obtain ⟨_, r, q, dx, uv, vs, vs2, h1, _, _, _, h2, _, h3, _, _, h4, _⟩ := h
    rcases ha with rfl | ha
    · exact ⟨_, h2⟩
    · rw [h1] at ha
      rcases List.mem_cons.mp ha with rfl | ha
      · exact ⟨_, h3⟩
      · rcases List.mem_cons.mp ha with rfl | ha
        · exact ⟨_, h4⟩
        · cases ha
theorem BorAt.to {K : PySem.W.Frag} {F H F' H' : Hp} {pa : Plc} {p : Bw} (h : BorAt K F H pa p) (le : Le F F') (k : ∀ a o, pa.has a → H a = some o → NoTab o → H' a = some o) : BorAt K F' H' pa p := by
  cases p with
  | pot p => exact ⟨h.1, k _ _ (.inl rfl) h.2 (fun _ z => nomatch z)⟩
  | obj c ks ds =>
    obtain ⟨m, w, dx, vs, h1, h2, h3⟩ := h
    exact ⟨m, w, dx, vs, k _ _ (.inl rfl) h1 (fun _ z => nomatch z), h2, h3.mono le⟩
  | rd u ks ds ks2 ds2 =>
    obtain ⟨w, r, q, dx, uv, vs, vs2, h1, n1, n2, n3, h2, hu, h3, l3, d3, h4, l4, d4⟩ := h
    exact ⟨w, r, q, dx, uv, vs, vs2, h1, n1, n2, n3, k _ _ (.inl rfl) h2 (fun _ z => nomatch z), hu.mono le, k _ _ (.inr (by rw [h1]; exact .head _)) h3 (fun _ z => nomatch z), l3, d3.mono le, k _ _ (.inr (by rw [h1]; exact .tail _ (.head _))) h4 (fun _ z => nomatch z), l4, d4.mono le⟩
structure Rep (K : PySem.W.Frag) (pa : Plc) (F H : Hp) (σ : L2.St) (s : S) : Prop where
  sub : Sub F H
  len : σ.length = s.e.length
  slot : ∀ (i : Nat) (x : LV), s.e[i]? = some (some x) → ∃ v, σ[i]? = some (some v) ∧ SlotOk K pa F H v x
  uniq : ∀ i j a, Owns σ s.e i a → Owns σ s.e j a → i = j
  pot : HasP s.e → (∀ a, pa.has a → F a = none) ∧ BorAt K F H pa s.p ∧ ∀ i a, pa.has a → ¬ Owns σ s.e i a
def OwnA (pa : Plc) (σ : L2.St) (s : S) (a : Addr) : Prop := (∃ i, Owns σ s.e i a) ∨ (HasP s.e ∧ pa.has a)
structure Step (pa : Plc) (F H : Hp) (σ : L2.St) (s : S) (F' H' : Hp) (σ' : L2.St) (s' : S) : Prop where
  le : Le F F'
  keep : ∀ a o, H a = some o → ¬ OwnA pa σ s a → ∃ o', H' a = some o' ∧ (NoTab o → o' = o)
  new : ∀ a, F' a ≠ none → F a ≠ none ∨ H a = none ∨ OwnA pa σ s a
  own : ∀ a, OwnA pa σ' s' a → OwnA pa σ s a ∨ H a = none
section
variable {K : PySem.W.Frag} {pa : Plc} {F H F1 H1 F2 H2 F' H' : Hp} {σ σ1 σ2 : L2.St} {s s1 s2 : S}
theorem Step.refl : Step pa F H σ s F H σ s := ⟨Le.refl, fun _ o h _ => ⟨o, h, fun _ => rfl⟩, fun _ h => .inl h, fun _ h => .inl h⟩
theorem Step.at (st : Step pa F H σ s F1 H1 σ1 s1) {a : Addr} {o : HO} (h : H a = some o) (n : ¬ OwnA pa σ s a) (nt : NoTab o := by intro ps z; cases z) : H1 a = some o := by
  obtain ⟨o', e, q⟩ := st.keep a o h n
  rw [e, q nt]
theorem Step.trans (a : Step pa F H σ s F1 H1 σ1 s1) (b : Step pa F1 H1 σ1 s1 F2 H2 σ2 s2) : Step pa F H σ s F2 H2 σ2 s2 := by
  have back : ∀ x, OwnA pa σ1 s1 x → OwnA pa σ s x ∨ H x = none := a.own
  have none1 : ∀ x, H1 x = none → H x = none ∨ OwnA pa σ s x := fun x h => by
    cases e : H x with
    | none => exact .inl rfl
    | some o =>
      refine .inr (Classical.byContradiction fun n => ?_)
      obtain ⟨o', e', _⟩ := a.keep x o e n
      rw [e'] at h
      cases h
  refine ⟨a.le.trans b.le, fun x o h n => ?_, fun x h => ?_, fun x h => ?_⟩
  · obtain ⟨o1, e1, q1⟩ := a.keep x o h n
    obtain ⟨o2, e2, q2⟩ := b.keep x o1 e1 fun q => by
      rcases back x q with q | q
      · exact n q
      · rw [h] at q
        cases q
    refine ⟨o2, e2, fun m => ?_⟩
    have e := q1 m
    rw [e] at q2
    exact q2 m
  · rcases b.new x h with h | h | h
    · exact a.new x h
    · exact .inr (none1 x h)
    · rcases back x h with q | q
      · exact .inr (.inr q)
      · exact .inr (.inl q)
  · rcases b.own x h with h | h
    · exact back x h
    · exact (none1 x h).symm
theorem Ext.step (e : Ext F H F' H') : Step pa F H σ s F' H' σ s := ⟨e.le, fun a o h _ => e.same a o h, fun a h => (e.new a h).imp_right .inl, fun _ h => .inl h⟩
theorem SlotOk.ext {v : V} {x : LV} (e : Ext F H F' H') (h : SlotOk K pa F H v x) : SlotOk K pa F' H' v x := by
  have nn : ∀ a o, F a = none → H a = some o → F' a = none := fun a o hf hh => by
    cases q : F' a with
    | none => rfl
    | some u =>
      rcases e.new a (by rw [q]; exact fun z => nomatch z) with z | z
      · exact absurd hf z
      · rw [hh] at z
        cases z
  cases x with
  | d x => cases v <;> exact Den.mono e.le h
  | l xs =>
    cases v with
    | ref a =>
      obtain ⟨h1, vs, h2, h3⟩ := h
      exact ⟨nn a _ h1 h2, vs, e.same.at h2, h3.mono e.le⟩
    | _ => exact h.elim
  | k ks xs =>
    cases v with
    | ref a =>
      obtain ⟨h1, vs, h2, h4, h3⟩ := h
      exact ⟨nn a _ h1 h2, vs, e.same.at h2, h4, h3.mono e.le⟩
    | _ => exact h.elim
  | p =>
    cases v with
    | ref a => exact h
    | _ => exact h.elim
theorem Rep.ext (r : Rep K pa F H σ s) (e : Ext F H F' H') : Rep K pa F' H' σ s := by
  refine ⟨e.sub, r.len, fun i x h => ?_, r.uniq, fun h => ?_⟩
  · obtain ⟨v, h1, h2⟩ := r.slot i x h
    exact ⟨v, h1, h2.ext e⟩
  · obtain ⟨h1, h2, h3⟩ := r.pot h
    refine ⟨fun a ha => ?_, h2.to e.le (fun a o _ h n => e.same.at h n), h3⟩
    cases q : F' a with
    | none => rfl
    | some u =>
      rcases e.new a (by rw [q]; exact fun z => nomatch z) with z | z
      · exact absurd (h1 a ha) z
      · obtain ⟨o, ho⟩ := h2.isS ha
        rw [ho] at z
        cases z
end
/-! ### outcomes -/
inductive Rs (α : Type) where
  | ok (a : α) (s : S) | ex (c : Str) (v : D) (s : S) | no
def Rs.bind {α β : Type} : Rs α → (α → S → Rs β) → Rs β
  | .ok a s, f => f a s
  | .ex c v s, _ => .ex c v s
  | .no, _ => .no
def liftO {α : Type} (o : Option α) (s : S) : Rs α := match o with
  | some d => .ok d s
  | none => .no
/-- how an error lies: its class's name, what it keeps -/
def ExAt (K : PySem.W.Frag) (W : L2.St → XK) (F' H' : Hp) (σ : L2.St) (c : Str) (d : D) : Prop := ∀ v da, Den K F' v d → F' da = some (.xd [("value", v)]) → W σ (.ref (He.ga K c)) (some da) H'
def Fin {α β : Type} (den : Hp → Hp → β → α → Prop) (K : PySem.W.Frag) (pa : Plc) (W : L2.St → XK) (F H : Hp) (σ : L2.St) (s : S) (r : Rs α) (Q : β → Hp → Prop) : Prop := match r with
  | .ok x s' => ∀ v H' F', Step pa F H σ s F' H' σ s' → Rep K pa F' H' σ s' → den F' H' v x → Q v H'
  | .ex c d s' => ∀ H' F', Step pa F H σ s F' H' σ s' → Rep K pa F' H' σ s' → ExAt K W F' H' σ c d
  | .no => False
def tG {α β : Type} (den : Hp → Hp → β → α → Prop) (K : PySem.W.Frag) (pa : Plc) (W : L2.St → XK) (f : S → Rs α) : L2.St → Hp → (β → Hp → Prop) → Prop := fun σ H Q => ∃ F s, Rep K pa F H σ s ∧ Fin den K pa W F H σ s (f s) Q
def dV (K : PySem.W.Frag) : Hp → Hp → V → D → Prop := fun F _ v x => Den K F v x
def dA (K : PySem.W.Frag) : Hp → Hp → List V → List D → Prop := fun F _ v x => DenAll K F v x
def dB : Hp → Hp → Bool → Bool → Prop := fun _ _ a b => a = b
abbrev tV (K : PySem.W.Frag) (pa : Plc) (W : L2.St → XK) (f : S → Rs D) : TE := tG (dV K) K pa W f
abbrev tVA (K : PySem.W.Frag) (pa : Plc) (W : L2.St → XK) (f : S → Rs (List D)) : TA := tG (dA K) K pa W f
abbrev tVB (K : PySem.W.Frag) (pa : Plc) (W : L2.St → XK) (f : S → Rs Bool) : TT := tG dB K pa W f
section
variable {K : PySem.W.Frag} {pa : Plc} {W : L2.St → XK} {F H F1 H1 : Hp} {σ : L2.St} {s s1 : S} {α β γ δ : Type} {den : Hp → Hp → β → α → Prop} {den2 : Hp → Hp → δ → γ → Prop}
theorem Fin.mono {r : Rs α} {Q Q' : β → Hp → Prop} (h : Fin den K pa W F H σ s r Q) (m : ∀ v H', Q v H' → Q' v H') : Fin den K pa W F H σ s r Q' := by
  cases r with
  | ok x s' => exact fun v H' F' a b c => m _ _ (h v H' F' a b c)
  | ex c d s' => exact h
  | no => exact h
theorem Fin.shift {r : Rs α} {Q : β → Hp → Prop} (st : Step pa F H σ s F1 H1 σ s1) (h : Fin den K pa W F H σ s r Q) : Fin den K pa W F1 H1 σ s1 r Q := by
  cases r with
  | ok x s' => exact fun v H' F' a b c => h v H' F' (st.trans a) b c
  | ex c d s' => exact fun H' F' a b => h H' F' (st.trans a) b
  | no => exact h
theorem Fin.bind {r : Rs α} {k : α → S → Rs γ} {Q : δ → Hp → Prop} (h : Fin den2 K pa W F H σ s (r.bind k) Q) :
    Fin den K pa W F H σ s r (fun v H1 => ∃ F1 s1 x, Step pa F H σ s F1 H1 σ s1 ∧ Rep K pa F1 H1 σ s1 ∧ den F1 H1 v x ∧ Fin den2 K pa W F1 H1 σ s1 (k x s1) Q) := by
  cases r with
  | ok x s' => exact fun v H' F' a b c => ⟨F', s', x, a, b, c, Fin.shift a h⟩
  | ex c d s' => exact h
  | no => exact h
theorem Fin.lift {o : Option D} {Q : VK} (rep : Rep K pa F H σ s) (h : Fin (dV K) K pa W F H σ s (liftO o s) Q) : ∃ z, o = some z ∧ Out K F H z Q := by
  cases o with
  | none => exact False.elim h
  | some z => exact ⟨z, rfl, fun v H' F' e d => h v H' F' e.step (rep.ext e) d⟩
theorem Fin.here {x : α} {Q : β → Hp → Prop} {v : β} (rep : Rep K pa F H σ s) (h : Fin den K pa W F H σ s (.ok x s) Q) (d : den F H v x) : Q v H := h v H F Step.refl rep d
end
theorem _root_.L2.PE.mono {X : Cx} {e : Expr} {t u : TE} (h : PE X e t) (m : ∀ σ H Q, u σ H Q → t σ H Q) : PE X e u := ⟨fun pins s σ H Q I z => h.run pins s σ H Q I (m σ H Q z)⟩
theorem _root_.L2.PT.mono {X : Cx} {e : Expr} {t u : TT} (h : PT X e t) (m : ∀ σ H Q, u σ H Q → t σ H Q) : PT X e u := ⟨fun pins s σ H Q I z => h.run pins s σ H Q I (m σ H Q z)⟩
theorem _root_.L2.PW.mono {X : Cx} {e : Expr} {t u : TT} (h : PW X e t) (m : ∀ σ H Q, u σ H Q → t σ H Q) : PW X e u := ⟨fun wh pins s σ H Q I z => h.run wh pins s σ H Q I (m σ H Q z)⟩
theorem _root_.L2.PA.mono {X : Cx} {e : List Expr} {t u : TA} (h : PA X e t) (m : ∀ σ H Q, u σ H Q → t σ H Q) : PA X e u := ⟨fun pos pins s σ H Q I z => h.run pos pins s σ H Q I (m σ H Q z)⟩
theorem _root_.L2.PS.mono {X : Cx} {e : Stmt} {t u : TS} (h : PS X e t) (m : ∀ D σ H, u D σ H → t D σ H) : PS X e u := ⟨fun pins s σ H Q I z => h.run pins s σ H Q I (m Q σ H z)⟩
theorem _root_.L2.PSs.mono {X : Cx} {e : List Stmt} {t u : TS} (h : PSs X e t) (m : ∀ D σ H, u D σ H → t D σ H) : PSs X e u := ⟨fun pins s σ H Q I z => h.run pins s σ H Q I (m Q σ H z)⟩
theorem _root_.L2.PS.or {X : Cx} {e : Stmt} {t u : TS} (h : PS X e t) (h2 : PS X e u) : PS X e (fun D σ H => t D σ H ∨ u D σ H) := ⟨fun pins s σ H Q I z => z.elim (h.run pins s σ H Q I) (h2.run pins s σ H Q I)⟩
theorem _root_.L2.PE.or {X : Cx} {e : Expr} {t u : TE} (h : PE X e t) (h2 : PE X e u) : PE X e (fun D σ H => t D σ H ∨ u D σ H) := ⟨fun pins s σ H Q I z => z.elim (h.run pins s σ H Q I) (h2.run pins s σ H Q I)⟩

/-! ### mirrors of expressions -/
def mVar (i : Nat) : S → Rs D := fun s => match s.e[i]? with
  | some (some (.d x)) => .ok x s
  | some (some (.l xs)) => .ok (.lst xs) { s with e := s.e.set i (some (.d (.lst xs))) }
  | some (some (.k ks vs)) => .ok (.dic ks vs) { s with e := s.e.set i (some (.d (.dic ks vs))) }
  | _ => .no
def mC (d : D) : S → Rs D := fun s => .ok d s
def mOp (g : D → D → Option D) (fa fb : S → Rs D) : S → Rs D := fun s => (fa s).bind fun x s1 => (fb s1).bind fun y s2 => liftO (g x y) s2
def mUn (g : D → Option D) (fa : S → Rs D) : S → Rs D := fun s => (fa s).bind fun x s1 => liftO (g x) s1
def mChain (g g' : D → D → Option D) (fa fb fc : S → Rs D) : S → Rs D := fun s => (fa s).bind fun x s1 => (fb s1).bind fun y s2 => match g x y with
  | some (.bl true) => (fc s2).bind fun z s3 => liftO (g' y z) s3
  | some (.bl false) => .ok (.bl false) s2
  | _ => .no
def mIf (ft : S → Rs Bool) (fa fb : S → Rs D) : S → Rs D := fun s => (ft s).bind fun c s1 => match c with
  | true => fa s1
  | false => fb s1
def mAnd (fa fb : S → Rs D) : S → Rs D := fun s => (fa s).bind fun x s1 => match x with
  | .bl true => fb s1
  | .bl false => .ok (.bl false) s1
  | _ => .no
def mOr (fa fb : S → Rs D) : S → Rs D := fun s => (fa s).bind fun x s1 => match x with
  | .bl true => .ok (.bl true) s1
  | .bl false => fb s1
  | _ => .no
def mNot (fa : S → Rs D) : S → Rs D := fun s => (fa s).bind fun x s1 => match x with
  | .bl b => .ok (.bl (!b)) s1
  | _ => .no
/-- tests -/
def mTest (fa : S → Rs D) : S → Rs Bool := fun s => (fa s).bind fun x s1 => match x with
  | .bl b => .ok b s1
  | _ => .no
def truD : D → Option Bool
  | .non => some false
  | .bl b => some b
  | .int i => some (i != 0)
  | .tup xs => some !xs.isEmpty
  | .lst xs => some !xs.isEmpty
  | _ => none
def mTru (fa : S → Rs D) : S → Rs Bool := fun s => (fa s).bind fun x s1 => liftO (truD x) s1
def mAndT (fa fb : S → Rs Bool) : S → Rs Bool := fun s => (fa s).bind fun x s1 => match x with
  | true => fb s1
  | false => .ok false s1
def mOrT (fa fb : S → Rs Bool) : S → Rs Bool := fun s => (fa s).bind fun x s1 => match x with
  | true => .ok true s1
  | false => fb s1
def mNotT (fa : S → Rs Bool) : S → Rs Bool := fun s => (fa s).bind fun x s1 => .ok (!x) s1
/-- arguments -/
def mNil : S → Rs (List D) := fun s => .ok [] s
def mCons (fa : S → Rs D) (fr : S → Rs (List D)) : S → Rs (List D) := fun s => (fa s).bind fun x s1 => (fr s1).bind fun xs s2 => .ok (x :: xs) s2
def mStar (fa : S → Rs D) (fr : S → Rs (List D)) : S → Rs (List D) := fun s => (fa s).bind fun x s1 => match x with
  | .tup ys => (fr s1).bind fun xs s2 => .ok (ys ++ xs) s2
  | .lst ys => (fr s1).bind fun xs s2 => .ok (ys ++ xs) s2
  | _ => .no
def tupD (xs : List D) : Option D := if xs.length ≤ 100000 then some (.tup xs) else none
def lstD (xs : List D) : Option D := if xs.length ≤ 100000 then some (.lst xs) else none
def mTup (fa : S → Rs (List D)) : S → Rs D := fun s => (fa s).bind fun xs s1 => liftO (tupD xs) s1
def mLst (fa : S → Rs (List D)) : S → Rs D := fun s => (fa s).bind fun xs s1 => liftO (lstD xs) s1
def mCB (g : List D → Option D) (fa : S → Rs (List D)) : S → Rs D := fun s => (fa s).bind fun xs s1 => liftO (g xs) s1
/-! ### values' rules -/
def LiftOp (K : PySem.W.Frag) (r : R2) (g : D → D → Option D) : Prop := ∀ (F H : Hp) (x y : V) (a b z : D) (Q : VK), Sub F H → Den K F x a → Den K F y b → g a b = some z → Out K F H z Q → r x y H Q
def LiftUn (K : PySem.W.Frag) (r : V → Hp → VK → Prop) (g : D → Option D) : Prop := ∀ (F H : Hp) (x : V) (a z : D) (Q : VK), Sub F H → Den K F x a → g a = some z → Out K F H z Q → r x H Q
def LiftCB (K : PySem.W.Frag) (r : List V → Hp → VK → Prop) (g : List D → Option D) : Prop := ∀ (F H : Hp) (xs : List V) (as : List D) (z : D) (Q : VK), Sub F H → DenAll K F xs as → g as = some z → Out K F H z Q → r xs H Q
section
variable {X : Cx} {K : PySem.W.Frag} {pa : Plc} {W : L2.St → XK} {a b c : Expr} {fa fb fc : S → Rs D} {pos : Pos}
theorem Own.set_d {σ : L2.St} {e : Env'} {i j : Nat} {a : Addr} {x : D} (h : Owns σ (e.set i (some (.d x))) j a) : j ≠ i ∧ Owns σ e j a := by
  obtain ⟨h1, y, h2, h3⟩ := h
  by_cases q : j = i
  · subst q
    by_cases l : j < e.length
    · rw [List.getElem?_set_self l] at h2
      cases h2
      cases h3
    · rw [List.getElem?_eq_none (by simpa using l)] at h2
      cases h2
  · rw [List.getElem?_set_ne (Ne.symm q)] at h2
    exact ⟨q, h1, y, h2, h3⟩
theorem HasP.of_set {e : Env'} {i : Nat} {x : D} (h : HasP (e.set i (some (.d x)))) : HasP e := by
  obtain ⟨j, h⟩ := h
  by_cases q : j = i
  · subst q
    by_cases l : j < e.length
    · rw [List.getElem?_set_self l] at h
      cases h
    · rw [List.getElem?_eq_none (by simpa using l)] at h
      cases h
  · rw [List.getElem?_set_ne (Ne.symm q)] at h
    exact ⟨j, h⟩
/-- what a name owns is frozen -/
theorem Rep.freeze {F H : Hp} {σ : L2.St} {s : S} {i : Nat} {a : Addr} {y : LV} {o : HO} {x : D} (r : Rep K pa F H σ s) (ho : Owns σ s.e i a) (hf : F a = none) (hh : H a = some o) (hd : Den K (upd F a o) (.ref a) x) (nt : NoTab o := by intro ps z; cases z) :
    Step pa F H σ s (upd F a o) H σ { s with e := s.e.set i (some (.d x)) } ∧ Rep K pa (upd F a o) H σ { s with e := s.e.set i (some (.d x)) } := by
  have le : Le F (upd F a o) := upd_le hf
  have npa : HasP s.e → ¬ pa.has a := fun hp z => (r.pot hp).2.2 i a z ho
  refine ⟨⟨le, fun _ o h _ => ⟨o, h, fun _ => rfl⟩, fun b h => ?_, fun b h => ?_⟩, ⟨r.sub.laid hh nt, by simpa using r.len, fun j z h => ?_, fun j k b h1 h2 => ?_, fun h => ?_⟩⟩
  · by_cases e : b = a
    · subst e
      exact .inr (.inr (.inl ⟨i, ho⟩))
    · rw [upd_ne e] at h
      exact .inl h
  · rcases h with ⟨j, h⟩ | ⟨h, e⟩
    · exact .inl (.inl ⟨j, (Own.set_d h).2⟩)
    · exact .inl (.inr ⟨HasP.of_set h, e⟩)
  · have h : (s.e.set i (some (.d x)))[j]? = some (some z) := h
    by_cases q : j = i
    · subst q
      have l : j < s.e.length := by
        obtain ⟨_, y, h2, _⟩ := ho
        exact (List.getElem?_eq_some_iff.mp h2).1
      rw [List.getElem?_set_self l] at h
      cases h
      exact ⟨_, ho.1, hd⟩
    · rw [List.getElem?_set_ne (Ne.symm q)] at h
      obtain ⟨v, h1, h2⟩ := r.slot j z h
      refine ⟨v, h1, ?_⟩
      have ne : ∀ b, v = .ref b → z.own = true → b ≠ a := fun b e1 e2 e3 => by
        subst e1
        subst e3
        exact q (r.uniq j i b ⟨h1, z, h, e2⟩ ho)
      cases z with
      | d x => cases v <;> exact Den.mono le h2
      | l xs =>
        cases v with
        | ref b =>
          obtain ⟨q1, vs, q2, q3⟩ := h2
          exact ⟨by rw [upd_ne (ne b rfl rfl)]; exact q1, vs, q2, q3.mono le⟩
        | _ => exact h2.elim
      | k ks xs =>
        cases v with
        | ref b =>
          obtain ⟨q1, vs, q2, q4, q3⟩ := h2
          exact ⟨by rw [upd_ne (ne b rfl rfl)]; exact q1, vs, q2, q4, q3.mono le⟩
        | _ => exact h2.elim
      | p =>
        cases v with
        | ref b => exact h2
        | _ => exact h2.elim
  · exact r.uniq j k b (Own.set_d h1).2 (Own.set_d h2).2
  · obtain ⟨h1, h2, h3⟩ := r.pot (HasP.of_set h)
    exact ⟨fun b hb => by rw [upd_ne (fun z => npa (HasP.of_set h) (by rw [← z]; exact hb))]; exact h1 b hb, h2.to le (fun _ _ _ z _ => z), fun j b hb z => h3 j b hb (Own.set_d z).2⟩
theorem pv_var {i : Nat} (h : PE X a (tVar i)) : PE X a (tV K pa W (mVar i)) := by
  refine h.mono ?_
  rintro σ H Q ⟨F, s, rep, h⟩
  unfold mVar at h
  cases e : s.e[i]? with
  | none =>
    rw [e] at h
    exact False.elim h
  | some o =>
    cases o with
    | none =>
      rw [e] at h
      exact False.elim h
    | some y =>
      rw [e] at h
      obtain ⟨v, h1, h2⟩ := rep.slot i y e
      refine ⟨v, h1, ?_⟩
      cases y with
      | d x => exact h v H F Step.refl rep (by cases v <;> exact h2)
      | l xs =>
        cases v with
        | ref a =>
          obtain ⟨q1, vs, q2, q3⟩ := h2
          obtain ⟨st, rp⟩ := rep.freeze (y := .l xs) (x := .lst xs) ⟨h1, _, e, rfl⟩ q1 q2 (.lst upd_same (q3.mono (upd_le q1)))
          exact h _ _ _ st rp (.lst upd_same (q3.mono (upd_le q1)))
        | _ => exact h2.elim
      | k ks xs =>
        cases v with
        | ref a =>
          obtain ⟨q1, vs, q2, q4, q3⟩ := h2
          obtain ⟨st, rp⟩ := rep.freeze (y := .k ks xs) (x := .dic ks xs) ⟨h1, _, e, rfl⟩ q1 q2 (.dic upd_same q4 (q3.mono (upd_le q1)))
          exact h _ _ _ st rp (.dic upd_same q4 (q3.mono (upd_le q1)))
        | _ => exact h2.elim
      | p => exact False.elim h
theorem pv_c {v : V} {d : D} (h : PE X a (tC v)) (hd : ∀ F, Den K F v d) : PE X a (tV K pa W (mC d)) := by
  refine h.mono ?_
  rintro σ H Q ⟨F, s, rep, h⟩
  exact h v H F Step.refl rep (hd F)
theorem v_int {i : Int} {k : Nat} : PE X (.Constant (.int i) k pos) (tV K pa W (mC (.int i))) := pv_c pe_int fun _ => .int i
theorem v_str {x : Str} {k : Nat} : PE X (.Constant (.str x) k pos) (tV K pa W (mC (.str x))) := pv_c pe_str fun _ => .str x
theorem v_bl {x : Bool} {k : Nat} : PE X (.Constant (.bool x) k pos) (tV K pa W (mC (.bl x))) := pv_c pe_bl fun _ => .bl x
theorem v_non {k : Nat} : PE X (.Constant .none k pos) (tV K pa W (mC .non)) := pv_c pe_non fun _ => .non
theorem tOp_of {r : R2} {g : D → D → Option D} (l : LiftOp K r g) {σ : L2.St} {H : Hp} {Q : VK} (h : tV K pa W (mOp g fa fb) σ H Q) : tOp r (tV K pa W fa) (tV K pa W fb) σ H Q := by
  obtain ⟨F, s, rep, h⟩ := h
  refine ⟨F, s, rep, (Fin.bind h).mono ?_⟩
  rintro v H1 ⟨F1, s1, x, st1, rep1, dv, h1⟩
  refine ⟨F1, s1, rep1, (Fin.bind h1).mono ?_⟩
  rintro w H2 ⟨F2, s2, y, st2, rep2, dw, h2⟩
  obtain ⟨z, e, o⟩ := h2.lift rep2
  exact l F2 H2 v w x y z Q rep2.sub (Den.mono st2.le dv) dw e o
theorem pv_op {op : Operator} {r : R2} {g : D → D → Option D} (ho : OpR X (binaryOp op) r) (l : LiftOp K r g) (ha : PE X a (tV K pa W fa)) (hb : PE X b (tV K pa W fb)) : PE X (.BinOp a op b pos) (tV K pa W (mOp g fa fb)) :=
  (pe_op ho ha hb).mono fun _ _ _ h => tOp_of l h
theorem pv_cmp {op : CmpOp} {r : R2} {g : D → D → Option D} (ho : OpR X (compareOp op) r) (l : LiftOp K r g) (ha : PE X a (tV K pa W fa)) (hb : PE X b (tV K pa W fb)) (hm : behindInMarks op b = false) : PE X (.Compare a [op] [b] pos) (tV K pa W (mOp g fa fb)) :=
  (pe_cmpR ho ha hb hm).mono fun _ _ _ h => tOp_of l h
theorem pv_ix {r : R2} {g : D → D → Option D} (ho : IxR X r) (l : LiftOp K r g) (ha : PE X a (tV K pa W fa)) (hb : PE X b (tV K pa W fb)) (hs : PlainIx b) : PE X (.Subscript a b pos) (tV K pa W (mOp g fa fb)) :=
  (pe_ix ho ha hb hs).mono fun _ _ _ h => tOp_of l h
theorem pv_un {op : UnaryOp} {r : V → Hp → VK → Prop} {g : D → Option D} (ho : UnR X (unaryOp op) r) (l : LiftUn K r g) (ha : PE X a (tV K pa W fa)) : PE X (.UnaryOp op a pos) (tV K pa W (mUn g fa)) := by
  refine (pe_un ho ha).mono ?_
  rintro σ H Q ⟨F, s, rep, h⟩
  refine ⟨F, s, rep, (Fin.bind h).mono ?_⟩
  rintro v H1 ⟨F1, s1, x, st1, rep1, dv, h1⟩
  obtain ⟨z, e, o⟩ := h1.lift rep1
  exact l F1 H1 v x z Q rep1.sub dv e o
/-- a value that denotes a bool is one -/
theorem Den.isBl {F : Hp} {v : V} {b : Bool} (h : Den K F v (.bl b)) : v = .bl b := by cases h; rfl
theorem Fin.ok_bl {F H : Hp} {σ : L2.St} {s : S} {b : Bool} {Q : VK} (rep : Rep K pa F H σ s) (h : Fin (dV K) K pa W F H σ s (.ok (.bl b) s) Q) : Q (.bl b) H := h _ _ _ Step.refl rep (.bl b)
theorem tChain_of {r r' : R2} {g g' : D → D → Option D} (l : LiftOp K r g) (l' : LiftOp K r' g') {σ : L2.St} {H : Hp} {Q : VK} (h : tV K pa W (mChain g g' fa fb fc) σ H Q) : tChain r r' (tV K pa W fa) (tV K pa W fb) (tV K pa W fc) σ H Q := by
  obtain ⟨F, s, rep, h⟩ := h
  refine ⟨F, s, rep, (Fin.bind h).mono ?_⟩
  rintro v H1 ⟨F1, s1, x, st1, rep1, dv, h1⟩
  refine ⟨F1, s1, rep1, (Fin.bind h1).mono ?_⟩
  rintro w H2 ⟨F2, s2, y, st2, rep2, dw, h2⟩
  have dv2 := Den.mono st2.le dv
  cases e : g x y with
  | none =>
    simp only [e] at h2
    exact False.elim h2
  | some z =>
    cases z with
    | bl k =>
      refine l F2 H2 v w x y _ _ rep2.sub dv2 dw e (fun u H3 F3 ext du => ?_)
      refine ⟨k, du.isBl, ?_⟩
      have st3 : Step pa F2 H2 σ s2 F3 H3 σ s2 := ext.step
      have rep3 := rep2.ext ext
      cases k with
      | true =>
        simp only [e] at h2
        refine ⟨F3, s2, rep3, (Fin.bind (h2.shift st3)).mono ?_⟩
        rintro u4 H4 ⟨F4, s4, q, st4, rep4, dq, h4⟩
        obtain ⟨z, e4, o⟩ := h4.lift rep4
        exact l' F4 H4 w u4 y q z Q rep4.sub (Den.mono st4.le (Den.mono ext.le dw)) dq e4 o
      | false =>
        simp only [e] at h2
        exact Fin.ok_bl (W := W) rep3 (h2.shift st3)
    | _ =>
      simp only [e] at h2
      exact False.elim h2
theorem pv_chain {op op' : CmpOp} {r r' : R2} {g g' : D → D → Option D} (ho : OpR X (compareOp op) r) (l : LiftOp K r g) (ho' : OpR X (compareOp op') r') (l' : LiftOp K r' g') (ha : PE X a (tV K pa W fa)) (hb : PE X b (tV K pa W fb)) (hc : PE X c (tV K pa W fc))
    (hm : lastMarks [op, op'] [b, c] = false := by with_unfolding_all rfl) : PE X (.Compare a [op, op'] [b, c] pos) (tV K pa W (mChain g g' fa fb fc)) :=
  (pe_chain ho ho' ha hb hc hm).mono fun _ _ _ h => tChain_of l l' h
/-! tests -/
theorem tB_of {σ : L2.St} {H : Hp} {Q : Bool → Hp → Prop} (h : tVB K pa W (mTest fa) σ H Q) : tB (tV K pa W fa) σ H Q := by
  obtain ⟨F, s, rep, h⟩ := h
  refine ⟨F, s, rep, (Fin.bind h).mono ?_⟩
  rintro v H1 ⟨F1, s1, x, st1, rep1, dv, h1⟩
  cases x with
  | bl b => exact ⟨b, dv.isBl, h1 b H1 F1 Step.refl rep1 rfl⟩
  | _ => exact False.elim h1
theorem qt_val (h : PE X a (tV K pa W fa)) (he : ∀ whole, isTrue a X.env whole = (do let v ← whole; standAt a.pos; holding [v] (truthy v)) := by intro _; rfl) : PT X a (tVB K pa W (mTest fa)) := (pt_val h he).mono fun _ _ _ z => tB_of z
theorem qt_cmp {op : CmpOp} {r : R2} {g : D → D → Option D} (ho : OpR X (compareOp op) r) (l : LiftOp K r g) (ha : PE X a (tV K pa W fa)) (hb : PE X b (tV K pa W fb)) (hm : behindInMarks op b = false) : PT X (.Compare a [op] [b] pos) (tVB K pa W (mTest (mOp g fa fb))) := by
  refine (pt_cmpR ho ha hb hm).mono fun σ H Q h => ?_
  obtain ⟨F, s, rep, h⟩ := h
  refine tOp_of l ⟨F, s, rep, (Fin.bind h).mono ?_⟩
  rintro v H1 ⟨F1, s1, x, st1, rep1, dv, h1⟩
  cases x with
  | bl b => exact ⟨b, dv.isBl, h1 b H1 F1 Step.refl rep1 rfl⟩
  | _ => exact False.elim h1
theorem qt_chain {op op' : CmpOp} {r r' : R2} {g g' : D → D → Option D} (ho : OpR X (compareOp op) r) (l : LiftOp K r g) (ho' : OpR X (compareOp op') r') (l' : LiftOp K r' g') (ha : PE X a (tV K pa W fa)) (hb : PE X b (tV K pa W fb)) (hc : PE X c (tV K pa W fc))
    (hm : lastMarks [op, op'] [b, c] = false := by with_unfolding_all rfl) : PT X (.Compare a [op, op'] [b, c] pos) (tVB K pa W (mTest (mChain g g' fa fb fc))) := by
  refine (pt_chain ho ho' ha hb hc hm).mono fun σ H Q h => ?_
  obtain ⟨F, s, rep, h⟩ := h
  refine tChain_of l l' ⟨F, s, rep, (Fin.bind h).mono ?_⟩
  rintro v H1 ⟨F1, s1, x, st1, rep1, dv, h1⟩
  cases x with
  | bl b => exact ⟨b, dv.isBl, h1 b H1 F1 Step.refl rep1 rfl⟩
  | _ => exact False.elim h1
theorem qt_tru (ek : X.K = K) (h : PE X a (tV K pa W fa)) (he : ∀ whole, isTrue a X.env whole = (do let v ← whole; standAt a.pos; holding [v] (truthy v)) := by intro _; rfl) : PT X a (tVB K pa W (mTru fa)) := by
  subst ek
  refine (pt_truth h he).mono ?_
  rintro σ H Q ⟨F, s, rep, h⟩
  refine ⟨F, s, rep, (Fin.bind h).mono ?_⟩
  rintro v H1 ⟨F1, s1, x, st1, rep1, dv, h1⟩
  cases e : truD x with
  | none =>
    rw [e] at h1
    exact False.elim h1
  | some k =>
    rw [e] at h1
    refine ⟨k, ?_, h1 k H1 F1 Step.refl rep1 rfl⟩
    cases dv with
    | non => simpa [truD, TruV] using e.symm
    | bl b => simpa [truD, TruV] using e.symm
    | int i => simpa [truD, TruV] using e.symm
    | str x => cases e
    | dic _ _ _ => cases e
    | obj _ _ _ _ => cases e
    | exc _ _ _ _ => cases e
    | tup h r =>
      refine .inr (.inl ⟨_, rep1.sub.sqT h, ?_⟩)
      have e2 := Option.some.inj e
      rw [← e2]
      cases r <;> rfl
    | lst h r =>
      refine .inl ⟨_, rep1.sub.sqL h, ?_⟩
      have e2 := Option.some.inj e
      rw [← e2]
      cases r <;> rfl
variable {ft fu : S → Rs Bool} {rest : List Expr}
theorem qw_and1 (h : PT X a (tVB K pa W ft)) : PW X (.BoolOp .And [a] pos) (tVB K pa W ft) := pw_and1 h
theorem qw_or1 (h : PT X a (tVB K pa W ft)) : PW X (.BoolOp .Or [a] pos) (tVB K pa W ft) := pw_or1 h
theorem qw_and (ha : PT X a (tVB K pa W ft)) (hb : PW X (.BoolOp .And (b :: rest) pos) (tVB K pa W fu)) : PW X (.BoolOp .And (a :: b :: rest) pos) (tVB K pa W (mAndT ft fu)) := by
  refine (pw_and ha hb).mono ?_
  rintro σ H Q ⟨F, s, rep, h⟩
  refine ⟨F, s, rep, (Fin.bind h).mono ?_⟩
  rintro v H1 ⟨F1, s1, x, st1, rep1, rfl, h1⟩
  cases v with
  | true => exact ⟨F1, s1, rep1, h1⟩
  | false => exact h1 _ _ _ Step.refl rep1 rfl
theorem qw_or (ha : PT X a (tVB K pa W ft)) (hb : PW X (.BoolOp .Or (b :: rest) pos) (tVB K pa W fu)) : PW X (.BoolOp .Or (a :: b :: rest) pos) (tVB K pa W (mOrT ft fu)) := by
  refine (pw_or ha hb).mono ?_
  rintro σ H Q ⟨F, s, rep, h⟩
  refine ⟨F, s, rep, (Fin.bind h).mono ?_⟩
  rintro v H1 ⟨F1, s1, x, st1, rep1, rfl, h1⟩
  cases v with
  | false => exact ⟨F1, s1, rep1, h1⟩
  | true => exact h1 _ _ _ Step.refl rep1 rfl
theorem qt_not (ha : PT X a (tVB K pa W ft)) : PT X (.UnaryOp .Not a pos) (tVB K pa W (mNotT ft)) := by
  refine (pt_not ha).mono ?_
  rintro σ H Q ⟨F, s, rep, h⟩
  refine ⟨F, s, rep, (Fin.bind h).mono ?_⟩
  rintro v H1 ⟨F1, s1, x, st1, rep1, rfl, h1⟩
  exact h1 _ _ _ Step.refl rep1 rfl
theorem pv_and (ha : PE X a (tV K pa W fa)) (hb : PE X (.BoolOp .And (b :: rest) pos) (tV K pa W fb)) : PE X (.BoolOp .And (a :: b :: rest) pos) (tV K pa W (mAnd fa fb)) := by
  refine (pe_and ha hb).mono ?_
  rintro σ H Q ⟨F, s, rep, h⟩
  refine ⟨F, s, rep, (Fin.bind h).mono ?_⟩
  rintro v H1 ⟨F1, s1, x, st1, rep1, dv, h1⟩
  cases x with
  | bl k =>
    refine ⟨k, dv.isBl, ?_⟩
    cases k with
    | true => exact ⟨F1, s1, rep1, h1⟩
    | false => exact Fin.ok_bl rep1 h1
  | _ => exact False.elim h1
theorem pv_or (ha : PE X a (tV K pa W fa)) (hb : PE X (.BoolOp .Or (b :: rest) pos) (tV K pa W fb)) : PE X (.BoolOp .Or (a :: b :: rest) pos) (tV K pa W (mOr fa fb)) := by
  refine (pe_or ha hb).mono ?_
  rintro σ H Q ⟨F, s, rep, h⟩
  refine ⟨F, s, rep, (Fin.bind h).mono ?_⟩
  rintro v H1 ⟨F1, s1, x, st1, rep1, dv, h1⟩
  cases x with
  | bl k =>
    refine ⟨k, dv.isBl, ?_⟩
    cases k with
    | false => exact ⟨F1, s1, rep1, h1⟩
    | true => exact Fin.ok_bl rep1 h1
  | _ => exact False.elim h1
theorem pv_not (ha : PE X a (tV K pa W fa)) : PE X (.UnaryOp .Not a pos) (tV K pa W (mNot fa)) := by
  refine (pe_not ha).mono ?_
  rintro σ H Q ⟨F, s, rep, h⟩
  refine ⟨F, s, rep, (Fin.bind h).mono ?_⟩
  rintro v H1 ⟨F1, s1, x, st1, rep1, dv, h1⟩
  cases x with
  | bl k => exact ⟨k, dv.isBl, Fin.ok_bl rep1 h1⟩
  | _ => exact False.elim h1
theorem pv_if (hc : PT X c (tVB K pa W ft)) (ha : PE X a (tV K pa W fa)) (hb : PE X b (tV K pa W fb)) : PE X (.IfExp c a b pos) (tV K pa W (mIf ft fa fb)) := by
  refine (pe_ifExp hc ha hb).mono ?_
  rintro σ H Q ⟨F, s, rep, h⟩
  refine ⟨F, s, rep, (Fin.bind h).mono ?_⟩
  rintro v H1 ⟨F1, s1, x, st1, rep1, rfl, h1⟩
  cases v with
  | true => exact ⟨F1, s1, rep1, h1⟩
  | false => exact ⟨F1, s1, rep1, h1⟩
/-! arguments, displays, built-ins -/
variable {es : List Expr} {fr : S → Rs (List D)}
theorem qa_nil : PA X [] (tVA K pa W mNil) := by
  refine pa_nil.mono ?_
  rintro σ H Q ⟨F, s, rep, h⟩
  exact h [] H F Step.refl rep .nil
theorem qa_cons (ha : PE X a (tV K pa W fa)) (hr : PA X es (tVA K pa W fr)) (hs : starEach (a :: es) X.env = (false, eval a X.env) :: starEach es X.env := by rfl) : PA X (a :: es) (tVA K pa W (mCons fa fr)) := by
  refine (pa_cons ha hr hs).mono ?_
  rintro σ H Q ⟨F, s, rep, h⟩
  refine ⟨F, s, rep, (Fin.bind h).mono ?_⟩
  rintro v H1 ⟨F1, s1, x, st1, rep1, dv, h1⟩
  refine ⟨F1, s1, rep1, (Fin.bind h1).mono ?_⟩
  rintro vs H2 ⟨F2, s2, xs, st2, rep2, dvs, h2⟩
  exact h2 _ _ _ Step.refl rep2 (.cons (Den.mono st2.le dv) dvs)
theorem qa_star {p : Pos} (ek : X.K = K) (ha : PE X a (tV K pa W fa)) (hr : PA X es (tVA K pa W fr)) (hs : starEach (.Starred a p :: es) X.env = (true, eval a X.env) :: starEach es X.env := by rfl) : PA X (.Starred a p :: es) (tVA K pa W (mStar fa fr)) := by
  subst ek
  refine (StX.pa_star ha hr hs).mono ?_
  rintro σ H Q ⟨F, s, rep, h⟩
  refine ⟨F, s, rep, (Fin.bind h).mono ?_⟩
  rintro v H1 ⟨F1, s1, x, st1, rep1, dv, h1⟩
  cases dv with
  | tup q r =>
    refine ⟨_, _, rfl, .inl (rep1.sub.sqT q), F1, s1, rep1, (Fin.bind h1).mono ?_⟩
    rintro vs H2 ⟨F2, s2, xs, st2, rep2, dvs, h2⟩
    exact h2 _ _ _ Step.refl rep2 ((r.mono st2.le).append dvs)
  | lst q r =>
    refine ⟨_, _, rfl, .inr (rep1.sub.sqL q), F1, s1, rep1, (Fin.bind h1).mono ?_⟩
    rintro vs H2 ⟨F2, s2, xs, st2, rep2, dvs, h2⟩
    exact h2 _ _ _ Step.refl rep2 ((r.mono st2.le).append dvs)
  | _ => exact False.elim h1
theorem le_line {n : Nat} (h : n ≤ 100000) : n ≤ sizeLine := Nat.le_trans h (by decide)
theorem pv_tup {k : Nat} (h : PA X es (tVA K pa W fr)) : PE X (.Tuple es k pos) (tV K pa W (mTup fr)) := by
  refine (pe_tup h).mono ?_
  rintro σ H Q ⟨F, s, rep, h⟩
  refine ⟨F, s, rep, (Fin.bind h).mono ?_⟩
  rintro vs H1 ⟨F1, s1, xs, st1, rep1, dv, h1⟩
  obtain ⟨z, e, o⟩ := Fin.lift rep1 h1
  unfold tupD at e
  by_cases hl : xs.length ≤ 100000
  · rw [if_pos hl] at e
    cases e
    exact ⟨le_line (by rw [DenAll.length dv]; exact hl), fun p hp => o.tup rep1.sub dv hp⟩
  · rw [if_neg hl] at e
    cases e
theorem pv_lst (h : PA X es (tVA K pa W fr)) : PE X (.List es pos) (tV K pa W (mLst fr)) := by
  refine (pe_lst h).mono ?_
  rintro σ H Q ⟨F, s, rep, h⟩
  refine ⟨F, s, rep, (Fin.bind h).mono ?_⟩
  rintro vs H1 ⟨F1, s1, xs, st1, rep1, dv, h1⟩
  obtain ⟨z, e, o⟩ := Fin.lift rep1 h1
  unfold lstD at e
  by_cases hl : xs.length ≤ 100000
  · rw [if_pos hl] at e
    cases e
    exact ⟨le_line (by rw [DenAll.length dv]; exact hl), fun p hp => o.lst rep1.sub dv hp⟩
  · rw [if_neg hl] at e
    cases e
theorem tCB_of {r : List V → Hp → VK → Prop} {g : List D → Option D} (l : LiftCB K r g) {σ : L2.St} {H : Hp} {Q : VK} (h : tV K pa W (mCB g fr) σ H Q) : tCB r (tVA K pa W fr) σ H Q := by
  obtain ⟨F, s, rep, h⟩ := h
  refine ⟨F, s, rep, (Fin.bind h).mono ?_⟩
  rintro vs H1 ⟨F1, s1, xs, st1, rep1, dv, h1⟩
  obtain ⟨z, e, o⟩ := Fin.lift rep1 h1
  exact l F1 H1 vs xs z Q rep1.sub dv e o
variable {x : Str} {p : Pos} {e : Expr}
theorem pv_callB {id : String} {r : List V → Hp → VK → Prop} {g : List D → Option D} (hc : CallR X (.builtin id) r) (l : LiftCB K r g) (hg : Gl X x) (hm : X.mg x = none) (hv : bootBuiltins x = some (.builtin id)) (ha : PA X (e :: es) (tVA K pa W fr)) (hn : x ≠ "__name__" := by decide) (hdb : (x == ("__debug__" : Str)) = false := by decide)
    (he : starEach (e :: es) X.env = (false, eval e X.env) :: starEach es X.env := by rfl) (hpl : (backTo pos (starEach es X.env)).any (·.1) = false := by rfl) : PE X (.Call (.Name x p) (e :: es) [] pos) (tV K pa W (mCB g fr)) :=
  (pe_callB hc hg hm hv ha hn hdb he hpl).mono fun _ _ _ h => tCB_of l h
theorem pv_callTy {T : String} {r : List V → Hp → VK → Prop} {g : List D → Option D} (hc : CallR X (.type T) r) (l : LiftCB K r g) (hg : Gl X x) (hm : X.mg x = none) (hv : bootBuiltins x = some (.type T)) (ha : PA X (e :: es) (tVA K pa W fr)) (hn : x ≠ "__name__" := by decide) (hdb : (x == ("__debug__" : Str)) = false := by decide)
    (he : starEach (e :: es) X.env = (false, eval e X.env) :: starEach es X.env := by rfl) (hpl : (backTo pos (starEach es X.env)).any (·.1) = false := by rfl) : PE X (.Call (.Name x p) (e :: es) [] pos) (tV K pa W (mCB g fr)) :=
  (pe_callTy hc hg hm hv ha hn hdb he hpl).mono fun _ _ _ h => tCB_of l h
end

/-! ### operators on trees -/
def small (i : Int) : Bool := decide (-18446744073709551616 < i ∧ i < 18446744073709551616)
def wideB (i : Int) : Bool := decide (i.natAbs.log2 < 400000)
def addD : D → D → Option D
  | .int i, .int j => some (.int (i + j))
  | .str x, .str y => if x.length + y.length ≤ 100000 then some (.str (x ++ y)) else none
  | .lst xs, .lst ys => if xs.length + ys.length ≤ 100000 then some (.lst (xs ++ ys)) else none
  | .tup xs, .tup ys => if xs.length + ys.length ≤ 100000 then some (.tup (xs ++ ys)) else none
  | _, _ => none
def subD : D → D → Option D
  | .int i, .int j => some (.int (i - j))
  | _, _ => none
def mulD : D → D → Option D
  | .int i, .int j => if small i || small j || (wideB i && wideB j) then some (.int (i * j)) else none
  | .lst xs, .int k => if 0 ≤ k ∧ k ≤ 1000 ∧ xs.length ≤ 100 then some (.lst (List.replicate k.toNat xs).flatten) else none
  | .tup xs, .int k => if 2 ≤ k ∧ k ≤ 1000 ∧ xs.length ≤ 100 ∧ xs.isEmpty = false then some (.tup (List.replicate k.toNat xs).flatten) else if (xs.isEmpty = true ∨ k = 1) ∧ 0 ≤ k ∧ k ≤ 1000 then some (.tup xs) else none
  | _, _ => none
def fdivD : D → D → Option D
  | .int i, .int j => if 0 < j ∧ j.natAbs.log2 < 9000 then some (.int (i / j)) else none
  | _, _ => none
def modD : D → D → Option D
  | .int i, .int j => if 0 < j then some (.int (i % j)) else none
  | _, _ => none
def powD : D → D → Option D
  | .int i, .int j => if 0 ≤ j ∧ j ≤ 100 ∧ i.natAbs < 2 ^ 4096 then some (.int (i ^ j.toNat)) else none
  | _, _ => none
def negD : D → Option D
  | .int i => some (.int (-i))
  | _ => none
def cmpD (f : Int → Int → Bool) : D → D → Option D
  | .int i, .int j => some (.bl (f i j))
  | _, _ => none
abbrev ltD : D → D → Option D := cmpD fun i j => decide (i < j)
abbrev leD : D → D → Option D := cmpD fun i j => decide (i ≤ j)
abbrev gtD : D → D → Option D := cmpD fun i j => decide (j < i)
abbrev geD : D → D → Option D := cmpD fun i j => decide (j ≤ i)
def D.isN : D → Bool
  | .non => true
  | _ => false
def isND : D → D → Option D
  | x, .non => some (.bl x.isN)
  | _, _ => none
def notND : D → D → Option D
  | x, .non => some (.bl !x.isN)
  | _, _ => none
mutual
def D.data : D → Option PyData
  | .non => some .none
  | .bl b => some (.bool b)
  | .int i => some (.int i)
  | .str x => some (.str x)
  | .tup xs => match D.dataAll xs with
    | some ys => some (.tuple ys)
    | none => none
  | .lst xs => match D.dataAll xs with
    | some ys => some (.list ys)
    | none => none
  | .dic _ _ => none
  | .obj _ _ _ => none
  | .exc _ _ => none
def D.dataAll : List D → Option (List PyData)
  | [] => some []
  | x :: xs => match D.data x with
    | some y => (match D.dataAll xs with
      | some ys => some (y :: ys)
      | none => none)
    | none => none
end
def eqB (a b : D) : Option Bool := match a.data, b.data with
  | some x, some y => if SeqAt.shaped x && SeqAt.shaped y then some (PyData.eqv x y) else none
  | _, _ => none
def eqD (a b : D) : Option D := match eqB a b with
  | some k => some (.bl k)
  | none => none
def neD (a b : D) : Option D := match eqB a b with
  | some k => some (.bl (!k))
  | none => none
def D.flat : D → Option V
  | .non => some .non
  | .bl b => some (.bl b)
  | .int i => some (.int i)
  | .str x => some (.str x)
  | _ => none
def D.isFlat (d : D) : Bool := d.flat.isSome
def eqF (x y : D) : Bool := match x.flat, y.flat with
  | some a, some b => eqV a b
  | _, _ => false
def inB : D → D → Option Bool
  | x, .lst ys => if x.isFlat && ys.all D.isFlat then some (ys.any fun y => eqF y x) else none
  | x, .tup ys => if x.isFlat && ys.all D.isFlat then some (ys.any fun y => eqF y x) else none
  | .str x, .str y => some (!(Builtin.Str.occurrences y x 0 y.length 1).isEmpty)
  | _, _ => none
def inD (a b : D) : Option D := match inB a b with
  | some k => some (.bl k)
  | none => none
def notInD (a b : D) : Option D := match inB a b with
  | some k => some (.bl (!k))
  | none => none
def ixD : D → D → Option D
  | .lst xs, .int i => atI xs i
  | .tup xs, .int i => atI xs i
  | .str x, .int i => if x.length ≤ 100000 then (match atI x.cps.toList i with | some c => some (.str ⟨#[c]⟩) | none => none) else none
  | _, _ => none
def lenD : List D → Option D
  | [.lst xs] => some (.int xs.length)
  | [.tup xs] => some (.int xs.length)
  | [.str x] => if x.length ≤ 100000 then some (.int x.length) else none
  | _ => none
def absD : List D → Option D
  | [.int i] => some (.int (if i < 0 then -i else i))
  | _ => none
def intD : List D → Option D
  | [.int i] => some (.int i)
  | [.bl b] => some (.int (if b then 1 else 0))
  | [.str x] => if x.length ≤ 640 then (match PySem.intText? x with | some n => some (.int n) | none => none) else none
  | _ => none
def strD : List D → Option D
  | [.int i] => if i.natAbs.log2 < 1920 then some (.str (toString i)) else none
  | [.str x] => some (.str x)
  | _ => none
def reprB (x : PyData) : Bool := x.showable && decide (x.shown.length ≤ sizeLine) && decide (x.depth ≤ 40)
def reprD : List D → Option D
  | [d] => match d.data with
    | some x => if reprB x then some (.str x.shown) else none
    | none => none
  | _ => none
def max2D : List D → Option D
  | [.int i, .int j] => some (.int (if j > i then j else i))
  | _ => none
def min2D : List D → Option D
  | [.int i, .int j] => some (.int (if j < i then j else i))
  | _ => none
def D.bl? : D → Option Bool
  | .bl b => some b
  | _ => none
def D.int? : D → Option Int
  | .int b => some b
  | _ => none
def blsOf : List D → Option (List Bool)
  | [] => some []
  | .bl b :: r => match blsOf r with
    | some bs => some (b :: bs)
    | none => none
  | _ :: _ => none
def intsOf : List D → Option (List Int)
  | [] => some []
  | .int b :: r => match intsOf r with
    | some bs => some (b :: bs)
    | none => none
  | _ :: _ => none
def strsOf : List D → Option (List Str)
  | [] => some []
  | .str b :: r => match strsOf r with
    | some bs => some (b :: bs)
    | none => none
  | _ :: _ => none
def allD : List D → Option D
  | [.lst xs] => match blsOf xs with
    | some bs => some (.bl (bs.all id))
    | none => none
  | _ => none
def anyD : List D → Option D
  | [.lst xs] => match blsOf xs with
    | some bs => some (.bl (bs.any id))
    | none => none
  | _ => none
def sumD : List D → Option D
  | [.lst xs] => match intsOf xs with
    | some ns => some (.int ns.sum)
    | none => none
  | [.tup xs] => match intsOf xs with
    | some ns => some (.int ns.sum)
    | none => none
  | _ => none
def listD : List D → Option D
  | [.lst xs] => some (.lst xs)
  | [.tup xs] => some (.lst xs)
  | _ => none
def tupleD : List D → Option D
  | [.lst xs] => some (.tup xs)
  | [.tup xs] => some (.tup xs)
  | _ => none
def D.isa : D → String → Bool
  | .int _, s => s == "int"
  | .bl _, s => s == "bool" || s == "int"
  | .str _, s => s == "str"
  | .tup _, s => s == "tuple"
  | .lst _, s => s == "list"
  | .dic _ _, s => s == "dict"
  | _, _ => false
def isiD (T : String) (d : D) : Option D := some (.bl (d.isa T))
section
variable {K : PySem.W.Frag} {F H : Hp}
theorem DenAll.intsD : ∀ {vs : List V} {ds : List D} {ns : List Int}, DenAll K F vs ds → Ak.intsOf ds = some ns → vs = ns.map V.int
  | _, _, _, .nil, e => by cases e; rfl
  | _, _, ns, .cons (.int i) r, e => by
    rename_i vs ds
    cases q : Ak.intsOf ds with
    | none =>
      simp only [Ak.intsOf, q] at e
      cases e
    | some ms =>
      simp only [Ak.intsOf, q] at e
      cases e
      rw [DenAll.intsD r q]
      rfl
  | _, _, _, .cons .non _, e => by cases e
  | _, _, _, .cons (.bl _) _, e => by cases e
  | _, _, _, .cons (.str _) _, e => by cases e
  | _, _, _, .cons (.tup _ _) _, e => by cases e
  | _, _, _, .cons (.lst _ _) _, e => by cases e
  | _, _, _, .cons (.dic _ _ _) _, e => by cases e
  | _, _, _, .cons (.obj _ _ _ _) _, e => by cases e
  | _, _, _, .cons (.exc _ _ _ _) _, e => by cases e
theorem DenAll.blsD : ∀ {vs : List V} {ds : List D} {ns : List Bool}, DenAll K F vs ds → Ak.blsOf ds = some ns → vs = ns.map V.bl
  | _, _, _, .nil, e => by cases e; rfl
  | _, _, ns, .cons (.bl i) r, e => by
    rename_i vs ds
    cases q : Ak.blsOf ds with
    | none =>
      simp only [Ak.blsOf, q] at e
      cases e
    | some ms =>
      simp only [Ak.blsOf, q] at e
      cases e
      rw [DenAll.blsD r q]
      rfl
  | _, _, _, .cons .non _, e => by cases e
  | _, _, _, .cons (.int _) _, e => by cases e
  | _, _, _, .cons (.str _) _, e => by cases e
  | _, _, _, .cons (.tup _ _) _, e => by cases e
  | _, _, _, .cons (.lst _ _) _, e => by cases e
  | _, _, _, .cons (.dic _ _ _) _, e => by cases e
  | _, _, _, .cons (.obj _ _ _ _) _, e => by cases e
  | _, _, _, .cons (.exc _ _ _ _) _, e => by cases e
theorem DenAll.strsD : ∀ {vs : List V} {ds : List D} {ns : List Str}, DenAll K F vs ds → Ak.strsOf ds = some ns → vs = ns.map V.str
  | _, _, _, .nil, e => by cases e; rfl
  | _, _, ns, .cons (.str i) r, e => by
    rename_i vs ds
    cases q : Ak.strsOf ds with
    | none =>
      simp only [Ak.strsOf, q] at e
      cases e
    | some ms =>
      simp only [Ak.strsOf, q] at e
      cases e
      rw [DenAll.strsD r q]
      rfl
  | _, _, _, .cons .non _, e => by cases e
  | _, _, _, .cons (.int _) _, e => by cases e
  | _, _, _, .cons (.bl _) _, e => by cases e
  | _, _, _, .cons (.tup _ _) _, e => by cases e
  | _, _, _, .cons (.lst _ _) _, e => by cases e
  | _, _, _, .cons (.dic _ _ _) _, e => by cases e
  | _, _, _, .cons (.obj _ _ _ _) _, e => by cases e
  | _, _, _, .cons (.exc _ _ _ _) _, e => by cases e
theorem DenAll.ofStrs : ∀ {ns : List Str}, DenAll K F (ns.map V.str) (ns.map D.str)
  | [] => .nil
  | _ :: _ => .cons (.str _) DenAll.ofStrs
mutual
theorem Den.dp (s : Sub F H) : ∀ {v : V} {d : D} {x : PyData}, Den K F v d → d.data = some x → Dp K H v x
  | _, _, _, .non, e => by cases e; exact .non
  | _, _, _, .bl b, e => by cases e; exact .bl b
  | _, _, _, .int i, e => by cases e; exact .int i
  | _, _, _, .str x, e => by cases e; exact .str x
  | _, .tup ds, x, .tup h r, e => by
    cases q : D.dataAll ds with
    | none =>
      simp only [D.data, q] at e
      cases e
    | some ys =>
      simp only [D.data, q] at e
      cases e
      exact .tup (s.sqT h) (DenAll.dp s r q)
  | _, .lst ds, x, .lst h r, e => by
    cases q : D.dataAll ds with
    | none =>
      simp only [D.data, q] at e
      cases e
    | some ys =>
      simp only [D.data, q] at e
      cases e
      exact .lst (s.sqL h) (DenAll.dp s r q)
  | _, _, _, .dic _ _ _, e => by cases e
  | _, _, _, .obj _ _ _ _, e => by cases e
  | _, _, _, .exc _ _ _ _, e => by cases e
theorem DenAll.dp (s : Sub F H) : ∀ {vs : List V} {ds : List D} {xs : List PyData}, DenAll K F vs ds → D.dataAll ds = some xs → DpAll K H vs xs
  | _, _, _, .nil, e => by cases e; exact .nil
  | _, d :: ds, xs, .cons h r, e => by
    cases q : D.data d with
    | none =>
      simp only [D.dataAll, q] at e
      cases e
    | some y =>
      cases q2 : D.dataAll ds with
      | none =>
        simp only [D.dataAll, q, q2] at e
        cases e
      | some ys =>
        simp only [D.dataAll, q, q2] at e
        cases e
        exact .cons (Den.dp s h q) (DenAll.dp s r q2)
end
theorem Den.flat {v w : V} {d : D} (h : Den K F v d) (e : d.flat = some w) : v = w ∧ flatV v = true := by
  cases h <;> cases e <;> exact ⟨rfl, rfl⟩
theorem Den.ofFlat {v : V} {d : D} (h : Den K F v d) (e : d.isFlat = true) : d.flat = some v ∧ flatV v = true := by
  cases h <;> first | exact ⟨rfl, rfl⟩ | cases e
theorem DenAll.flat : ∀ {vs : List V} {ds : List D}, DenAll K F vs ds → ds.all D.isFlat = true → vs.all flatV = true ∧ ∀ (x : V) (y : D), y.flat = some x → (ds.any fun z => eqF z y) = inV x vs
  | _, _, .nil, _ => ⟨rfl, fun _ _ _ => rfl⟩
  | _, _, .cons h r, e => by
    rw [List.all_cons, Bool.and_eq_true] at e
    obtain ⟨h1, h2⟩ := h.ofFlat e.1
    obtain ⟨h3, h4⟩ := DenAll.flat r e.2
    refine ⟨by rw [List.all_cons, h2, h3]; rfl, fun x y q => ?_⟩
    have h5 := h4 x y q
    unfold inV at h5 ⊢
    rw [List.any_cons, List.any_cons, h5]
    congr 1
    unfold eqF
    rw [h1, q]
theorem DenAll.one {vs : List V} {d : D} (h : DenAll K F vs [d]) : ∃ v, vs = [v] ∧ Den K F v d := by
  cases h with
  | cons h r =>
    cases r
    exact ⟨_, rfl, h⟩
theorem DenAll.two {vs : List V} {d e : D} (h : DenAll K F vs [d, e]) : ∃ v w, vs = [v, w] ∧ Den K F v d ∧ Den K F w e := by
  cases h with
  | cons h r =>
    obtain ⟨w, rfl, h2⟩ := r.one
    exact ⟨_, _, rfl, h, h2⟩
theorem DenAll.rep {vs : List V} {ds : List D} (h : DenAll K F vs ds) : ∀ k : Nat, DenAll K F (List.replicate k vs).flatten (List.replicate k ds).flatten
  | 0 => .nil
  | k + 1 => by
    rw [List.replicate_succ, List.replicate_succ, List.flatten_cons, List.flatten_cons]
    exact h.append (DenAll.rep h k)
theorem len_rep {α : Type} (xs : List α) : ∀ k : Nat, (List.replicate k xs).flatten.length = k * xs.length
  | 0 => by simp
  | k + 1 => by
    rw [List.replicate_succ, List.flatten_cons, List.length_append, len_rep xs k, Nat.succ_mul]
    omega
theorem len_line {n : Nat} {F H : Hp} (h : n ≤ 100000) : n ≤ sizeLine := Nat.le_trans h (by decide)
theorem atI_map {vs : List V} {ds : List D} {i : Int} {d : D} (h : DenAll K F vs ds) (e : atI ds i = some d) : ∃ v, atI vs i = some v ∧ Den K F v d := by
  unfold atI at e ⊢
  rw [h.length]
  cases q : ixN ds.length i with
  | none =>
    rw [q] at e
    cases e
  | some k =>
    rw [q] at e
    exact h.getD e
/-! the lifts -/
abbrev rAddS : R2 := fun x y H Q => ∃ i j, x = .str i ∧ y = .str j ∧ i.length + j.length ≤ sizeLine ∧ Q (.str (i ++ j)) H
abbrev rAddAll (K : PySem.W.Frag) : R2 := fun x y H Q => rAddI x y H Q ∨ (rAddS x y H Q ∨ (rCatL x y H Q ∨ rCatA K x y H Q))
theorem o_addAll {X : Cx} (ek : X.K = K) : OpR X (binaryOp .Add) (rAddAll K) := by
  subst ek
  exact OpR.or o_add (OpR.or op_add_str (OpR.or o_cat op_catA))
theorem l_add : LiftOp K (rAddAll K) addD := by
  intro F H x y a b z Q s dx dy e o
  cases dx with
  | int i =>
    cases dy with
    | int j =>
      cases e
      exact .inl ⟨i, j, rfl, rfl, o.here s (.int _)⟩
    | _ => cases e
  | str i =>
    cases dy with
    | str j =>
      dsimp only [addD] at e
      by_cases hl : i.length + j.length ≤ 100000
      · rw [if_pos hl] at e
        cases e
        exact .inr (.inl ⟨i, j, rfl, rfl, Nat.le_trans hl (by decide), o.here s (.str _)⟩)
      · rw [if_neg hl] at e
        cases e
    | _ => cases e
  | @lst a vs xs h r =>
    cases dy with
    | @lst b ws ys h2 r2 =>
      dsimp only [addD] at e
      by_cases hl : xs.length + ys.length ≤ 100000
      · rw [if_pos hl] at e
        cases e
        exact .inr (.inr (.inl ⟨a, b, vs, ws, rfl, rfl, s.lst h, s.lst h2, by rw [r.length, r2.length]; exact Nat.le_trans hl (by decide), fun p hp => o.lst s (r.append r2) hp⟩))
      · rw [if_neg hl] at e
        cases e
    | _ => cases e
  | @tup a vs xs h r =>
    cases dy with
    | @tup b ws ys h2 r2 =>
      dsimp only [addD] at e
      by_cases hl : xs.length + ys.length ≤ 100000
      · rw [if_pos hl] at e
        cases e
        refine .inr (.inr (.inr ⟨a, b, vs, ws, rfl, rfl, s.sqT h, s.sqT h2, by rw [r.length, r2.length]; exact Nat.le_trans hl (by decide), fun z => ?_, fun _ z => ?_, fun _ _ p hp => o.tup s (r.append r2) hp⟩))
        · subst z
          cases r
          exact o.here s (.tup h2 r2)
        · subst z
          cases r2
          rw [List.append_nil] at o
          exact o.here s (.tup h r)
      · rw [if_neg hl] at e
        cases e
    | _ => cases e
  | _ => cases e
theorem l_sub : LiftOp K rSubI subD := by
  intro F H x y a b z Q s dx dy e o
  cases dx <;> cases dy <;> first | cases e
  rename_i i j
  exact ⟨i, j, rfl, rfl, o.here s (.int _)⟩
/-! ### a tuple times an int, where the tuple itself comes back -/
theorem tuple_mulS (l : Addr) (items : Array Value) (n : Nat) (dd : Option Addr) (sl : Array (Option Value)) (x : Int) (u : Tok) (lo : 0 ≤ x) (hi : x ≤ 1000) (same : (items.isEmpty || x == 1) = true) :
    Meets (Builtin.«tuple.__mul__» ⟨[.ref l, .int x u], []⟩) (fun _ R s => s.heap.get? l = some { cls := .type "tuple", dict := dd, data := .seq items n, slots := sl } ∧ R (.ok (.ret (Value.ref l))) s) :=
  .of_wp fun prog w A R s h => by
    obtain ⟨hp, g, d, tk, os⟩ := s
    obtain ⟨lies, want⟩ := h
    have c0 : (decide (x < -(2 ^ 63)) || decide (x ≥ 2 ^ 63)) = false := by
      rw [decide_eq_false (by omega), decide_eq_false (by omega)] <;> rfl
    have f1 := AutoSeq1.idx_int
    wp_walk using wpAny_loadPart' lies
    refine wpAny_ite_false (decide_eq_false (by rw [c0]; exact Bool.false_ne_true)) ?_
    wp_walk using wpAny_loadPart' lies
    exact ⟨_, rfl, want⟩
def rRepS (K : PySem.W.Frag) : R2 := fun x y H Q => ∃ l k xs, x = .ref l ∧ y = .int k ∧ SqT K H l xs ∧ (xs = [] ∨ k = 1) ∧ 0 ≤ k ∧ k ≤ 1000 ∧ Q (.ref l) H
theorem op_repS {X : Cx} : OpR X (binaryOp .Mult) (rRepS X.K) := by
  intro pins s σ H x y v u Q I rx ry h
  obtain ⟨l, k, xs, rfl, rfl, hT, one, lo, hi, q⟩ := h
  cases rx
  obtain ⟨t, rfl⟩ := ry
  obtain ⟨its, r, ⟨⟨cls, dd, data, sl⟩, there, hc, n, hd⟩, _⟩ := I.tuple hT
  simp only at hc hd
  subst hc hd
  have same : (its.toArray.isEmpty || k == 1) = true := by
    rcases one with rfl | rfl
    · cases r
      rfl
    · rw [show ((1 : Int) == 1) = true from rfl, Bool.or_true]
  refine wpAny_binaryOp_repeat_ref (T := "tuple") (U := "int") (by decide) ⟨_, there, rfl⟩ (fun s' => typeIs_int s' k t) noFill_tuple_mul F.fills_int_mul F.slot_int_rmul repeat_tuple F.slot_int_index.lookup
    (call_meets F.slot_int_rmul (typeIs_int s k t) F.entry_int_rmul (F.args_int_rmul_2 _ _) (int_rmul_tuple k t l its.toArray n dd sl) ⟨there, rfl, ⟨_, there, rfl⟩, ?_⟩)
  exact call_meets F.slot_tuple_mul ⟨_, there, rfl⟩ F.entry_tuple_mul (F.args_tuple_mul_2 _ _) (tuple_mulS l its.toArray n dd sl k t lo hi same) ⟨there, ⟨.ref l, H, I, rfl, q⟩⟩

abbrev rMulAll (K : PySem.W.Frag) : R2 := fun x y H Q => rMulI x y H Q ∨ (rRep x y H Q ∨ (rRepT K x y H Q ∨ rRepS K x y H Q))
theorem o_mulAll {X : Cx} (ek : X.K = K) : OpR X (binaryOp .Mult) (rMulAll K) := by
  subst ek
  exact OpR.or o_mul (OpR.or op_rep (OpR.or op_repT op_repS))
theorem mul_ok {i j : Int} (h : (small i || small j || (wideB i && wideB j)) = true) : IntMulOk i j := by
  rw [Bool.or_eq_true, Bool.or_eq_true, Bool.and_eq_true] at h
  rcases h with (h | h) | ⟨h, h2⟩
  · exact CMul.ok (.inl (of_decide_eq_true h))
  · exact CMul.ok (.inr (of_decide_eq_true h))
  · have h1 := of_decide_eq_true h
    have h3 := of_decide_eq_true h2
    exact CMulW.ok (show i.natAbs.log2 + j.natAbs.log2 < 1000000 by omega)
theorem l_mul : LiftOp K (rMulAll K) mulD := by
  intro F H x y a b z Q s dx dy e o
  cases dx with
  | int i =>
    cases dy with
    | int j =>
      dsimp only [mulD] at e
      by_cases hl : (small i || small j || (wideB i && wideB j)) = true
      · rw [if_pos hl] at e
        cases e
        exact .inl ⟨i, j, rfl, rfl, mul_ok hl, o.here s (.int _)⟩
      · rw [if_neg hl] at e
        cases e
    | _ => cases e
  | @lst a vs xs h r =>
    cases dy with
    | int k =>
      dsimp only [mulD] at e
      by_cases hl : 0 ≤ k ∧ k ≤ 1000 ∧ xs.length ≤ 100
      · rw [if_pos hl] at e
        cases e
        refine .inr (.inl ⟨a, k, vs, rfl, rfl, s.lst h, by omega, by omega, ?_, fun p hp => o.lst s (r.rep _) hp⟩)
        have hm : vs.length * k.toNat ≤ 100 * 1000 := Nat.mul_le_mul (by rw [r.length]; omega) (by omega)
        exact Nat.le_trans hm (by decide)
      · rw [if_neg hl] at e
        cases e
    | _ => cases e
  | @tup a vs xs h r =>
    cases dy with
    | int k =>
      dsimp only [mulD] at e
      by_cases hl : 2 ≤ k ∧ k ≤ 1000 ∧ xs.length ≤ 100 ∧ xs.isEmpty = false
      · rw [if_pos hl] at e
        cases e
        refine .inr (.inr (.inl ⟨a, k, vs, rfl, rfl, s.sqT h, ?_, by omega, by omega, by rw [r.length]; omega, fun p hp => o.tup s (r.rep _) hp⟩))
        rintro rfl
        cases r
        exact Bool.noConfusion hl.2.2.2
      · rw [if_neg hl] at e
        by_cases h2 : (xs.isEmpty = true ∨ k = 1) ∧ 0 ≤ k ∧ k ≤ 1000
        · rw [if_pos h2] at e
          cases e
          refine .inr (.inr (.inr ⟨a, k, vs, rfl, rfl, s.sqT h, h2.1.imp_left fun z => ?_, h2.2.1, h2.2.2, o.here s (.tup h r)⟩))
          cases r with
          | nil => rfl
          | cons _ _ => cases z
        · rw [if_neg h2] at e
          cases e
    | _ => cases e
  | _ => cases e
theorem l_fdiv : LiftOp K rFdivI fdivD := by
  intro F H x y a b z Q s dx dy e o
  cases dx <;> cases dy <;> first | (cases e; done) | skip
  rename_i i j
  dsimp only [fdivD] at e
  by_cases hl : 0 < j ∧ j.natAbs.log2 < 9000
  · rw [if_pos hl] at e
    cases e
    exact ⟨i, j, rfl, rfl, hl, o.here s (.int _)⟩
  · rw [if_neg hl] at e
    cases e
theorem l_mod : LiftOp K rModI modD := by
  intro F H x y a b z Q s dx dy e o
  cases dx <;> cases dy <;> first | (cases e; done) | skip
  rename_i i j
  dsimp only [modD] at e
  by_cases hl : 0 < j
  · rw [if_pos hl] at e
    cases e
    exact ⟨i, j, rfl, rfl, hl, o.here s (.int _)⟩
  · rw [if_neg hl] at e
    cases e
theorem l_pow : LiftOp K rPowI powD := by
  intro F H x y a b z Q s dx dy e o
  cases dx <;> cases dy <;> first | (cases e; done) | skip
  rename_i i j
  dsimp only [powD] at e
  by_cases hl : 0 ≤ j ∧ j ≤ 100 ∧ i.natAbs < 2 ^ 4096
  · rw [if_pos hl] at e
    cases e
    exact ⟨i, j, rfl, rfl, hl, o.here s (.int _)⟩
  · rw [if_neg hl] at e
    cases e
theorem l_neg : LiftUn K rNegI negD := by
  intro F H x a z Q s dx e o
  cases dx <;> first | cases e
  exact ⟨_, rfl, o.here s (.int _)⟩
theorem l_cmp {f : Int → Int → Bool} : LiftOp K (rI0 fun i j => .bl (f i j)) (cmpD f) := by
  intro F H x y a b z Q s dx dy e o
  cases dx <;> cases dy <;> first | cases e
  rename_i i j
  exact ⟨i, j, rfl, rfl, o.here s (.bl _)⟩
theorem l_lt : LiftOp K rLtI ltD := l_cmp
theorem l_le : LiftOp K rLeI leD := l_cmp
theorem l_gt : LiftOp K rGtI gtD := l_cmp
theorem l_ge : LiftOp K rGeI geD := l_cmp
theorem Den.isNon {v : V} {d : D} (h : Den K F v d) : decide (v = .non) = d.isN := by cases h <;> rfl
theorem l_isN : LiftOp K rIsN isND := by
  intro F H x y a b z Q s dx dy e o
  cases dy <;> first | cases e
  exact ⟨rfl, by rw [dx.isNon]; exact o.here s (.bl _)⟩
theorem l_notN : LiftOp K rNotN notND := by
  intro F H x y a b z Q s dx dy e o
  cases dy <;> first | cases e
  exact ⟨rfl, by rw [dx.isNon]; exact o.here s (.bl _)⟩
theorem eqB_ok {a b : D} {k : Bool} (h : eqB a b = some k) : ∃ x y, a.data = some x ∧ b.data = some y ∧ SeqAt.shaped x = true ∧ SeqAt.shaped y = true ∧ k = PyData.eqv x y := by
  unfold eqB at h
  cases e1 : a.data with
  | none =>
    rw [e1] at h
    cases h
  | some x =>
    cases e2 : b.data with
    | none =>
      rw [e1, e2] at h
      cases h
    | some y =>
      rw [e1, e2] at h
      simp only at h
      by_cases q : (SeqAt.shaped x && SeqAt.shaped y) = true
      · rw [if_pos q] at h
        cases h
        rw [Bool.and_eq_true] at q
        exact ⟨x, y, rfl, rfl, q.1, q.2, rfl⟩
      · rw [if_neg q] at h
        cases h
theorem l_eq : LiftOp K (rEqD K) eqD := by
  intro F H x y a b z Q s dx dy e o
  unfold eqD at e
  cases q : eqB a b with
  | none =>
    rw [q] at e
    cases e
  | some k =>
    rw [q] at e
    cases e
    obtain ⟨u, v, h1, h2, h3, h4, rfl⟩ := eqB_ok q
    exact ⟨u, v, dx.dp s h1, dy.dp s h2, h3, h4, o.here s (.bl _)⟩
theorem l_ne : LiftOp K (rNeD K) neD := by
  intro F H x y a b z Q s dx dy e o
  unfold neD at e
  cases q : eqB a b with
  | none =>
    rw [q] at e
    cases e
  | some k =>
    rw [q] at e
    cases e
    obtain ⟨u, v, h1, h2, h3, h4, rfl⟩ := eqB_ok q
    exact ⟨u, v, dx.dp s h1, dy.dp s h2, h3, h4, o.here s (.bl _)⟩
abbrev rInS : R2 := fun x y H Q => ∃ i j, x = .str i ∧ y = .str j ∧ Q (.bl (!(Builtin.Str.occurrences j i 0 j.length 1).isEmpty)) H
abbrev rNotInS : R2 := fun x y H Q => ∃ i j, x = .str i ∧ y = .str j ∧ Q (.bl (!(!(Builtin.Str.occurrences j i 0 j.length 1).isEmpty))) H
abbrev rInAll (K : PySem.W.Frag) : R2 := fun x y H Q => rIn K false x y H Q ∨ rInS x y H Q
abbrev rNotInAll (K : PySem.W.Frag) : R2 := fun x y H Q => rIn K true x y H Q ∨ rNotInS x y H Q
theorem o_inAll {X : Cx} (ek : X.K = K) : OpR X (compareOp .In) (rInAll K) := by
  subst ek
  exact OpR.or op_in_seq op_in_str
theorem o_notInAll {X : Cx} (ek : X.K = K) : OpR X (compareOp .NotIn) (rNotInAll K) := by
  subst ek
  exact OpR.or op_notIn_seq op_notIn_str
theorem inB_ok {x y : V} {a b : D} {k : Bool} (s : Sub F H) (dx : Den K F x a) (dy : Den K F y b) (h : inB a b = some k) :
    (∃ p xs, y = .ref p ∧ (SqL K H p xs ∨ SqT K H p xs) ∧ flatV x = true ∧ xs.all flatV = true ∧ k = inV x xs) ∨ ∃ i j, x = .str i ∧ y = .str j ∧ k = !(Builtin.Str.occurrences j i 0 j.length 1).isEmpty := by
  cases dy with
  | @lst p vs ds h1 r =>
    have h : (if a.isFlat && ds.all D.isFlat then some (ds.any fun y => eqF y a) else none) = some k := by
      cases dx <;> exact h
    by_cases q : (a.isFlat && ds.all D.isFlat) = true
    · rw [if_pos q] at h
      cases h
      rw [Bool.and_eq_true] at q
      obtain ⟨e1, e2⟩ := dx.ofFlat q.1
      obtain ⟨e3, e4⟩ := r.flat q.2
      exact .inl ⟨p, vs, rfl, .inl (s.sqL h1), e2, e3, e4 _ _ e1⟩
    · rw [if_neg q] at h
      cases h
  | @tup p vs ds h1 r =>
    have h : (if a.isFlat && ds.all D.isFlat then some (ds.any fun y => eqF y a) else none) = some k := by
      cases dx <;> exact h
    by_cases q : (a.isFlat && ds.all D.isFlat) = true
    · rw [if_pos q] at h
      cases h
      rw [Bool.and_eq_true] at q
      obtain ⟨e1, e2⟩ := dx.ofFlat q.1
      obtain ⟨e3, e4⟩ := r.flat q.2
      exact .inl ⟨p, vs, rfl, .inr (s.sqT h1), e2, e3, e4 _ _ e1⟩
    · rw [if_neg q] at h
      cases h
  | str j =>
    cases dx with
    | str i =>
      cases h
      exact .inr ⟨i, j, rfl, rfl, rfl⟩
    | _ => cases h
  | _ => cases dx <;> cases h
theorem l_in : LiftOp K (rInAll K) inD := by
  intro F H x y a b z Q s dx dy e o
  unfold inD at e
  cases q : inB a b with
  | none =>
    rw [q] at e
    cases e
  | some k =>
    rw [q] at e
    cases e
    rcases inB_ok s dx dy q with ⟨p, xs, rfl, h1, h2, h3, rfl⟩ | ⟨i, j, rfl, rfl, rfl⟩
    · exact .inl ⟨p, xs, rfl, h1, h2, h3, o.here s (.bl _)⟩
    · exact .inr ⟨i, j, rfl, rfl, o.here s (.bl _)⟩
theorem l_notIn : LiftOp K (rNotInAll K) notInD := by
  intro F H x y a b z Q s dx dy e o
  unfold notInD at e
  cases q : inB a b with
  | none =>
    rw [q] at e
    cases e
  | some k =>
    rw [q] at e
    cases e
    rcases inB_ok s dx dy q with ⟨p, xs, rfl, h1, h2, h3, rfl⟩ | ⟨i, j, rfl, rfl, rfl⟩
    · exact .inl ⟨p, xs, rfl, h1, h2, h3, o.here s (.bl _)⟩
    · exact .inr ⟨i, j, rfl, rfl, o.here s (.bl _)⟩
theorem l_ix : LiftOp K (rIx K) ixD := by
  intro F H x y a b z Q s dx dy e o
  cases dx with
  | @lst p vs ds h r =>
    cases dy with
    | int i =>
      obtain ⟨v, e1, e2⟩ := atI_map r (show atI ds i = some z from e)
      exact .inl ⟨p, vs, i, v, rfl, rfl, s.sqL h, e1, o.here s e2⟩
    | _ => cases e
  | @tup p vs ds h r =>
    cases dy with
    | int i =>
      obtain ⟨v, e1, e2⟩ := atI_map r (show atI ds i = some z from e)
      exact .inr (.inl ⟨p, vs, i, v, rfl, rfl, s.sqT h, e1, o.here s e2⟩)
    | _ => cases e
  | str w =>
    cases dy with
    | int i =>
      dsimp only [ixD] at e
      by_cases hl : w.length ≤ 100000
      · rw [if_pos hl] at e
        cases q : atI w.cps.toList i with
        | none =>
          rw [q] at e
          cases e
        | some c =>
          rw [q] at e
          cases e
          exact .inr (.inr ⟨w, i, c, rfl, rfl, Nat.le_trans hl (by decide), q, o.here s (.str _)⟩)
      · rw [if_neg hl] at e
        cases e
    | _ => cases e
  | _ => cases e
end

/-! ### built-ins on trees -/
section
variable {K : PySem.W.Frag} {F H : Hp}
abbrev rLenAll (K : PySem.W.Frag) : List V → Hp → VK → Prop := fun xs H Q => rLenS K xs H Q ∨ ∃ z, xs = [.str z] ∧ z.length ≤ sizeLine ∧ Q (.int z.length) H
theorem CallR.or {X : Cx} {f : Value} {r r' : List V → Hp → VK → Prop} (h : CallR X f r) (h' : CallR X f r') : CallR X f (fun x H Q => r x H Q ∨ r' x H Q) := by
  intro pins s σ H x us Q I rx q
  rcases q with q | q
  · exact h pins s σ H x us Q I rx q
  · exact h' pins s σ H x us Q I rx q
theorem c_lenAll {X : Cx} (ek : X.K = K) : CallR X (.builtin "len") (rLenAll K) := CallR.or (x_len ek) call_len_str
theorem l_len : LiftCB K (rLenAll K) lenD := by
  intro F H xs as z Q s d e o
  match as, e with
  | [.lst ds], e =>
    cases e
    obtain ⟨v, rfl, dd⟩ := d.one
    cases dd with
    | lst h r => exact .inl ⟨_, _, rfl, .inl (s.sqL h), by rw [r.length]; exact o.here s (.int _)⟩
  | [.tup ds], e =>
    cases e
    obtain ⟨v, rfl, dd⟩ := d.one
    cases dd with
    | tup h r => exact .inl ⟨_, _, rfl, .inr (s.sqT h), by rw [r.length]; exact o.here s (.int _)⟩
  | [.str x], e =>
    obtain ⟨v, rfl, dd⟩ := d.one
    cases dd
    dsimp only [lenD] at e
    by_cases hl : x.length ≤ 100000
    · rw [if_pos hl] at e
      cases e
      exact .inr ⟨x, rfl, Nat.le_trans hl (by decide), o.here s (.int _)⟩
    · rw [if_neg hl] at e
      cases e
theorem l_abs : LiftCB K rAbs absD := by
  intro F H xs as z Q s d e o
  match as, e with
  | [.int i], e =>
    cases e
    obtain ⟨v, rfl, dd⟩ := d.one
    cases dd
    exact ⟨i, rfl, o.here s (.int _)⟩
abbrev rIntAll : List V → Hp → VK → Prop := fun xs H Q => rInt1 xs H Q ∨ ∃ a n, xs = [.str a] ∧ PySem.intText? a = some n ∧ a.length ≤ 640 ∧ Q (.int n) H
theorem c_intAll {X : Cx} : CallR X (.type "int") rIntAll := CallR.or c_int1 call_int_str
theorem l_int : LiftCB K rIntAll intD := by
  intro F H xs as z Q s d e o
  match as, e with
  | [.int i], e =>
    cases e
    obtain ⟨v, rfl, dd⟩ := d.one
    cases dd
    exact .inl (.inl ⟨i, rfl, o.here s (.int _)⟩)
  | [.bl b], e =>
    cases e
    obtain ⟨v, rfl, dd⟩ := d.one
    cases dd
    exact .inl (.inr ⟨b, rfl, o.here s (.int _)⟩)
  | [.str x], e =>
    obtain ⟨v, rfl, dd⟩ := d.one
    cases dd
    dsimp only [intD] at e
    by_cases hl : x.length ≤ 640
    · rw [if_pos hl] at e
      cases q : PySem.intText? x with
      | none =>
        rw [q] at e
        cases e
      | some n =>
        rw [q] at e
        cases e
        exact .inr ⟨x, n, rfl, q, hl, o.here s (.int _)⟩
    · rw [if_neg hl] at e
      cases e
abbrev rStrAll : List V → Hp → VK → Prop := fun xs H Q => (∃ i, xs = [.int i] ∧ i.natAbs.log2 < 1920 ∧ Q (.str (toString i)) H) ∨ ∃ z, xs = [.str z] ∧ Q (.str z) H
theorem l_repr : LiftCB K (rReprD K) reprD := by
  intro F H xs as z Q s d e o
  match as, e with
  | [x], e =>
    obtain ⟨v, rfl, dd⟩ := d.one
    dsimp only [reprD] at e
    cases q : x.data with
    | none =>
      rw [q] at e
      cases e
    | some y =>
      rw [q] at e
      dsimp only at e
      by_cases hl : reprB y = true
      · rw [if_pos hl] at e
        cases e
        unfold reprB at hl
        rw [Bool.and_eq_true, Bool.and_eq_true] at hl
        exact ⟨v, y, rfl, ⟨dd.dp s q, hl.1.1, of_decide_eq_true hl.1.2, of_decide_eq_true hl.2⟩, o.here s (.str _)⟩
      · rw [if_neg hl] at e
        cases e
theorem l_max2 : LiftCB K rMax2 max2D := by
  intro F H xs as z Q s d e o
  match as, e with
  | [.int i, .int j], e =>
    cases e
    obtain ⟨v, w, rfl, d1, d2⟩ := d.two
    cases d1
    cases d2
    exact ⟨i, j, rfl, o.here s (.int _)⟩
theorem l_min2 : LiftCB K rMin2 min2D := by
  intro F H xs as z Q s d e o
  match as, e with
  | [.int i, .int j], e =>
    cases e
    obtain ⟨v, w, rfl, d1, d2⟩ := d.two
    cases d1
    cases d2
    exact ⟨i, j, rfl, o.here s (.int _)⟩
theorem l_all : LiftCB K (rAll K) allD := by
  intro F H xs as z Q s d e o
  match as, e with
  | [.lst ds], e =>
    obtain ⟨v, rfl, dd⟩ := d.one
    dsimp only [allD] at e
    cases q : blsOf ds with
    | none =>
      rw [q] at e
      cases e
    | some bs =>
      rw [q] at e
      cases e
      cases dd with
      | lst h r => exact ⟨_, bs, rfl, by rw [← r.blsD q]; exact s.sqL h, o.here s (.bl _)⟩
theorem l_any : LiftCB K (rAny K) anyD := by
  intro F H xs as z Q s d e o
  match as, e with
  | [.lst ds], e =>
    obtain ⟨v, rfl, dd⟩ := d.one
    dsimp only [anyD] at e
    cases q : blsOf ds with
    | none =>
      rw [q] at e
      cases e
    | some bs =>
      rw [q] at e
      cases e
      cases dd with
      | lst h r => exact ⟨_, bs, rfl, by rw [← r.blsD q]; exact s.sqL h, o.here s (.bl _)⟩
/-- sum(xs) of a list or a tuple of ints -/
def rSumA (K : PySem.W.Frag) : List V → Hp → VK → Prop := fun vs H Q => ∃ (a : Addr) (ns : List Int), vs = [V.ref a] ∧ (SqL K H a (ns.map V.int) ∨ SqT K H a (ns.map V.int)) ∧ Q (.int ns.sum) H
theorem x_sumA {X : Cx} (ek : X.K = K) (hc : X.calm = true) : CallR X (.builtin "sum") (rSumA K) := by
  subst ek
  intro pins s σ H vs us Q I r h
  obtain ⟨a, ns, rfl, hs | hs, q⟩ := h
  · exact cr_sum hc pins s σ H _ us Q I r ⟨a, ns, rfl, hs, q⟩
  · obtain ⟨its, rv, hl, _⟩ := I.tuple hs
    rw [Vals.ref1 r]
    have hi := rv.ints
    obtain ⟨ob, h1, h2, n, h3⟩ := hl
    have hl : s.heap.IsTuple a its.toArray := ⟨ob, h1, h2, n, h3⟩
    obtain ⟨xs, e⟩ := hi.allInts.items
    have hn : numsOf (intItems xs).toList = ns := by rw [← e]; exact hi.numsOf
    rw [nums_intItems] at hn
    rw [e] at hl
    refine PySem.W.ktm_sumG (I.ok.hd hc) hl fun h' tk t' hk => ?_
    rw [preSum_eq, List.take_of_length_le (by simp), hn]
    exact ⟨.int _, H, I.kept hk, ⟨_, rfl⟩, q⟩
theorem l_sum : LiftCB K (rSumA K) sumD := by
  intro F H xs as z Q s d e o
  match as, e with
  | [.lst ds], e =>
    obtain ⟨v, rfl, dd⟩ := d.one
    dsimp only [sumD] at e
    cases q : intsOf ds with
    | none =>
      rw [q] at e
      cases e
    | some bs =>
      rw [q] at e
      cases e
      cases dd with
      | lst h r => exact ⟨_, bs, rfl, .inl (by rw [← r.intsD q]; exact s.sqL h), o.here s (.int _)⟩
  | [.tup ds], e =>
    obtain ⟨v, rfl, dd⟩ := d.one
    dsimp only [sumD] at e
    cases q : intsOf ds with
    | none =>
      rw [q] at e
      cases e
    | some bs =>
      rw [q] at e
      cases e
      cases dd with
      | tup h r => exact ⟨_, bs, rfl, .inr (by rw [← r.intsD q]; exact s.sqT h), o.here s (.int _)⟩
abbrev rListOf (K : PySem.W.Frag) : List V → Hp → VK → Prop := fun xs H Q => ∃ p ys, xs = [.ref p] ∧ (SqL K H p ys ∨ SqT K H p ys) ∧ ∀ l, H l = none → Q (.ref l) (upd H l (.lst ys))
theorem c_listOf {X : Cx} (ek : X.K = K) : CallR X (.type "list") (rListOf K) := by
  subst ek
  exact call_list_of
theorem l_list : LiftCB K (rListOf K) listD := by
  intro F H xs as z Q s d e o
  match as, e with
  | [.lst ds], e =>
    cases e
    obtain ⟨v, rfl, dd⟩ := d.one
    cases dd with
    | lst h r => exact ⟨_, _, rfl, .inl (s.sqL h), fun l hl => o.lst s r hl⟩
  | [.tup ds], e =>
    cases e
    obtain ⟨v, rfl, dd⟩ := d.one
    cases dd with
    | tup h r => exact ⟨_, _, rfl, .inr (s.sqT h), fun l hl => o.lst s r hl⟩
abbrev rTupleOf (K : PySem.W.Frag) : List V → Hp → VK → Prop := fun xs H Q => ∃ p ys, xs = [.ref p] ∧ ((SqL K H p ys ∧ ∀ l, H l = none → Q (.ref l) (upd H l (.tup ys))) ∨ (SqT K H p ys ∧ Q (.ref p) H))
theorem c_tupleOf {X : Cx} (ek : X.K = K) : CallR X (.type "tuple") (rTupleOf K) := by
  subst ek
  exact call_tuple_of
theorem l_tuple : LiftCB K (rTupleOf K) tupleD := by
  intro F H xs as z Q s d e o
  match as, e with
  | [.lst ds], e =>
    cases e
    obtain ⟨v, rfl, dd⟩ := d.one
    cases dd with
    | lst h r => exact ⟨_, _, rfl, .inl ⟨s.sqL h, fun l hl => o.tup s r hl⟩⟩
  | [.tup ds], e =>
    cases e
    obtain ⟨v, rfl, dd⟩ := d.one
    cases dd with
    | tup h r => exact ⟨_, _, rfl, .inr ⟨s.sqT h, o.here s (.tup h r)⟩⟩
/-! isinstance -/
inductive TyZ (K : PySem.W.Frag) (H : Hp) : V → Value → Prop where
  | base {x : V} {t : Value} (h : TyOf K H x t) : TyZ K H x t
  | kTuple {a : Addr} {o : Obj} (e : K.lookup a = some o) (c : o.cls = .type "tuple") : TyZ K H (.ref a) (.type "tuple")
  | fDict {a : Addr} {o : Obj} {kvs : List (Key × V)} (e : H a = some (.frz o (.dK kvs))) : TyZ K H (.ref a) (.type "dict")
  | exc {a C dx : Addr} {fs : List (Str × V)} (w : XcC K (xD K) (xF K) C) (e : H a = some (exO a C dx)) (e2 : H dx = some (.xd fs)) : TyZ K H (.ref a) (.ref C)
def rIsiZ (K : PySem.W.Frag) : List V → Hp → VK → Prop := fun xs H Q => ∃ (x c : V) (t u : Value) (b : Bool), xs = [x, c] ∧ ClsV c u ∧ TyZ K H x t ∧ PySem.W.kitOne K t u = some b ∧ Q (.bl b) H
theorem call_isiZ {X : Cx} : CallR X (.builtin "isinstance") (rIsiZ X.K) := by
  intro pins s σ H xs us Q I r h
  obtain ⟨x, c, t, u, b, rfl, k, ty, e, q⟩ := h
  cases ty with
  | base h => exact call_isi pins s σ H [x, c] us Q I r ⟨x, c, t, u, b, rfl, k, .base h, e, q⟩
  | kTuple e1 e2 => exact call_isi pins s σ H [_, c] us Q I r ⟨_, c, _, u, b, rfl, k, .kTuple e1 e2, e, q⟩
  | fDict e1 => exact call_isi pins s σ H [_, c] us Q I r ⟨_, c, _, u, b, rfl, k, .fDict e1, e, q⟩
  | @exc a C dx fs w e1 e2 =>
    obtain ⟨u1, u2, rfl, r1, r2⟩ := vals2 r
    have z2 := k.eq r2
    subst z2
    cases r1
    obtain ⟨oe, vs, h1, h2, h3, h4⟩ := exO_get I.hok e1
    obtain ⟨mA, ⟨od, _, _, h5, _⟩, _⟩ : ObjOk X.prog X.w H s.heap _ (.xd _) := I.hok _ _ e2
    have Z := PySem.W.kitx_exc (od := some od) (ox := oe) (x := a) (by obtain ⟨cd, hc, _⟩ := PySem.W.any_some w.x.hdC; rw [hc]; rfl) w.x.ga w.x.gg w.x.exC w.ha w.hn w.htk w.hm
    exact PySem.W.kia_one Z I.kIn ⟨h1, h2, by unfold PySem.W.notCls; rw [h4], by rw [h3]; exact h5⟩ e (fun z => nomatch z) fun tk => ⟨.bl b, H, I.tok tk, rfl, q⟩
theorem Den.ty {v : V} {d : D} (s : Sub F H) (h : Den K F v d) {T : String} (hT : T ∈ ["int", "bool", "str", "tuple", "list", "dict"]) : ∃ t, TyZ K H v t ∧ PySem.W.kitOne K t (.type T) = some (d.isa T) := by
  have six : T = "int" ∨ T = "bool" ∨ T = "str" ∨ T = "tuple" ∨ T = "list" ∨ T = "dict" := by simpa using hT
  cases h with
  | int i =>
    refine ⟨_, .base (.int i), kit_ty ?_⟩
    rcases six with rfl | rfl | rfl | rfl | rfl | rfl <;> (dsimp only [D.isa]; decide +kernel)
  | bl b =>
    refine ⟨_, .base (.bl b), kit_ty ?_⟩
    rcases six with rfl | rfl | rfl | rfl | rfl | rfl <;> (dsimp only [D.isa]; decide +kernel)
  | str x =>
    refine ⟨_, .base (.str x), kit_ty ?_⟩
    rcases six with rfl | rfl | rfl | rfl | rfl | rfl <;> (dsimp only [D.isa]; decide +kernel)
  | non =>
    refine ⟨_, .base .non, kit_ty ?_⟩
    rcases six with rfl | rfl | rfl | rfl | rfl | rfl <;> (dsimp only [D.isa]; decide +kernel)
  | @tup a vs ds h r =>
    have ty : TyZ K H (.ref a) (.type "tuple") := by
      rcases h with h | h
      · exact .base (.tup (s.at h (fun _ z => nomatch z)))
      · rcases h (fun _ => none) with (z | ⟨_, z⟩) | ⟨o, its, n, h1, h2, _⟩
        · cases z
        · cases z
        · exact .kTuple h1 h2
    refine ⟨_, ty, kit_ty ?_⟩
    rcases six with rfl | rfl | rfl | rfl | rfl | rfl <;> (dsimp only [D.isa]; decide +kernel)
  | @lst a vs ds h r =>
    refine ⟨_, .base (.lst (s.lst h)), kit_ty ?_⟩
    rcases six with rfl | rfl | rfl | rfl | rfl | rfl <;> (dsimp only [D.isa]; decide +kernel)
  | @dic a ks vs ds h l r =>
    have ty : TyZ K H (.ref a) (.type "dict") := by
      rcases s.rc h with h | ⟨_, o, h⟩
      · exact .base (.dK h)
      · exact .fDict h
    refine ⟨_, ty, kit_ty ?_⟩
    rcases six with rfl | rfl | rfl | rfl | rfl | rfl <;> (dsimp only [D.isa]; decide +kernel)
  | @obj a dx c ks vs ds w h l r => exact ⟨_, .base (.ins (s.ins h) w.cl w.ha w.hn w.htk w.hm), w.no T hT⟩
  | exc w h1 h2 r => exact ⟨_, .exc w (s.at h1 (fun _ z => by cases z)) (s.at h2 (fun _ z => by cases z)), w.no T hT⟩
end
section
variable {X : Cx} {K : PySem.W.Frag} {pa : Plc} {W : L2.St → XK} {a b c : Expr} {fa fb fc : S → Rs D} {pos p p2 : Pos} {es : List Expr} {fr : S → Rs (List D)}
/-- isinstance(e, T), T a built-in type -/
theorem pv_isi {T x : Str} {Tn : String} (ek : X.K = K) (hT : Tn ∈ ["int", "bool", "str", "tuple", "list", "dict"]) (hg : Gl X "isinstance") (hm : X.mg "isinstance" = none) (ha : PE X a (tV K pa W fa)) (hc : PE X c (tC (.ty Tn)))
    (h1 : starEach [a, c] X.env = (false, eval a X.env) :: starEach [c] X.env := by rfl) (h2 : starEach [c] X.env = (false, eval c X.env) :: starEach [] X.env := by rfl) (hpl : (backTo pos (starEach [c] X.env)).any (·.1) = false := by rfl) :
    PE X (.Call (.Name "isinstance" p) [a, c] [] pos) (tV K pa W (mUn (isiD Tn) fa)) := by
  subst ek
  refine (pe_callB call_isiZ hg hm (by decide +kernel) (pa_cons ha (pa_cons hc pa_nil h2) h1) (by decide) (by decide) h1 hpl).mono ?_
  rintro σ H Q ⟨F, s, rep, h⟩
  refine ⟨F, s, rep, (Fin.bind h).mono ?_⟩
  rintro v H1 ⟨F1, s1, x, st1, rep1, dv, h1⟩
  obtain ⟨z, e, o⟩ := h1.lift rep1
  cases e
  obtain ⟨t, h1, h2⟩ := Den.ty rep1.sub dv hT
  exact ⟨v, _, t, _, _, rfl, .ty Tn, h1, h2, o.here rep1.sub (.bl _)⟩
/-! slices -/
def cutD (xs : List D) (lo hi : Option Int) : List D := (xs.drop (HT.sIx xs.length 0 lo)).take (HT.sIx xs.length xs.length hi - HT.sIx xs.length 0 lo)
theorem DenAll.cut {F : Hp} {vs : List V} {ds : List D} (h : DenAll K F vs ds) (lo hi : Option Int) : DenAll K F (cutV vs lo hi) (cutD ds lo hi) := by
  unfold cutV cutD
  rw [h.length]
  exact (h.drop _).take _
def slD : D → Option Int → Option Int → Option D
  | .lst xs, lo, hi => some (.lst (cutD xs lo hi))
  | .tup xs, lo, hi => some (.tup (cutD xs lo hi))
  | .str x, lo, hi => if x.length ≤ 100000 then some (.str (cutS x lo hi)) else none
  | _, _, _ => none
def mPart (f : S → Rs D) : S → Rs (Option Int) := fun s => (f s).bind fun x s1 => match x with
  | .int i => .ok (some i) s1
  | _ => .no
def mNoPart : S → Rs (Option Int) := fun s => .ok none s
def dO : Hp → Hp → Option Int → Option Int → Prop := fun _ _ a b => a = b
abbrev tVO (K : PySem.W.Frag) (pa : Plc) (W : L2.St → XK) (f : S → Rs (Option Int)) : TO := tG dO K pa W f
theorem _root_.L2.PO.mono {X : Cx} {e : Option Expr} {t u : TO} (h : PO X e t) (m : ∀ σ H Q, u σ H Q → t σ H Q) : PO X e u := ⟨fun pins s σ H Q I z => h.run pins s σ H Q I (m σ H Q z)⟩
theorem qo_none : PO X none (tVO K pa W mNoPart) := by
  refine po_none.mono ?_
  rintro σ H Q ⟨F, s, rep, h⟩
  exact h none H F Step.refl rep rfl
theorem qo_some (h : PE X a (tV K pa W fa)) : PO X (some a) (tVO K pa W (mPart fa)) := by
  refine (po_some h).mono ?_
  rintro σ H Q ⟨F, s, rep, h⟩
  refine ⟨F, s, rep, (Fin.bind h).mono ?_⟩
  rintro v H1 ⟨F1, s1, x, st1, rep1, dv, h1⟩
  cases dv with
  | int i => exact ⟨i, rfl, h1 _ _ _ Step.refl rep1 rfl⟩
  | _ => exact False.elim h1
def mSl (fa : S → Rs D) (fl fh : S → Rs (Option Int)) : S → Rs D := fun s => (fa s).bind fun x s1 => (fl s1).bind fun l s2 => (fh s2).bind fun h s3 => liftO (slD x l h) s3
theorem pv_slice {lo hi : Option Expr} {fl fh : S → Rs (Option Int)} (ek : X.K = K) (ha : PE X a (tV K pa W fa)) (hl : PO X lo (tVO K pa W fl)) (hh : PO X hi (tVO K pa W fh)) : PE X (.Subscript a (.Slice lo hi none p2) pos) (tV K pa W (mSl fa fl fh)) := by
  subst ek
  refine (pe_slice (SlR.or sl_list (SlR.or sl_tupA sl_str)) ha hl hh).mono ?_
  rintro σ H Q ⟨F, s, rep, h⟩
  refine ⟨F, s, rep, (Fin.bind h).mono ?_⟩
  rintro v H1 ⟨F1, s1, x, st1, rep1, dv, h1⟩
  refine ⟨F1, s1, rep1, (Fin.bind h1).mono ?_⟩
  rintro l H2 ⟨F2, s2, l', st2, rep2, rfl, h2⟩
  refine ⟨F2, s2, rep2, (Fin.bind h2).mono ?_⟩
  rintro hi H3 ⟨F3, s3, hi', st3, rep3, rfl, h3⟩
  obtain ⟨z, e, o⟩ := Fin.lift rep3 h3
  have dv3 := Den.mono st3.le (Den.mono st2.le dv)
  have sb := rep3.sub
  cases dv3 with
  | @lst a vs ds q r =>
    cases e
    exact .inl ⟨a, vs, rfl, sb.sqL q, fun p hp => o.lst sb (r.cut _ _) hp⟩
  | @tup a vs ds q r =>
    cases e
    refine .inr (.inl ⟨a, vs, rfl, sb.sqT q, fun z => ?_, fun _ p hp => o.tup sb (r.cut _ _) hp⟩)
    have e : cutD ds l hi = ds := by
      unfold cutD
      rw [← r.length, z.1, z.2, r.length]
      simp
    rw [e] at o
    exact o.here sb (.tup q r)
  | str x =>
    dsimp only [slD] at e
    by_cases hl : x.length ≤ 100000
    · rw [if_pos hl] at e
      cases e
      exact .inr (.inr ⟨x, rfl, Nat.le_trans hl (by decide), o.here sb (.str _)⟩)
    · rw [if_neg hl] at e
      cases e
  | _ => cases e
/-! fields -/
def lookD (f : Str) : List Str → List D → Option D
  | k :: ks, v :: vs => if f == k then some v else lookD f ks vs
  | _, _ => none
def fldD (f : Str) : D → Option D
  | .obj _ ks vs => lookD f ks vs
  | _ => none
theorem lookD_ok {F : Hp} {f : Str} : ∀ {ks : List Str} {vs : List V} {ds : List D} {d : D}, DenAll K F vs ds → lookD f ks ds = some d → ∃ v, (ks.zip vs).lookup f = some v ∧ Den K F v d
  | [], _, _, _, _, e => by cases e
  | k :: ks, _, _, _, .nil, e => by cases e
  | k :: ks, _, _, d, .cons h r, e => by
    unfold lookD at e
    rw [List.zip_cons_cons, List.lookup_cons]
    cases q : (f == k) with
    | true =>
      rw [q, if_pos rfl] at e
      cases e
      exact ⟨_, rfl, h⟩
    | false =>
      rw [q, if_neg Bool.false_ne_true] at e
      exact lookD_ok r e
/-- e.f: cs the classes that may be met -/
def fldC (cs : List Str) (f : Str) : D → Option D
  | .obj c ks vs => if cs.contains c then lookD f ks vs else none
  | _ => none
theorem pv_fld {f : Str} {cs : List Str} (ek : X.K = K) (hcs : ∀ c ∈ cs, NoAttr K (He.ga K c) f) (ha : PE X a (tV K pa W fa)) (hb : attributeBase a f X.env (eval a X.env) = eval a X.env := by rfl) : PE X (.Attribute a f pos) (tV K pa W (mUn (fldC cs f) fa)) := by
  subst ek
  refine (pe_fld ha hb).mono ?_
  rintro σ H Q ⟨F, s, rep, h⟩
  refine ⟨F, s, rep, (Fin.bind h).mono ?_⟩
  rintro v H1 ⟨F1, s1, x, st1, rep1, dv, h1⟩
  obtain ⟨z, e, o⟩ := h1.lift rep1
  cases dv with
  | @obj a dx c ks vs ds w q l r =>
    dsimp only [fldC] at e
    by_cases hc : cs.contains c = true
    · rw [if_pos hc] at e
      obtain ⟨u, h1, h2⟩ := lookD_ok r e
      exact ⟨a, _, dx, _, u, rfl, rep1.sub.ins q, w.cl, hcs c (by simpa using hc), h1, o.here rep1.sub h2⟩
    · rw [if_neg hc] at e
      cases e
  | _ => cases e
end

/-! ### statements -/
inductive Ro where
  | nx (s : S) | rt (d : D) (s : S) | bk (s : S) | ct (s : S) | ex (c : Str) (v : D) (s : S) | no
def Ro.seq : Ro → (S → Ro) → Ro
  | .nx s, k => k s
  | .rt d s, _ => .rt d s
  | .bk s, _ => .bk s
  | .ct s, _ => .ct s
  | .ex c v s, _ => .ex c v s
  | .no, _ => .no
def Rs.st {α : Type} : Rs α → (α → S → Ro) → Ro
  | .ok a s, f => f a s
  | .ex c v s, _ => .ex c v s
  | .no, _ => .no
def FinS (K : PySem.W.Frag) (pa : Plc) (W : L2.St → XK) (F H : Hp) (σ : L2.St) (s : S) (o : Ro) (E : Ends) : Prop := match o with
  | .nx s' => ∀ σ' H' F', Step pa F H σ s F' H' σ' s' → Rep K pa F' H' σ' s' → E.nx σ' H'
  | .rt d s' => ∀ σ' v H' F', Step pa F H σ s F' H' σ' s' → Rep K pa F' H' σ' s' → Den K F' v d → E.rt v H'
  | .bk s' => ∀ σ' H' F', Step pa F H σ s F' H' σ' s' → Rep K pa F' H' σ' s' → E.bk σ' H'
  | .ct s' => ∀ σ' H' F', Step pa F H σ s F' H' σ' s' → Rep K pa F' H' σ' s' → E.ct σ' H'
  | .ex c d s' => ∀ σ' H' F', Step pa F H σ s F' H' σ' s' → Rep K pa F' H' σ' s' → ExAt K W F' H' σ' c d
  | .no => False
def tS (K : PySem.W.Frag) (pa : Plc) (W : L2.St → XK) (g : S → Ro) : TS := fun E σ H => ∃ F s, Rep K pa F H σ s ∧ FinS K pa W F H σ s (g s) E
section
variable {K : PySem.W.Frag} {pa : Plc} {W : L2.St → XK} {F H F1 H1 F2 H2 : Hp} {σ σ1 : L2.St} {s s1 s2 : S}
theorem FinS.shift {o : Ro} {E : Ends} (st : Step pa F H σ s F1 H1 σ1 s1) (h : FinS K pa W F H σ s o E) : FinS K pa W F1 H1 σ1 s1 o E := by
  cases o with
  | nx s' => exact fun σ' H' F' a b => h σ' H' F' (st.trans a) b
  | rt d s' => exact fun σ' v H' F' a b c => h σ' v H' F' (st.trans a) b c
  | bk s' => exact fun σ' H' F' a b => h σ' H' F' (st.trans a) b
  | ct s' => exact fun σ' H' F' a b => h σ' H' F' (st.trans a) b
  | ex c d s' => exact fun σ' H' F' a b => h σ' H' F' (st.trans a) b
  | no => exact h
theorem FinS.seq {o : Ro} {k : S → Ro} {E : Ends} (h : FinS K pa W F H σ s (o.seq k) E) : FinS K pa W F H σ s o { E with nx := tS K pa W k E } := by
  cases o with
  | nx s' => exact fun σ' H' F' a b => ⟨F', s', b, FinS.shift a h⟩
  | rt d s' => exact h
  | bk s' => exact h
  | ct s' => exact h
  | ex c d s' => exact h
  | no => exact h
/-- a statement that starts with an expression -/
theorem FinS.st {α β : Type} {den : Hp → Hp → β → α → Prop} {r : Rs α} {k : α → S → Ro} {E : Ends} (h : FinS K pa W F H σ s (r.st k) E) :
    Fin den K pa W F H σ s r (fun v H1 => ∃ F1 s1 x, Step pa F H σ s F1 H1 σ s1 ∧ Rep K pa F1 H1 σ s1 ∧ den F1 H1 v x ∧ FinS K pa W F1 H1 σ s1 (k x s1) E) := by
  cases r with
  | ok x s' => exact fun v H' F' a b c => ⟨F', s', x, a, b, c, FinS.shift a h⟩
  | ex c d s' => exact fun H' F' a b => h σ H' F' a b
  | no => exact h
theorem set_cases {α : Type} {l : List (Option α)} {i j : Nat} {x : Option α} {y : α} (h : (l.set i x)[j]? = some (some y)) : (j = i ∧ x = some y ∧ i < l.length) ∨ (j ≠ i ∧ l[j]? = some (some y)) := by
  by_cases q : j = i
  · subst q
    by_cases hl : j < l.length
    · rw [List.getElem?_set_self hl] at h
      exact .inl ⟨rfl, Option.some.inj h, hl⟩
    · rw [List.getElem?_eq_none (by simpa using hl)] at h
      cases h
  · rw [List.getElem?_set_ne (Ne.symm q)] at h
    exact .inr ⟨q, h⟩
def S.put (s : S) (i : Nat) (x : Option LV) : S := { s with e := s.e.set i x }
theorem Owns.of_put {i j : Nat} {v : Option V} {x : Option LV} {a : Addr} (h : Owns (σ.set i v) (s.e.set i x) j a) : (j = i ∧ v = some (.ref a) ∧ ∃ y, x = some y ∧ y.own = true) ∨ (j ≠ i ∧ Owns σ s.e j a) := by
  obtain ⟨h1, y, h2, h3⟩ := h
  rcases set_cases h2 with ⟨e1, e2, _⟩ | ⟨e1, e2⟩
  · rcases set_cases h1 with ⟨_, e4, _⟩ | ⟨e3, _⟩
    · exact .inl ⟨e1, e4, y, e2, h3⟩
    · exact absurd e1 e3
  · rw [List.getElem?_set_ne (Ne.symm e1)] at h1
    exact .inr ⟨e1, h1, y, e2, h3⟩
theorem HasP.of_put {i : Nat} {x : Option LV} (hx : x ≠ some .p) (h : HasP (s.e.set i x)) : HasP s.e := by
  obtain ⟨j, h⟩ := h
  rcases set_cases h with ⟨_, e2, _⟩ | ⟨_, e2⟩
  · exact absurd e2 hx
  · exact ⟨j, e2⟩
theorem SlotOk.set {i : Nat} {v : Option V} {x : Option LV} (rep : Rep K pa F H σ s) {j : Nat} {y : LV} (h : (s.e.set i x)[j]? = some (some y)) (new : ∀ z, x = some z → ∃ u, v = some u ∧ SlotOk K pa F H u z) : ∃ w, (σ.set i v)[j]? = some (some w) ∧ SlotOk K pa F H w y := by
  rcases set_cases h with ⟨e1, e2, e3⟩ | ⟨e1, e2⟩
  · subst e1
    obtain ⟨u, h1, h2⟩ := new y e2
    exact ⟨u, by rw [List.getElem?_set_self (by rw [rep.len]; exact e3), h1], h2⟩
  · obtain ⟨w, h1, h2⟩ := rep.slot j y e2
    exact ⟨w, by rw [List.getElem?_set_ne (Ne.symm e1)]; exact h1, h2⟩
theorem Rep.putD (rep : Rep K pa F H σ s) {v : V} {d : D} (i : Nat) (h : Den K F v d) : Rep K pa F H (σ.set i (some v)) (s.put i (some (.d d))) := by
  refine ⟨rep.sub, by simpa [S.put] using rep.len, fun j y e => SlotOk.set rep e (fun z q => ?_), fun j k a h1 h2 => ?_, fun hp => ?_⟩
  · cases q
    exact ⟨v, rfl, h⟩
  · rcases Owns.of_put h1 with ⟨_, _, y, e, f⟩ | ⟨_, h1⟩
    · cases e
      cases f
    · rcases Owns.of_put h2 with ⟨_, _, y, e, f⟩ | ⟨_, h2⟩
      · cases e
        cases f
      · exact rep.uniq j k a h1 h2
  · obtain ⟨q1, q2, q3⟩ := rep.pot (HasP.of_put (x := some (.d d)) (fun z => nomatch z) hp)
    refine ⟨q1, q2, fun j b hb z => ?_⟩
    rcases Owns.of_put z with ⟨_, _, y, e, f⟩ | ⟨_, z⟩
    · cases e
      cases f
    · exact q3 j b hb z
theorem Step.putD {σ2 : L2.St} (st : Step pa F H σ s F2 H2 σ2 s2) (i : Nat) (v : Option V) (d : D) : Step pa F H σ s F2 H2 (σ2.set i v) (s2.put i (some (.d d))) := by
  refine ⟨st.le, st.keep, st.new, fun a h => st.own a ?_⟩
  rcases h with ⟨j, h⟩ | ⟨h, e⟩
  · rcases Owns.of_put h with ⟨_, _, y, e, f⟩ | ⟨_, h⟩
    · cases e
      cases f
    · exact .inl ⟨j, h⟩
  · exact .inr ⟨HasP.of_put (x := some (.d d)) (fun z => nomatch z) h, e⟩
/-- a name owns a new thing: x its letter -/
def OwnsV (K : PySem.W.Frag) (F H : Hp) (a : Addr) : LV → Prop
  | .l xs => ∃ vs, H a = some (.lst vs) ∧ DenAll K F vs xs
  | .k ks xs => ∃ vs, H a = some (.dK (ks.zip vs)) ∧ ks.length = vs.length ∧ DenAll K F vs xs
  | _ => False
theorem OwnsV.nt {F H : Hp} {a : Addr} {o : HO} {x : LV} (h : OwnsV K F (upd H a o) a x) : NoTab o := by
  cases x with
  | l xs =>
    obtain ⟨vs, h, _⟩ := h
    rw [upd_same] at h
    cases h
    exact fun _ z => nomatch z
  | k ks xs =>
    obtain ⟨vs, h, _⟩ := h
    rw [upd_same] at h
    cases h
    exact fun _ z => nomatch z
  | d _ => exact h.elim
  | p => exact h.elim
theorem Rep.putO (rep : Rep K pa F H σ s) {a : Addr} {x : LV} (i : Nat) (hf : F a = none) (ho : OwnsV K F H a x) (hn : ¬ OwnA pa σ s a) : Rep K pa F H (σ.set i (some (.ref a))) (s.put i (some x)) := by
  have xp : (some x : Option LV) ≠ some .p := fun z => by
    cases z
    exact ho
  refine ⟨rep.sub, by simpa [S.put] using rep.len, fun j y e => SlotOk.set rep e (fun z q => ?_), fun j k b h1 h2 => ?_, fun hp => ?_⟩
  · cases q
    refine ⟨_, rfl, ?_⟩
    cases x with
    | l xs => exact ⟨hf, ho⟩
    | k ks xs => exact ⟨hf, ho⟩
    | d _ => exact ho.elim
    | p => exact ho.elim
  · rcases Owns.of_put h1 with ⟨e1, q1, _⟩ | ⟨n1, h1⟩
    · rcases Owns.of_put h2 with ⟨e2, _⟩ | ⟨_, h2⟩
      · exact e1.trans e2.symm
      · cases q1
        exact absurd (.inl ⟨k, h2⟩) hn
    · rcases Owns.of_put h2 with ⟨_, q2, _⟩ | ⟨_, h2⟩
      · cases q2
        exact absurd (.inl ⟨j, h1⟩) hn
      · exact rep.uniq j k b h1 h2
  · have hp' := HasP.of_put xp hp
    obtain ⟨q1, q2, q3⟩ := rep.pot hp'
    refine ⟨q1, q2, fun j b hb z => ?_⟩
    rcases Owns.of_put z with ⟨_, q, _⟩ | ⟨_, z⟩
    · cases q
      exact hn (.inr ⟨hp', hb⟩)
    · exact q3 j b hb z
theorem Step.putO {σ2 : L2.St} (st : Step pa F H σ s F2 H2 σ2 s2) {a : Addr} {x : LV} (i : Nat) (hx : x ≠ .p) (hn : H a = none ∨ OwnA pa σ s a) : Step pa F H σ s F2 H2 (σ2.set i (some (.ref a))) (s2.put i (some x)) := by
  refine ⟨st.le, st.keep, st.new, fun b h => ?_⟩
  rcases h with ⟨j, h⟩ | ⟨h, e⟩
  · rcases Owns.of_put h with ⟨_, q, _⟩ | ⟨_, h⟩
    · cases q
      exact hn.symm
    · exact st.own b (.inl ⟨j, h⟩)
  · exact st.own b (.inr ⟨HasP.of_put (fun z => hx (Option.some.inj z)) h, e⟩)
/-- what is made and not yet held by a name -/
structure Pend (K : PySem.W.Frag) (pa : Plc) (F H : Hp) (σ : L2.St) (s : S) (a : Addr) (x : LV) : Prop where
  hf : F a = none
  ho : OwnsV K F H a x
  hn : ¬ OwnA pa σ s a
theorem Pend.step {a : Addr} {x : LV} (p : Pend K pa F H σ s a x) {σ2 : L2.St} (st : Step pa F H σ s F2 H2 σ2 s2) : Pend K pa F2 H2 σ2 s2 a x := by
  have hh : ∃ o, H a = some o := by
    cases x with
    | l xs => obtain ⟨vs, h, _⟩ := p.ho; exact ⟨_, h⟩
    | k ks xs => obtain ⟨vs, h, _⟩ := p.ho; exact ⟨_, h⟩
    | d _ => exact p.ho.elim
    | p => exact p.ho.elim
  obtain ⟨o, hh⟩ := hh
  refine ⟨?_, ?_, fun z => ?_⟩
  · cases e : F2 a with
    | none => rfl
    | some u =>
      rcases st.new a (by rw [e]; exact fun z => nomatch z) with z | z | z
      · exact absurd p.hf z
      · rw [hh] at z
        cases z
      · exact absurd z p.hn
  · cases x with
    | l xs =>
      obtain ⟨vs, h, r⟩ := p.ho
      exact ⟨vs, st.at h p.hn, r.mono st.le⟩
    | k ks xs =>
      obtain ⟨vs, h, l, r⟩ := p.ho
      exact ⟨vs, st.at h p.hn, l, r.mono st.le⟩
    | d _ => exact p.ho.elim
    | p => exact p.ho.elim
  · rcases st.own a z with z | z
    · exact p.hn z
    · rw [hh] at z
      cases z
end
/-- what makes a new thing: its last deed is to lay it -/
def FinM (K : PySem.W.Frag) (pa : Plc) (W : L2.St → XK) (F H : Hp) (σ : L2.St) (s : S) (r : Rs LV) (Q : VK) : Prop := match r with
  | .ok x s' => ∀ a H1 F1 o, Step pa F H σ s F1 H1 σ s' → Rep K pa F1 H1 σ s' → H1 a = none → OwnsV K F1 (upd H1 a o) a x → Q (.ref a) (upd H1 a o)
  | .ex c d s' => ∀ H' F', Step pa F H σ s F' H' σ s' → Rep K pa F' H' σ s' → ExAt K W F' H' σ c d
  | .no => False
def tM (K : PySem.W.Frag) (pa : Plc) (W : L2.St → XK) (f : S → Rs LV) : TE := fun σ H Q => ∃ F s, Rep K pa F H σ s ∧ FinM K pa W F H σ s (f s) Q
/-- made things, frozen at once -/
def LV.d? : LV → Option D
  | .l xs => some (.lst xs)
  | .k ks xs => some (.dic ks xs)
  | .d x => some x
  | .p => none
def mFrz (f : S → Rs LV) : S → Rs D := fun s => (f s).bind fun x s1 => liftO x.d? s1
def mMkL (fr : S → Rs (List D)) : S → Rs LV := fun s => (fr s).bind fun xs s1 => if xs.length ≤ 100000 then .ok (.l xs) s1 else .no
def mMkO (g : D → Option (List D)) (fa : S → Rs D) : S → Rs LV := fun s => (fa s).bind fun x s1 => match g x with
  | some xs => .ok (.l xs) s1
  | none => .no
section
variable {X : Cx} {K : PySem.W.Frag} {pa : Plc} {W : L2.St → XK} {a b c : Expr} {fa fb fc : S → Rs D} {fm fn : S → Rs LV} {pos p p2 : Pos} {es : List Expr} {fr : S → Rs (List D)}
theorem FinM.shift {F H F1 H1 : Hp} {σ : L2.St} {s s1 : S} {r : Rs LV} {Q : VK} (st : Step pa F H σ s F1 H1 σ s1) (h : FinM K pa W F H σ s r Q) : FinM K pa W F1 H1 σ s1 r Q := by
  cases r with
  | ok x s' => exact fun a H1 F1 o q => h a H1 F1 o (st.trans q)
  | ex c d s' => exact fun H' F' a b => h H' F' (st.trans a) b
  | no => exact h
theorem not_own_new {F H : Hp} {σ : L2.St} {s : S} {a : Addr} (rep : Rep K pa F H σ s) (n : H a = none) : ¬ OwnA pa σ s a := by
  rintro (⟨i, h1, y, h2, h3⟩ | ⟨hp, e⟩)
  · obtain ⟨v, q1, q2⟩ := rep.slot i y h2
    rw [h1] at q1
    cases q1
    cases y with
    | l xs =>
      obtain ⟨_, vs, q, _⟩ := q2
      rw [n] at q
      cases q
    | k ks xs =>
      obtain ⟨_, vs, q, _⟩ := q2
      rw [n] at q
      cases q
    | d _ => cases h3
    | p => cases h3
  · obtain ⟨o, q⟩ := (rep.pot hp).2.1.isS e
    rw [n] at q
    cases q
theorem pend_new {F H : Hp} {σ : L2.St} {s : S} {a : Addr} {o : HO} {x : LV} (rep : Rep K pa F H σ s) (n : H a = none) (h : OwnsV K F (upd H a o) a x) : Pend K pa F (upd H a o) σ s a x := ⟨rep.sub.isN n, h, not_own_new rep n⟩
theorem OwnsV.den {F H : Hp} {a : Addr} {o : HO} {x : LV} {d : D} (h : OwnsV K F (upd H a o) a x) (hf : F a = none) (e : x.d? = some d) : Den K (upd F a o) (.ref a) d := by
  cases x with
  | l xs =>
    obtain ⟨vs, q, r⟩ := h
    rw [upd_same] at q
    cases q
    cases e
    exact .lst upd_same (r.mono (upd_le hf))
  | k ks xs =>
    obtain ⟨vs, q, l, r⟩ := h
    rw [upd_same] at q
    cases q
    cases e
    exact .dic upd_same l (r.mono (upd_le hf))
  | d _ => exact h.elim
  | p => exact h.elim
theorem frz_of : ∀ (σ : L2.St) (H : Hp) (Q : VK), tV K pa W (mFrz fm) σ H Q → tM K pa W fm σ H Q := by
  rintro σ H Q ⟨F, s, rep, h⟩
  refine ⟨F, s, rep, ?_⟩
  unfold mFrz at h
  cases e : fm s with
  | no =>
    rw [e] at h
    exact h
  | ex c d s1 =>
    rw [e] at h
    exact h
  | ok x s1 =>
    rw [e] at h
    intro a H1 F1 o st1 rep1 hn ho
    have h1 : Fin (dV K) K pa W F H σ s (liftO x.d? s1) Q := h
    cases q : x.d? with
    | none =>
      rw [q] at h1
      exact False.elim h1
    | some d =>
      rw [q] at h1
      have ext : Ext F1 H1 (upd F1 a o) (upd H1 a o) := Ext.laid rep1.sub hn ho.nt
      exact h1 _ _ _ (st1.trans ext.step) (rep1.ext ext) (ho.den (rep1.sub.isN hn) q)
theorem pv_frz (h : PE X a (tM K pa W fm)) : PE X a (tV K pa W (mFrz fm)) := h.mono frz_of
theorem q_asgFrz {st : Stmt} {gt : TG} (h : PS X st (tAsg (tM K pa W fm) gt)) : PS X st (tAsg (tV K pa W (mFrz fm)) gt) := h.mono fun _ _ _ z => frz_of _ _ _ z
theorem pm_lst (h : PA X es (tVA K pa W fr)) : PE X (.List es pos) (tM K pa W (mMkL fr)) := by
  refine (pe_lst h).mono ?_
  rintro σ H Q ⟨F, s, rep, h⟩
  refine ⟨F, s, rep, ?_⟩
  unfold mMkL at h
  cases e : fr s with
  | no =>
    rw [e] at h
    exact h
  | ex c d s1 =>
    rw [e] at h
    exact h
  | ok xs s1 =>
    rw [e] at h
    have h : FinM K pa W F H σ s (if xs.length ≤ 100000 then .ok (.l xs) s1 else .no) Q := h
    by_cases hl : xs.length ≤ 100000
    · rw [if_pos hl] at h
      intro vs H1 F1 st1 rep1 dv
      exact ⟨le_line (by rw [DenAll.length dv]; exact hl), fun p hp => h p H1 F1 _ st1 rep1 hp ⟨vs, upd_same, dv⟩⟩
    · rw [if_neg hl] at h
      exact h.elim
def seqOf : D → Option (List D)
  | .lst xs => some xs
  | .tup xs => some xs
  | _ => none
/-- list(e) -/
theorem pm_list (ek : X.K = K) (hg : Gl X "list") (hm : X.mg "list" = none) (ha : PE X a (tV K pa W fa)) (h1 : starEach [a] X.env = (false, eval a X.env) :: starEach [] X.env := by rfl) (hpl : (backTo pos (starEach [] X.env)).any (·.1) = false := by rfl) :
    PE X (.Call (.Name "list" p) [a] [] pos) (tM K pa W (mMkO seqOf fa)) := by
  refine (pe_callTy (c_listOf ek) hg hm (by decide +kernel) (pa_cons ha pa_nil h1) (by decide) (by decide) h1 hpl).mono ?_
  rintro σ H Q ⟨F, s, rep, h⟩
  refine ⟨F, s, rep, ?_⟩
  unfold mMkO at h
  cases e : fa s with
  | no =>
    rw [e] at h
    exact h
  | ex c d s1 =>
    rw [e] at h
    exact h
  | ok x s1 =>
    rw [e] at h
    intro v H1 F1 st1 rep1 dv
    have dv : Den K F1 v x := dv
    cases dv with
    | @lst a vs ds q r => exact ⟨a, vs, rfl, .inl (rep1.sub.sqL q), fun l hl => h l H1 F1 _ st1 rep1 hl ⟨vs, upd_same, r⟩⟩
    | @tup a vs ds q r => exact ⟨a, vs, rfl, .inr (rep1.sub.sqT q), fun l hl => h l H1 F1 _ st1 rep1 hl ⟨vs, upd_same, r⟩⟩
    | _ => exact False.elim h
/-! ### small statements -/
def sNil : S → Ro := fun s => .nx s
def sSeq (g1 g2 : S → Ro) : S → Ro := fun s => (g1 s).seq g2
def sRet (fa : S → Rs D) : S → Ro := fun s => (fa s).st fun d s1 => .rt d s1
def sDrop (fa : S → Rs D) : S → Ro := fun s => (fa s).st fun _ s1 => .nx s1
def sIf (ft : S → Rs Bool) (g1 g2 : S → Ro) : S → Ro := fun s => (ft s).st fun b s1 => match b with
  | true => g1 s1
  | false => g2 s1
def sSet (i : Nat) (fa : S → Rs D) : S → Ro := fun s => (fa s).st fun d s1 => .nx (s1.put i (some (.d d)))
def sMk (i : Nat) (fm : S → Rs LV) : S → Ro := fun s => (fm s).st fun x s1 => .nx (s1.put i (some x))
variable {st : Stmt} {rest : List Stmt} {g g1 g2 : S → Ro}
theorem qs_nil : PSs X [] (tS K pa W sNil) := by
  refine pss_nil.mono ?_
  rintro E σ H ⟨F, s, rep, h⟩
  exact h _ _ _ Step.refl rep
theorem qs_cons (h1 : PS X st (tS K pa W g1)) (h2 : PSs X rest (tS K pa W g2)) : PSs X (st :: rest) (tS K pa W (sSeq g1 g2)) := by
  refine (pss_cons h1 h2).mono ?_
  rintro E σ H ⟨F, s, rep, h⟩
  exact ⟨F, s, rep, FinS.seq h⟩
theorem qs_one (h1 : PS X st (tS K pa W g1)) : PSs X [st] (tS K pa W g1) := pss_one h1
theorem q_pass : PS X (.Pass pos) (tS K pa W sNil) := by
  refine ps_pass.mono ?_
  rintro E σ H ⟨F, s, rep, h⟩
  exact h _ _ _ Step.refl rep
theorem q_break : PS X (.Break pos) (tS K pa W .bk) := by
  refine ps_break.mono ?_
  rintro E σ H ⟨F, s, rep, h⟩
  exact h _ _ _ Step.refl rep
theorem q_continue : PS X (.Continue pos) (tS K pa W .ct) := by
  refine ps_continue.mono ?_
  rintro E σ H ⟨F, s, rep, h⟩
  exact h _ _ _ Step.refl rep
theorem q_never : PS X st (tS K pa W fun _ => .no) := by
  refine ps_never.mono ?_
  rintro E σ H ⟨F, s, rep, h⟩
  exact h
theorem q_ret (h : PE X a (tV K pa W fa)) : PS X (.Return (some a) pos) (tS K pa W (sRet fa)) := by
  refine (ps_ret h).mono ?_
  rintro E σ H ⟨F, s, rep, h⟩
  refine ⟨F, s, rep, (FinS.st h).mono ?_⟩
  rintro v H1 ⟨F1, s1, x, st1, rep1, dv, h1⟩
  exact h1 _ _ _ _ Step.refl rep1 dv
theorem q_expr (h : PE X a (tV K pa W fa)) (hs : swapsWith a none pos.line X.env = pure false := by rfl) : PS X (.Expr a pos) (tS K pa W (sDrop fa)) := by
  refine (ps_expr h hs).mono ?_
  rintro E σ H ⟨F, s, rep, h⟩
  refine ⟨F, s, rep, (FinS.st h).mono ?_⟩
  rintro v H1 ⟨F1, s1, x, st1, rep1, dv, h1⟩
  exact h1 _ _ _ Step.refl rep1
theorem q_if {ft : S → Rs Bool} {l1 l2 : List Stmt} (hc : PT X c (tVB K pa W ft)) (h1 : PSs X l1 (tS K pa W g1)) (h2 : PSs X l2 (tS K pa W g2)) : PS X (.If c l1 l2 pos) (tS K pa W (sIf ft g1 g2)) := by
  refine (ps_if hc h1 h2).mono ?_
  rintro E σ H ⟨F, s, rep, h⟩
  refine ⟨F, s, rep, (FinS.st h).mono ?_⟩
  rintro v H1 ⟨F1, s1, x, st1, rep1, rfl, h1⟩
  cases v with
  | true => exact ⟨F1, s1, rep1, h1⟩
  | false => exact ⟨F1, s1, rep1, h1⟩
theorem q_set {i : Nat} (h : PS X st (tAsg (tV K pa W fa) (gName i))) : PS X st (tS K pa W (sSet i fa)) := by
  refine h.mono ?_
  rintro E σ H ⟨F, s, rep, h⟩
  refine ⟨F, s, rep, (FinS.st h).mono ?_⟩
  rintro v H1 ⟨F1, s1, x, st1, rep1, dv, h1⟩
  exact h1 _ _ _ (Step.refl.putD i _ _) (rep1.putD i dv)
theorem q_mk {i : Nat} (h : PS X st (tAsg (tM K pa W fm) (gName i))) : PS X st (tS K pa W (sMk i fm)) := by
  refine h.mono ?_
  rintro E σ H ⟨F, s, rep, h⟩
  refine ⟨F, s, rep, ?_⟩
  unfold sMk at h
  cases e : fm s with
  | no =>
    rw [e] at h
    exact h
  | ex c d s1 =>
    rw [e] at h
    exact fun H' F' a b => h σ H' F' a b
  | ok x s1 =>
    rw [e] at h
    intro a H1 F1 o st1 rep1 hn ho
    have ext : Ext F1 H1 F1 (upd H1 a o) := Ext.fresh rep1.sub hn
    have pd := pend_new rep1 hn ho
    have nx : x ≠ .p := fun z => by
      subst z
      exact ho
    exact h _ _ _ (st1.trans (Step.putO ext.step i nx (.inl hn))) ((rep1.ext ext).putO i pd.hf pd.ho pd.hn)
end

/-! ### targets -/
/-- σ is changed at no slot but these -/
def Only (is : List Nat) (σ σ' : L2.St) : Prop := σ'.length = σ.length ∧ ∀ k, k ∉ is → σ'[k]? = σ[k]?
theorem Only.refl {is : List Nat} {σ : L2.St} : Only is σ σ := ⟨rfl, fun _ _ => rfl⟩
theorem Only.trans {is js : List Nat} {σ σ1 σ2 : L2.St} (a : Only is σ σ1) (b : Only js σ1 σ2) : Only (is ++ js) σ σ2 := ⟨b.1.trans a.1, fun k h => (b.2 k (fun z => h (List.mem_append_right _ z))).trans (a.2 k fun z => h (List.mem_append_left _ z))⟩
theorem Only.set {i : Nat} {σ : L2.St} {v : Option V} : Only [i] σ (σ.set i v) := ⟨by simp, fun k h => List.getElem?_set_ne (fun e => h (by simp [e]))⟩
theorem wipe_get {σ : L2.St} {k : Nat} : ∀ {vs : List Nat}, k ∉ vs → (wipe σ vs)[k]? = σ[k]?
  | [], _ => rfl
  | v :: vs, h => by
    unfold wipe
    rw [List.getElem?_set_ne (fun e => h (by simp [e]))]
    exact wipe_get (fun z => h (List.mem_cons_of_mem _ z))
theorem wipe_in {σ : L2.St} {k : Nat} : ∀ {vs : List Nat}, k ∈ vs → (wipe σ vs)[k]? = if k < σ.length then some none else none
  | v :: vs, h => by
    unfold wipe
    by_cases e : v = k
    · subst e
      by_cases l : v < σ.length
      · rw [List.getElem?_set_self (by rw [wipe_length]; exact l), if_pos l]
      · rw [if_neg l, List.getElem?_eq_none (by rw [List.length_set, wipe_length]; omega)]
    · rw [List.getElem?_set_ne e]
      rcases List.mem_cons.mp h with z | z
      · exact absurd z.symm e
      · exact wipe_in z
theorem Only.wipe {is vs : List Nat} {σ σ' : L2.St} (o : Only is (L2.wipe σ vs) σ') (sub : ∀ k ∈ is, k ∈ vs) : L2.wipe σ' vs = L2.wipe σ vs := by
  apply List.ext_getElem?
  intro k
  have hl : σ'.length = σ.length := by rw [o.1, wipe_length]
  by_cases h : k ∈ vs
  · rw [wipe_in h, wipe_in h, hl]
  · rw [wipe_get h, wipe_get h, o.2 k (fun z => h (sub k z)), wipe_get h]
def tGt (K : PySem.W.Frag) (pa : Plc) (is : List Nat) (b : D → S → Option S) : TG := fun v σ H R => ∃ F s d s', Rep K pa F H σ s ∧ Den K F v d ∧ b d s = some s' ∧ ∀ σ', Step pa F H σ s F H σ' s' → Rep K pa F H σ' s' → Only is σ σ' → R σ' H
def tGts (K : PySem.W.Frag) (pa : Plc) (is : List Nat) (b : List D → S → Option S) : TGs := fun v σ H R => ∃ F s d s', Rep K pa F H σ s ∧ DenAll K F v d ∧ b d s = some s' ∧ ∀ σ', Step pa F H σ s F H σ' s' → Rep K pa F H σ' s' → Only is σ σ' → R σ' H
def bName (i : Nat) : D → S → Option S := fun d s => some (s.put i (some (.d d)))
def bNil : List D → S → Option S
  | [], s => some s
  | _ :: _, _ => none
def bCons (b : D → S → Option S) (bs : List D → S → Option S) : List D → S → Option S
  | d :: ds, s => match b d s with
    | some s1 => bs ds s1
    | none => none
  | [], _ => none
def bTup (n : Nat) (bs : List D → S → Option S) : D → S → Option S
  | .tup ds, s => if ds.length = n then bs ds s else none
  | _, _ => none
theorem _root_.L2.PG.mono {X : Cx} {e : Expr} {t u : TG} (h : PG X e t) (m : ∀ v σ H R, u v σ H R → t v σ H R) : PG X e u := ⟨fun pins s σ H v w R I r z => h.run pins s σ H v w R I r (m v σ H R z)⟩
theorem _root_.L2.PGs.mono {X : Cx} {e : List Expr} {t u : TGs} (h : PGs X e t) (m : ∀ v σ H R, u v σ H R → t v σ H R) : PGs X e u := ⟨fun pins s σ H v w R I r z => h.run pins s σ H v w R I r (m v σ H R z)⟩
theorem _root_.L2.PI.mono {X : Cx} {e f : Expr} {t u : TI} (h : PI X e f t) (m : ∀ σ H R, u σ H R → t σ H R) : PI X e f u := ⟨fun pins s σ H R I z => h.run pins s σ H R I (m σ H R z)⟩
theorem _root_.L2.PI.or {X : Cx} {e f : Expr} {t u : TI} (h : PI X e f t) (h2 : PI X e f u) : PI X e f (fun σ H R => t σ H R ∨ u σ H R) := ⟨fun pins s σ H R I z => z.elim (h.run pins s σ H R I) (h2.run pins s σ H R I)⟩
section
variable {X : Cx} {K : PySem.W.Frag} {pa : Plc} {W : L2.St → XK} {a b c tg : Expr} {fa fb fc : S → Rs D} {pos p p2 : Pos} {es : List Expr} {fr : S → Rs (List D)}
theorem qg_name {i : Nat} {x : Str} (hN : X.N.Nodup) (hi : X.N[i]? = some x) (hx : Loc X.env.scope x) (hf : X.fn x = true ∨ X.env.scope.names.lookup x = some .local := by first | exact .inl rfl | exact .inr rfl | assumption) : PG X (.Name x pos) (tGt K pa [i] (bName i)) := by
  refine (pg_name hN hi hx hf).mono ?_
  rintro v σ H R ⟨F, s, d, s', rep, dv, e, h⟩
  cases e
  exact h _ (Step.refl.putD i _ _) (rep.putD i dv) Only.set
theorem qgs_nil : PGs X [] (tGts K pa [] bNil) := by
  refine pgs_nil.mono ?_
  rintro v σ H R ⟨F, s, d, s', rep, dv, e, h⟩
  cases dv with
  | nil =>
    cases e
    exact ⟨rfl, h _ Step.refl rep Only.refl⟩
  | cons _ _ => cases e
theorem qgs_cons {e : Expr} {is js : List Nat} {b : D → S → Option S} {bs : List D → S → Option S} (h1 : PG X e (tGt K pa is b)) (h2 : PGs X es (tGts K pa js bs))
    (hs : (assignEach (e :: es) X.env).map (·.2) = assign e X.env :: (assignEach es X.env).map (·.2) := by rfl) : PGs X (e :: es) (tGts K pa (is ++ js) (bCons b bs)) := by
  refine (pgs_cons h1 h2 hs).mono ?_
  rintro v σ H R ⟨F, s, d, s', rep, dv, e, h⟩
  cases dv with
  | nil => cases e
  | cons dv dr =>
    rename_i d ds
    dsimp only [bCons] at e
    cases q : b d s with
    | none =>
      rw [q] at e
      cases e
    | some s1 =>
      rw [q] at e
      refine ⟨_, _, rfl, F, s, d, s1, rep, dv, q, fun σ1 st1 rep1 o1 => ⟨F, s1, ds, s', rep1, dr, e, fun σ2 st2 rep2 o2 => h σ2 (st1.trans st2) rep2 (o1.trans o2)⟩⟩
theorem qg_tup {k n : Nat} {is : List Nat} {bs : List D → S → Option S} (ek : X.K = K) (hc : X.calm = true) (h : PGs X es (tGts K pa is bs)) (hn : (assignEach es X.env).length = n := by rfl) (hst : (assignEach es X.env).findIdx? (·.1) = none := by rfl) : PG X (.Tuple es k pos) (tGt K pa is (bTup n bs)) := by
  subst ek
  refine (pg_tup hc h hn hst).mono ?_
  rintro v σ H R ⟨F, s, d, s', rep, dv, e, h⟩
  cases dv with
  | @tup a vs ds q r =>
    dsimp only [bTup] at e
    by_cases hl : ds.length = n
    · rw [if_pos hl] at e
      exact ⟨a, vs, rfl, rep.sub.sqT q, r.length.trans hl, F, s, ds, s', rep, r, e, h⟩
    · rw [if_neg hl] at e
      cases e
  | _ => cases e
/-- target = e -/
def sAsg (b : D → S → Option S) (fa : S → Rs D) : S → Ro := fun s => (fa s).st fun d s1 => match b d s1 with
  | some s2 => .nx s2
  | none => .no
theorem q_asg {is : List Nat} {b : D → S → Option S} (he : PE X a (tV K pa W fa)) (hg : PG X tg (tGt K pa is b)) (hs : swapsWithSole [tg] a pos.line X.env = pure false := by rfl) (hw : swappedStores [tg] a X.env = pure none := by rfl)
    (h1 : (assignEach [tg] X.env).map (·.2) = [assign tg X.env] := by rfl) : PS X (.Assign [tg] a pos) (tS K pa W (sAsg b fa)) := by
  refine (ps_asg he hg hs hw h1).mono ?_
  rintro E σ H ⟨F, s, rep, h⟩
  refine ⟨F, s, rep, (FinS.st h).mono ?_⟩
  rintro v H1 ⟨F1, s1, x, st1, rep1, dv, h1⟩
  cases q : b x s1 with
  | none =>
    rw [q] at h1
    exact h1.elim
  | some s2 =>
    rw [q] at h1
    exact ⟨F1, s1, x, s2, rep1, dv, q, fun σ' st rp _ => h1 _ _ _ st rp⟩
/-! ### what is walked -/
structure IterOf (K : PySem.W.Frag) (F H : Hp) (J : It) (ds : List D) : Prop where
  ex : ∃ (G : Hp → Prop) (Y : Nat → Hp → V → Hp → Prop), Walk J ds.length G Y ∧ (∀ F' H', Le F F' → Sub F' H' → (∀ a o, F a ≠ none → H a = some o → NoTab o → H' a = some o) → G H') ∧
    ∀ i F' H' x H'', Le F F' → Sub F' H' → (∀ a o, F a ≠ none → H a = some o → NoTab o → H' a = some o) → Y i H' x H'' → ∃ d F'', ds[i]? = some d ∧ Ext F' H' F'' H'' ∧ Den K F'' x d
def dI (K : PySem.W.Frag) : Hp → Hp → It → List D → Prop := fun F H J ds => IterOf K F H J ds
abbrev tVI (K : PySem.W.Frag) (pa : Plc) (W : L2.St → XK) (f : S → Rs (List D)) : TI := tG (dI K) K pa W f
def chars (x : Str) : List D := x.cps.toList.map fun c => .str ⟨#[c]⟩
def iterD : D → Option (List D)
  | .lst xs => some xs
  | .tup xs => some xs
  | .str x => some (chars x)
  | _ => none
def mIter (g : D → Option (List D)) (fa : S → Rs D) : S → Rs (List D) := fun s => (fa s).bind fun x s1 => liftO (g x) s1
theorem iter_list {F H : Hp} {a : Addr} {vs : List V} {ds : List D} (h : F a = some (.lst vs)) (r : DenAll K F vs ds) : IterOf K F H (Itl K a) ds := by
  refine ⟨_, _, by rw [← r.length]; exact walk_list (xs := vs), fun F' H' le s _ => s.sqL (le _ _ h), fun i F' H' x H'' le s _ y => ?_⟩
  obtain ⟨rfl, e⟩ := y
  obtain ⟨d, e1, e2⟩ := (r.mono le).get e
  exact ⟨d, F', e1, Ext.refl s, e2⟩
theorem iter_tup {F H : Hp} {a : Addr} {vs : List V} {ds : List D} (h : F a = some (.tup vs) ∨ ∀ H, SqT K H a vs) (r : DenAll K F vs ds) : IterOf K F H (Itt K a) ds := by
  refine ⟨_, _, by rw [← r.length]; exact walk_tup (xs := vs), fun F' H' le s _ => s.sqT (h.imp (le _ _) id), fun i F' H' x H'' le s _ y => ?_⟩
  obtain ⟨rfl, e⟩ := y
  obtain ⟨d, e1, e2⟩ := (r.mono le).get e
  exact ⟨d, F', e1, Ext.refl s, e2⟩
theorem iter_str {F H : Hp} {z : Str} : IterOf K F H (Its z) (chars z) := by
  refine ⟨_, _, by rw [show (chars z).length = z.cps.size by simp [chars]]; exact walk_str (z := z), fun _ _ _ _ _ => trivial, fun i F' H' x H'' le s _ y => ?_⟩
  obtain ⟨rfl, c, e, rfl⟩ := y
  refine ⟨_, F', ?_, Ext.refl s, .str _⟩
  unfold chars
  rw [List.getElem?_map, Array.getElem?_toList, e]
  rfl
theorem qi_any (ek : X.K = K) (h : PE X a (tV K pa W fa)) : PI X tg a (tVI K pa W (mIter iterD fa)) := by
  subst ek
  refine (PI.or (pi_list h) (PI.or (pi_tup h) (pi_str h))).mono ?_
  rintro σ H R ⟨F, s, rep, h⟩
  unfold mIter at h
  cases e : fa s with
  | no =>
    rw [e] at h
    exact h.elim
  | ex c d s1 =>
    rw [e] at h
    refine .inl ⟨F, s, rep, ?_⟩
    rw [e]
    exact h
  | ok x s1 =>
    rw [e] at h
    have h : Fin (dI X.K) X.K pa W F H σ s (liftO (iterD x) s1) R := h
    cases x with
    | lst xs =>
      refine .inl ⟨F, s, rep, ?_⟩
      rw [e]
      intro v H1 F1 st1 rep1 dv
      have dv : Den X.K F1 v (.lst xs) := dv
      cases dv with
      | lst q r => exact ⟨_, rfl, ⟨_, rep1.sub.sqL q⟩, h _ _ _ st1 rep1 (iter_list q r)⟩
    | tup xs =>
      refine .inr (.inl ⟨F, s, rep, ?_⟩)
      rw [e]
      intro v H1 F1 st1 rep1 dv
      have dv : Den X.K F1 v (.tup xs) := dv
      cases dv with
      | tup q r => exact ⟨_, rfl, ⟨_, rep1.sub.sqT q⟩, h _ _ _ st1 rep1 (iter_tup q r)⟩
    | str z =>
      refine .inr (.inr ⟨F, s, rep, ?_⟩)
      rw [e]
      intro v H1 F1 st1 rep1 dv
      have dv : Den X.K F1 v (.str z) := dv
      cases dv
      exact ⟨z, rfl, h _ _ _ st1 rep1 iter_str⟩
    | _ => exact h.elim
def rangeD (lo : Int) (n : Nat) : List D := (List.range n).map fun i => .int (lo + (i : Nat))
theorem iter_range {F H : Hp} {lo : Int} {n : Nat} : IterOf K F H (Itr lo n) (rangeD lo n) := by
  refine ⟨_, _, by rw [show (rangeD lo n).length = n by simp [rangeD]]; exact (walk_range (lo := lo) (n := n)).mono (Y' := fun i H x H' => (H' = H ∧ x = .int (lo + i)) ∧ i < n) (fun _ h => h) (fun i H x H' hi _ y => ⟨y, hi⟩), fun _ _ _ _ _ => trivial, fun i F' H' x H'' le s _ y => ?_⟩
  obtain ⟨⟨rfl, rfl⟩, hi⟩ := y
  refine ⟨_, F', ?_, Ext.refl s, .int _⟩
  unfold rangeD
  rw [List.getElem?_map, List.getElem?_range hi]
  rfl
def mRng1 (fr : S → Rs (List D)) : S → Rs (List D) := fun s => (fr s).bind fun xs s1 => match xs with
  | [.int n] => if -1000000 ≤ n ∧ n ≤ 1000000 then .ok (rangeD 0 n.toNat) s1 else .no
  | _ => .no
def mRng2 (fr : S → Rs (List D)) : S → Rs (List D) := fun s => (fr s).bind fun xs s1 => match xs with
  | [.int m, .int n] => if -1000000 ≤ n ∧ n ≤ 1000000 ∧ -1000000 ≤ m ∧ m ≤ 1000000 then .ok (rangeD m (n - m).toNat) s1 else .no
  | _ => .no
theorem qi_range1 (hg : Gl X "range") (hm : X.mg "range" = none) (ha : PA X [a] (tVA K pa W fr)) (hs : starEach [a] X.env = [(false, eval a X.env)] := by rfl) : PI X tg (.Call (.Name "range" p) [a] [] pos) (tVI K pa W (mRng1 fr)) := by
  refine (pi_range1 hg hm ha hs).mono ?_
  rintro σ H R ⟨F, s, rep, h⟩
  refine ⟨F, s, rep, (Fin.bind h).mono ?_⟩
  rintro vs H1 ⟨F1, s1, xs, st1, rep1, dv, h1⟩
  have dv : DenAll K F1 vs xs := dv
  match xs, h1, dv with
  | [.int n], h1, dv =>
    obtain ⟨v, rfl, d1⟩ := dv.one
    cases d1
    dsimp only at h1
    by_cases hl : -1000000 ≤ n ∧ n ≤ 1000000
    · rw [if_pos hl] at h1
      exact ⟨n, rfl, by omega, by omega, h1 _ _ _ Step.refl rep1 iter_range⟩
    · rw [if_neg hl] at h1
      exact h1.elim
theorem qi_range2 (hg : Gl X "range") (hm : X.mg "range" = none) (ha : PA X [a, b] (tVA K pa W fr)) (hs : starEach [a, b] X.env = [(false, eval a X.env), (false, eval b X.env)] := by rfl) (hs2 : starEach [b] X.env = [(false, eval b X.env)] := by rfl) : PI X tg (.Call (.Name "range" p) [a, b] [] pos) (tVI K pa W (mRng2 fr)) := by
  refine (pi_range2 hg hm ha hs hs2).mono ?_
  rintro σ H R ⟨F, s, rep, h⟩
  refine ⟨F, s, rep, (Fin.bind h).mono ?_⟩
  rintro vs H1 ⟨F1, s1, xs, st1, rep1, dv, h1⟩
  have dv : DenAll K F1 vs xs := dv
  match xs, h1, dv with
  | [.int m, .int n], h1, dv =>
    obtain ⟨v, w, rfl, d1, d2⟩ := dv.two
    cases d1
    cases d2
    dsimp only at h1
    by_cases hl : -1000000 ≤ n ∧ n ≤ 1000000 ∧ -1000000 ≤ m ∧ m ≤ 1000000
    · rw [if_pos hl] at h1
      exact ⟨m, n, rfl, by omega, h1 _ _ _ Step.refl rep1 iter_range⟩
    · rw [if_neg hl] at h1
      exact h1.elim
def pairD (x y : D) : D := .tup [x, y]
theorem ext_pair {F H : Hp} {T : Addr} {x y : V} {d e : D} (s : Sub F H) (n : H T = none) (hx : Den K F x d) (hy : Den K F y e) : Ext F H (upd F T (.tup [x, y])) (upd H T (.tup [x, y])) ∧ Den K (upd F T (.tup [x, y])) (.ref T) (pairD d e) :=
  ⟨Ext.laid s n, .tup (.inl upd_same) (.cons (hx.mono (upd_le (s.isN n))) (.cons (hy.mono (upd_le (s.isN n))) .nil))⟩
def zipD (xs ys : List D) : List D := List.zipWith pairD xs ys
theorem iter_zip {F H : Hp} {a b : Addr} {vs ws : List V} {ds es : List D} (h : F a = some (.lst vs)) (r : DenAll K F vs ds) (h2 : F b = some (.lst ws)) (r2 : DenAll K F ws es) : IterOf K F H (Itz K a b) (zipD ds es) := by
  refine ⟨_, _, walk_zip (xs := vs) (ys := ws) (by simp [zipD, r.length, r2.length]), fun F' H' le s _ => ⟨s.sqL (le _ _ h), s.sqL (le _ _ h2)⟩, fun i F' H' x H'' le s _ y => ?_⟩
  obtain ⟨T, u, v, rfl, n, rfl, e1, e2⟩ := y
  obtain ⟨d, q1, q2⟩ := (r.mono le).get e1
  obtain ⟨e, q3, q4⟩ := (r2.mono le).get e2
  obtain ⟨x1, x2⟩ := ext_pair s n q2 q4
  exact ⟨pairD d e, _, by simp [zipD, List.getElem?_zipWith, q1, q3], x1, x2⟩
theorem walk_zipT {a b : Addr} {xs ys : List V} {n : Nat} (hn : n = min xs.length ys.length) : Walk (RZ.ItzT K a b) n (fun H => SqT K H a xs ∧ SqT K H b ys) (YPair (fun i => xs[i]?) (fun i => ys[i]?)) := by
  subst hn
  refine ⟨fun i _ hi q => ?_, fun _ q => ⟨xs, ys, q.1, q.2, by omega⟩, fun i H v H' _ q y => ?_⟩
  · have h1 : i < xs.length := by omega
    have h2 : i < ys.length := by omega
    exact ⟨xs, ys, xs[i], ys[i], q.1, q.2, by simp [h1], by simp [h2]⟩
  · obtain ⟨T, x, z, h1, h2, h3, h4, h5⟩ := y
    exact ⟨T, x, z, h1, h2, h3, h4 xs q.1, h5 ys q.2⟩
theorem iter_zipT {F H : Hp} {a b : Addr} {vs ws : List V} {ds es : List D} (h : F a = some (.tup vs) ∨ ∀ H, SqT K H a vs) (r : DenAll K F vs ds) (h2 : F b = some (.tup ws) ∨ ∀ H, SqT K H b ws) (r2 : DenAll K F ws es) : IterOf K F H (RZ.ItzT K a b) (zipD ds es) := by
  refine ⟨_, _, walk_zipT (xs := vs) (ys := ws) (by simp [zipD, r.length, r2.length]), fun F' H' le s _ => ⟨s.sqT (h.imp (le _ _) id), s.sqT (h2.imp (le _ _) id)⟩, fun i F' H' x H'' le s _ y => ?_⟩
  obtain ⟨T, u, v, rfl, n, rfl, e1, e2⟩ := y
  obtain ⟨d, q1, q2⟩ := (r.mono le).get e1
  obtain ⟨e, q3, q4⟩ := (r2.mono le).get e2
  obtain ⟨x1, x2⟩ := ext_pair s n q2 q4
  exact ⟨pairD d e, _, by simp [zipD, List.getElem?_zipWith, q1, q3], x1, x2⟩
def mZip (fr : S → Rs (List D)) : S → Rs (List D) := fun s => (fr s).bind fun xs s1 => match xs with
  | [.lst xs, .lst ys] => .ok (zipD xs ys) s1
  | [.tup xs, .tup ys] => .ok (zipD xs ys) s1
  | _ => .no
theorem qi_zip {e2 : Expr} {elts : List Expr} {kk : Nat} {tpos : Pos} (ek : X.K = K) (hg : Gl X "zip") (hm : X.mg "zip" = none) (ha : PA X [a, e2] (tVA K pa W fr)) (hs : starEach [a, e2] X.env = (false, eval a X.env) :: starEach [e2] X.env := by rfl) (hpl : (backTo pos (starEach [e2] X.env)).any (·.1) = false := by rfl) :
    PI X (.Tuple elts kk tpos) (.Call (.Name "zip" p) [a, e2] [] pos) (tVI K pa W (mZip fr)) := by
  subst ek
  refine (RZ.pi_zipA hg hm ha hs hpl).mono ?_
  rintro σ H R ⟨F, s, rep, h⟩
  refine ⟨F, s, rep, (Fin.bind h).mono ?_⟩
  rintro vs H1 ⟨F1, s1, xs, st1, rep1, dv, h1⟩
  have dv : DenAll X.K F1 vs xs := dv
  match xs, h1, dv with
  | [.lst xs, .lst ys], h1, dv =>
    obtain ⟨v, w, rfl, d1, d2⟩ := dv.two
    cases d1 with
    | lst q r =>
      cases d2 with
      | lst q2 r2 => exact ⟨_, _, _, _, rfl, .inl ⟨rep1.sub.sqL q, rep1.sub.sqL q2, h1 _ _ _ Step.refl rep1 (iter_zip q r q2 r2)⟩⟩
  | [.tup xs, .tup ys], h1, dv =>
    obtain ⟨v, w, rfl, d1, d2⟩ := dv.two
    cases d1 with
    | tup q r =>
      cases d2 with
      | tup q2 r2 => exact ⟨_, _, _, _, rfl, .inr ⟨rep1.sub.sqT q, rep1.sub.sqT q2, h1 _ _ _ Step.refl rep1 (iter_zipT q r q2 r2)⟩⟩
def enumD (lo : Nat) : List D → List D
  | [] => []
  | d :: ds => pairD (.int (lo : Nat)) d :: enumD (lo + 1) ds
theorem enumD_get {d : D} : ∀ {ds : List D} {lo i : Nat}, ds[i]? = some d → (enumD lo ds)[i]? = some (pairD (.int ((lo + i : Nat) : Int)) d)
  | [], _, _, e => by simp at e
  | x :: xs, lo, 0, e => by
    simp at e
    subst e
    rfl
  | x :: xs, lo, i + 1, e => by
    have := enumD_get (lo := lo + 1) (i := i) (ds := xs) (by simpa using e)
    have e2 : lo + 1 + i = lo + (i + 1) := by omega
    rw [e2] at this
    simpa [enumD] using this
theorem enumD_len : ∀ {ds : List D} {lo : Nat}, (enumD lo ds).length = ds.length
  | [], _ => rfl
  | _ :: _, _ => congrArg (· + 1) enumD_len
theorem iter_enum {F H : Hp} {a : Addr} {vs : List V} {ds : List D} (h : F a = some (.lst vs)) (r : DenAll K F vs ds) : IterOf K F H (Ite K a) (enumD 0 ds) := by
  refine ⟨_, _, by rw [enumD_len, ← r.length]; exact walk_enum (xs := vs), fun F' H' le s _ => s.sqL (le _ _ h), fun i F' H' x H'' le s _ y => ?_⟩
  obtain ⟨T, u, v, rfl, n, rfl, e1, e2⟩ := y
  cases e1
  obtain ⟨d, q1, q2⟩ := (r.mono le).get e2
  obtain ⟨x1, x2⟩ := ext_pair (x := .int (i : Nat)) s n (.int _) q2
  exact ⟨_, _, by rw [enumD_get q1, Nat.zero_add], x1, x2⟩
def mEnum (fr : S → Rs (List D)) : S → Rs (List D) := fun s => (fr s).bind fun xs s1 => match xs with
  | [.lst xs] => .ok (enumD 0 xs) s1
  | _ => .no
theorem qi_enum {elts : List Expr} {kk : Nat} {tpos : Pos} (ek : X.K = K) (hg : Gl X "enumerate") (hm : X.mg "enumerate" = none) (ha : PA X [a] (tVA K pa W fr)) (hs : starEach [a] X.env = [(false, eval a X.env)] := by rfl) :
    PI X (.Tuple elts kk tpos) (.Call (.Name "enumerate" p) [a] [] pos) (tVI K pa W (mEnum fr)) := by
  subst ek
  refine (pi_enum hg hm ha hs).mono ?_
  rintro σ H R ⟨F, s, rep, h⟩
  refine ⟨F, s, rep, (Fin.bind h).mono ?_⟩
  rintro vs H1 ⟨F1, s1, xs, st1, rep1, dv, h1⟩
  have dv : DenAll X.K F1 vs xs := dv
  match xs, h1, dv with
  | [.lst xs], h1, dv =>
    obtain ⟨v, rfl, d1⟩ := dv.one
    cases d1 with
    | lst q r => exact ⟨_, _, rfl, rep1.sub.sqL q, h1 _ _ _ Step.refl rep1 (iter_enum q r)⟩
/-! ### for -/
def forL (b : D → S → Option S) (body : S → Ro) : List D → S → Ro
  | [], s => .nx s
  | d :: ds, s => match b d s with
    | none => .no
    | some s1 => match body s1 with
      | .nx s2 => forL b body ds s2
      | .ct s2 => forL b body ds s2
      | .bk s2 => .nx s2
      | .rt d s2 => .rt d s2
      | .ex c v s2 => .ex c v s2
      | .no => .no
def sFor (fi : S → Rs (List D)) (b : D → S → Option S) (body : S → Ro) : S → Ro := fun s => (fi s).st fun ds s1 => forL b body ds s1
theorem frozen_not_own {F H : Hp} {σ : L2.St} {s : S} (rep : Rep K pa F H σ s) {a : Addr} (h : F a ≠ none) : ¬ OwnA pa σ s a := by
  rintro (⟨i, h1, y, h2, h3⟩ | ⟨hp, e⟩)
  · obtain ⟨v, q1, q2⟩ := rep.slot i y h2
    rw [h1] at q1
    cases q1
    cases y with
    | l xs => exact h q2.1
    | k ks xs => exact h q2.1
    | d _ => cases h3
    | p => cases h3
  · exact h ((rep.pot hp).1 a e)
def ForJ (J : It) (g : TG) (tb : TS) (E : Ends) (σ : L2.St) (H : Hp) : Prop := ∃ W : Nat → Nat → L2.St → Hp → Prop, (∃ m, W 0 m σ H) ∧ ∀ i m σ H, W i m σ H →
  (J.stop i H ∧ E.nx σ H) ∨ (J.go i H ∧ ∃ N : L2.St → Hp → Prop, (∀ σ' H', N σ' H' → ∃ m', m' < m ∧ W (i + 1) m' σ' H') ∧ ∀ x H', J.yld i H x H' → g x σ H' fun σ2 H2 => tb { E with nx := N, ct := N, bk := E.nx } σ2 H2)
theorem for_core {is : List Nat} {b : D → S → Option S} {g : S → Ro} {J : It} {ds : List D} {F1 H1 : Hp} {σ : L2.St} {s1 : S} {E : Ends} (rep1 : Rep K pa F1 H1 σ s1) (it : IterOf K F1 H1 J ds) (h1 : FinS K pa W F1 H1 σ s1 (forL b g ds s1) E) : ForJ J (tGt K pa is b) (tS K pa W g) E σ H1 := by
  obtain ⟨G, Y, w, hG, hY⟩ := it
  refine for_it w (fun i σ' H' => ∃ F' s', Step pa F1 H1 σ s1 F' H' σ' s' ∧ Rep K pa F' H' σ' s' ∧ FinS K pa W F' H' σ' s' (forL b g (ds.drop i) s') E) ⟨F1, s1, Step.refl, rep1, h1⟩ ?_ ?_ ?_
  · rintro i σ' H' _ ⟨F', s', st, rp, _⟩
    exact hG F' H' st.le rp.sub fun a o n e nt => st.at e (frozen_not_own rep1 n) nt
  · rintro i x σ' H' H'' hi ⟨F', s', st, rp, fin⟩ y
    obtain ⟨d, F'', e, ext, dv⟩ := hY i F' H' x H'' st.le rp.sub (fun a o n e nt => st.at e (frozen_not_own rep1 n) nt) y
    have hd : ds.drop i = d :: ds.drop (i + 1) := by
      rw [List.drop_eq_getElem_cons hi]
      congr 1
      have := List.getElem?_eq_getElem hi
      rw [e] at this
      exact (Option.some.inj this).symm
    rw [hd] at fin
    unfold forL at fin
    cases q : b d s' with
    | none =>
      rw [q] at fin
      exact fin.elim
    | some s2 =>
      rw [q] at fin
      dsimp only at fin
      have st2 : Step pa F' H' σ' s' F'' H'' σ' s' := ext.step
      refine ⟨F'', s', d, s2, rp.ext ext, dv, q, fun σ2 st3 rp2 _ => ⟨F'', s2, rp2, ?_⟩⟩
      have stA : Step pa F1 H1 σ s1 F'' H'' σ2 s2 := st.trans (st2.trans st3)
      have finB := FinS.shift (st2.trans st3) fin
      cases q2 : g s2 with
      | nx s3 =>
        rw [q2] at finB
        exact fun σ4 H4 F4 st4 rp4 => ⟨F4, s3, stA.trans st4, rp4, FinS.shift st4 finB⟩
      | ct s3 =>
        rw [q2] at finB
        exact fun σ4 H4 F4 st4 rp4 => ⟨F4, s3, stA.trans st4, rp4, FinS.shift st4 finB⟩
      | bk s3 =>
        rw [q2] at finB
        exact finB
      | rt d s3 =>
        rw [q2] at finB
        exact finB
      | ex c v s3 =>
        rw [q2] at finB
        exact finB
      | no =>
        rw [q2] at finB
        exact finB.elim
  · rintro σ' H' ⟨F', s', st, rp, fin⟩
    rw [List.drop_length] at fin
    exact fin _ _ _ Step.refl rp
theorem q_for {iter : Expr} {body : List Stmt} {fi : S → Rs (List D)} {is : List Nat} {b : D → S → Option S} {g : S → Ro} (hp : PassesOwn (model X.prog X.w) X.A X.env X.xe) (hc : X.calm = true) (hi : PI X tg iter (tVI K pa W fi)) (hg : PG X tg (tGt K pa is b)) (hb : PSs X body (tS K pa W g))
    (hs : ∀ x, foldedSetIterable iter X.env x = pure x := by intro _; rfl) : PS X (.For tg iter body [] pos) (tS K pa W (sFor fi b g)) := by
  refine (ps_for hp hc hi hg hb hs).mono ?_
  rintro E σ H ⟨F, s, rep, h⟩
  refine ⟨F, s, rep, (FinS.st h).mono ?_⟩
  rintro J H1 ⟨F1, s1, ds, st1, rep1, it, h1⟩
  exact for_core rep1 it h1
/-! ### comprehensions -/
def restE (e e0 : Env') : List Nat → Env'
  | [] => e
  | v :: vs => (restE e e0 vs).set v (match e0[v]? with
    | some (some (.d x)) => some (.d x)
    | _ => none)
def wipeE (e : Env') : List Nat → Env'
  | [] => e
  | v :: vs => (wipeE e vs).set v none
def S.wipe (s : S) (vs : List Nat) : S := { s with e := wipeE s.e vs }
def S.back (s s0 : S) (vs : List Nat) : S := { s with e := restE s.e s0.e vs }
def compL (b : D → S → Option S) (t : S → Rs Bool) (f : S → Rs D) (vs : List Nat) : List D → S → Rs (List D)
  | [], s => .ok [] s
  | d :: ds, s => match b d (s.wipe vs) with
    | none => .no
    | some s1 => match t s1 with
      | .ok true s2 => (match f s2 with
        | .ok y s3 => (match compL b t f vs ds (s3.back s vs) with
          | .ok ys s4 => .ok (y :: ys) s4
          | _ => .no)
        | _ => .no)
      | .ok false s2 => compL b t f vs ds (s2.back s vs)
      | _ => .no
def mComp (fi : S → Rs (List D)) (b : D → S → Option S) (t : S → Rs Bool) (f : S → Rs D) (vs : List Nat) : S → Rs LV := fun s => (fi s).bind fun ds s1 => if ds.length ≤ 100000 then (compL b t f vs ds s1).bind fun ys s2 => .ok (.l ys) s2 else .no
def mYes : S → Rs Bool := fun s => .ok true s
theorem wipeE_get {e : Env'} {k : Nat} : ∀ {vs : List Nat}, k ∉ vs → (wipeE e vs)[k]? = e[k]?
  | [], _ => rfl
  | v :: vs, h => by
    unfold wipeE
    rw [List.getElem?_set_ne (fun z => h (by simp [z]))]
    exact wipeE_get (fun z => h (List.mem_cons_of_mem _ z))
theorem wipeE_some {e : Env'} {k : Nat} {x : LV} : ∀ {vs : List Nat}, (wipeE e vs)[k]? = some (some x) → k ∉ vs ∧ e[k]? = some (some x)
  | [], h => ⟨by simp, h⟩
  | v :: vs, h => by
    unfold wipeE at h
    rcases set_cases h with ⟨_, z, _⟩ | ⟨n, z⟩
    · cases z
    · obtain ⟨h1, h2⟩ := wipeE_some z
      exact ⟨by simp only [List.mem_cons, not_or]; exact ⟨n, h1⟩, h2⟩
theorem wipeE_len {e : Env'} : ∀ {vs : List Nat}, (wipeE e vs).length = e.length
  | [] => rfl
  | v :: vs => by
    unfold wipeE
    rw [List.length_set, wipeE_len]
theorem restE_len {e e0 : Env'} : ∀ {vs : List Nat}, (restE e e0 vs).length = e.length
  | [] => rfl
  | v :: vs => by
    unfold restE
    rw [List.length_set, restE_len]
theorem restE_some {e e0 : Env'} {k : Nat} {x : LV} : ∀ {vs : List Nat}, (restE e e0 vs)[k]? = some (some x) → (k ∉ vs ∧ e[k]? = some (some x)) ∨ (∃ d, x = .d d ∧ e0[k]? = some (some (.d d)))
  | [], h => .inl ⟨by simp, h⟩
  | v :: vs, h => by
    unfold restE at h
    rcases set_cases h with ⟨e1, z, _⟩ | ⟨n, z⟩
    · subst e1
      refine .inr ?_
      cases q : e0[k]? with
      | none =>
        rw [q] at z
        cases z
      | some o =>
        cases o with
        | none =>
          rw [q] at z
          cases z
        | some y =>
          cases y with
          | d d =>
            rw [q] at z
            cases z
            exact ⟨d, rfl, rfl⟩
          | _ =>
            rw [q] at z
            cases z
    · rcases restE_some z with ⟨h1, h2⟩ | h2
      · exact .inl ⟨by simp only [List.mem_cons, not_or]; exact ⟨n, h1⟩, h2⟩
      · exact .inr h2
theorem Owns.wipe {σ : L2.St} {e : Env'} {vs : List Nat} {i : Nat} {a : Addr} (h : Owns (L2.wipe σ vs) (wipeE e vs) i a) : Owns σ e i a := by
  obtain ⟨h1, y, h2, h3⟩ := h
  exact ⟨(wipe_some h1).1, y, (wipeE_some h2).2, h3⟩
theorem OwnA.wipe {σ : L2.St} {s : S} {vs : List Nat} {a : Addr} (h : OwnA pa (L2.wipe σ vs) (s.wipe vs) a) : OwnA pa σ s a := by
  rcases h with ⟨i, h⟩ | ⟨⟨i, h⟩, e⟩
  · exact .inl ⟨i, h.wipe⟩
  · exact .inr ⟨⟨i, (wipeE_some h).2⟩, e⟩
theorem Rep.wipe {F H : Hp} {σ : L2.St} {s : S} (rep : Rep K pa F H σ s) (vs : List Nat) : Rep K pa F H (L2.wipe σ vs) (s.wipe vs) := by
  refine ⟨rep.sub, ?_, fun i x h => ?_, fun i j a h1 h2 => rep.uniq i j a h1.wipe h2.wipe, fun h => ?_⟩
  · show (L2.wipe σ vs).length = (wipeE s.e vs).length
    rw [wipe_length, wipeE_len, rep.len]
  · obtain ⟨n, h1⟩ := wipeE_some h
    obtain ⟨v, q1, q2⟩ := rep.slot i x h1
    exact ⟨v, by rw [wipe_get n]; exact q1, q2⟩
  · obtain ⟨i, h⟩ := h
    obtain ⟨q1, q2, q3⟩ := rep.pot ⟨i, (wipeE_some h).2⟩
    exact ⟨q1, q2, fun j b hb z => q3 j b hb z.wipe⟩
/-- behind an element: the block's own slots forgotten, the others as they are -/
theorem Rep.back {F H F2 H2 : Hp} {σ σ2 : L2.St} {s s2 : S} {vs : List Nat} (rep : Rep K pa F H σ s) (rep2 : Rep K pa F2 H2 σ2 s2) (le : Le F F2) (hw : L2.wipe σ2 vs = L2.wipe σ vs) : Rep K pa F2 H2 σ (s2.back s vs) := by
  have hl : σ2.length = σ.length := by
    have := congrArg List.length hw
    rwa [wipe_length, wipe_length] at this
  have same : ∀ k, k ∉ vs → σ2[k]? = σ[k]? := fun k n => by
    have this : (L2.wipe σ2 vs)[k]? = (L2.wipe σ vs)[k]? := congrArg (fun z : L2.St => z[k]?) hw
    rwa [wipe_get n, wipe_get n] at this
  have own : ∀ i a, Owns σ (s2.back s vs).e i a → Owns σ2 s2.e i a := fun i a ⟨h1, y, h2, h3⟩ => by
    rcases restE_some h2 with ⟨n, q⟩ | ⟨d, q, _⟩
    · exact ⟨by rw [same i n]; exact h1, y, q, h3⟩
    · subst q
      cases h3
  have hasp : HasP (s2.back s vs).e → HasP s2.e := fun ⟨i, h⟩ => by
    rcases restE_some h with ⟨n, q⟩ | ⟨d, q, _⟩
    · exact ⟨i, q⟩
    · cases q
  refine ⟨rep2.sub, ?_, fun i x h => ?_, fun i j a h1 h2 => rep2.uniq i j a (own i a h1) (own j a h2), fun h => ?_⟩
  · show σ.length = (restE s2.e s.e vs).length
    rw [restE_len, ← rep2.len, hl]
  · rcases restE_some h with ⟨n, q⟩ | ⟨d, q, q2⟩
    · obtain ⟨v, h1, h2⟩ := rep2.slot i x q
      exact ⟨v, by rw [← same i n]; exact h1, h2⟩
    · subst q
      obtain ⟨v, h1, h2⟩ := rep.slot i _ q2
      exact ⟨v, h1, by cases v <;> exact Den.mono le h2⟩
  · obtain ⟨q1, q2, q3⟩ := rep2.pot (hasp h)
    exact ⟨q1, q2, fun j b hb z => q3 j b hb (own j b z)⟩
theorem Step.back {F H F2 H2 : Hp} {σ σ2 : L2.St} {s s2 : S} {vs : List Nat} (st : Step pa F H (L2.wipe σ vs) (s.wipe vs) F2 H2 σ2 s2) (hw : L2.wipe σ2 vs = L2.wipe σ vs) : Step pa F H σ s F2 H2 σ (s2.back s vs) := by
  have same : ∀ k, k ∉ vs → σ2[k]? = σ[k]? := fun k n => by
    have this : (L2.wipe σ2 vs)[k]? = (L2.wipe σ vs)[k]? := congrArg (fun z : L2.St => z[k]?) hw
    rwa [wipe_get n, wipe_get n] at this
  refine ⟨st.le, fun a o h n => st.keep a o h fun z => n z.wipe, fun a h => (st.new a h).imp_right fun z => z.imp_right OwnA.wipe, fun a h => ?_⟩
  have h2 : OwnA pa σ2 s2 a := by
    rcases h with ⟨i, h1, y, h2, h3⟩ | ⟨⟨i, h⟩, e⟩
    · rcases restE_some h2 with ⟨n, q⟩ | ⟨d, q, _⟩
      · exact .inl ⟨i, by rw [same i n]; exact h1, y, q, h3⟩
      · subst q
        cases h3
    · rcases restE_some h with ⟨n, q⟩ | ⟨d, q, _⟩
      · exact .inr ⟨⟨i, q⟩, e⟩
      · cases q
  exact (st.own a h2).imp_left OwnA.wipe
abbrev W0 : L2.St → XK := fun _ _ _ _ => False
/-- the heap without a -/
def cutH (H : Hp) (a : Addr) : Hp := fun b => if b = a then none else H b
theorem cutH_upd {H : Hp} {a : Addr} {o : HO} (h : H a = some o) : upd (cutH H a) a o = H := by
  funext b
  unfold upd cutH
  by_cases e : b = a
  · rw [if_pos e, e, h]
  · rw [if_neg e, if_neg e]
theorem cutH_ne {H : Hp} {a b : Addr} (h : b ≠ a) : cutH H a b = H b := if_neg h
/-- a thing that no one holds is changed, or taken away -/
theorem Rep.aside {F H H' : Hp} {σ : L2.St} {s : S} {A : Addr} (rep : Rep K pa F H σ s) (hf : F A = none) (hn : ¬ OwnA pa σ s A) (hp : ∀ o', H A = some o' → Plain o') (same : ∀ b, b ≠ A → H' b = H b) : Rep K pa F H' σ s := by
  refine ⟨rep.sub.but hf hp same, rep.len, fun i x h => ?_, rep.uniq, fun h => ?_⟩
  · obtain ⟨v, h1, h2⟩ := rep.slot i x h
    refine ⟨v, h1, ?_⟩
    have nA : ∀ a, v = .ref a → x.own = true → a ≠ A := fun a e1 e2 e3 => by
      subst e1 e3
      exact hn (.inl ⟨i, h1, x, h, e2⟩)
    cases x with
    | d x => cases v <;> exact h2
    | l xs =>
      cases v with
      | ref a =>
        obtain ⟨q1, vs, q2, q3⟩ := h2
        exact ⟨q1, vs, by rw [same a (nA a rfl rfl)]; exact q2, q3⟩
      | _ => exact h2.elim
    | k ks xs =>
      cases v with
      | ref a =>
        obtain ⟨q1, vs, q2, q4, q3⟩ := h2
        exact ⟨q1, vs, by rw [same a (nA a rfl rfl)]; exact q2, q4, q3⟩
      | _ => exact h2.elim
    | p =>
      cases v with
      | ref a => exact h2
      | _ => exact h2.elim
  · obtain ⟨q1, q2, q3⟩ := rep.pot h
    exact ⟨q1, q2.to Le.refl (fun a o ha z _ => by rw [same a (fun e => hn (.inr ⟨h, by rw [← e]; exact ha⟩))]; exact z), q3⟩
theorem comp_core {vs : List Nat} {is : List Nat} {bd : D → S → Option S} {ft : S → Rs Bool} {fe : S → Rs D} {tt : TT} {J : It} {ds : List D} {F1 H1 : Hp} {σ : L2.St} {s1 : S} {Q : VK}
    (ht : ∀ σ H Q, tVB K pa W0 ft σ H Q → tt σ H Q) (hsub : ∀ k ∈ is, k ∈ vs) (rep1 : Rep K pa F1 H1 σ s1) (it : IterOf K F1 H1 J ds) (hl : ds.length ≤ 100000)
    (h : FinM K pa W F1 H1 σ s1 ((compL bd ft fe vs ds s1).bind fun ys s2 => .ok (.l ys) s2) Q) : LcJ J (tGt K pa is bd) tt (tV K pa W0 fe) vs σ H1 Q := by
  obtain ⟨G, Y, w, hG, hY⟩ := it
  intro A hA
  refine lc_it w (fun i H' => ∃ F' s' acc xs, Step pa F1 H1 σ s1 F' H' σ s' ∧ Rep K pa F' H' σ s' ∧ F' A = none ∧ ¬ OwnA pa σ s' A ∧ H' A = some (.lst acc) ∧ DenAll K F' acc xs ∧ acc.length ≤ i ∧
      ∃ ys sE, compL bd ft fe vs (ds.drop i) s' = .ok ys sE ∧ compL bd ft fe vs ds s1 = .ok (xs ++ ys) sE) ?_ ?_ ?_ ?_
  · cases q : compL bd ft fe vs ds s1 with
    | no =>
      rw [q] at h
      exact h.elim
    | ex c d s2 =>
      exfalso
      have nex : ∀ (l : List D) (s : S) (c : Str) (d : D) (s2 : S), compL bd ft fe vs l s ≠ .ex c d s2 := by
        intro l
        induction l with
        | nil => intro s c d s2 z; cases z
        | cons x l ih =>
          intro s c d s2 z
          unfold compL at z
          cases q1 : bd x (s.wipe vs) with
          | none => rw [q1] at z; cases z
          | some s3 =>
            rw [q1] at z
            dsimp only at z
            cases q2 : ft s3 with
            | no => rw [q2] at z; cases z
            | ex _ _ _ => rw [q2] at z; cases z
            | ok k s4 =>
              rw [q2] at z
              cases k with
              | false => exact ih _ _ _ _ z
              | true =>
                dsimp only at z
                cases q3 : fe s4 with
                | no => rw [q3] at z; cases z
                | ex _ _ _ => rw [q3] at z; cases z
                | ok y s5 =>
                  rw [q3] at z
                  dsimp only at z
                  cases q4 : compL bd ft fe vs l (s5.back s vs) with
                  | no => rw [q4] at z; cases z
                  | ex _ _ _ => rw [q4] at z; cases z
                  | ok _ _ => rw [q4] at z; cases z
      exact nex _ _ _ _ _ q
    | ok ys sE =>
      have ext : Ext F1 H1 F1 (upd H1 A (.lst [])) := Ext.fresh rep1.sub hA
      exact ⟨F1, s1, [], [], ext.step, rep1.ext ext, rep1.sub.isN hA, not_own_new rep1 hA, upd_same, .nil, Nat.zero_le _, ys, sE, q, rfl⟩
  · rintro i H' _ ⟨F', s', acc, xs, st, rp, _⟩
    exact hG F' H' st.le rp.sub fun a o n e nt => st.at e (frozen_not_own rep1 n) nt
  · rintro i x H' H'' hi ⟨F', s', acc, xs, st, rp, fA, nA, hacc, dacc, lacc, ys, sE, c1, c2⟩ y
    obtain ⟨d, F'', e2, ext, dv⟩ := hY i F' H' x H'' st.le rp.sub (fun a o n e nt => st.at e (frozen_not_own rep1 n) nt) y
    have hd : ds.drop i = d :: ds.drop (i + 1) := by
      rw [List.drop_eq_getElem_cons hi]
      congr 1
      have := List.getElem?_eq_getElem hi
      rw [e2] at this
      exact (Option.some.inj this).symm
    rw [hd] at c1
    unfold compL at c1
    have rp2 := rp.ext ext
    have pdA : Pend K pa F' H' σ s' A (.l xs) := ⟨fA, ⟨acc, hacc, dacc⟩, nA⟩
    have pdB := pdA.step (ext.step (σ := σ) (s := s') (pa := pa))
    have rpw := rp2.wipe vs
    have nW : ¬ OwnA pa (L2.wipe σ vs) (s'.wipe vs) A := fun z => nA z.wipe
    have pdC : Pend K pa F'' H'' (L2.wipe σ vs) (s'.wipe vs) A (.l xs) := ⟨pdB.hf, pdB.ho, nW⟩
    cases q1 : bd d (s'.wipe vs) with
    | none =>
      rw [q1] at c1
      cases c1
    | some s2 =>
      rw [q1] at c1
      dsimp only at c1
      refine ⟨F'', s'.wipe vs, d, s2, rpw, dv, q1, fun σ2 stb rpb ob => ⟨ob.wipe hsub, ht _ _ _ ⟨F'', s2, rpb, ?_⟩⟩⟩
      have hw2 : L2.wipe σ2 vs = L2.wipe σ vs := ob.wipe hsub
      cases q2 : ft s2 with
      | no =>
        rw [q2] at c1
        cases c1
      | ex _ _ _ =>
        rw [q2] at c1
        cases c1
      | ok k s3 =>
        rw [q2] at c1
        intro k' H3 F3 st3 rp3 ek
        have ek : k' = k := ek
        subst ek
        have stw : Step pa F'' H'' (L2.wipe σ vs) (s'.wipe vs) F3 H3 σ2 s3 := stb.trans st3
        cases k' with
        | false =>
          rw [if_neg Bool.false_ne_true]
          have pd3 := pdC.step stw
          have rpk := rp2.back rp3 stw.le hw2
          have stk := st.trans ((ext.step (σ := σ) (s := s') (pa := pa)).trans (Step.back stw hw2))
          obtain ⟨acc3, g1, g2⟩ := pd3.ho
          have pdk := (pdB.step (Step.back stw hw2))
          exact ⟨F3, s3.back s' vs, acc3, xs, stk, rpk, pdk.hf, pdk.hn, g1, g2, by
            have e5 : acc3.length = acc.length := by rw [g2.length, dacc.length]
            omega, ys, sE, c1, c2⟩
        | true =>
          rw [if_pos rfl]
          dsimp only at c1
          refine ⟨F3, s3, rp3, ?_⟩
          cases q3 : fe s3 with
          | no =>
            rw [q3] at c1
            cases c1
          | ex _ _ _ =>
            rw [q3] at c1
            cases c1
          | ok z s4 =>
            rw [q3] at c1
            dsimp only at c1
            intro v4 H4 F4 st4 rp4 dv4
            have dv4 : Den K F4 v4 z := dv4
            have stw4 := stw.trans st4
            have pd4 := pdC.step stw4
            obtain ⟨acc4, g1, g2⟩ := pd4.ho
            have e5 : acc4.length = acc.length := by rw [g2.length, dacc.length]
            have rpk := rp2.back rp4 stw4.le hw2
            have stk := st.trans ((ext.step (σ := σ) (s := s') (pa := pa)).trans (Step.back stw4 hw2))
            have pdk := pdB.step (Step.back stw4 hw2)
            cases q4 : compL bd ft fe vs (ds.drop (i + 1)) (s4.back s' vs) with
            | no =>
              rw [q4] at c1
              cases c1
            | ex _ _ _ =>
              rw [q4] at c1
              cases c1
            | ok ys2 sE2 =>
              rw [q4] at c1
              cases c1
              have hne : ∀ b, b ≠ A → upd H4 A (.lst (acc4 ++ [v4])) b = H4 b := fun b hb => upd_ne hb
              refine ⟨acc4, g1, Nat.lt_of_le_of_lt (show acc4.length ≤ 100000 by omega) (by decide), F4, s4.back s' vs, acc4 ++ [v4], xs ++ [z], ⟨stk.le, fun a o hh nn => ?_, stk.new, stk.own⟩, rpk.aside pdk.hf pdk.hn (plain_of g1) hne, pdk.hf, pdk.hn, upd_same, g2.snoc dv4, ?_, ys2, sE, q4, ?_⟩
              · rw [hne a (fun z => by rw [z, hA] at hh; cases hh)]
                exact stk.keep a o hh nn
              · rw [List.length_append]
                show acc4.length + 1 ≤ i + 1
                omega
              · rw [c2, List.append_assoc]
                rfl
  · rintro H' ⟨F', s', acc, xs, st, rp, fA, nA, hacc, dacc, lacc, ys, sE, c1, c2⟩
    rw [List.drop_length] at c1
    cases c1
    rw [List.append_nil] at c2
    rw [c2] at h
    have h : FinM K pa W F1 H1 σ s1 (.ok (.l xs) s') Q := h
    have rpc : Rep K pa F' (cutH H' A) σ s' := rp.aside fA nA (plain_of hacc) fun b hb => cutH_ne hb
    have := h A (cutH H' A) F' (.lst acc) ⟨st.le, fun a o hh nn => by
      rw [cutH_ne (fun z => by rw [z, hA] at hh; cases hh)]
      exact st.keep a o hh nn, st.new, st.own⟩ rpc (if_pos rfl) ⟨acc, upd_same, dacc⟩
    rw [cutH_upd hacc] at this
    exact this
theorem comp_of {vs : List Nat} {fi : S → Rs (List D)} {is : List Nat} {bd : D → S → Option S} {ft : S → Rs Bool} {fe : S → Rs D} {tt : TT}
    (ht : ∀ σ H Q, tVB K pa W0 ft σ H Q → tt σ H Q) (hsub : ∀ k ∈ is, k ∈ vs) : ∀ (σ : L2.St) (H : Hp) (Q : VK), tM K pa W (mComp fi bd ft fe vs) σ H Q → tLc (tVI K pa W fi) (tGt K pa is bd) tt (tV K pa W0 fe) vs σ H Q := by
  rintro σ H Q ⟨F, s, rep, h⟩
  unfold mComp at h
  refine ⟨F, s, rep, ?_⟩
  cases e : fi s with
  | no =>
    rw [e] at h
    exact h
  | ex c d s1 =>
    rw [e] at h
    exact h
  | ok ds s1 =>
    rw [e] at h
    have h : FinM K pa W F H σ s (if ds.length ≤ 100000 then (compL bd ft fe vs ds s1).bind fun ys s2 => .ok (.l ys) s2 else .no) Q := h
    by_cases hl : ds.length ≤ 100000
    · rw [if_pos hl] at h
      rintro J H1 F1 st1 rep1 it
      exact comp_core ht hsub rep1 it hl (FinM.shift st1 h)
    · rw [if_neg hl] at h
      exact h.elim
theorem pm_comp {vs : List Nat} {fi : S → Rs (List D)} {is : List Nat} {bd : D → S → Option S} {ft : S → Rs Bool} {fe : S → Rs D} {tt : TT}
    (h : PE X a (tLc (tVI K pa W fi) (tGt K pa is bd) tt (tV K pa W0 fe) vs)) (ht : ∀ σ H Q, tVB K pa W0 ft σ H Q → tt σ H Q) (hsub : ∀ k ∈ is, k ∈ vs) : PE X a (tM K pa W (mComp fi bd ft fe vs)) := h.mono (comp_of ht hsub)
theorem q_asgComp {vs : List Nat} {st : Stmt} {gt : TG} {fi : S → Rs (List D)} {is : List Nat} {bd : D → S → Option S} {ft : S → Rs Bool} {fe : S → Rs D} {tt : TT}
    (h : PS X st (tAsg (tLc (tVI K pa W fi) (tGt K pa is bd) tt (tV K pa W0 fe) vs) gt)) (ht : ∀ σ H Q, tVB K pa W0 ft σ H Q → tt σ H Q) (hsub : ∀ k ∈ is, k ∈ vs) : PS X st (tAsg (tM K pa W (mComp fi bd ft fe vs)) gt) :=
  h.mono fun _ _ _ z => comp_of ht hsub _ _ _ z
theorem yes_of {σ : L2.St} {H : Hp} {Q : Bool → Hp → Prop} (h : tVB K pa W0 mYes σ H Q) : tYes σ H Q := by
  obtain ⟨F, s, rep, h⟩ := h
  exact h _ _ _ Step.refl rep rfl
end

/-! ### what a name owns is changed -/
section
variable {X : Cx} {K : PySem.W.Frag} {pa : Plc} {W : L2.St → XK} {a b c tg : Expr} {fa fb fc : S → Rs D} {fm fn : S → Rs LV} {pos p p2 : Pos} {es : List Expr} {fr : S → Rs (List D)} {st : Stmt} {g : S → Ro}
theorem Rep.change {F H : Hp} {σ : L2.St} {s : S} {i : Nat} {a : Addr} {x : LV} {o : HO} (rep : Rep K pa F H σ s) (ho : Owns σ s.e i a) (hf : F a = none) (new : OwnsV K F (upd H a o) a x) :
    Step pa F H σ s F (upd H a o) σ (s.put i (some x)) ∧ Rep K pa F (upd H a o) σ (s.put i (some x)) := by
  have nx : x ≠ .p := fun z => by
    subst z
    exact new
  have oa : OwnA pa σ s a := .inl ⟨i, ho⟩
  have hσ : σ.set i (some (.ref a)) = σ := by
    apply List.ext_getElem?
    intro j
    by_cases e : j = i
    · subst e
      have hl := (List.getElem?_eq_some_iff.mp ho.1).1
      rw [List.getElem?_set_self hl, ho.1]
    · rw [List.getElem?_set_ne (Ne.symm e)]
  have hp : ∀ o', H a = some o' → Plain o' := by
    obtain ⟨h1, y, h2, h3⟩ := ho
    obtain ⟨v, e1, e2⟩ := rep.slot i y h2
    rw [h1] at e1
    cases e1
    cases y with
    | l xs =>
      obtain ⟨_, vs, e3, _⟩ := e2
      exact plain_of e3
    | k ks xs =>
      obtain ⟨_, vs, e3, _⟩ := e2
      exact plain_of e3
    | d _ => cases h3
    | p => cases h3
  refine ⟨⟨Le.refl, fun b u h n => ⟨u, by rw [upd_ne (fun z => n (by rw [z]; exact oa))]; exact h, fun _ => rfl⟩, fun b h => .inl h, fun b h => ?_⟩, ?_⟩
  · rcases h with ⟨j, h1, y, h2, h3⟩ | ⟨h, e⟩
    · rcases set_cases h2 with ⟨e1, e2, _⟩ | ⟨e1, e2⟩
      · subst e1
        have : σ[j]? = some (some (.ref a)) := ho.1
        rw [h1] at this
        cases this
        exact .inl oa
      · exact .inl (.inl ⟨j, h1, y, e2, h3⟩)
    · exact .inl (.inr ⟨HasP.of_put (fun z => nx (Option.some.inj z)) h, e⟩)
  · have sub' : Sub F (upd H a o) := rep.sub.updN hf hp
    refine ⟨sub', by simpa [S.put] using rep.len, fun j y h => ?_, fun j k b h1 h2 => ?_, fun h => ?_⟩
    · rcases set_cases h with ⟨e1, e2, _⟩ | ⟨e1, e2⟩
      · subst e1
        cases e2
        refine ⟨_, ho.1, ?_⟩
        cases x with
        | l xs => exact ⟨hf, new⟩
        | k ks xs => exact ⟨hf, new⟩
        | d _ => exact new.elim
        | p => exact new.elim
      · obtain ⟨v, h1, h2⟩ := rep.slot j y e2
        refine ⟨v, h1, ?_⟩
        have nA : ∀ b, v = .ref b → y.own = true → b ≠ a := fun b z1 z2 z3 => by
          subst z1 z3
          exact e1 (rep.uniq j i b ⟨h1, y, e2, z2⟩ ho)
        cases y with
        | d x => cases v <;> exact h2
        | l xs =>
          cases v with
          | ref b =>
            obtain ⟨q1, vs, q2, q3⟩ := h2
            exact ⟨q1, vs, by rw [upd_ne (nA b rfl rfl)]; exact q2, q3⟩
          | _ => exact h2.elim
        | k ks xs =>
          cases v with
          | ref b =>
            obtain ⟨q1, vs, q2, q4, q3⟩ := h2
            exact ⟨q1, vs, by rw [upd_ne (nA b rfl rfl)]; exact q2, q4, q3⟩
          | _ => exact h2.elim
        | p =>
          cases v with
          | ref b => exact h2
          | _ => exact h2.elim
    · have back : ∀ j b, Owns σ (s.put i (some x)).e j b → Owns σ s.e j b := fun j' b' hh => by
        obtain ⟨g1, y, g2, g3⟩ := hh
        rcases set_cases g2 with ⟨e1, e2, _⟩ | ⟨e1, e2⟩
        · subst e1
          have q : σ[j']? = some (some (.ref a)) := ho.1
          rw [g1] at q
          cases q
          exact ho
        · exact ⟨g1, y, e2, g3⟩
      exact rep.uniq j k b (back j b h1) (back k b h2)
    · have hp := HasP.of_put (fun z => nx (Option.some.inj z)) h
      obtain ⟨q1, q2, q3⟩ := rep.pot hp
      have np : ∀ b, pa.has b → b ≠ a := fun b hb z => q3 i b hb (by rw [z]; exact ho)
      refine ⟨q1, q2.to Le.refl (fun b o hb z _ => by rw [upd_ne (np b hb)]; exact z), fun j b hb ⟨h1, y, h2, h3⟩ => ?_⟩
      rcases set_cases h2 with ⟨e1, e2, _⟩ | ⟨e1, e2⟩
      · subst e1
        exact q3 j b hb ⟨h1, by
          obtain ⟨_, z, hz, hz2⟩ := ho
          exact ⟨z, hz, hz2⟩⟩
      · exact q3 j b hb ⟨h1, y, e2, h3⟩
def sApp (i : Nat) (fr : S → Rs (List D)) : S → Ro := fun s => match s.e[i]? with
  | some (some (.l _)) => (fr s).st fun ds s1 => match s1.e[i]?, ds with
    | some (some (.l xs)), [d] => if xs.length < 100000 then .nx (s1.put i (some (.l (xs ++ [d])))) else .no
    | _, _ => .no
  | _ => .no
def sExt (i : Nat) (fr : S → Rs (List D)) : S → Ro := fun s => match s.e[i]? with
  | some (some (.l _)) => (fr s).st fun ds s1 => match s1.e[i]?, ds with
    | some (some (.l xs)), [.lst ys] => if xs.length + ys.length ≤ 100000 then .nx (s1.put i (some (.l (xs ++ ys)))) else .no
    | _, _ => .no
  | _ => .no
theorem ownL {F H : Hp} {σ : L2.St} {s : S} {i : Nat} {xs : List D} (rep : Rep K pa F H σ s) (e : s.e[i]? = some (some (.l xs))) : ∃ a vs, σ[i]? = some (some (.ref a)) ∧ Owns σ s.e i a ∧ F a = none ∧ H a = some (.lst vs) ∧ DenAll K F vs xs := by
  obtain ⟨v, h1, h2⟩ := rep.slot i _ e
  cases v with
  | ref a =>
    obtain ⟨q1, vs, q2, q3⟩ := h2
    exact ⟨a, vs, h1, ⟨h1, _, e, rfl⟩, q1, q2, q3⟩
  | _ => exact h2.elim
theorem q_app {i : Nat} (h : PS X st (tDrop (tBM K "list" rAppend (tVar i) (tVA K pa W fr)))) : PS X st (tS K pa W (sApp i fr)) := by
  refine h.mono ?_
  rintro E σ H ⟨F, s, rep, h⟩
  unfold sApp at h
  split at h
  · rename_i xs0 e0
    obtain ⟨a0, vs0, h0, _, _, q0, _⟩ := ownL rep e0
    refine ⟨_, h0, .inl ⟨rfl, _, SqL.of q0⟩, F, s, rep, (FinS.st h).mono ?_⟩
    rintro vs H1 ⟨F1, s1, ds, st1, rep1, dv, h1⟩
    have dv : DenAll K F1 vs ds := dv
    split at h1
    · rename_i xs d e1 _
      obtain ⟨a, ws, g1, g2, g3, g4, g5⟩ := ownL rep1 e1
      obtain ⟨v, rfl, d1⟩ := dv.one
      rw [h0] at g1
      cases g1
      by_cases hl : xs.length < 100000
      · rw [if_pos hl] at h1
        refine ⟨a0, ws, v, rfl, rfl, g4, Nat.lt_of_lt_of_le (by rw [g5.length]; exact hl) (by decide), ?_⟩
        obtain ⟨st2, rep2⟩ := rep1.change (o := .lst (ws ++ [v])) (x := .l (xs ++ [d])) g2 g3 ⟨_, upd_same, g5.snoc d1⟩
        exact h1 _ _ _ st2 rep2
      · rw [if_neg hl] at h1
        exact h1.elim
    · exact h1.elim
  · exact h.elim
theorem q_ext {i : Nat} (h : PS X st (tDrop (tBM K "list" rExtend (tVar i) (tVA K pa W fr)))) : PS X st (tS K pa W (sExt i fr)) := by
  refine h.mono ?_
  rintro E σ H ⟨F, s, rep, h⟩
  unfold sExt at h
  split at h
  · rename_i xs0 e0
    obtain ⟨a0, vs0, h0, _, _, q0, _⟩ := ownL rep e0
    refine ⟨_, h0, .inl ⟨rfl, _, SqL.of q0⟩, F, s, rep, (FinS.st h).mono ?_⟩
    rintro vs H1 ⟨F1, s1, ds, st1, rep1, dv, h1⟩
    have dv : DenAll K F1 vs ds := dv
    split at h1
    · rename_i xs ys e1 _
      obtain ⟨a, ws, g1, g2, g3, g4, g5⟩ := ownL rep1 e1
      obtain ⟨v, rfl, d1⟩ := dv.one
      rw [h0] at g1
      cases g1
      cases d1 with
      | @lst b us _ q r =>
        by_cases hl : xs.length + ys.length ≤ 100000
        · rw [if_pos hl] at h1
          refine ⟨a0, b, ws, us, rfl, rfl, g4, rep1.sub.lst q, Nat.le_trans (by rw [g5.length, r.length]; exact hl) (by decide), ?_⟩
          obtain ⟨st2, rep2⟩ := rep1.change (o := .lst (ws ++ us)) (x := .l (xs ++ ys)) g2 g3 ⟨_, upd_same, g5.append r⟩
          exact h1 _ _ _ st2 rep2
        · rw [if_neg hl] at h1
          exact h1.elim
    · exact h1.elim
  · exact h.elim
def mPop (i : Nat) : S → Rs D := fun s => match s.e[i]? with
  | some (some (.l xs)) => (match xs[xs.length - 1]? with
    | some d => .ok d (s.put i (some (.l xs.dropLast)))
    | none => .no)
  | _ => .no
theorem DenAll.dropLast {F : Hp} {vs : List V} {ds : List D} (h : DenAll K F vs ds) : DenAll K F vs.dropLast ds.dropLast := by
  rw [List.dropLast_eq_take, List.dropLast_eq_take, h.length]
  exact h.take _
theorem DenAll.eraseIdx {F : Hp} : ∀ {vs : List V} {ds : List D} (k : Nat), DenAll K F vs ds → DenAll K F (vs.eraseIdx k) (ds.eraseIdx k)
  | _, _, _, .nil => .nil
  | _, _, 0, .cons _ r => r
  | _, _, k + 1, .cons h r => .cons h (DenAll.eraseIdx k r)
theorem pv_pop {i : Nat} (h : PE X a (tBM0 K "list" rPop (tVar i))) : PE X a (tV K pa W (mPop i)) := by
  refine h.mono ?_
  rintro σ H Q ⟨F, s, rep, h⟩
  unfold mPop at h
  split at h
  · rename_i xs e
    obtain ⟨a, ws, g1, g2, g3, g4, g5⟩ := ownL rep e
    split at h
    · rename_i d ed
      obtain ⟨v, e1, e2⟩ := g5.getD ed
      obtain ⟨st2, rep2⟩ := rep.change (o := .lst ws.dropLast) (x := .l xs.dropLast) g2 g3 ⟨_, upd_same, g5.dropLast⟩
      exact ⟨_, g1, .inl ⟨rfl, _, SqL.of g4⟩, a, ws, v, rfl, rfl, g4, by rw [g5.length]; exact e1, h _ _ _ st2 rep2 e2⟩
    · exact h.elim
  · exact h.elim
def mPopAt (i : Nat) (fr : S → Rs (List D)) : S → Rs D := fun s => match s.e[i]? with
  | some (some (.l _)) => (fr s).bind fun ds s1 => match s1.e[i]?, ds with
    | some (some (.l xs)), [.int k] => if -1000000 ≤ k ∧ k ≤ 1000000 then (match seqIndex? k xs.length with
      | some j => (match xs[j]? with
        | some d => .ok d (s1.put i (some (.l (xs.eraseIdx j))))
        | none => .no)
      | none => .no) else .no
    | _, _ => .no
  | _ => .no
theorem pv_popAt {i : Nat} (h : PE X a (tBM K "list" rPopAt (tVar i) (tVA K pa W fr))) : PE X a (tV K pa W (mPopAt i fr)) := by
  refine h.mono ?_
  rintro σ H Q ⟨F, s, rep, h⟩
  unfold mPopAt at h
  split at h
  · rename_i xs0 e0
    obtain ⟨a0, vs0, h0, _, _, q0, _⟩ := ownL rep e0
    refine ⟨_, h0, .inl ⟨rfl, _, SqL.of q0⟩, F, s, rep, (Fin.bind h).mono ?_⟩
    rintro vs H1 ⟨F1, s1, ds, st1, rep1, dv, h1⟩
    have dv : DenAll K F1 vs ds := dv
    split at h1
    · rename_i xs k e1 _
      obtain ⟨a, ws, g1, g2, g3, g4, g5⟩ := ownL rep1 e1
      obtain ⟨v, rfl, d1⟩ := dv.one
      cases d1
      rw [h0] at g1
      cases g1
      by_cases hl : -1000000 ≤ k ∧ k ≤ 1000000
      · rw [if_pos hl] at h1
        split at h1
        · rename_i j ej
          split at h1
          · rename_i d ed
            obtain ⟨v, e2, e3⟩ := g5.getD ed
            obtain ⟨st2, rep2⟩ := rep1.change (o := .lst (ws.eraseIdx j)) (x := .l (xs.eraseIdx j)) g2 g3 ⟨_, upd_same, g5.eraseIdx j⟩
            exact ⟨a0, ws, k, j, v, rfl, rfl, g4, by omega, by omega, by rw [g5.length]; exact ej, e2, h1 _ _ _ st2 rep2 e3⟩
          · exact h1.elim
        · exact h1.elim
      · rw [if_neg hl] at h1
        exact h1.elim
    · exact h1.elim
  · exact h.elim
def sSetIx (i : Nat) (fa fb : S → Rs D) : S → Ro := fun s => (fa s).st fun d s1 => match s1.e[i]? with
  | some (some (.l _)) => (fb s1).st fun k s2 => match s2.e[i]?, k with
    | some (some (.l xs)), .int k => (match ixN xs.length k with
      | some j => .nx (s2.put i (some (.l (xs.set j d))))
      | none => .no)
    | _, _ => .no
  | _ => .no
theorem q_setIx {i : Nat} (h : PS X st (tAsg (tV K pa W fa) (gSub (tVar i) (tV K pa W fb) rSetL))) : PS X st (tS K pa W (sSetIx i fa fb)) := by
  refine h.mono ?_
  rintro E σ H ⟨F, s, rep, h⟩
  refine ⟨F, s, rep, (FinS.st h).mono ?_⟩
  rintro v H1 ⟨F1, s1, d, st1, rep1, dv, h1⟩
  split at h1
  · rename_i xs0 e0
    obtain ⟨a0, vs0, h0, _, _, q0, _⟩ := ownL rep1 e0
    refine ⟨_, h0, F1, s1, rep1, (FinS.st h1).mono ?_⟩
    rintro w H2 ⟨F2, s2, k, st2, rep2, dk, h2⟩
    have dk : Den K F2 w k := dk
    split at h2
    · rename_i xs k e1 _
      obtain ⟨a, ws, g1, g2, g3, g4, g5⟩ := ownL rep2 e1
      cases dk
      rw [h0] at g1
      cases g1
      split at h2
      · rename_i j ej
        obtain ⟨st3, rep3⟩ := rep2.change (o := .lst (ws.set j v)) (x := .l (xs.set j d)) g2 g3 ⟨_, upd_same, DenAll.set (Den.mono st2.le dv) j g5⟩
        exact ⟨a0, ws, k, j, rfl, rfl, g4, by rw [g5.length]; exact ej, h2 _ _ _ st3 rep3⟩
      · exact h2.elim
    · exact h2.elim
  · exact h1.elim
/-! ### while -/
def whileL (ft : S → Rs Bool) (g : S → Ro) : Nat → S → Ro
  | 0, _ => .no
  | n + 1, s => match ft s with
    | .ok false s1 => .nx s1
    | .ok true s1 => (match g s1 with
      | .nx s2 => whileL ft g n s2
      | .ct s2 => whileL ft g n s2
      | .bk s2 => .nx s2
      | .rt d s2 => .rt d s2
      | .ex c v s2 => .ex c v s2
      | .no => .no)
    | .ex c v s1 => .ex c v s1
    | .no => .no
theorem q_while {body : List Stmt} {ft : S → Rs Bool} {n : Nat} (hp : PassesOwn (model X.prog X.w) X.A X.env X.xe) (hc : PT X c (tVB K pa W ft)) (hb : PSs X body (tS K pa W g)) : PS X (.While c body [] pos) (tS K pa W (whileL ft g n)) := by
  refine (ps_while hp hc hb).mono ?_
  rintro E σ H ⟨F, s, rep, h⟩
  refine ⟨fun m σ' H' => ∃ F' s', Rep K pa F' H' σ' s' ∧ FinS K pa W F' H' σ' s' (whileL ft g m s') E, ⟨n, F, s, rep, h⟩, ?_⟩
  rintro m σ' H' ⟨F', s', rp, fin⟩
  cases m with
  | zero => exact fin.elim
  | succ m =>
    refine ⟨F', s', rp, ?_⟩
    unfold whileL at fin
    cases q : ft s' with
    | no =>
      rw [q] at fin
      exact fin.elim
    | ex c v s1 =>
      rw [q] at fin
      exact fun H1 F1 a b => fin σ' H1 F1 a b
    | ok k s1 =>
      rw [q] at fin
      intro k' H1 F1 st1 rp1 ek
      have ek : k' = k := ek
      subst ek
      have fin1 := FinS.shift st1 fin
      cases k' with
      | false =>
        rw [if_neg Bool.false_ne_true]
        exact fin1 _ _ _ Step.refl rp1
      | true =>
        rw [if_pos rfl]
        refine ⟨fun σ2 H2 => ∃ F2 s2, Rep K pa F2 H2 σ2 s2 ∧ FinS K pa W F2 H2 σ2 s2 (whileL ft g m s2) E, fun σ2 H2 z => ⟨m, Nat.lt_succ_self m, z⟩, F1, s1, rp1, ?_⟩
        dsimp only at fin1
        cases q2 : g s1 with
        | nx s3 =>
          rw [q2] at fin1
          exact fun σ4 H4 F4 st4 rp4 => ⟨F4, s3, rp4, FinS.shift st4 fin1⟩
        | ct s3 =>
          rw [q2] at fin1
          exact fun σ4 H4 F4 st4 rp4 => ⟨F4, s3, rp4, FinS.shift st4 fin1⟩
        | bk s3 =>
          rw [q2] at fin1
          exact fin1
        | rt d s3 =>
          rw [q2] at fin1
          exact fin1
        | ex c v s3 =>
          rw [q2] at fin1
          exact fin1
        | no =>
          rw [q2] at fin1
          exact fin1.elim
/-! ### a, b = x, y -/
def sPar (i j : Nat) (fr : S → Rs (List D)) : S → Ro := fun s => (fr s).st fun ds s1 => match ds with
  | [x, y] => .nx ((s1.put i (some (.d x))).put j (some (.d y)))
  | _ => .no
theorem q_par {i j : Nat} (h : PS X st (tPar i j (tVA K pa W fr))) : PS X st (tS K pa W (sPar i j fr)) := by
  refine h.mono ?_
  rintro E σ H ⟨F, s, rep, h⟩
  refine ⟨F, s, rep, (FinS.st h).mono ?_⟩
  rintro vs H1 ⟨F1, s1, ds, st1, rep1, dv, h1⟩
  have dv : DenAll K F1 vs ds := dv
  match ds, h1, dv with
  | [x, y], h1, dv =>
    obtain ⟨v, w, rfl, d1, d2⟩ := dv.two
    exact ⟨v, w, rfl, h1 _ _ _ ((Step.refl.putD i _ _).putD j _ _) ((rep1.putD i d1).putD j d2)⟩
/-- the first one made -/
def sParMV (i j : Nat) (fm : S → Rs LV) (fb : S → Rs D) : S → Ro := fun s => (fm s).st fun x s1 => (fb s1).st fun y s2 => .nx ((s2.put j (some (.d y))).put i (some x))
theorem not_own_putD {σ : L2.St} {s : S} {a : Addr} {i : Nat} {v : Option V} {d : D} (n : ¬ OwnA pa σ s a) : ¬ OwnA pa (σ.set i v) (s.put i (some (.d d))) a := fun z => n (by
  rcases z with ⟨j, hj⟩ | ⟨hj, ej⟩
  · rcases Owns.of_put hj with ⟨_, _, y, e, f⟩ | ⟨_, hj⟩
    · cases e
      cases f
    · exact .inl ⟨j, hj⟩
  · exact .inr ⟨HasP.of_put (x := some (.d d)) (fun z => nomatch z) hj, ej⟩)
theorem set_swap {σ : L2.St} {i j : Nat} (h : i ≠ j) (v w : Option V) : (σ.set i v).set j w = (σ.set j w).set i v := List.set_comm _ _ h
theorem q_parMV {i j : Nat} (hij : i ≠ j) (h : PS X st (tPar i j (tCons (tM K pa W fm) (tCons (tV K pa W fb) tNil)))) : PS X st (tS K pa W (sParMV i j fm fb)) := by
  refine h.mono ?_
  rintro E σ H ⟨F, s, rep, h⟩
  refine ⟨F, s, rep, ?_⟩
  unfold sParMV at h
  cases e : fm s with
  | no =>
    rw [e] at h
    exact h
  | ex c d s1 =>
    rw [e] at h
    exact fun H' F' a b => h σ H' F' a b
  | ok x s1 =>
    rw [e] at h
    intro a H1 F1 o st1 rep1 hn ho
    have h : FinS K pa W F H σ s ((fb s1).st fun y s2 => .nx ((s2.put j (some (.d y))).put i (some x))) E := h
    have h := FinS.shift st1 h
    have ext : Ext F1 H1 F1 (upd H1 a o) := Ext.fresh rep1.sub hn
    have pd := pend_new rep1 hn ho
    have nx : x ≠ .p := fun z => by
      subst z
      exact ho
    have stx : Step pa F1 H1 σ s1 F1 (upd H1 a o) σ s1 := ext.step
    have h2 := FinS.shift stx h
    refine ⟨F1, s1, rep1.ext ext, ?_⟩
    cases e2 : fb s1 with
    | no =>
      rw [e2] at h
      exact h.elim
    | ex c d s2 =>
      rw [e2] at h2
      exact fun H' F' a b => h2 σ H' F' a b
    | ok y s2 =>
      rw [e2] at h
      intro v H2 F2 st2 rep2 dv
      have pd2 := pd.step st2
      refine ⟨_, _, rfl, ?_⟩
      rw [set_swap hij]
      have rp3 := rep2.putD j dv
      have nA : ¬ OwnA pa (σ.set j (some v)) (s2.put j (some (.d y))) a := not_own_putD pd2.hn
      exact h _ _ _ (Step.putO ((stx.trans st2).putD j _ _) i nx (.inl hn)) (rp3.putO i pd2.hf pd2.ho nA)
/-- the second one made -/
def sParVM (i j : Nat) (fa : S → Rs D) (fm : S → Rs LV) : S → Ro := fun s => (fa s).st fun x s1 => (fm s1).st fun y s2 => .nx ((s2.put i (some (.d x))).put j (some y))
theorem q_parVM {i j : Nat} (h : PS X st (tPar i j (tCons (tV K pa W fa) (tCons (tM K pa W fm) tNil)))) : PS X st (tS K pa W (sParVM i j fa fm)) := by
  refine h.mono ?_
  rintro E σ H ⟨F, s, rep, h⟩
  refine ⟨F, s, rep, (FinS.st h).mono ?_⟩
  rintro v H0 ⟨F0, s0, d, st0, rep0, dv, h0⟩
  refine ⟨F0, s0, rep0, ?_⟩
  cases e : fm s0 with
  | no =>
    rw [e] at h0
    exact h0
  | ex c d s1 =>
    rw [e] at h0
    exact fun H' F' a b => h0 σ H' F' a b
  | ok x s1 =>
    rw [e] at h0
    intro a H1 F1 o st1 rep1 hn ho
    have ext : Ext F1 H1 F1 (upd H1 a o) := Ext.fresh rep1.sub hn
    have pd := pend_new rep1 hn ho
    have nx : x ≠ .p := fun z => by
      subst z
      exact ho
    have stx : Step pa F1 H1 σ s1 F1 (upd H1 a o) σ s1 := ext.step
    have h2 := FinS.shift st1 h0
    refine ⟨_, _, rfl, ?_⟩
    have rp3 := (rep1.ext ext).putD i (Den.mono st1.le dv)
    have nA : ¬ OwnA pa (σ.set i (some v)) (s1.put i (some (.d d))) a := not_own_putD pd.hn
    exact h2 _ _ _ (Step.putO (stx.putD i _ _) j nx (.inl hn)) (rp3.putO j pd.hf pd.ho nA)
/-- both made -/
def sParMM (i j : Nat) (fm fn : S → Rs LV) : S → Ro := fun s => (fm s).st fun x s1 => (fn s1).st fun y s2 => .nx ((s2.put j (some y)).put i (some x))
theorem q_parMM {i j : Nat} (hij : i ≠ j) (h : PS X st (tPar i j (tCons (tM K pa W fm) (tCons (tM K pa W fn) tNil)))) : PS X st (tS K pa W (sParMM i j fm fn)) := by
  refine h.mono ?_
  rintro E σ H ⟨F, s, rep, h⟩
  refine ⟨F, s, rep, ?_⟩
  unfold sParMM at h
  cases e : fm s with
  | no =>
    rw [e] at h
    exact h
  | ex c d s1 =>
    rw [e] at h
    exact fun H' F' a b => h σ H' F' a b
  | ok x s1 =>
    rw [e] at h
    intro a H1 F1 o st1 rep1 hn ho
    have h : FinS K pa W F H σ s ((fn s1).st fun y s2 => .nx ((s2.put j (some y)).put i (some x))) E := h
    have h := FinS.shift st1 h
    have ext : Ext F1 H1 F1 (upd H1 a o) := Ext.fresh rep1.sub hn
    have pd := pend_new rep1 hn ho
    have nx : x ≠ .p := fun z => by
      subst z
      exact ho
    have stx : Step pa F1 H1 σ s1 F1 (upd H1 a o) σ s1 := ext.step
    have h2 := FinS.shift stx h
    refine ⟨F1, s1, rep1.ext ext, ?_⟩
    cases e2 : fn s1 with
    | no =>
      rw [e2] at h
      exact h.elim
    | ex c d s2 =>
      rw [e2] at h2
      exact fun H' F' a b => h2 σ H' F' a b
    | ok y s2 =>
      rw [e2] at h
      intro b H2 F2 o2 st2 rep2 hn2 ho2
      have pd2 := pd.step st2
      have ny : y ≠ .p := fun z => by
        subst z
        exact ho2
      have ext2 : Ext F2 H2 F2 (upd H2 b o2) := Ext.fresh rep2.sub hn2
      have sty : Step pa F2 H2 σ s2 F2 (upd H2 b o2) σ s2 := ext2.step
      have pd3 := pd2.step sty
      have pb := pend_new rep2 hn2 ho2
      have nab : a ≠ b := fun z => by
        obtain ⟨u, hu⟩ : ∃ u, H2 a = some u := by
          cases x with
          | l xs => obtain ⟨vs, q, _⟩ := pd2.ho; exact ⟨_, q⟩
          | k ks xs => obtain ⟨vs, q, _⟩ := pd2.ho; exact ⟨_, q⟩
          | d _ => exact pd2.ho.elim
          | p => exact pd2.ho.elim
        rw [z, hn2] at hu
        cases hu
      refine ⟨_, _, rfl, ?_⟩
      rw [set_swap hij]
      have rp3 := (rep2.ext ext2).putO j pb.hf pb.ho pb.hn
      have nA : ¬ OwnA pa (σ.set j (some (.ref b))) (s2.put j (some y)) a := fun z => by
        rcases z with ⟨k, hk⟩ | ⟨hk, ek⟩
        · rcases Owns.of_put hk with ⟨_, q, _⟩ | ⟨_, hk⟩
          · cases q
            exact nab rfl
          · exact pd3.hn (.inl ⟨k, hk⟩)
        · exact pd3.hn (.inr ⟨HasP.of_put (x := some y) (fun z => ny (Option.some.inj z)) hk, ek⟩)
      have hb1 : H1 b = none ∨ OwnA pa σ s1 b := by
        cases q : H1 b with
        | none => exact .inl rfl
        | some u =>
          refine .inr (Classical.byContradiction fun nn => ?_)
          obtain ⟨_, this, _⟩ := (stx.trans st2).keep b u q nn
          rw [hn2] at this
          cases this
      exact h _ _ _ (Step.putO (Step.putO ((stx.trans st2).trans sty) j ny hb1) i nx (.inl hn)) (rp3.putO i pd3.hf pd3.ho nA)
end

/-! ### defs -/
inductive Rv where
  | ok (d : D) | ex (c : Str) (d : D) | no
def initS (n : Nat) (ds : List D) : S := ⟨ds.map (fun d => some (.d d)) ++ List.replicate (n - ds.length) none, .pot ⟨0, 0, 0⟩⟩
/-- a def that raises nothing -/
def mDef (np n : Nat) (g : S → Ro) : List D → Rv := fun ds => if ds.length = np then (match g (initS n ds) with
  | .rt d _ => .ok d
  | .nx _ => .ok .non
  | _ => .no) else .no
def spV (K : PySem.W.Frag) (m : List D → Rv) : Sp := fun vs H Q E => ∃ F ds, Sub F H ∧ DenAll K F vs ds ∧ match m ds with
  | .ok d => ∀ v H' F', Ext F H F' H' → Den K F' v d → Q v H'
  | .ex c d => ∀ v da H' F', Ext F H F' H' → Den K F' v d → F' da = some (.xd [("value", v)]) → E (.ref (He.ga K c)) (some da) H'
  | .no => False
section
variable {K : PySem.W.Frag} {pa : Plc} {F H F' H' : Hp} {σ σ' : L2.St} {s s' : S}
theorem Step.ext (st : Step pa F H σ s F' H' σ' s') (n : ∀ a, ¬ OwnA pa σ s a) (sub : Sub F' H') : Ext F H F' H' := ⟨st.le, sub, fun a o h => st.keep a o h (n a), fun a h => (st.new a h).imp_right fun z => z.elim id fun z => absurd z (n a)⟩
theorem init_get {n i : Nat} {ds : List D} {x : LV} (h : (initS n ds).e[i]? = some (some x)) : ∃ d, ds[i]? = some d ∧ x = .d d := by
  unfold initS at h
  by_cases hl : i < ds.length
  · rw [List.getElem?_append_left (by simpa using hl), List.getElem?_map] at h
    cases e : ds[i]? with
    | none =>
      rw [e] at h
      cases h
    | some d =>
      rw [e] at h
      cases h
      exact ⟨d, rfl, rfl⟩
  · rw [List.getElem?_append_right (by simpa using Nat.le_of_not_lt hl), List.getElem?_replicate] at h
    split at h <;> cases h
theorem init_no {n : Nat} {ds : List D} {a : Addr} : ¬ OwnA pa σ (initS n ds) a := by
  rintro (⟨i, h1, y, h2, h3⟩ | ⟨⟨i, h⟩, e⟩)
  · obtain ⟨d, _, rfl⟩ := init_get h2
    cases h3
  · obtain ⟨d, _, q⟩ := init_get h
    cases q
theorem Rep.init {N : List Str} {vs : List V} {ds : List D} (sub : Sub F H) (r : DenAll K F vs ds) : Rep K pa F H (L2.start N vs) (initS N.length ds) := by
  refine ⟨sub, ?_, fun i x h => ?_, fun i j a h1 h2 => absurd (.inl ⟨i, h1⟩) (init_no (pa := pa) (a := a)), fun h => ?_⟩
  · unfold L2.start initS
    simp [r.length]
  · obtain ⟨d, e, rfl⟩ := init_get h
    obtain ⟨v, e1, e2⟩ := r.getD e
    refine ⟨v, ?_, by cases v <;> exact e2⟩
    unfold L2.start
    have hl : i < vs.length := (List.getElem?_eq_some_iff.mp e1).1
    rw [List.getElem?_append_left (by simpa using hl), List.getElem?_map, e1]
    rfl
  · obtain ⟨i, h⟩ := h
    obtain ⟨d, _, q⟩ := init_get h
    cases q
theorem spV_len {np n : Nat} {g : S → Ro} {vs : List V} {Q : VK} {E : XK} (h : spV K (mDef np n g) vs H Q E) : vs.length = np := by
  obtain ⟨F, ds, _, r, h⟩ := h
  unfold mDef at h
  by_cases hl : ds.length = np
  · rw [r.length, hl]
  · rw [if_neg hl] at h
    exact h.elim
theorem spV_body {N : List Str} {np : Nat} {g : S → Ro} {vs : List V} {Q : VK} {E : XK} (h : spV K (mDef np N.length g) vs H Q E) : tS K ⟨0, []⟩ W0 g { nx := fun _ H' => Q .non H', rt := Q } (L2.start N vs) H := by
  obtain ⟨F, ds, sub, r, h⟩ := h
  unfold mDef at h
  by_cases hl : ds.length = np
  · rw [if_pos hl] at h
    refine ⟨F, _, Rep.init sub r, ?_⟩
    cases e : g (initS N.length ds) with
    | nx s' =>
      rw [e] at h
      exact fun σ' H' F' st rp => h .non H' F' (st.ext (fun a => init_no) rp.sub) .non
    | rt d s' =>
      rw [e] at h
      exact fun σ' v H' F' st rp dv => h v H' F' (st.ext (fun a => init_no) rp.sub) dv
    | bk s' =>
      rw [e] at h
      exact h.elim
    | ct s' =>
      rw [e] at h
      exact h.elim
    | ex c v s' =>
      rw [e] at h
      exact h.elim
    | no =>
      rw [e] at h
      exact h.elim
  · rw [if_neg hl] at h
    exact h.elim
end
/-! ### defs with the pot as the first argument -/
inductive Rp where
  | ok (d : D) (p : Bw) | no
def initP (n : Nat) (p : Bw) (ds : List D) : S := ⟨some .p :: (ds.map (fun d => some (.d d)) ++ List.replicate (n - (ds.length + 1)) none), p⟩
def mDefP (np n : Nat) (g : S → Ro) : Bw → List D → Rp := fun p ds => if ds.length + 1 = np then (match g (initP n p ds) with
  | .rt d s => (match s.e[0]? with
    | some (some LV.p) => .ok d s.p
    | _ => .no)
  | .nx s => (match s.e[0]? with
    | some (some LV.p) => .ok .non s.p
    | _ => .no)
  | _ => .no) else .no
structure ExtP (p : Plc) (F H F' H' : Hp) : Prop where
  le : Le F F'
  sub : Sub F' H'
  keep : ∀ a o, H a = some o → ¬ p.has a → ∃ o', H' a = some o' ∧ (NoTab o → o' = o)
  new : ∀ a, F' a ≠ none → F a ≠ none ∨ H a = none
  np : ∀ a, p.has a → F' a = none
theorem ExtP.at {p : Plc} {F H F' H' : Hp} (e : ExtP p F H F' H') {a : Addr} {o : HO} (h : H a = some o) (n : ¬ p.has a) (nt : NoTab o := by intro ps z; cases z) : H' a = some o := by
  obtain ⟨o', e, q⟩ := e.keep a o h n
  rw [e, q nt]
def spP (K : PySem.W.Frag) (m : Bw → List D → Rp) : Sp := fun vs H Q _ => ∃ F p pt ws ds, vs = .ref p.root :: ws ∧ Sub F H ∧ (∀ a, p.has a → F a = none) ∧ BorAt K F H p pt ∧ DenAll K F ws ds ∧ match m pt ds with
  | .ok d pt' => ∀ v H' F', ExtP p F H F' H' → BorAt K F' H' p pt' → Den K F' v d → Q v H'
  | .no => False
section
variable {K : PySem.W.Frag} {F H F' H' : Hp} {σ σ' : L2.St} {s s' : S} {p : Plc}
theorem initP_get {n i : Nat} {pt : Bw} {ds : List D} {x : LV} (h : (initP n pt ds).e[i]? = some (some x)) : (i = 0 ∧ x = .p) ∨ ∃ d k, i = k + 1 ∧ ds[k]? = some d ∧ x = .d d := by
  unfold initP at h
  cases i with
  | zero =>
    cases h
    exact .inl ⟨rfl, rfl⟩
  | succ i =>
    refine .inr ?_
    have h : (ds.map (fun d => some (LV.d d)) ++ List.replicate (n - (ds.length + 1)) none)[i]? = some (some x) := by simpa using h
    by_cases hl : i < ds.length
    · rw [List.getElem?_append_left (by simpa using hl), List.getElem?_map] at h
      cases e : ds[i]? with
      | none =>
        rw [e] at h
        cases h
      | some d =>
        rw [e] at h
        cases h
        exact ⟨d, i, rfl, e, rfl⟩
    · rw [List.getElem?_append_right (by simpa using Nat.le_of_not_lt hl), List.getElem?_replicate] at h
      split at h <;> cases h
theorem initP_own {n : Nat} {pt : Bw} {ds : List D} {a : Addr} (h : OwnA p σ (initP n pt ds) a) : p.has a := by
  rcases h with ⟨i, h1, y, h2, h3⟩ | ⟨_, e⟩
  · rcases initP_get h2 with ⟨_, q⟩ | ⟨d, k, _, _, q⟩
    · subst q
      cases h3
    · subst q
      cases h3
  · exact e
theorem Rep.initP {N : List Str} {pt : Bw} {vs : List V} {ds : List D} (sub : Sub F H) (hf : ∀ a, p.has a → F a = none) (hp : BorAt K F H p pt) (r : DenAll K F vs ds) : Rep K p F H (L2.start N (.ref p.root :: vs)) (initP N.length pt ds) := by
  have no : ∀ i a, ¬ Owns (L2.start N (.ref p.root :: vs)) (Ak.initP N.length pt ds).e i a := fun i a ⟨h1, y, h2, h3⟩ => by
    rcases initP_get h2 with ⟨_, q⟩ | ⟨d, k, _, _, q⟩
    · subst q
      cases h3
    · subst q
      cases h3
  refine ⟨sub, ?_, fun i x h => ?_, fun i j a h1 h2 => absurd h1 (no i a), fun h => ⟨hf, hp, fun i a _ => no i a⟩⟩
  · unfold L2.start Ak.initP
    simp [r.length]
  · rcases initP_get h with ⟨rfl, rfl⟩ | ⟨d, k, rfl, e, rfl⟩
    · exact ⟨.ref p.root, rfl, rfl⟩
    · obtain ⟨v, e1, e2⟩ := r.getD e
      refine ⟨v, ?_, by cases v <;> exact e2⟩
      unfold L2.start
      have hl : k < vs.length := (List.getElem?_eq_some_iff.mp e1).1
      rw [List.getElem?_append_left (by simp; omega), List.getElem?_map, List.getElem?_cons_succ, e1]
      rfl
theorem Step.extP {n : Nat} {pt : Bw} {ds : List D} (st : Step p F H σ (initP n pt ds) F' H' σ' s') (rep : Rep K p F' H' σ' s') (hf : ∀ a, p.has a → F a = none) (hp : s'.e[0]? = some (some .p)) : ExtP p F H F' H' := by
  have np := (rep.pot ⟨0, hp⟩).1
  refine ⟨st.le, rep.sub, fun a o h n => st.keep a o h fun z => n (initP_own z), fun a h => ?_, np⟩
  rcases st.new a h with z | z | z
  · exact .inl z
  · exact .inr z
  · exact absurd (np a (initP_own z)) h
theorem spP_len {np n : Nat} {g : S → Ro} {vs : List V} {Q : VK} {E : XK} (h : spP K (mDefP np n g) vs H Q E) : vs.length = np := by
  obtain ⟨F, p, pt, ws, ds, rfl, _, _, _, r, h⟩ := h
  unfold mDefP at h
  by_cases hl : ds.length + 1 = np
  · rw [List.length_cons, r.length, hl]
  · rw [if_neg hl] at h
    exact h.elim
theorem spP_body {N : List Str} {np : Nat} {g : S → Ro} {vs : List V} {Q : VK} {E : XK} (h : spP K (mDefP np N.length g) vs H Q E) : ∃ pa, tS K pa W0 g { nx := fun _ H' => Q .non H', rt := Q } (L2.start N vs) H := by
  obtain ⟨F, p, pt, ws, ds, rfl, sub, hf, hp, r, h⟩ := h
  unfold mDefP at h
  by_cases hl : ds.length + 1 = np
  · rw [if_pos hl] at h
    refine ⟨p, F, _, Rep.initP sub hf hp r, ?_⟩
    cases e : g (initP N.length pt ds) with
    | nx s' =>
      rw [e] at h
      dsimp only at h
      split at h
      · rename_i q
        split at q
        · rename_i q2
          cases q
          exact fun σ' H' F' st rp => h .non H' F' (st.extP rp hf q2) (rp.pot ⟨0, q2⟩).2.1 .non
        · cases q
      · exact h.elim
    | rt d s' =>
      rw [e] at h
      dsimp only at h
      split at h
      · rename_i q
        split at q
        · rename_i q2
          cases q
          exact fun σ' v H' F' st rp dv => h v H' F' (st.extP rp hf q2) (rp.pot ⟨0, q2⟩).2.1 dv
        · cases q
      · exact h.elim
    | bk s' =>
      rw [e] at h
      exact h.elim
    | ct s' =>
      rw [e] at h
      exact h.elim
    | ex c v s' =>
      rw [e] at h
      exact h.elim
    | no =>
      rw [e] at h
      exact h.elim
  · rw [if_neg hl] at h
    exact h.elim
end
/-! ### calls -/
def mCal (m : List D → Rv) (fr : S → Rs (List D)) : S → Rs D := fun s => (fr s).bind fun ds s1 => match m ds with
  | .ok d => .ok d s1
  | _ => .no
def mCalP (i : Nat) (m : Bw → List D → Rp) (fr : S → Rs (List D)) : S → Rs D := fun s => match s.e[i]? with
  | some (some .p) => (fr s).bind fun ds s1 => (match s1.e[i]? with
    | some (some .p) => (match m s1.p ds with
      | .ok d p' => .ok d { s1 with p := p' }
      | .no => .no)
    | _ => .no)
  | _ => .no
section
variable {X : Cx} {K : PySem.W.Frag} {pa : Plc} {W : L2.St → XK} {a b c tg : Expr} {fa fb fc : S → Rs D} {pos p : Pos} {es : List Expr} {fr : S → Rs (List D)} {st : Stmt} {e : Expr} {x : Str}
theorem spV_of {m : List D → Rv} {F H : Hp} {σ : L2.St} {s : S} {vs : List V} {ds : List D} {Q : VK} {E : XK} (rep : Rep K pa F H σ s) (r : DenAll K F vs ds) (h : Fin (dV K) K pa W F H σ s (match m ds with
  | .ok d => .ok d s
  | _ => .no) Q) : spV K m vs H Q E := by
  refine ⟨F, ds, rep.sub, r, ?_⟩
  cases q : m ds with
  | ok d =>
    rw [q] at h
    exact fun v H' F' ext dv => h v H' F' ext.step (rep.ext ext) dv
  | ex c d =>
    rw [q] at h
    exact h.elim
  | no =>
    rw [q] at h
    exact h.elim
theorem pv_cal {k : Nat} {ps : List Str} {m : List D → Rv} (C : Cal X.prog X.w X.K X.mg X.base k x ps (spV K m)) (room : Room k X.A) (gd : X.A.guards = some []) (gl : Gl X x) (args : PA X (e :: es) (tVA K pa W fr))
    (n1 : (x == ("__debug__" : Str)) = false := by decide) (n2 : starEach (e :: es) X.env = (false, eval e X.env) :: starEach es X.env := by rfl) (n3 : (backTo pos (starEach es X.env)).any (·.1) = false := by rfl) :
    PE X (.Call (.Name x p) (e :: es) [] pos) (tV K pa W (mCal m fr)) := by
  refine (pe_cal C room gd gl args n1 n2 n3).mono ?_
  rintro σ H Q ⟨F, s, rep, h⟩
  refine ⟨F, s, rep, (Fin.bind h).mono ?_⟩
  rintro vs H1 ⟨F1, s1, ds, st1, rep1, dv, h1⟩
  rw [List.append_nil]
  exact spV_of rep1 dv h1
theorem pe_cal0G {k : Nat} {sp : Sp} (C : Cal X.prog X.w X.K X.mg X.base k x [] sp) (room : Room k X.A) (gd : X.A.guards = some []) (gl : Gl X x) (n1 : (x == ("__debug__" : Str)) = false := by decide) :
    PE X (.Call (.Name x p) [] [] pos) (tCall sp [] E0 tNil) := by
  obtain ⟨f, fd, G, at_, kp, b⟩ := C.ex
  refine ⟨fun pins s σ H Q I want => wpAny_Call_Name_kw (ld_glob I gl at_ ?_ n1)⟩
  exact PySem.W.callWith_K0 I.kIn kp (runG (us := []) (vs := []) G room gd b passL I .nil want)
theorem pv_cal0 {k : Nat} {m : List D → Rv} (C : Cal X.prog X.w X.K X.mg X.base k x [] (spV K m)) (room : Room k X.A) (gd : X.A.guards = some []) (gl : Gl X x) (n1 : (x == ("__debug__" : Str)) = false := by decide) :
    PE X (.Call (.Name x p) [] [] pos) (tV K pa W (mCal m mNil)) := by
  refine (pe_cal0G C room gd gl n1).mono ?_
  rintro σ H Q ⟨F, s, rep, h⟩
  exact spV_of (W := W) rep .nil h
theorem Rep.potAt {F H : Hp} {σ : L2.St} {s : S} {i : Nat} (rep : Rep K pa F H σ s) (e : s.e[i]? = some (some .p)) : σ[i]? = some (some (.ref pa.root)) := by
  obtain ⟨v, h1, h2⟩ := rep.slot i _ e
  cases v with
  | ref a =>
    have h2 : a = pa.root := h2
    rw [h1, h2]
  | _ => exact h2.elim
/-- the pot has been drawn from -/
theorem Rep.drawn {F H F' H' : Hp} {σ : L2.St} {s : S} {pt : Bw} (rep : Rep K pa F H σ s) (hp : HasP s.e) (e : ExtP pa F H F' H') (hh : BorAt K F' H' pa pt) : Step pa F H σ s F' H' σ { s with p := pt } ∧ Rep K pa F' H' σ { s with p := pt } := by
  obtain ⟨p1, p2, p3⟩ := rep.pot hp
  have nn : ∀ a o, F a = none → H a = some o → F' a = none := fun a o hf h => by
    cases q : F' a with
    | none => rfl
    | some u =>
      rcases e.new a (by rw [q]; exact fun z => nomatch z) with z | z
      · exact absurd hf z
      · rw [h] at z
        cases z
  refine ⟨⟨e.le, fun a o h n => e.keep a o h fun z => n (.inr ⟨hp, z⟩), fun a h => (e.new a h).imp_right .inl, fun a h => .inl h⟩, ⟨e.sub, rep.len, fun i x h => ?_, rep.uniq, fun _ => ⟨e.np, hh, p3⟩⟩⟩
  obtain ⟨v, h1, h2⟩ := rep.slot i x h
  refine ⟨v, h1, ?_⟩
  have nA : ∀ a, v = .ref a → x.own = true → ¬ pa.has a := fun a e1 e2 e3 => by
    subst e1
    exact p3 i a e3 ⟨h1, x, h, e2⟩
  cases x with
  | d x => cases v <;> exact Den.mono e.le h2
  | l xs =>
    cases v with
    | ref a =>
      obtain ⟨q1, vs, q2, q3⟩ := h2
      exact ⟨nn a _ q1 q2, vs, e.at q2 (nA a rfl rfl), q3.mono e.le⟩
    | _ => exact h2.elim
  | k ks xs =>
    cases v with
    | ref a =>
      obtain ⟨q1, vs, q2, q4, q3⟩ := h2
      exact ⟨nn a _ q1 q2, vs, e.at q2 (nA a rfl rfl), q4, q3.mono e.le⟩
    | _ => exact h2.elim
  | p =>
    cases v with
    | ref a => exact h2
    | _ => exact h2.elim
theorem pv_calP {k i : Nat} {ps : List Str} {m : Bw → List D → Rp} (C : Cal X.prog X.w X.K X.mg X.base k x ps (spP K m)) (room : Room k X.A) (gd : X.A.guards = some []) (gl : Gl X x) (hp : PE X e (tVar i)) (args : PA X es (tVA K pa W fr))
    (n1 : (x == ("__debug__" : Str)) = false := by decide) (n2 : starEach (e :: es) X.env = (false, eval e X.env) :: starEach es X.env := by rfl) (n3 : (backTo pos (starEach es X.env)).any (·.1) = false := by rfl) :
    PE X (.Call (.Name x p) (e :: es) [] pos) (tV K pa W (mCalP i m fr)) := by
  refine (pe_cal C room gd gl (pa_cons hp args n2) n1 n2 n3).mono ?_
  rintro σ H Q ⟨F, s, rep, h⟩
  unfold mCalP at h
  split at h
  · rename_i e0
    refine ⟨_, rep.potAt e0, F, s, rep, (Fin.bind h).mono ?_⟩
    rintro vs H1 ⟨F1, s1, ds, st1, rep1, dv, h1⟩
    rw [List.append_nil]
    try dsimp only at h1
    split at h1
    · rename_i e1
      obtain ⟨q1, q2, q3⟩ := rep1.pot ⟨i, e1⟩
      refine ⟨F1, pa, s1.p, vs, ds, rfl, rep1.sub, q1, q2, dv, ?_⟩
      cases q : m s1.p ds with
      | no =>
        rw [q] at h1
        exact h1.elim
      | ok d p' =>
        rw [q] at h1
        intro v H2 F2 ex hh dv2
        obtain ⟨st2, rep2⟩ := rep1.drawn ⟨i, e1⟩ ex hh
        exact h1 v H2 F2 st2 rep2 dv2
    · exact h1.elim
  · exact h.elim
/-! the pot's own numbers -/
def mPotAt (i : Nat) (fb : S → Rs D) : S → Rs D := fun s => match s.e[i]? with
  | some (some .p) => (fb s).bind fun k s1 => (match s1.e[i]?, k with
    | some (some .p), .int k => (match s1.p with
      | .pot pt => (match atI pt.vs k with
        | some (.int n) => .ok (.int n) s1
        | _ => .no)
      | _ => .no)
    | _, _ => .no)
  | _ => .no
theorem pv_potAt {i : Nat} (ek : X.K = K) (ha : PE X a (tVar i)) (hb : PE X b (tV K pa W fb)) (hs : PlainIx b) : PE X (.Subscript a b pos) (tV K pa W (mPotAt i fb)) := by
  subst ek
  refine (pe_ix ix_seq ha hb hs).mono ?_
  rintro σ H Q ⟨F, s, rep, h⟩
  unfold mPotAt at h
  split at h
  · rename_i e0
    refine ⟨_, rep.potAt e0, F, s, rep, (Fin.bind h).mono ?_⟩
    rintro w H1 ⟨F1, s1, k, st1, rep1, dv, h1⟩
    have dv : Den X.K F1 w k := dv
    try dsimp only at h1
    split at h1
    · rename_i k e1 _
      cases dv
      obtain ⟨q1, q2, q3⟩ := rep1.pot ⟨i, e1⟩
      split at h1
      · rename_i pt ep
        rw [ep] at q2
        split at h1
        · rename_i n en
          exact .inl ⟨pa.root, _, k, _, rfl, rfl, SqL.of q2.2, en, h1 _ _ _ Step.refl rep1 (.int n)⟩
        · exact h1.elim
      · exact h1.elim
    · exact h1.elim
  · exact h.elim
def Pot.set (p : Pot) (k : Int) (n : Int) : Option Pot := if k = 0 then some { p with a := n } else if k = 1 then some { p with b := n } else if k = 2 then some { p with c := n } else none
def sPotSet (i : Nat) (fa fb : S → Rs D) : S → Ro := fun s => (fa s).st fun d s1 => match s1.e[i]? with
  | some (some .p) => (fb s1).st fun k s2 => (match s2.e[i]?, k, d with
    | some (some .p), .int k, .int n => (match s2.p with
      | .pot pt => (match pt.set k n with
        | some p' => .nx { s2 with p := .pot p' }
        | none => .no)
      | _ => .no)
    | _, _, _ => .no)
  | _ => .no
theorem Pot.set_ok {p p' : Pot} {k n : Int} (h : p.set k n = some p') : ∃ j, ixN p.vs.length k = some j ∧ p.vs.set j (.int n) = p'.vs := by
  unfold Pot.set at h
  by_cases h0 : k = 0
  · rw [if_pos h0] at h
    cases h
    subst h0
    exact ⟨0, rfl, rfl⟩
  · rw [if_neg h0] at h
    by_cases h1 : k = 1
    · rw [if_pos h1] at h
      cases h
      subst h1
      exact ⟨1, rfl, rfl⟩
    · rw [if_neg h1] at h
      by_cases h2 : k = 2
      · rw [if_pos h2] at h
        cases h
        subst h2
        exact ⟨2, rfl, rfl⟩
      · rw [if_neg h2] at h
        cases h
theorem q_potSet {i : Nat} (h : PS X st (tAsg (tV K pa W fa) (gSub (tVar i) (tV K pa W fb) rSetL))) : PS X st (tS K pa W (sPotSet i fa fb)) := by
  refine h.mono ?_
  rintro E σ H ⟨F, s, rep, h⟩
  refine ⟨F, s, rep, (FinS.st h).mono ?_⟩
  rintro v H1 ⟨F1, s1, d, st1, rep1, dv, h1⟩
  try dsimp only at h1
  split at h1
  · rename_i e0
    refine ⟨_, rep1.potAt e0, F1, s1, rep1, (FinS.st h1).mono ?_⟩
    rintro w H2 ⟨F2, s2, k, st2, rep2, dk, h2⟩
    have dk : Den K F2 w k := dk
    have dv : Den K F1 v d := dv
    try dsimp only at h2
    split at h2
    · rename_i k n e1 _ _
      cases dk
      cases dv
      obtain ⟨q1, q2, q3⟩ := rep2.pot ⟨i, e1⟩
      split at h2
      · rename_i pt ept
        rw [ept] at q2
        split at h2
        case h_2 => exact h2.elim
        rename_i p' ep
        obtain ⟨j, j1, j2⟩ := Pot.set_ok ep
        refine ⟨pa.root, _, k, j, rfl, rfl, q2.2, j1, ?_⟩
        rw [j2]
        have ex : ExtP pa F2 H2 F2 (upd H2 pa.root (.lst p'.vs)) := by
          exact ⟨Le.refl, rep2.sub.updN (q1 _ (.inl rfl)) (plain_of q2.2), fun b o hb n => ⟨o, by rw [upd_ne (fun z => n (.inl z))]; exact hb, fun _ => rfl⟩, fun b hb => .inl hb, q1⟩
        obtain ⟨st3, rep3⟩ := rep2.drawn (pt := .pot p') ⟨i, e1⟩ ex ⟨q2.1, upd_same⟩
        exact h2 _ _ _ st3 rep3
      · exact h2.elim
    · exact h2.elim
  · exact h1.elim
end

/-! ### looks at what a name owns, by results that hold nothing -/
def mOpL (i : Nat) (g : D → D → Option D) (fb : S → Rs D) : S → Rs D := fun s => match s.e[i]? with
  | some (some (.l _)) => (fb s).bind fun y s1 => (match s1.e[i]? with
    | some (some (.l xs)) => (match g (.lst xs) y with
      | some z => if z.isFlat then .ok z s1 else .no
      | none => .no)
    | _ => .no)
  | _ => .no
def mOpR (g : D → D → Option D) (fa : S → Rs D) (i : Nat) : S → Rs D := fun s => (fa s).bind fun x s1 => match s1.e[i]? with
  | some (some (.l xs)) => (match g x (.lst xs) with
    | some z => if z.isFlat then .ok z s1 else .no
    | none => .no)
  | _ => .no
def mCBO (g : List D → Option D) (i : Nat) : S → Rs D := fun s => match s.e[i]? with
  | some (some (.l xs)) => (match g [.lst xs] with
    | some z => if z.isFlat then .ok z s else .no
    | none => .no)
  | _ => .no
section
variable {X : Cx} {K : PySem.W.Frag} {pa : Plc} {W : L2.St → XK} {a b c tg : Expr} {fa fb fc : S → Rs D} {pos p : Pos} {es : List Expr} {fr : S → Rs (List D)}
theorem Den.any {F F' : Hp} {v : V} {d : D} (h : Den K F v d) (e : d.isFlat = true) : Den K F' v d := by
  cases h <;> first | exact .non | exact .bl _ | exact .int _ | exact .str _ | cases e
/-- the thing at a frozen for a look -/
theorem look_out {F H : Hp} {σ : L2.St} {s : S} {a : Addr} {o : HO} {z : D} {Q : VK} (rep : Rep K pa F H σ s) (hf : F a = none) (hh : H a = some o) (fl : z.isFlat = true) (h : Fin (dV K) K pa W F H σ s (.ok z s) Q) (nt : NoTab o := by intro ps z; cases z) : Sub (upd F a o) H ∧ Out K (upd F a o) H z Q := by
  refine ⟨rep.sub.laid hh nt, fun v H' F' ext dv => ?_⟩
  · have e2 : Ext F H F H' := ⟨Le.refl, ⟨fun b u e => ext.sub b u (ext.le b u (upd_le hf b u e)), rep.sub.tb⟩, ext.same, fun b h => .inl h⟩
    exact h v H' F e2.step (rep.ext e2) (dv.any fl)
theorem opL_of {i : Nat} {r : R2} {g : D → D → Option D} (l : LiftOp K r g) {σ : L2.St} {H : Hp} {Q : VK} (h : tV K pa W (mOpL i g fb) σ H Q) : tOp r (tVar i) (tV K pa W fb) σ H Q := by
  obtain ⟨F, s, rep, h⟩ := h
  unfold mOpL at h
  split at h
  · rename_i xs0 e0
    obtain ⟨a0, vs0, h0, _, _, q0, _⟩ := ownL rep e0
    refine ⟨_, h0, F, s, rep, (Fin.bind h).mono ?_⟩
    rintro w H1 ⟨F1, s1, y, st1, rep1, dw, h1⟩
    have dw : Den K F1 w y := dw
    split at h1
    · rename_i xs e1
      obtain ⟨a, ws, g1, g2, g3, g4, g5⟩ := ownL rep1 e1
      rw [h0] at g1
      cases g1
      split at h1
      · rename_i z ez
        by_cases fl : z.isFlat = true
        · rw [if_pos fl] at h1
          obtain ⟨sb, out⟩ := look_out rep1 g3 g4 fl h1
          exact l _ _ _ _ _ _ z Q sb (.lst upd_same (g5.mono (upd_le g3))) (dw.mono (upd_le g3)) ez out
        · rw [if_neg fl] at h1
          exact h1.elim
      · exact h1.elim
    · exact h1.elim
  · exact h.elim
theorem opR_of {i : Nat} {r : R2} {g : D → D → Option D} (l : LiftOp K r g) {σ : L2.St} {H : Hp} {Q : VK} (h : tV K pa W (mOpR g fa i) σ H Q) : tOp r (tV K pa W fa) (tVar i) σ H Q := by
  obtain ⟨F, s, rep, h⟩ := h
  refine ⟨F, s, rep, (Fin.bind h).mono ?_⟩
  rintro w H1 ⟨F1, s1, y, st1, rep1, dw, h1⟩
  have dw : Den K F1 w y := dw
  split at h1
  · rename_i xs e1
    obtain ⟨a, ws, g1, g2, g3, g4, g5⟩ := ownL rep1 e1
    refine ⟨_, g1, ?_⟩
    split at h1
    · rename_i z ez
      by_cases fl : z.isFlat = true
      · rw [if_pos fl] at h1
        obtain ⟨sb, out⟩ := look_out rep1 g3 g4 fl h1
        exact l _ _ _ _ _ _ z Q sb (dw.mono (upd_le g3)) (.lst upd_same (g5.mono (upd_le g3))) ez out
      · rw [if_neg fl] at h1
        exact h1.elim
    · exact h1.elim
  · exact h1.elim
theorem pv_cmpL {i : Nat} {op : CmpOp} {r : R2} {g : D → D → Option D} (ho : OpR X (compareOp op) r) (l : LiftOp K r g) (ha : PE X a (tVar i)) (hb : PE X b (tV K pa W fb)) (hm : behindInMarks op b = false) : PE X (.Compare a [op] [b] pos) (tV K pa W (mOpL i g fb)) :=
  (pe_cmpR ho ha hb hm).mono fun _ _ _ h => opL_of l h
theorem pv_cmpRt {i : Nat} {op : CmpOp} {r : R2} {g : D → D → Option D} (ho : OpR X (compareOp op) r) (l : LiftOp K r g) (ha : PE X a (tV K pa W fa)) (hb : PE X b (tVar i)) (hm : behindInMarks op b = false) : PE X (.Compare a [op] [b] pos) (tV K pa W (mOpR g fa i)) :=
  (pe_cmpR ho ha hb hm).mono fun _ _ _ h => opR_of l h
theorem qt_cmpL {i : Nat} {op : CmpOp} {r : R2} {g : D → D → Option D} (ho : OpR X (compareOp op) r) (l : LiftOp K r g) (ha : PE X a (tVar i)) (hb : PE X b (tV K pa W fb)) (hm : behindInMarks op b = false) : PT X (.Compare a [op] [b] pos) (tVB K pa W (mTest (mOpL i g fb))) := by
  refine (pt_cmpR ho ha hb hm).mono fun σ H Q h => ?_
  obtain ⟨F, s, rep, h⟩ := h
  refine opL_of l ⟨F, s, rep, (Fin.bind h).mono ?_⟩
  rintro v H1 ⟨F1, s1, x, st1, rep1, dv, h1⟩
  cases x with
  | bl b => exact ⟨b, dv.isBl, h1 b H1 F1 Step.refl rep1 rfl⟩
  | _ => exact False.elim h1
theorem qt_cmpRt {i : Nat} {op : CmpOp} {r : R2} {g : D → D → Option D} (ho : OpR X (compareOp op) r) (l : LiftOp K r g) (ha : PE X a (tV K pa W fa)) (hb : PE X b (tVar i)) (hm : behindInMarks op b = false) : PT X (.Compare a [op] [b] pos) (tVB K pa W (mTest (mOpR g fa i))) := by
  refine (pt_cmpR ho ha hb hm).mono fun σ H Q h => ?_
  obtain ⟨F, s, rep, h⟩ := h
  refine opR_of l ⟨F, s, rep, (Fin.bind h).mono ?_⟩
  rintro v H1 ⟨F1, s1, x, st1, rep1, dv, h1⟩
  cases x with
  | bl b => exact ⟨b, dv.isBl, h1 b H1 F1 Step.refl rep1 rfl⟩
  | _ => exact False.elim h1
theorem pv_lenO {i : Nat} (ek : X.K = K) (hg : Gl X "len") (hm : X.mg "len" = none) (ha : PE X a (tVar i)) (h1 : starEach [a] X.env = (false, eval a X.env) :: starEach [] X.env := by rfl) (hpl : (backTo pos (starEach [] X.env)).any (·.1) = false := by rfl) :
    PE X (.Call (.Name "len" p) [a] [] pos) (tV K pa W (mCBO lenD i)) := by
  refine (pe_callB (c_lenAll ek) hg hm (by decide +kernel) (pa_cons ha pa_nil h1) (by decide) (by decide) h1 hpl).mono ?_
  rintro σ H Q ⟨F, s, rep, h⟩
  unfold mCBO at h
  split at h
  · rename_i xs e
    obtain ⟨a, ws, g1, g2, g3, g4, g5⟩ := ownL rep e
    refine ⟨_, g1, ?_⟩
    split at h
    · rename_i z ez
      by_cases fl : z.isFlat = true
      · rw [if_pos fl] at h
        obtain ⟨sb, out⟩ := look_out rep g3 g4 fl h
        exact l_len _ _ _ _ z Q sb (.cons (.lst upd_same (g5.mono (upd_le g3))) .nil) ez out
      · rw [if_neg fl] at h
        exact h.elim
    · exact h.elim
  · exact h.elim
end
/-- xs[k] of an owned list -/
def mAtL (i : Nat) (fb : S → Rs D) : S → Rs D := fun s => match s.e[i]? with
  | some (some (.l _)) => (fb s).bind fun y s1 => (match s1.e[i]? with
    | some (some (.l xs)) => (match y with
      | .int k => liftO (atI xs k) s1
      | _ => .no)
    | _ => .no)
  | _ => .no
section
variable {X : Cx} {K : PySem.W.Frag} {pa : Plc} {W : L2.St → XK} {a b : Expr} {fb : S → Rs D} {pos : Pos}
theorem atL_of {i : Nat} {σ : L2.St} {H : Hp} {Q : VK} (h : tV K pa W (mAtL i fb) σ H Q) : tOp (rIx K) (tVar i) (tV K pa W fb) σ H Q := by
  obtain ⟨F, s, rep, h⟩ := h
  unfold mAtL at h
  split at h
  · rename_i xs0 e0
    obtain ⟨a0, vs0, h0, _, _, q0, _⟩ := ownL rep e0
    refine ⟨_, h0, F, s, rep, (Fin.bind h).mono ?_⟩
    rintro w H1 ⟨F1, s1, y, st1, rep1, dw, h1⟩
    have dw : Den K F1 w y := dw
    split at h1
    · rename_i xs e1
      obtain ⟨a, ws, g1, g2, g3, g4, g5⟩ := ownL rep1 e1
      rw [h0] at g1
      cases g1
      cases y with
      | int k =>
        cases dw
        replace h1 : Fin (dV K) K pa W F1 H1 σ s1 (liftO (atI xs k) s1) Q := h1
        cases e : atI xs k with
        | none =>
          rw [e] at h1
          exact h1.elim
        | some d =>
          rw [e] at h1
          obtain ⟨v, ev, dv⟩ := atI_map g5 e
          exact .inl ⟨_, ws, k, v, rfl, rfl, .inl (.inl g4), ev, h1 v H1 F1 Step.refl rep1 dv⟩
      | _ => exact h1.elim
    · exact h1.elim
  · exact h.elim
theorem pv_atL {i : Nat} (ho : IxR X (rIx K)) (ha : PE X a (tVar i)) (hb : PE X b (tV K pa W fb)) (hs : PlainIx b) : PE X (.Subscript a b pos) (tV K pa W (mAtL i fb)) :=
  (pe_ix ho ha hb hs).mono fun _ _ _ h => atL_of h
end
/-- len(xs) of a list, owned or not -/
def mLenX (i : Nat) : S → Rs D := fun s => match s.e[i]? with
  | some (some (.l xs)) => .ok (.int (xs.length : Nat)) s
  | some (some (.d (.lst xs))) => .ok (.int (xs.length : Nat)) s
  | _ => .no
section
variable {X : Cx} {K : PySem.W.Frag} {pa : Plc} {W : L2.St → XK} {a : Expr} {p pos : Pos}
theorem pv_lenX {i : Nat} (ek : X.K = K) (hg : Gl X "len") (hm : X.mg "len" = none) (ha : PE X a (tVar i)) (h1 : starEach [a] X.env = (false, eval a X.env) :: starEach [] X.env := by rfl) (hpl : (backTo pos (starEach [] X.env)).any (·.1) = false := by rfl) :
    PE X (.Call (.Name "len" p) [a] [] pos) (tV K pa W (mLenX i)) := by
  refine (pe_callB (c_lenAll ek) hg hm (by decide +kernel) (pa_cons ha pa_nil h1) (by decide) (by decide) h1 hpl).mono ?_
  rintro σ H Q ⟨F, s, rep, h⟩
  unfold mLenX at h
  split at h
  · rename_i xs e
    obtain ⟨a, ws, g1, g2, g3, g4, g5⟩ := ownL rep e
    obtain ⟨sb, out⟩ := look_out rep g3 g4 (z := .int (xs.length : Nat)) rfl h
    exact ⟨_, g1, l_len _ _ _ _ (.int (xs.length : Nat)) Q sb (.cons (.lst upd_same (g5.mono (upd_le g3))) .nil) rfl out⟩
  · rename_i xs e
    obtain ⟨v, g1, g2⟩ := rep.slot i _ e
    have g2 : Den K F v (.lst xs) := g2
    exact ⟨_, g1, l_len _ _ _ _ (.int (xs.length : Nat)) Q rep.sub (.cons g2 .nil) rfl fun v' H' F' ext dv => h v' H' F' ext.step (rep.ext ext) dv⟩
  · exact h.elim
end

theorem u1 {k : Nat} {A : Around} (r : Room k A) : A.units + 1 < cLine := by
  have := r.units
  omega
/-! ### dicts as trees -/
section
variable {α β : Type}
def findL (k : Key) : List Key → List α → Option α
  | k' :: ks, y :: ys => if k' = k then some y else findL k ks ys
  | _, _ => none
def replL (k : Key) (x : α) : List Key → List α → List α
  | k' :: ks, y :: ys => (if k' = k then x else y) :: replL k x ks ys
  | _, _ => []
def hasK (k : Key) (ks : List Key) : Bool := ks.any fun k' => decide (k' = k)
def putKs (ks : List Key) (k : Key) : List Key := if hasK k ks then ks else ks ++ [k]
def putVs (ks : List Key) (vs : List α) (k : Key) (v : α) : List α := if hasK k ks then replL k v ks vs else vs ++ [v]
theorem replL_len {k : Key} {x : α} : ∀ {ks : List Key} {vs : List α}, ks.length = vs.length → (replL k x ks vs).length = vs.length
  | [], [], _ => rfl
  | [], _ :: _, h => by cases h
  | _ :: _, [], h => by cases h
  | _ :: ks, _ :: vs, h => congrArg (· + 1) (replL_len (Nat.succ.inj h))
theorem putVs_len {ks : List Key} {vs : List α} {k : Key} {v : α} (h : ks.length = vs.length) : (putKs ks k).length = (putVs ks vs k v).length := by
  unfold putKs putVs
  split
  · rw [replL_len h, h]
  · simp [h]
end
theorem zip_any {k : Key} : ∀ {ks : List Key} {vs : List V}, ks.length = vs.length → ((ks.zip vs).any fun kv => decide (kv.1 = k)) = hasK k ks
  | [], [], _ => rfl
  | [], _ :: _, h => by cases h
  | _ :: _, [], h => by cases h
  | k' :: ks, v :: vs, h => by
    have := zip_any (k := k) (ks := ks) (vs := vs) (Nat.succ.inj h)
    unfold hasK at this ⊢
    rw [List.zip_cons_cons, List.any_cons, List.any_cons, this]
theorem zip_repl {k : Key} {v : V} : ∀ {ks : List Key} {vs : List V}, ks.length = vs.length → (ks.zip vs).map (fun kv => if kv.1 = k then (kv.1, v) else kv) = ks.zip (replL k v ks vs)
  | [], [], _ => rfl
  | [], _ :: _, h => by cases h
  | _ :: _, [], h => by cases h
  | k' :: ks, w :: vs, h => by
    have := zip_repl (k := k) (v := v) (ks := ks) (vs := vs) (Nat.succ.inj h)
    rw [List.zip_cons_cons, List.map_cons, this]
    show _ = (k' :: ks).zip ((if k' = k then v else w) :: replL k v ks vs)
    rw [List.zip_cons_cons]
    congr 1
    by_cases e : k' = k
    · rw [if_pos e, if_pos e]
    · rw [if_neg e, if_neg e]
theorem zip_put {k : Key} {v : V} {ks : List Key} {vs : List V} (h : ks.length = vs.length) : putK (ks.zip vs) k v = (putKs ks k).zip (putVs ks vs k v) := by
  unfold putK putKs putVs
  rw [zip_any h]
  cases hasK k ks with
  | true => exact zip_repl h
  | false =>
    show ks.zip vs ++ [(k, v)] = (ks ++ [k]).zip (vs ++ [v])
    rw [List.zip_append h]
    rfl
theorem zip_val {k : Key} : ∀ {ks : List Key} {vs : List V}, ks.length = vs.length → valV (ks.zip vs) k = findL k ks vs
  | [], [], _ => rfl
  | [], _ :: _, h => by cases h
  | _ :: _, [], h => by cases h
  | k' :: ks, v :: vs, h => by
    rw [List.zip_cons_cons]
    unfold findL
    by_cases e : k' = k
    · rw [if_pos e, valV_pos e]
    · rw [if_neg e, valV_neg e]
      exact zip_val (Nat.succ.inj h)
section
variable {K : PySem.W.Frag} {F H : Hp}
theorem DenAll.repl {k : Key} {v : V} {d : D} (h2 : Den K F v d) : ∀ {ks : List Key} {vs : List V} {ds : List D}, DenAll K F vs ds → DenAll K F (replL k v ks vs) (replL k d ks ds)
  | [], _, _, _ => .nil
  | _ :: _, _, _, .nil => .nil
  | k' :: ks, _, _, .cons h r => by
    unfold replL
    by_cases e : k' = k
    · rw [if_pos e, if_pos e]
      exact .cons h2 (DenAll.repl h2 r)
    · rw [if_neg e, if_neg e]
      exact .cons h (DenAll.repl h2 r)
theorem DenAll.put {k : Key} {v : V} {d : D} {ks : List Key} {vs : List V} {ds : List D} (h2 : Den K F v d) (h : DenAll K F vs ds) : DenAll K F (putVs ks vs k v) (putVs ks ds k d) := by
  unfold putVs
  cases hasK k ks with
  | true => exact h.repl h2
  | false => exact h.snoc h2
theorem DenAll.find {k : Key} {d : D} : ∀ {ks : List Key} {vs : List V} {ds : List D}, DenAll K F vs ds → findL k ks ds = some d → ∃ v, findL k ks vs = some v ∧ Den K F v d
  | [], _, _, _, e => by cases e
  | _ :: _, _, _, .nil, e => by cases e
  | k' :: ks, _, _, .cons h r, e => by
    unfold findL at e ⊢
    by_cases q : k' = k
    · rw [if_pos q] at e ⊢
      cases e
      exact ⟨_, rfl, h⟩
    · rw [if_neg q] at e ⊢
      exact r.find e
theorem DenAll.findN {k : Key} : ∀ {ks : List Key} {vs : List V} {ds : List D}, DenAll K F vs ds → (findL k ks vs).isSome = (findL k ks ds).isSome
  | [], _, _, .nil => rfl
  | [], _, _, .cons _ _ => rfl
  | _ :: _, _, _, .nil => rfl
  | k' :: ks, _, _, .cons h r => by
    unfold findL
    by_cases q : k' = k
    · rw [if_pos q, if_pos q]
      rfl
    · rw [if_neg q, if_neg q]
      exact DenAll.findN r
end
def D.key : D → Option Key
  | .int i => some (.inl i)
  | .str x => some (.inr x)
  | _ => none
theorem Den.key {K : PySem.W.Frag} {F : Hp} {v : V} {d : D} {k : Key} (h : Den K F v d) (e : d.key = some k) : v = kV k := by
  cases h <;> cases e <;> rfl
def dgetD : D → D → Option D
  | .dic ks vs, y => match y.key with
    | some k => findL k ks vs
    | none => none
  | _, _ => none
def dinB : D → D → Option Bool
  | y, .dic ks vs => match y.key with
    | some k => some (findL k ks vs).isSome
    | none => none
  | _, _ => none
def dinD (y d : D) : Option D := match dinB y d with
  | some k => some (.bl k)
  | none => none
def dnotInD (y d : D) : Option D := match dinB y d with
  | some k => some (.bl (!k))
  | none => none
section
variable {X : Cx} {K : PySem.W.Frag} {pa : Plc} {W : L2.St → XK} {a b c tg : Expr} {fa fb fc : S → Rs D} {pos p : Pos} {es : List Expr} {fr : S → Rs (List D)} {st : Stmt}
theorem Den.dict {F H : Hp} {v : V} {ks : List Key} {ds : List D} (s : Sub F H) (h : Den K F v (.dic ks ds)) : ∃ a vs, v = .ref a ∧ F a = some (.dK (ks.zip vs)) ∧ Rd H a (.dK (ks.zip vs)) ∧ ks.length = vs.length ∧ DenAll K F vs ds := by
  cases h with
  | dic q l r => exact ⟨_, _, rfl, q, s.rd q, l, r⟩
theorem pv_dget (hu : X.A.units + 1 < cLine) (ha : PE X a (tV K pa W fa)) (hb : PE X b (tV K pa W fb)) (hs : NoSl b) : PE X (.Subscript a b pos) (tV K pa W (mOp dgetD fa fb)) := by
  refine (pe_dget hu ha hb hs).mono ?_
  rintro σ H Q ⟨F, s, rep, h⟩
  refine ⟨F, s, rep, (Fin.bind h).mono ?_⟩
  rintro v H1 ⟨F1, s1, x, st1, rep1, dv, h1⟩
  refine ⟨F1, s1, rep1, (Fin.bind h1).mono ?_⟩
  rintro w H2 ⟨F2, s2, y, st2, rep2, dw, h2⟩
  obtain ⟨z, e, o⟩ := Fin.lift rep2 h2
  have dv : Den K F1 v x := dv
  have dw : Den K F2 w y := dw
  cases x with
  | dic ks ds =>
    obtain ⟨a, vs, rfl, q1, q2, q3, q4⟩ := Den.dict rep2.sub (dv.mono st2.le)
    dsimp only [dgetD] at e
    cases ek : y.key with
    | none =>
      rw [ek] at e
      cases e
    | some k =>
      rw [ek] at e
      obtain ⟨u, e1, e2⟩ := q4.find e
      rw [dw.key ek]
      exact ⟨a, u, rfl, .inl ⟨_, k, q2, rfl, by rw [zip_val q3, e1]⟩, o.here rep2.sub e2⟩
  | _ => cases e
theorem din_of {y d : D} {k : Bool} {F H : Hp} {v w : V} (s : Sub F H) (dy : Den K F w y) (dv : Den K F v d) (e : dinB y d = some k) : ∃ a o, v = .ref a ∧ DGet H a w o ∧ k = o.isSome := by
  cases d with
  | dic ks ds =>
    obtain ⟨a, vs, rfl, q1, q2, q3, q4⟩ := Den.dict s dv
    have e : (match y.key with
      | some k => some (findL k ks ds).isSome
      | none => none) = some k := by
      cases y <;> exact e
    cases ek : y.key with
    | none =>
      rw [ek] at e
      cases e
    | some k' =>
      rw [ek] at e
      cases e
      exact ⟨a, _, rfl, .inl ⟨_, k', q2, dy.key ek, rfl⟩, by rw [zip_val q3, q4.findN]⟩
  | _ => cases y <;> cases e
theorem tDIn_of {σ : L2.St} {H : Hp} {Q : VK} (h : tV K pa W (mOp dinD fa fb) σ H Q) : tDIn (tV K pa W fa) (tV K pa W fb) σ H Q := by
  obtain ⟨F, s, rep, h⟩ := h
  refine ⟨F, s, rep, (Fin.bind h).mono ?_⟩
  rintro v H1 ⟨F1, s1, x, st1, rep1, dv, h1⟩
  refine ⟨F1, s1, rep1, (Fin.bind h1).mono ?_⟩
  rintro w H2 ⟨F2, s2, y, st2, rep2, dw, h2⟩
  obtain ⟨z, e, o⟩ := Fin.lift rep2 h2
  unfold dinD at e
  cases q : dinB x y with
  | none =>
    rw [q] at e
    cases e
  | some k =>
    rw [q] at e
    cases e
    obtain ⟨a, o', e1, e2, e3⟩ := din_of rep2.sub (Den.mono st2.le dv) dw q
    exact ⟨a, o', e1, e2, by rw [← e3]; exact o.here rep2.sub (.bl _)⟩
theorem tDNotIn_of {σ : L2.St} {H : Hp} {Q : VK} (h : tV K pa W (mOp dnotInD fa fb) σ H Q) : tDNotIn (tV K pa W fa) (tV K pa W fb) σ H Q := by
  obtain ⟨F, s, rep, h⟩ := h
  refine ⟨F, s, rep, (Fin.bind h).mono ?_⟩
  rintro v H1 ⟨F1, s1, x, st1, rep1, dv, h1⟩
  refine ⟨F1, s1, rep1, (Fin.bind h1).mono ?_⟩
  rintro w H2 ⟨F2, s2, y, st2, rep2, dw, h2⟩
  obtain ⟨z, e, o⟩ := Fin.lift rep2 h2
  unfold dnotInD at e
  cases q : dinB x y with
  | none =>
    rw [q] at e
    cases e
  | some k =>
    rw [q] at e
    cases e
    obtain ⟨a, o', e1, e2, e3⟩ := din_of rep2.sub (Den.mono st2.le dv) dw q
    exact ⟨a, o', e1, e2, by rw [← e3]; exact o.here rep2.sub (.bl _)⟩
theorem pv_din (hu : X.A.units + 1 < cLine) (ha : PE X a (tV K pa W fa)) (hb : PE X b (tV K pa W fb)) (hm : behindInMarks .In b = false := by rfl) : PE X (.Compare a [.In] [b] pos) (tV K pa W (mOp dinD fa fb)) := (pe_cmp (pc_din hu ha hb) hm).mono fun _ _ _ h => tDIn_of h
theorem pv_dnotin (hu : X.A.units + 1 < cLine) (ha : PE X a (tV K pa W fa)) (hb : PE X b (tV K pa W fb)) (hm : behindInMarks .NotIn b = false := by rfl) : PE X (.Compare a [.NotIn] [b] pos) (tV K pa W (mOp dnotInD fa fb)) := (pe_cmp (pc_dnotin hu ha hb) hm).mono fun _ _ _ h => tDNotIn_of h
theorem qt_din (hu : X.A.units + 1 < cLine) (ha : PE X a (tV K pa W fa)) (hb : PE X b (tV K pa W fb)) (hm : behindInMarks .In b = false := by rfl) : PT X (.Compare a [.In] [b] pos) (tVB K pa W (mTest (mOp dinD fa fb))) := by
  refine (pt_cmp (pc_din hu ha hb) hm).mono fun σ H Q h => ?_
  obtain ⟨F, s, rep, h⟩ := h
  refine tDIn_of ⟨F, s, rep, (Fin.bind h).mono ?_⟩
  rintro v H1 ⟨F1, s1, x, st1, rep1, dv, h1⟩
  cases x with
  | bl b => exact ⟨b, dv.isBl, h1 b H1 F1 Step.refl rep1 rfl⟩
  | _ => exact False.elim h1
theorem qt_dnotin (hu : X.A.units + 1 < cLine) (ha : PE X a (tV K pa W fa)) (hb : PE X b (tV K pa W fb)) (hm : behindInMarks .NotIn b = false := by rfl) : PT X (.Compare a [.NotIn] [b] pos) (tVB K pa W (mTest (mOp dnotInD fa fb))) := by
  refine (pt_cmp (pc_dnotin hu ha hb) hm).mono fun σ H Q h => ?_
  obtain ⟨F, s, rep, h⟩ := h
  refine tDNotIn_of ⟨F, s, rep, (Fin.bind h).mono ?_⟩
  rintro v H1 ⟨F1, s1, x, st1, rep1, dv, h1⟩
  cases x with
  | bl b => exact ⟨b, dv.isBl, h1 b H1 F1 Step.refl rep1 rfl⟩
  | _ => exact False.elim h1
/-! d[k] = v, d a name that owns it -/
theorem ownK {F H : Hp} {σ : L2.St} {s : S} {i : Nat} {ks : List Key} {xs : List D} (rep : Rep K pa F H σ s) (e : s.e[i]? = some (some (.k ks xs))) : ∃ a vs, σ[i]? = some (some (.ref a)) ∧ Owns σ s.e i a ∧ F a = none ∧ H a = some (.dK (ks.zip vs)) ∧ ks.length = vs.length ∧ DenAll K F vs xs := by
  obtain ⟨v, h1, h2⟩ := rep.slot i _ e
  cases v with
  | ref a =>
    obtain ⟨q1, vs, q2, q4, q3⟩ := h2
    exact ⟨a, vs, h1, ⟨h1, _, e, rfl⟩, q1, q2, q4, q3⟩
  | _ => exact h2.elim
def sDPutO (i : Nat) (fa fb : S → Rs D) : S → Ro := fun s => (fa s).st fun d s1 => match s1.e[i]? with
  | some (some (.k _ _)) => (fb s1).st fun y s2 => (match s2.e[i]?, y.key with
    | some (some (.k ks vs)), some k => if ks.length < 100000 then .nx (s2.put i (some (.k (putKs ks k) (putVs ks vs k d)))) else .no
    | _, _ => .no)
  | _ => .no
theorem q_dput {i : Nat} (h : PS X st (sDPut (tVar i) (tV K pa W fb) (tV K pa W fa))) : PS X st (tS K pa W (sDPutO i fa fb)) := by
  refine h.mono ?_
  rintro E σ H ⟨F, s, rep, h⟩
  refine ⟨F, s, rep, (FinS.st h).mono ?_⟩
  rintro v H1 ⟨F1, s1, d, st1, rep1, dv, h1⟩
  try dsimp only at h1
  split at h1
  · rename_i ks0 xs0 e0
    obtain ⟨a0, vs0, h0, _, _, q0, _⟩ := ownK rep1 e0
    refine ⟨_, h0, F1, s1, rep1, (FinS.st h1).mono ?_⟩
    rintro w H2 ⟨F2, s2, y, st2, rep2, dw, h2⟩
    have dw : Den K F2 w y := dw
    try dsimp only at h2
    split at h2
    · rename_i ks xs k e1 ek
      obtain ⟨a, ws, g1, g2, g3, g4, g5, g6⟩ := ownK rep2 e1
      rw [h0] at g1
      cases g1
      by_cases hl : ks.length < 100000
      · rw [if_pos hl] at h2
        have hz : (ks.zip ws).length < sizeLine := by
          rw [List.length_zip]
          exact Nat.lt_of_le_of_lt (Nat.min_le_left _ _) (Nat.lt_of_lt_of_le hl (by decide))
        refine ⟨a0, _, rfl, .inl ⟨_, k, g4, dw.key ek, hz, rfl⟩, ?_⟩
        rw [zip_put g5]
        obtain ⟨st3, rep3⟩ := rep2.change (o := .dK ((putKs ks k).zip (putVs ks ws k v))) (x := .k (putKs ks k) (putVs ks xs k d)) g2 g3 ⟨_, upd_same, putVs_len g5, g6.put (Den.mono st2.le dv)⟩
        exact h2 _ _ _ st3 rep3
      · rw [if_neg hl] at h2
        exact h2.elim
    · exact h2.elim
  · exact h1.elim
/-! {k: v, ..} -/
def mPairs : List ((S → Rs D) × (S → Rs D)) → S → Rs (List Key × List D)
  | [], s => .ok ([], []) s
  | (f, g) :: r, s => (f s).bind fun x s1 => (g s1).bind fun y s2 => match x.key with
    | some k => (mPairs r s2).bind fun z s3 => .ok (k :: z.1, y :: z.2) s3
    | none => .no
def mergeL (ks0 : List Key) (vs0 : List D) : List Key → List D → List Key × List D
  | k :: ks, v :: vs => mergeL (putKs ks0 k) (putVs ks0 vs0 k v) ks vs
  | _, _ => (ks0, vs0)
def mDisp (fs : List ((S → Rs D) × (S → Rs D))) : S → Rs LV := fun s => (mPairs fs s).bind fun z s1 => if z.1.length ≤ 15 then .ok (.k (mergeL [] [] z.1 z.2).1 (mergeL [] [] z.1 z.2).2) s1 else .no
def DenP (K : PySem.W.Frag) : Hp → Hp → List (V × V) → List Key × List D → Prop := fun F _ ps z => ∃ vs, z.1.length = vs.length ∧ ps = (z.1.zip vs).map (fun kv => (kV kv.1, kv.2)) ∧ DenAll K F vs z.2
theorem merge_ok {F : Hp} : ∀ {ks : List Key} {vs : List V} {ds : List D} {ks0 : List Key} {vs0 : List V} {ds0 : List D}, ks.length = vs.length → DenAll K F vs ds → ks0.length = vs0.length → DenAll K F vs0 ds0 →
    ∃ ws, mergeK (ks0.zip vs0) (ks.zip vs) = (mergeL ks0 ds0 ks ds).1.zip ws ∧ (mergeL ks0 ds0 ks ds).1.length = ws.length ∧ DenAll K F ws (mergeL ks0 ds0 ks ds).2
  | [], _, _, _, vs0, _, h, .nil, h0, r0 => ⟨vs0, rfl, h0, r0⟩
  | [], _, _, _, _, _, h, .cons _ _, _, _ => by cases h
  | k :: ks, _, _, ks0, vs0, ds0, h, r, h0, r0 => by
    cases r with
    | nil => cases h
    | cons hd hr =>
    rename_i v vs d ds
    obtain ⟨ws, e1, e2, e3⟩ := merge_ok (ks := ks) (vs := vs) (ds := ds) (ks0 := putKs ks0 k) (vs0 := putVs ks0 vs0 k v) (ds0 := putVs ks0 ds0 k d) (Nat.succ.inj h) hr (putVs_len h0) (r0.put hd)
    refine ⟨ws, ?_, e2, e3⟩
    rw [List.zip_cons_cons]
    show mergeK (putK (ks0.zip vs0) k v) (ks.zip vs) = _
    rw [zip_put h0, e1]
    rfl
theorem pairs_of : ∀ {trs : List ((S → Rs D) × (S → Rs D))} {σ : L2.St} {H : Hp} {Q : List (V × V) → Hp → Prop}, tG (DenP K) K pa W (mPairs trs) σ H Q → tPairs (trs.map fun f => (tV K pa W f.1, tV K pa W f.2)) σ H Q
  | [], σ, H, Q, ⟨F, s, rep, h⟩ => h [] H F Step.refl rep ⟨[], rfl, rfl, .nil⟩
  | (f, g) :: r, σ, H, Q, ⟨F, s, rep, h⟩ => by
    refine ⟨F, s, rep, (Fin.bind h).mono ?_⟩
    rintro v H1 ⟨F1, s1, x, st1, rep1, dv, h1⟩
    have dv : Den K F1 v x := dv
    refine ⟨F1, s1, rep1, (Fin.bind h1).mono ?_⟩
    rintro w H2 ⟨F2, s2, y, st2, rep2, dw, h2⟩
    have dw : Den K F2 w y := dw
    cases ek : x.key with
    | none =>
      rw [ek] at h2
      exact h2.elim
    | some k =>
      rw [ek] at h2
      refine pairs_of ⟨F2, s2, rep2, (Fin.bind h2).mono ?_⟩
      rintro ps H3 ⟨F3, s3, z, st3, rep3, ⟨vs, e1, e2, e3⟩, h3⟩
      refine h3 _ _ _ Step.refl rep3 ⟨w :: vs, by simp [e1], ?_, .cons (dw.mono st3.le) e3⟩
      subst e2
      rw [dv.key ek, List.zip_cons_cons, List.map_cons]
theorem disp_of {trs : List ((S → Rs D) × (S → Rs D))} {σ : L2.St} {H : Hp} {Q : VK} (h : tM K pa W (mDisp trs) σ H Q) : tDisp (trs.map fun f => (tV K pa W f.1, tV K pa W f.2)) σ H Q := by
  obtain ⟨F, s, rep, h⟩ := h
  intro p hp
  have ext : Ext F H F (upd H p (.dK [])) := Ext.fresh rep.sub hp
  have pd : Pend K pa F (upd H p (.dK [])) σ s p (.k [] []) := ⟨rep.sub.isN hp, ⟨[], upd_same, rfl, .nil⟩, not_own_new rep hp⟩
  refine pairs_of ⟨F, s, rep.ext ext, ?_⟩
  unfold mDisp at h
  cases e : mPairs trs s with
  | no =>
    rw [e] at h
    exact h.elim
  | ex c d s1 =>
    rw [e] at h
    exact fun H' F' a b => h H' F' ((ext.step (σ := σ) (s := s) (pa := pa)).trans a) b
  | ok z s1 =>
    rw [e] at h
    have h : FinM K pa W F H σ s (if z.1.length ≤ 15 then .ok (.k (mergeL [] [] z.1 z.2).1 (mergeL [] [] z.1 z.2).2) s1 else .no) Q := h
    by_cases hl : z.1.length ≤ 15
    · rw [if_pos hl] at h
      rintro ps H2 F2 st2 rep2 ⟨vs, e1, e2, e3⟩
      have pd2 := pd.step st2
      obtain ⟨us, g1, g2, g3⟩ := pd2.ho
      have g1 : H2 p = some (.dK []) := g1
      refine ⟨g1, z.1.zip vs, e2, by rw [List.length_zip]; exact Nat.le_trans (Nat.min_le_left _ _) hl, ?_⟩
      obtain ⟨ws, m1, m2, m3⟩ := merge_ok (ks := z.1) (ks0 := []) (vs0 := []) (ds0 := []) e1 e3 rfl DenAll.nil
      have m1 : mergeK [] (z.1.zip vs) = _ := m1
      rw [m1]
      have rpc : Rep K pa F2 (cutH H2 p) σ s1 := rep2.aside pd2.hf pd2.hn (plain_of g1) fun b hb => cutH_ne hb
      have st : Step pa F H σ s F2 H2 σ s1 := (ext.step (σ := σ) (s := s) (pa := pa)).trans st2
      have := h p (cutH H2 p) F2 (.dK ((mergeL [] [] z.1 z.2).1.zip ws)) ⟨st.le, fun a o hh nn => by
        rw [cutH_ne (fun z => by rw [z, hp] at hh; cases hh)]
        exact st.keep a o hh nn, st.new, st.own⟩ rpc (if_pos rfl) ⟨ws, upd_same, m2, m3⟩
      have ee : upd (cutH H2 p) p (.dK ((mergeL [] [] z.1 z.2).1.zip ws)) = upd H2 p (.dK ((mergeL [] [] z.1 z.2).1.zip ws)) := by
        funext b
        unfold upd cutH
        by_cases q : b = p
        · rw [if_pos q, if_pos q]
        · rw [if_neg q, if_neg q, if_neg q]
      rw [ee] at this
      exact this
    · rw [if_neg hl] at h
      exact h.elim
theorem pm_disp {keys : List (Option Expr)} {values : List Expr} {fs : List ((S → Rs D) × (S → Rs D))} (h : PPs X pos keys values (fs.map fun f => (tV K pa W f.1, tV K pa W f.2))) (hall : keys.all (·.isSome) = true) (hl : keys.length = values.length) (h0 : keys ≠ []) (h15 : keys.length ≤ 15) : PE X (.Dict keys values pos) (tM K pa W (mDisp fs)) :=
  (pe_disp h hall hl h0 h15).mono fun _ _ _ z => disp_of z
end

/-! ### texts -/
def mS1 (g : Str → D → Option D) (fa fb : S → Rs D) : S → Rs D := fun s => (fa s).bind fun x s1 => match x with
  | .str a => (fb s1).bind fun y s2 => liftO (g a y) s2
  | _ => .no
def mS0 (g : Str → Option D) (fa : S → Rs D) : S → Rs D := fun s => (fa s).bind fun x s1 => match x with
  | .str a => liftO (g a) s1
  | _ => .no
def splitD (a : Str) : D → Option D
  | .str b => if (b.length == 0) = false ∧ a.length ≤ 100000 then some (.lst ((Txt.split a b).map D.str)) else none
  | _ => none
def joinD (a : Str) : D → Option D
  | .lst xs => match strsOf xs with
    | some ys => if (ys.map (·.length)).sum + ys.length * a.length ≤ 16777216 then some (.str (Txt.join a ys)) else none
    | none => none
  | .tup xs => match strsOf xs with
    | some ys => if (ys.map (·.length)).sum + ys.length * a.length ≤ 16777216 then some (.str (Txt.join a ys)) else none
    | none => none
  | _ => none
def upperD (a : Str) : Option D := if a.length ≤ 100000 then some (.str (Txt.upper a)) else none
section
variable {X : Cx} {K : PySem.W.Frag} {pa : Plc} {W : L2.St → XK} {a b c tg o e : Expr} {fa fb fc : S → Rs D} {pos p apos : Pos} {es : List Expr} {fr : S → Rs (List D)} {st : Stmt}
theorem m1_of {r : V → List V → Hp → VK → Prop} {g : Str → D → Option D} (l : ∀ (F H : Hp) (x : Str) (w : V) (y z : D) (Q : VK), Sub F H → Den K F w y → g x y = some z → Out K F H z Q → r (.str x) [w] H Q) {σ : L2.St} {H : Hp} {Q : VK} (h : tV K pa W (mS1 g fa fb) σ H Q) : tM1 r (tV K pa W fa) (tV K pa W fb) σ H Q := by
  obtain ⟨F, s, rep, h⟩ := h
  refine ⟨F, s, rep, (Fin.bind h).mono ?_⟩
  rintro v H1 ⟨F1, s1, x, st1, rep1, dv, h1⟩
  cases dv with
  | str z =>
    refine ⟨⟨z, rfl⟩, F1, s1, rep1, (Fin.bind h1).mono ?_⟩
    rintro w H2 ⟨F2, s2, y, st2, rep2, dw, h2⟩
    obtain ⟨u, e, out⟩ := Fin.lift rep2 h2
    exact l F2 H2 z w y u Q rep2.sub dw e out
  | _ => exact False.elim h1
theorem pv_split (ho : PE X o (tV K pa W fa)) (he : PE X e (tV K pa W fb)) (hs : starEach [e] X.env = [(false, eval e X.env)] := by rfl) (hbase : attributeBase o "split" X.env (eval o X.env) = eval o X.env := by rfl) (hline : (apos.endLine == pos.line) = true := by rfl) :
    PE X (.Call (.Attribute o "split" apos) [e] [] pos) (tV K pa W (mS1 splitD fa fb)) := by
  refine (pe_split ho he hs hbase hline).mono fun σ H Q h => m1_of (fun F H x w y z Q sb dw e out => ?_) h
  cases dw with
  | str b =>
    dsimp only [splitD] at e
    by_cases hl : (b.length == 0) = false ∧ x.length ≤ 100000
    · rw [if_pos hl] at e
      cases e
      refine ⟨x, b, rfl, rfl, hl.1, Nat.le_trans (Nat.add_le_add_right hl.2 2) (by decide), fun p hp => ?_⟩
      exact out.lst sb DenAll.ofStrs hp
    · rw [if_neg hl] at e
      cases e
  | _ => cases e
theorem pv_join (ek : X.K = K) (ho : PE X o (tV K pa W fa)) (he : PE X e (tV K pa W fb)) (hs : starEach [e] X.env = [(false, eval e X.env)] := by rfl) (hbase : attributeBase o "join" X.env (eval o X.env) = eval o X.env := by rfl) (hline : (apos.endLine == pos.line) = true := by rfl) :
    PE X (.Call (.Attribute o "join" apos) [e] [] pos) (tV K pa W (mS1 joinD fa fb)) := by
  subst ek
  refine (pe_join ho he hs hbase hline).mono fun σ H Q h => m1_of (fun F H x w y z Q sb dw e out => ?_) h
  cases dw with
  | @lst a vs ds q r =>
    dsimp only [joinD] at e
    cases es : strsOf ds with
    | none =>
      rw [es] at e
      cases e
    | some ys =>
      rw [es] at e
      dsimp only at e
      by_cases hl : (ys.map (·.length)).sum + ys.length * x.length ≤ 16777216
      · rw [if_pos hl] at e
        cases e
        exact ⟨x, a, ys, rfl, rfl, .inl (by rw [← r.strsD es]; exact sb.sqL q), hl, out.here sb (.str _)⟩
      · rw [if_neg hl] at e
        cases e
  | @tup a vs ds q r =>
    dsimp only [joinD] at e
    cases es : strsOf ds with
    | none =>
      rw [es] at e
      cases e
    | some ys =>
      rw [es] at e
      dsimp only at e
      by_cases hl : (ys.map (·.length)).sum + ys.length * x.length ≤ 16777216
      · rw [if_pos hl] at e
        cases e
        exact ⟨x, a, ys, rfl, rfl, .inr (by rw [← r.strsD es]; exact sb.sqT q), hl, out.here sb (.str _)⟩
      · rw [if_neg hl] at e
        cases e
  | _ => cases e
theorem pv_upper (ho : PE X o (tV K pa W fa)) (hbase : attributeBase o "upper" X.env (eval o X.env) = eval o X.env := by rfl) (hline : (apos.endLine == pos.line) = true := by rfl) :
    PE X (.Call (.Attribute o "upper" apos) [] [] pos) (tV K pa W (mS0 upperD fa)) := by
  refine (pe_upper ho hbase hline).mono ?_
  rintro σ H Q ⟨F, s, rep, h⟩
  refine ⟨F, s, rep, (Fin.bind h).mono ?_⟩
  rintro v H1 ⟨F1, s1, x, st1, rep1, dv, h1⟩
  cases dv with
  | str z =>
    obtain ⟨u, e, out⟩ := Fin.lift rep1 h1
    unfold upperD at e
    by_cases hl : z.length ≤ 100000
    · rw [if_pos hl] at e
      cases e
      exact ⟨⟨z, rfl⟩, z, rfl, rfl, Nat.le_trans hl (by decide), out.here rep1.sub (.str _)⟩
    · rw [if_neg hl] at e
      cases e
  | _ => exact False.elim h1
theorem c_strAll : CallR X (.type "str") rStrAll := CallR.or call_str_int SkE.call_str_str
theorem l_str : LiftCB K rStrAll strD := by
  intro F H xs as z Q s d e o
  match as, e with
  | [.int i], e =>
    obtain ⟨v, rfl, dd⟩ := d.one
    cases dd
    dsimp only [strD] at e
    by_cases hl : i.natAbs.log2 < 1920
    · rw [if_pos hl] at e
      cases e
      exact .inl ⟨i, rfl, hl, o.here s (.str _)⟩
    · rw [if_neg hl] at e
      cases e
  | [.str x], e =>
    cases e
    obtain ⟨v, rfl, dd⟩ := d.one
    cases dd
    exact .inr ⟨x, rfl, o.here s (.str _)⟩
/-! ### dicts walked: they are locked meanwhile -/
def kD : Key → D
  | .inl i => .int i
  | .inr x => .str x
theorem den_kV {F : Hp} (k : Key) : Den K F (kV k) (kD k) := by
  cases k with
  | inl i => exact .int i
  | inr x => exact .str x
def keysD : D → Option (List D)
  | .dic ks _ => some (ks.map kD)
  | _ => none
def valuesD : D → Option (List D)
  | .dic _ vs => some vs
  | _ => none
def itemsD : D → Option (List D)
  | .dic ks vs => some (zipD (ks.map kD) vs)
  | _ => none
/-- a reading that gives a thing that is known ahead, whatever is locked -/
def Pur (K : PySem.W.Frag) (pa : Plc) (t : TE) (f : S → Rs D) : Prop := ∀ (F H : Hp) (σ : L2.St) (s : S) (x : D) (s' : S), Rep K pa F H σ s → f s = .ok x s' → s' = s ∧ ∃ v, Den K F v x ∧ ∀ (H' : Hp) (Q : VK), (∀ a u, F a = some u → (∀ kvs, u ≠ .dK kvs) → NoTab u → H' a = some u) → Q v H' → t σ H' Q
/-- no error, whatever it is -/
def pureR (f : S → Rs D) : S → Rs D := fun s => match f s with
  | .ok x s' => .ok x s'
  | _ => .no
def mVarP (i : Nat) : S → Rs D := fun s => match s.e[i]? with
  | some (some (.d x)) => .ok x s
  | _ => .no
theorem pur_var {i : Nat} : Pur K pa (tVar i) (mVarP i) := by
  intro F H σ s x s' rep e
  unfold mVarP at e
  split at e
  · rename_i y ey
    cases e
    obtain ⟨v, h1, h2⟩ := rep.slot i _ ey
    exact ⟨rfl, v, by cases v <;> exact h2, fun H' Q _ q => ⟨v, h1, q⟩⟩
  · cases e
theorem pur_fld {t : TE} {f : S → Rs D} {fl : Str} {cs : List Str} (h : Pur K pa t f) (hcs : ∀ c ∈ cs, NoAttr K (He.ga K c) fl) : Pur K pa (tFld K t fl) (mUn (fldC cs fl) f) := by
  intro F H σ s x s' rep e
  unfold mUn at e
  cases q : f s with
  | no =>
    rw [q] at e
    cases e
  | ex c d s1 =>
    rw [q] at e
    cases e
  | ok y s1 =>
    rw [q] at e
    obtain ⟨rfl, v, dv, k⟩ := h F H σ s y s1 rep q
    have e : liftO (fldC cs fl y) s1 = .ok x s' := e
    cases q2 : fldC cs fl y with
    | none =>
      rw [q2] at e
      cases e
    | some z =>
      rw [q2] at e
      cases e
      cases dv with
      | @obj a dx c ks vs ds w hF l r =>
        dsimp only [fldC] at q2
        by_cases hc : cs.contains c = true
        · rw [if_pos hc] at q2
          obtain ⟨u, h1, h2⟩ := lookD_ok r q2
          exact ⟨rfl, u, h2, fun H' Q keep qq => k H' _ keep ⟨a, _, dx, _, u, rfl, keep a _ hF (fun _ z => nomatch z) (fun _ z => nomatch z), w.cl, hcs c (by simpa using hc), h1, qq⟩⟩
        · rw [if_neg hc] at q2
          cases q2
      | _ => cases q2
theorem Rep.flip {F H : Hp} {σ : L2.St} {s : S} {d : Addr} {kvs : List (Key × V)} {ob : HO} (rep : Rep K pa F H σ s) (hF : F d = some (.dK kvs)) (ho : ob = .dK kvs ∨ ∃ od, ob = .frz od (.dK kvs)) : Rep K pa F (upd H d ob) σ s := by
  have nown : ¬ OwnA pa σ s d := frozen_not_own rep (by rw [hF]; exact fun z => nomatch z)
  refine ⟨⟨fun a u h => ?_, rep.sub.tb⟩, rep.len, fun i x h => ?_, rep.uniq, fun h => ?_⟩
  · by_cases e : a = d
    · subst e
      rw [hF] at h
      cases h
      refine .inl ⟨fun _ z => (nomatch z), ?_⟩
      rcases ho with rfl | ⟨od, rfl⟩
      · exact .inl upd_same
      · exact .inr ⟨⟨kvs, rfl⟩, od, upd_same⟩
    · rcases rep.sub a u h with ⟨n, q | ⟨k, o, q⟩⟩ | ⟨q, e0, e1, t⟩
      · exact .inl ⟨n, .inl (by rw [upd_ne e]; exact q)⟩
      · exact .inl ⟨n, .inr ⟨k, o, by rw [upd_ne e]; exact q⟩⟩
      · refine .inr ⟨q, e0, e1, tabS_upd t ?_⟩
        rcases rep.sub.rc hF with z | ⟨_, o, z⟩
        · exact plain_of z
        · exact plain_of z
  · obtain ⟨v, h1, h2⟩ := rep.slot i x h
    refine ⟨v, h1, ?_⟩
    have nA : ∀ a, v = .ref a → x.own = true → a ≠ d := fun a e1 e2 e3 => by
      subst e1 e3
      exact nown (.inl ⟨i, h1, x, h, e2⟩)
    cases x with
    | d x => cases v <;> exact h2
    | l xs =>
      cases v with
      | ref a =>
        obtain ⟨q1, vs, q2, q3⟩ := h2
        exact ⟨q1, vs, by rw [upd_ne (nA a rfl rfl)]; exact q2, q3⟩
      | _ => exact h2.elim
    | k ks xs =>
      cases v with
      | ref a =>
        obtain ⟨q1, vs, q2, q4, q3⟩ := h2
        exact ⟨q1, vs, by rw [upd_ne (nA a rfl rfl)]; exact q2, q4, q3⟩
      | _ => exact h2.elim
    | p =>
      cases v with
      | ref a => exact h2
      | _ => exact h2.elim
  · obtain ⟨q1, q2, q3⟩ := rep.pot h
    exact ⟨q1, q2.to Le.refl (fun a o ha z _ => by rw [upd_ne (fun e => nown (.inr ⟨h, by rw [← e]; exact ha⟩))]; exact z), q3⟩
theorem Step.unlock {F H F1 H1 : Hp} {σ σ1 : L2.St} {s s1 : S} {d : Addr} {kvs : List (Key × V)} {od : Obj} (st : Step pa F (upd H d (.frz od (.dK kvs))) σ s F1 H1 σ1 s1) (hd : H d = some (.dK kvs)) : Step pa F H σ s F1 (upd H1 d (.dK kvs)) σ1 s1 := by
  have nn : ∀ a, upd H d (.frz od (.dK kvs)) a = none → H a = none := fun a h => by
    by_cases e : a = d
    · rw [e, upd_same] at h
      cases h
    · rw [upd_ne e] at h
      exact h
  refine ⟨st.le, fun a o h n => ?_, fun a h => (st.new a h).imp_right fun z => z.imp_left (nn a), fun a h => (st.own a h).imp_right (nn a)⟩
  by_cases e : a = d
  · subst e
    rw [hd] at h
    cases h
    exact ⟨_, upd_same, fun _ => rfl⟩
  · rw [upd_ne e]
    exact st.keep a o (by rw [upd_ne e]; exact h) n
theorem upd_comm {H : Hp} {a d : Addr} {o u : HO} (h : a ≠ d) : upd (upd H a o) d u = upd (upd H d u) a o := by
  funext b
  unfold upd
  by_cases e : b = d
  · rw [if_pos e, if_neg (fun z => h (z.symm.trans e)), if_pos e]
  · rw [if_neg e, if_neg e]
/-- the three walks of a dict -/
structure DWalk (K : PySem.W.Frag) (iw : TE → TI) (Jd : Addr → Obj → List (Key × V) → It) (gd : D → Option (List D)) : Prop where
  rd : ∀ (td : TE) (σ : L2.St) (H : Hp) (R : It → Hp → Prop) (d : Addr) (o : Obj) (kvs : List (Key × V)), (∀ Q : VK, Q (.ref d) H → td σ H Q) → H d = some (.frz o (.dK kvs)) → R (Jd d o kvs) H → iw td σ H R
  it : ∀ (F H : Hp) (d : Addr) (o : Obj) (ks : List Key) (vs : List V) (ds : List D) (ys : List D), F d = some (.dK (ks.zip vs)) → H d = some (.frz o (.dK (ks.zip vs))) → ks.length = vs.length → DenAll K F vs ds → gd (.dic ks ds) = some ys → IterOf K F H (Jd d o (ks.zip vs)) ys
  only : ∀ x ys, gd x = some ys → ∃ ks ds, x = .dic ks ds
theorem zip_get {ks : List Key} {vs : List V} {i : Nat} {k : Key} {v : V} (h : (ks.zip vs)[i]? = some (k, v)) : ks[i]? = some k ∧ vs[i]? = some v := by
  rw [List.getElem?_zip_eq_some] at h
  exact h
theorem dw_keys : DWalk K iKeys (fun d o kvs => Itk d o kvs) keysD := by
  refine ⟨fun td σ H R d o kvs k h q => k _ ⟨d, o, rfl, .inl ⟨kvs, h, q⟩⟩, fun F H d o ks vs ds ys hF hH hl r e => ?_, fun x ys e => ?_⟩
  · cases e
    refine ⟨_, _, by rw [show (ks.map kD).length = (ks.zip vs).length by simp [hl]]; exact walk_keys (d := d) (o := o) (kvs := ks.zip vs), fun F' H' le s keep => keep d _ (by rw [hF]; exact fun z => nomatch z) hH (fun _ z => nomatch z), fun i F' H' x H'' le s _ y => ?_⟩
    obtain ⟨rfl, k, v, e1, rfl⟩ := y
    obtain ⟨e2, e3⟩ := zip_get e1
    exact ⟨kD k, F', by simp [e2], Ext.refl s, den_kV k⟩
  · cases x <;> cases e
    exact ⟨_, _, rfl⟩
theorem dw_values : DWalk K iVals (fun d o kvs => Itd d o kvs) valuesD := by
  refine ⟨fun td σ H R d o kvs k h q => k _ ⟨d, o, kvs, rfl, h, q⟩, fun F H d o ks vs ds ys hF hH hl r e => ?_, fun x ys e => ?_⟩
  · cases e
    refine ⟨_, _, by rw [show ds.length = (ks.zip vs).length by simp [hl, r.length]]; exact walk_values (d := d) (o := o) (kvs := ks.zip vs), fun F' H' le s keep => keep d _ (by rw [hF]; exact fun z => nomatch z) hH (fun _ z => nomatch z), fun i F' H' x H'' le s _ y => ?_⟩
    obtain ⟨rfl, k, e1⟩ := y
    obtain ⟨e2, e3⟩ := zip_get e1
    obtain ⟨d', q1, q2⟩ := (r.mono le).get e3
    exact ⟨d', F', q1, Ext.refl s, q2⟩
  · cases x <;> cases e
    exact ⟨_, _, rfl⟩
theorem dw_items : DWalk K iItems (fun d o kvs => Iti d o kvs) itemsD := by
  refine ⟨fun td σ H R d o kvs k h q => k _ ⟨d, o, kvs, rfl, h, q⟩, fun F H d o ks vs ds ys hF hH hl r e => ?_, fun x ys e => ?_⟩
  · cases e
    refine ⟨_, _, by rw [show (zipD (ks.map kD) ds).length = (ks.zip vs).length by simp [zipD, hl, r.length]]; exact walk_items (d := d) (o := o) (kvs := ks.zip vs), fun F' H' le s keep => keep d _ (by rw [hF]; exact fun z => nomatch z) hH (fun _ z => nomatch z), fun i F' H' x H'' le s _ y => ?_⟩
    obtain ⟨T, u, v, rfl, n, rfl, e1, e2⟩ := y
    dsimp only at e1 e2
    cases q : (ks.zip vs)[i]? with
    | none =>
      rw [q] at e1
      cases e1
    | some kv =>
      obtain ⟨k, w⟩ := kv
      rw [q] at e1 e2
      cases e1
      cases e2
      obtain ⟨q1, q2⟩ := zip_get q
      obtain ⟨d', q3, q4⟩ := (r.mono le).get q2
      obtain ⟨x1, x2⟩ := ext_pair s n (den_kV k) q4
      exact ⟨pairD (kD k) d', _, by simp [zipD, List.getElem?_zipWith, q1, q3], x1, x2⟩
  · cases x <;> cases e
    exact ⟨_, _, rfl⟩
theorem compL_noex {bd : D → S → Option S} {ft : S → Rs Bool} {fe : S → Rs D} {vs : List Nat} : ∀ (l : List D) (s : S) (c : Str) (d : D) (s2 : S), compL bd ft fe vs l s ≠ .ex c d s2 := by
  intro l
  induction l with
  | nil => intro s c d s2 z; cases z
  | cons x l ih =>
    intro s c d s2 z
    unfold compL at z
    cases q1 : bd x (s.wipe vs) with
    | none => rw [q1] at z; cases z
    | some s3 =>
      rw [q1] at z
      dsimp only at z
      cases q2 : ft s3 with
      | no => rw [q2] at z; cases z
      | ex _ _ _ => rw [q2] at z; cases z
      | ok k s4 =>
        rw [q2] at z
        cases k with
        | false => exact ih _ _ _ _ z
        | true =>
          dsimp only at z
          cases q3 : fe s4 with
          | no => rw [q3] at z; cases z
          | ex _ _ _ => rw [q3] at z; cases z
          | ok y s5 =>
            rw [q3] at z
            dsimp only at z
            cases q4 : compL bd ft fe vs l (s5.back s vs) with
            | no => rw [q4] at z; cases z
            | ex _ _ _ => rw [q4] at z; cases z
            | ok _ _ => rw [q4] at z; cases z
theorem dcomp_of {iw : TE → TI} {Jd : Addr → Obj → List (Key × V) → It} {gd : D → Option (List D)} (dw : DWalk K iw Jd gd) {td : TE} {fd : S → Rs D} (pur : Pur K pa td fd) {vs : List Nat} {is : List Nat} {bd : D → S → Option S} {ft : S → Rs Bool} {fe : S → Rs D} {tt : TT}
    (ht : ∀ σ H Q, tVB K pa W0 ft σ H Q → tt σ H Q) (hsub : ∀ k ∈ is, k ∈ vs) : ∀ (σ : L2.St) (H : Hp) (Q : VK), tM K pa W (mComp (mIter gd (pureR fd)) bd ft fe vs) σ H Q →
      tLockE (tLc (iw td) (tGt K pa is bd) tt (tV K pa W0 fe) vs) σ H Q ∨ tLc (iw td) (tGt K pa is bd) tt (tV K pa W0 fe) vs σ H Q := by
  rintro σ H Q ⟨F, s, rep, h⟩
  unfold mComp mIter pureR at h
  cases e : fd s with
  | no =>
    rw [e] at h
    exact h.elim
  | ex c d s1 =>
    rw [e] at h
    exact h.elim
  | ok x s' =>
    rw [e] at h
    obtain ⟨rfl, v, dv, k⟩ := pur F H σ s x s' rep e
    cases eg : gd x with
    | none =>
      dsimp only [Rs.bind] at h
      rw [eg] at h
      exact h.elim
    | some ys =>
      dsimp only [Rs.bind] at h
      rw [eg] at h
      have h : FinM K pa W F H σ s' (if ys.length ≤ 100000 then (compL bd ft fe vs ys s').bind fun ys s2 => .ok (.l ys) s2 else .no) Q := h
      by_cases hl : ys.length ≤ 100000
      · rw [if_pos hl] at h
        obtain ⟨ks, ds, rfl⟩ := dw.only x ys eg
        obtain ⟨d, ws, rfl, hF, _, hz, r⟩ := Den.dict rep.sub dv
        rcases rep.sub.rc hF with hd | ⟨_, o, hd⟩
        · refine .inl ⟨d, .dK (ks.zip ws), hd, trivial, fun od => ?_⟩
          have rp := rep.flip (ob := .frz od (.dK (ks.zip ws))) hF (.inr ⟨od, rfl⟩)
          have cc : LcJ (Jd d od (ks.zip ws)) (tGt K pa is bd) tt (tV K pa W0 fe) vs σ (upd H d (.frz od (.dK (ks.zip ws)))) (fun v H' => H' d = some (.frz od (.dK (ks.zip ws))) ∧ Q v (upd H' d (.dK (ks.zip ws)))) := by
            refine comp_core (ft := ft) (W := W) ht hsub rp (dw.it F _ d od ks ws ds ys hF upd_same hz r eg) hl ?_
            cases ec : compL bd ft fe vs ys s' with
            | no =>
              rw [ec] at h
              exact h
            | ex c d s2 => exact absurd ec (compL_noex _ _ _ _ _)
            | ok zs s2 =>
              rw [ec] at h
              intro a H1 F1 o st1 rep1 hn ho
              have ndn : F d ≠ none := by rw [hF]; exact fun z => nomatch z
              have hfz : H1 d = some (.frz od (.dK (ks.zip ws))) := st1.at upd_same (frozen_not_own rp ndn)
              have nad : a ≠ d := fun z => by
                rw [z, hfz] at hn
                cases hn
              refine ⟨by rw [upd_ne nad.symm]; exact hfz, ?_⟩
              rw [upd_comm nad]
              have hF1 := st1.le _ _ hF
              refine h a (upd H1 d (.dK (ks.zip ws))) F1 o (st1.unlock hd) (rep1.flip hF1 (.inl rfl)) (by rw [upd_ne nad]; exact hn) ?_
              obtain ⟨us, g1, g2⟩ := ho
              exact ⟨us, by rw [upd_same] at g1 ⊢; exact g1, g2⟩
          refine dw.rd td σ _ _ d od _ (fun Q q => k _ Q (fun a u ha n nt => ?_) q) upd_same cc
          rw [upd_ne (fun z => by rw [z, hF] at ha; cases ha; exact n _ rfl)]
          exact rep.sub.at ha n nt
        · exact .inr (dw.rd td σ H _ d o _ (fun Q q => k H Q (fun a u ha n nt => rep.sub.at ha n nt) q) hd (show LcJ (Jd d o (ks.zip ws)) (tGt K pa is bd) tt (tV K pa W0 fe) vs σ H Q from comp_core (ft := ft) (W := W) ht hsub rep (dw.it F H d o ks ws ds ys hF hd hz r eg) hl h))
      · rw [if_neg hl] at h
        exact h.elim
theorem pm_dcomp {iw : TE → TI} {Jd : Addr → Obj → List (Key × V) → It} {gd : D → Option (List D)} (dw : DWalk K iw Jd gd) {td : TE} {fd : S → Rs D} (pur : Pur K pa td fd) {vs : List Nat} {is : List Nat} {bd : D → S → Option S} {ft : S → Rs Bool} {fe : S → Rs D} {tt : TT}
    (h : PE X a (tLc (iw td) (tGt K pa is bd) tt (tV K pa W0 fe) vs)) (ht : ∀ σ H Q, tVB K pa W0 ft σ H Q → tt σ H Q) (hsub : ∀ k ∈ is, k ∈ vs) : PE X a (tM K pa W (mComp (mIter gd (pureR fd)) bd ft fe vs)) := (PE.or (pe_lock h) h).mono (dcomp_of dw pur ht hsub)
theorem q_asgDComp {iw : TE → TI} {Jd : Addr → Obj → List (Key × V) → It} {gd : D → Option (List D)} (dw : DWalk K iw Jd gd) {td : TE} {fd : S → Rs D} (pur : Pur K pa td fd) {vs : List Nat} {is : List Nat} {i : Nat} {bd : D → S → Option S} {ft : S → Rs Bool} {fe : S → Rs D} {tt : TT}
    (h : PS X st (tAsg (tLc (iw td) (tGt K pa is bd) tt (tV K pa W0 fe) vs) (gName i))) (ht : ∀ σ H Q, tVB K pa W0 ft σ H Q → tt σ H Q) (hsub : ∀ k ∈ is, k ∈ vs) : PS X st (tAsg (tM K pa W (mComp (mIter gd (pureR fd)) bd ft fe vs)) (gName i)) :=
  (PS.or (ps_lock h) h).mono fun E σ H z => dcomp_of dw pur ht hsub σ H (fun x H1 => E.nx (σ.set i (some x)) H1) z
/-! for over a dict -/
def noEx (g : S → Ro) : S → Ro := fun s => match g s with
  | .nx s => .nx s
  | .rt d s => .rt d s
  | .bk s => .bk s
  | .ct s => .ct s
  | _ => .no
theorem noEx_of {g : S → Ro} {l : List Stmt} (h : PSs X l (tS K pa W g)) : PSs X l (tS K pa W (noEx g)) := by
  refine h.mono ?_
  rintro E σ H ⟨F, s, rep, h⟩
  refine ⟨F, s, rep, ?_⟩
  unfold noEx at h
  cases q : g s with
  | ex c v s1 =>
    rw [q] at h
    exact h.elim
  | _ =>
    rw [q] at h
    exact h
theorem forL_noex {b : D → S → Option S} {g : S → Ro} : ∀ (l : List D) (s : S) (c : Str) (d : D) (s2 : S), forL b (noEx g) l s ≠ .ex c d s2 := by
  intro l
  induction l with
  | nil => intro s c d s2 z; cases z
  | cons x l ih =>
    intro s c d s2 z
    unfold forL at z
    cases q1 : b x s with
    | none => rw [q1] at z; cases z
    | some s3 =>
      rw [q1] at z
      dsimp only at z
      cases q2 : noEx g s3 with
      | nx s4 =>
        rw [q2] at z
        exact ih _ _ _ _ z
      | ct s4 =>
        rw [q2] at z
        exact ih _ _ _ _ z
      | bk s4 => rw [q2] at z; cases z
      | rt d s4 => rw [q2] at z; cases z
      | no => rw [q2] at z; cases z
      | ex c v s4 =>
        unfold noEx at q2
        split at q2 <;> cases q2
theorem q_forD {iw : TE → TI} {Jd : Addr → Obj → List (Key × V) → It} {gd : D → Option (List D)} (dw : DWalk K iw Jd gd) {td : TE} {fd : S → Rs D} (pur : Pur K pa td fd) {body : List Stmt} {is : List Nat} {b : D → S → Option S} {g : S → Ro}
    (h : PSs X body (tS K pa W (noEx g)) → PS X st (tFor (iw td) (tGt K pa is b) (tS K pa W (noEx g)))) (hb : PSs X body (tS K pa W g)) : PS X st (tS K pa W (sFor (mIter gd (pureR fd)) b (noEx g))) := by
  have h := h (noEx_of hb)
  refine (PS.or (ps_lock h) h).mono ?_
  rintro E σ H ⟨F, s, rep, h⟩
  unfold sFor mIter pureR at h
  cases e : fd s with
  | no =>
    rw [e] at h
    exact h.elim
  | ex c d s1 =>
    rw [e] at h
    exact h.elim
  | ok x s' =>
    rw [e] at h
    obtain ⟨rfl, v, dv, k⟩ := pur F H σ s x s' rep e
    cases eg : gd x with
    | none =>
      dsimp only [Rs.bind, Rs.st] at h
      rw [eg] at h
      exact h.elim
    | some ys =>
      dsimp only [Rs.bind, Rs.st] at h
      rw [eg] at h
      have h : FinS K pa W F H σ s' (forL b (noEx g) ys s') E := h
      obtain ⟨ks, ds, rfl⟩ := dw.only x ys eg
      obtain ⟨d, ws, rfl, hF, _, hz, r⟩ := Den.dict rep.sub dv
      rcases rep.sub.rc hF with hd | ⟨_, o, hd⟩
      · refine .inl ⟨d, .dK (ks.zip ws), hd, trivial, fun od => ?_⟩
        have rp := rep.flip (ob := .frz od (.dK (ks.zip ws))) hF (.inr ⟨od, rfl⟩)
        have ndn : F d ≠ none := by rw [hF]; exact fun z => nomatch z
        refine dw.rd td σ _ _ d od _ (fun Q q => k _ Q (fun a u ha n nt => ?_) q) upd_same (for_core rp (dw.it F _ d od ks ws ds ys hF upd_same hz r eg) ?_)
        · rw [upd_ne (fun z => by rw [z, hF] at ha; cases ha; exact n _ rfl)]
          exact rep.sub.at ha n nt
        · have fz : ∀ {F1 H1 : Hp} {σ1 : L2.St} {s1 : S}, Step pa F (upd H d (.frz od (.dK (ks.zip ws)))) σ s' F1 H1 σ1 s1 → H1 d = some (.frz od (.dK (ks.zip ws))) := fun st => st.at upd_same (frozen_not_own rp ndn)
          cases ec : forL b (noEx g) ys s' with
          | no =>
            rw [ec] at h
            exact h
          | ex c d s2 => exact absurd ec (forL_noex _ _ _ _ _)
          | nx s2 =>
            rw [ec] at h
            exact fun σ' H' F' st rp1 => ⟨fz st, h _ _ _ (st.unlock hd) (rp1.flip (st.le _ _ hF) (.inl rfl))⟩
          | bk s2 =>
            rw [ec] at h
            exact fun σ' H' F' st rp1 => ⟨fz st, h _ _ _ (st.unlock hd) (rp1.flip (st.le _ _ hF) (.inl rfl))⟩
          | ct s2 =>
            rw [ec] at h
            exact fun σ' H' F' st rp1 => ⟨fz st, h _ _ _ (st.unlock hd) (rp1.flip (st.le _ _ hF) (.inl rfl))⟩
          | rt d2 s2 =>
            rw [ec] at h
            exact fun σ' v H' F' st rp1 dv => ⟨fz st, h _ _ _ _ (st.unlock hd) (rp1.flip (st.le _ _ hF) (.inl rfl)) dv⟩
      · exact .inr (dw.rd td σ H _ d o _ (fun Q q => k H Q (fun a u ha n nt => rep.sub.at ha n nt) q) hd (for_core rep (dw.it F H d o ks ws ds ys hF hd hz r eg) h))
end

/-! ### classes of the program's own -/
theorem ownB_ok {K : PySem.W.Frag} {c : Str} (h : ownB K c = true) (cl : Cls K (He.ga K c)) : OwnC K (He.ga K c) := by
  obtain ⟨h1, h⟩ := Bool.and_eq_true_iff.mp h
  obtain ⟨h2, h⟩ := Bool.and_eq_true_iff.mp h
  obtain ⟨h3, h⟩ := Bool.and_eq_true_iff.mp h
  obtain ⟨h4, h5⟩ := Bool.and_eq_true_iff.mp h
  exact ⟨cl, He.eqO_ok h1, He.eqO_ok h2, of_decide_eq_true h3, of_decide_eq_true h4, fun T hT => of_decide_eq_true (List.all_eq_true.mp h5 T hT)⟩
/-- isinstance(x, c) for all that trees can be; cs: the classes of the program's own -/
structure IsiC (K : PySem.W.Frag) (c : Str) (cs : List Str) : Prop where
  tys : ∀ T ∈ "NoneType" :: sixT, PySem.W.kitOne K (.type T) (.ref (He.ga K c)) = some false
  own : ∀ c' ∈ cs, PySem.W.kitOne K (.ref (He.ga K c')) (.ref (He.ga K c)) = some (decide (c' = c))
theorem isiB_ok {K : PySem.W.Frag} {c : Str} {cs : List Str} (h : isiB K c cs = true) : IsiC K c cs := by
  obtain ⟨h1, h2⟩ := Bool.and_eq_true_iff.mp h
  exact ⟨fun T hT => of_decide_eq_true (List.all_eq_true.mp h1 T hT), fun c' hc => of_decide_eq_true (List.all_eq_true.mp h2 c' hc)⟩
def isiO (c : Str) (cs : List Str) : D → Option D
  | .obj c' _ _ => if cs.contains c' then some (.bl (decide (c' = c))) else none
  | .exc _ _ => none
  | _ => some (.bl false)
section
variable {K : PySem.W.Frag} {F H : Hp}
theorem Den.tyO {v : V} {d z : D} {c : Str} {cs : List Str} (s : Sub F H) (i : IsiC K c cs) (h : Den K F v d) (e : isiO c cs d = some z) : ∃ t b, TyX K H v t ∧ PySem.W.kitOne K t (.ref (He.ga K c)) = some b ∧ z = .bl b := by
  cases h with
  | int j =>
    cases e
    exact ⟨_, _, .base (.int j), i.tys _ (by decide), rfl⟩
  | bl b =>
    cases e
    exact ⟨_, _, .base (.bl b), i.tys _ (by decide), rfl⟩
  | str x =>
    cases e
    exact ⟨_, _, .base (.str x), i.tys _ (by decide), rfl⟩
  | non =>
    cases e
    exact ⟨_, _, .base .non, i.tys _ (by decide), rfl⟩
  | @tup a vs ds h r =>
    cases e
    have ty : TyX K H (.ref a) (.type "tuple") := by
      rcases h with h | h
      · exact .base (.tup (s.at h (fun _ z => nomatch z)))
      · rcases h (fun _ => none) with (z | ⟨_, z⟩) | ⟨o, its, n, h1, h2, _⟩
        · cases z
        · cases z
        · exact .kTuple h1 h2
    exact ⟨_, _, ty, i.tys _ (by decide), rfl⟩
  | @lst a vs ds h r =>
    cases e
    exact ⟨_, _, .base (.lst (s.lst h)), i.tys _ (by decide), rfl⟩
  | @dic a ks vs ds h l r =>
    cases e
    have ty : TyX K H (.ref a) (.type "dict") := by
      rcases s.rc h with h | ⟨_, o, h⟩
      · exact .base (.dK h)
      · exact .fDict h
    exact ⟨_, _, ty, i.tys _ (by decide), rfl⟩
  | @obj a dx c' ks vs ds w h l r =>
    dsimp only [isiO] at e
    by_cases hc : cs.contains c' = true
    · rw [if_pos hc] at e
      cases e
      exact ⟨_, _, .base (.ins (s.ins h) w.cl w.ha w.hn w.htk w.hm), i.own c' (by simpa using hc), rfl⟩
    · rw [if_neg hc] at e
      cases e
  | exc w h1 h2 r => cases e
end
section
variable {X : Cx} {K : PySem.W.Frag} {pa : Plc} {W : L2.St → XK} {a b c o e : Expr} {fa fb fc : S → Rs D} {pos p apos : Pos} {es : List Expr} {fr : S → Rs (List D)} {st : Stmt}
theorem pv_isiO {cn : Str} {cs : List Str} (ek : X.K = K) (i : IsiC K cn cs) (hg : Gl X "isinstance") (hm : X.mg "isinstance" = none) (ha : PE X a (tV K pa W fa)) (hc : PE X c (tC (.ref (He.ga K cn))))
    (h1 : starEach [a, c] X.env = (false, eval a X.env) :: starEach [c] X.env := by rfl) (h2 : starEach [c] X.env = (false, eval c X.env) :: starEach [] X.env := by rfl) (hpl : (backTo pos (starEach [c] X.env)).any (·.1) = false := by rfl) :
    PE X (.Call (.Name "isinstance" p) [a, c] [] pos) (tV K pa W (mUn (isiO cn cs) fa)) := by
  subst ek
  refine (pe_callB call_isi hg hm (by decide +kernel) (pa_cons ha (pa_cons hc pa_nil h2) h1) (by decide) (by decide) h1 hpl).mono ?_
  rintro σ H Q ⟨F, s, rep, h⟩
  refine ⟨F, s, rep, (Fin.bind h).mono ?_⟩
  rintro v H1 ⟨F1, s1, x, st1, rep1, dv, h1⟩
  obtain ⟨z, e, out⟩ := h1.lift rep1
  obtain ⟨t, b, h1, h2, rfl⟩ := Den.tyO rep1.sub i dv e
  exact ⟨v, _, t, _, b, rfl, .own _, h1, h2, out.here rep1.sub (.bl _)⟩
/-! methods, properties of things that are not changed -/
def mMeth (cn m : Str) (mm : List D → Rv) (fa : S → Rs D) (fr : S → Rs (List D)) : S → Rs D := fun s => (fa s).bind fun x s1 => match x with
  | .obj c' ks vs => if c' = cn ∧ ks.contains m = false then (fr s1).bind fun ds s2 => (match mm (.obj c' ks vs :: ds) with
    | .ok d => .ok d s2
    | _ => .no) else .no
  | _ => .no
theorem look_none {m : Str} : ∀ {ks : List Str} {vs : List V}, ks.contains m = false → (ks.zip vs).lookup m = none
  | [], _, _ => rfl
  | k :: ks, [], _ => rfl
  | k :: ks, v :: vs, h => by
    rw [List.contains_cons, Bool.or_eq_false_iff] at h
    rw [List.zip_cons_cons, List.lookup_cons, h.1]
    exact look_none h.2
theorem meth_of {cn m : Str} {mm : List D → Rv} {σ : L2.St} {H : Hp} {Q : VK} (h : tV K pa W (mMeth cn m mm fa fr) σ H Q) : tMeth (He.ga K cn) m (spV K mm) [] E0 (tV K pa W fa) (tVA K pa W fr) σ H Q := by
  obtain ⟨F, s, rep, h⟩ := h
  refine ⟨F, s, rep, (Fin.bind h).mono ?_⟩
  rintro v H1 ⟨F1, s1, x, st1, rep1, dv, h1⟩
  have dv : Den K F1 v x := dv
  cases x with
  | obj c' ks ds =>
    dsimp only at h1
    by_cases hc : c' = cn ∧ ks.contains m = false
    · rw [if_pos hc] at h1
      obtain ⟨rfl, hk⟩ := hc
      cases id dv with
      | @obj a dx _ _ vs _ w q l r =>
        refine ⟨a, dx, _, rfl, rep1.sub.ins q, look_none hk, F1, s1, rep1, (Fin.bind h1).mono ?_⟩
        rintro ws H2 ⟨F2, s2, es, st2, rep2, dvs, h2⟩
        rw [List.append_nil]
        exact spV_of rep2 (.cons (Den.mono st2.le dv) dvs) h2
    · rw [if_neg hc] at h1
      exact h1.elim
  | _ => exact False.elim h1
theorem pv_meth {k : Nat} {cn m : Str} {ps : List Str} {mm : List D → Rv} {pl : Sem Bool} (he : PE X o (tV K pa W fa)) (M : MCal X.prog X.w X.K X.mg X.base k (He.ga K cn) m ps (spV K mm)) (room : Room k X.A) (gd : X.A.guards = some []) (args : PA X (e :: es) (tVA K pa W fr))
    (hst : starEach (e :: es) X.env = (false, eval e X.env) :: starEach es X.env := by rfl) (hpl : (backTo pos (starEach es X.env)).any (·.1) = false := by rfl)
    (ht : eval (.Call (.Attribute o m apos) (e :: es) [] pos) X.env = (do
      let ov ← eval o X.env
      standAt apos.atName
      let (f, first) ← holding [ov] (getMethod ov m pl)
      callWith pos f first (backTo pos (starEach (e :: es) X.env)) (backToKw pos (keywordEach [] X.env))) := by rfl) :
    PE X (.Call (.Attribute o m apos) (e :: es) [] pos) (tV K pa W (mMeth cn m mm fa fr)) := (pe_mcal (pl := pl) he M room gd args hst hpl ht).mono fun _ _ _ h => meth_of h
theorem meth0_of {cn m : Str} {mm : List D → Rv} {σ : L2.St} {H : Hp} {Q : VK} (h : tV K pa W (mMeth cn m mm fa mNil) σ H Q) : tMeth (He.ga K cn) m (spV K mm) [] E0 (tV K pa W fa) tNil σ H Q := by
  obtain ⟨F, s, rep, h⟩ := h
  refine ⟨F, s, rep, (Fin.bind h).mono ?_⟩
  rintro v H1 ⟨F1, s1, x, st1, rep1, dv, h1⟩
  have dv : Den K F1 v x := dv
  cases x with
  | obj c' ks ds =>
    dsimp only at h1
    by_cases hc : c' = cn ∧ ks.contains m = false
    · rw [if_pos hc] at h1
      obtain ⟨rfl, hk⟩ := hc
      cases id dv with
      | @obj a dx _ _ vs _ w q l r => exact ⟨a, dx, _, rfl, rep1.sub.ins q, look_none hk, spV_of (W := W) rep1 (.cons dv .nil) h1⟩
    · rw [if_neg hc] at h1
      exact h1.elim
  | _ => exact False.elim h1
theorem pv_meth0 {k : Nat} {cn m : Str} {ps : List Str} {mm : List D → Rv} {pl : Sem Bool} (he : PE X o (tV K pa W fa)) (M : MCal X.prog X.w X.K X.mg X.base k (He.ga K cn) m ps (spV K mm)) (room : Room k X.A) (gd : X.A.guards = some [])
    (ht : eval (.Call (.Attribute o m apos) [] [] pos) X.env = (do
      let ov ← eval o X.env
      standAt apos.atName
      let (f, first) ← holding [ov] (getMethod ov m pl)
      callWith pos f first (backTo pos (starEach [] X.env)) (backToKw pos (keywordEach [] X.env))) := by rfl) :
    PE X (.Call (.Attribute o m apos) [] [] pos) (tV K pa W (mMeth cn m mm fa mNil)) := (pe_mcal0 (pl := pl) he M room gd ht).mono fun _ _ _ h => meth0_of h
def mProp (cn : Str) (mm : List D → Rv) (fa : S → Rs D) : S → Rs D := fun s => (fa s).bind fun x s1 => match x with
  | .obj c' ks vs => if c' = cn then (match mm [.obj c' ks vs] with
    | .ok d => .ok d s1
    | _ => .no) else .no
  | _ => .no
theorem pv_prop {k : Nat} {cn n : Str} {ps : List Str} {mm : List D → Rv} (he : PE X e (tV K pa W fa)) (M : PCal X.prog X.w X.K X.mg X.base k (He.ga K cn) n ps (spV K mm)) (room : Room (k + 1) X.A) (gd : X.A.guards = some []) (hab : attributeBase e n X.env (eval e X.env) = eval e X.env := by rfl) :
    PE X (.Attribute e n pos) (tV K pa W (mProp cn mm fa)) := by
  refine (pe_pcal he M room gd hab).mono ?_
  rintro σ H Q ⟨F, s, rep, h⟩
  refine ⟨F, s, rep, (Fin.bind h).mono ?_⟩
  rintro v H1 ⟨F1, s1, x, st1, rep1, dv, h1⟩
  have dv : Den K F1 v x := dv
  cases x with
  | obj c' ks ds =>
    dsimp only at h1
    by_cases hc : c' = cn
    · rw [if_pos hc] at h1
      subst hc
      cases id dv with
      | @obj a dx _ _ vs _ w q l r => exact ⟨a, dx, _, rfl, rep1.sub.ins q, spV_of (W := W) rep1 (.cons dv .nil) h1⟩
    · rw [if_neg hc] at h1
      exact h1.elim
  | _ => exact False.elim h1
/-! in, [], len by own methods -/
def inO (cn : Str) (mm : List D → Rv) (neg : Bool) : D → D → Option D
  | x, .obj c' ks vs => if c' = cn then (match mm [.obj c' ks vs, x] with
    | .ok (.bl b) => some (.bl (if neg then !b else b))
    | _ => none) else none
  | _, _ => none
def ixO (cn : Str) (mm : List D → Rv) : D → D → Option D
  | .obj c' ks vs, x => if c' = cn then (match mm [.obj c' ks vs, x] with
    | .ok d => some d
    | _ => none) else none
  | _, _ => none
def lenO (cn : Str) (mm : List D → Rv) : List D → Option D
  | [.obj c' ks vs] => if c' = cn then (match mm [.obj c' ks vs] with
    | .ok (.int n) => if 0 ≤ n ∧ n < 9223372036854775808 then some (.int n) else none
    | _ => none) else none
  | _ => none
theorem spV_out {F H : Hp} {mm : List D → Rv} {vs : List V} {ds : List D} {d : D} {Q : VK} {E : XK} (s : Sub F H) (r : DenAll K F vs ds) (e : mm ds = .ok d) (o : Out K F H d Q) : spV K mm vs H Q E := ⟨F, ds, s, r, by rw [e]; exact o⟩
theorem l_inO {cn : Str} {mm : List D → Rv} {neg : Bool} : LiftOp K (rInO (He.ga K cn) (spV K mm) neg) (inO cn mm neg) := by
  intro F H x y a b z Q s dx dy e o
  cases b with
  | obj c' ks ds =>
    have e' : (if c' = cn then (match mm [.obj c' ks ds, a] with
      | .ok (.bl b) => some (.bl (if neg then !b else b))
      | _ => none) else none) = some z := by cases a <;> exact e
    by_cases hc : c' = cn
    · rw [if_pos hc] at e'
      split at e'
      · rename_i bb eb
        cases e'
        subst hc
        cases id dy with
        | @obj p dx' _ _ vs _ w q l r =>
          refine ⟨p, dx', _, rfl, s.ins q, spV_out s (.cons dy (.cons dx .nil)) eb (fun v H' F' ext dv => ?_)⟩
          exact ⟨bb, dv.isBl, o _ _ _ ext (.bl _)⟩
      · cases e'
    · rw [if_neg hc] at e'
      cases e'
  | _ => cases a <;> cases e
theorem l_ixO {cn : Str} {mm : List D → Rv} : LiftOp K (rIxO (He.ga K cn) (spV K mm)) (ixO cn mm) := by
  intro F H x y a b z Q s dx dy e o
  cases a with
  | obj c' ks ds =>
    dsimp only [ixO] at e
    by_cases hc : c' = cn
    · rw [if_pos hc] at e
      subst hc
      split at e
      · rename_i d ed
        cases e
        cases id dx with
        | @obj p dx' _ _ vs _ w q l r => exact ⟨p, dx', _, rfl, s.ins q, spV_out s (.cons dx (.cons dy .nil)) ed o⟩
      · cases e
    · rw [if_neg hc] at e
      cases e
  | _ => cases e
theorem pv_ixO {k : Nat} {cn : Str} {ps : List Str} {mm : List D → Rv} (M : MCal X.prog X.w X.K X.mg X.base k (He.ga K cn) "__getitem__" ps (spV K mm)) (room : Room (k + 1) X.A) (gd : X.A.guards = some []) (ha : PE X a (tV K pa W fa)) (hb : PE X b (tV K pa W fb)) (hs : ∀ v u, subscripted b true v u = runValue (.builtin "lifetime.subscript" ⟨[v, u], []⟩) := by intro _ _; rfl) :
    PE X (.Subscript a b pos) (tV K pa W (mOp (ixO cn mm) fa fb)) := (pe_ixO M room gd ha hb hs).mono fun _ _ _ h => tOp_of l_ixO h
theorem l_lenO {cn : Str} {mm : List D → Rv} : LiftCB K (rLenO (He.ga K cn) (spV K mm)) (lenO cn mm) := by
  intro F H xs as z Q s d e o
  match as, e with
  | [.obj c' ks ds], e =>
    obtain ⟨v, rfl, dd⟩ := d.one
    dsimp only [lenO] at e
    by_cases hc : c' = cn
    · rw [if_pos hc] at e
      split at e
      · rename_i n en
        by_cases hn : 0 ≤ n ∧ n < 9223372036854775808
        · rw [if_pos hn] at e
          cases e
          subst hc
          cases id dd with
          | @obj p dx' _ _ vs _ w q l r =>
            refine ⟨p, dx', _, rfl, s.ins q, spV_out s (.cons dd .nil) en (fun v H' F' ext dv => ?_)⟩
            cases dv
            exact ⟨n, rfl, hn.1, hn.2, o _ _ _ ext (.int _)⟩
        · rw [if_neg hn] at e
          cases e
      · cases e
    · rw [if_neg hc] at e
      cases e
/-! ### the borrowed object: its fields, its methods -/
def mSelf (i : Nat) (cn f : Str) : S → Rs D := fun s => match s.e[i]?, s.p with
  | some (some .p), .obj c ks vs => if c = cn then liftO (lookD f ks vs) s else .no
  | _, _ => .no
theorem pv_self {i : Nat} {cn f : Str} (ek : X.K = K) (na : NoAttr K (He.ga K cn) f) (ha : PE X a (tVar i)) (hb : attributeBase a f X.env (eval a X.env) = eval a X.env := by rfl) : PE X (.Attribute a f pos) (tV K pa W (mSelf i cn f)) := by
  subst ek
  refine (pe_fld ha hb).mono ?_
  rintro σ H Q ⟨F, s, rep, h⟩
  unfold mSelf at h
  split at h
  · rename_i c ks ds e0 ep
    by_cases hc : c = cn
    · rw [if_pos hc] at h
      subst hc
      obtain ⟨q1, q2, q3⟩ := rep.pot ⟨i, e0⟩
      rw [ep] at q2
      obtain ⟨_, w, dx, vs, g1, g2, g3⟩ := q2
      obtain ⟨z, e, out⟩ := Fin.lift rep h
      obtain ⟨u, h1, h2⟩ := lookD_ok g3 e
      exact ⟨_, rep.potAt e0, pa.root, _, dx, _, u, rfl, g1, w.cl, na, h1, out.here rep.sub h2⟩
    · rw [if_neg hc] at h
      exact h.elim
  · exact h.elim
def fsK (f : Str) : List Str → List Str
  | [] => [f]
  | g :: r => if g = f then g :: r else g :: fsK f r
def fsV {α : Type} (f : Str) (x : α) : List Str → List α → List α
  | [], _ => [x]
  | g :: r, y :: ys => if g = f then x :: ys else y :: fsV f x r ys
  | _ :: _, [] => []
theorem zip_putF {f : Str} {v : V} : ∀ {ks : List Str} {vs : List V}, ks.length = vs.length → putF f v (ks.zip vs) = (fsK f ks).zip (fsV f v ks vs) ∧ (fsK f ks).length = (fsV f v ks vs).length
  | [], [], _ => ⟨rfl, rfl⟩
  | [], _ :: _, h => by cases h
  | _ :: _, [], h => by cases h
  | g :: ks, w :: vs, h => by
    obtain ⟨h1, h2⟩ := zip_putF (f := f) (v := v) (ks := ks) (vs := vs) (Nat.succ.inj h)
    rw [List.zip_cons_cons]
    unfold putF fsK fsV
    by_cases e : g = f
    · rw [if_pos e, if_pos e, if_pos e]
      exact ⟨rfl, h⟩
    · rw [if_neg e, if_neg e, if_neg e, h1]
      exact ⟨rfl, congrArg (· + 1) h2⟩
theorem DenAll.fs {F : Hp} {f : Str} {v : V} {d : D} (h2 : Den K F v d) : ∀ {ks : List Str} {vs : List V} {ds : List D}, DenAll K F vs ds → DenAll K F (fsV f v ks vs) (fsV f d ks ds)
  | [], _, _, _ => .cons h2 .nil
  | _ :: _, _, _, .nil => .nil
  | g :: ks, _, _, .cons h r => by
    unfold fsV
    by_cases e : g = f
    · rw [if_pos e, if_pos e]
      exact .cons h2 r
    · rw [if_neg e, if_neg e]
      exact .cons h (DenAll.fs h2 r)
def sSelf (i : Nat) (cn f : Str) (fa : S → Rs D) : S → Ro := fun s => (fa s).st fun d s1 => match s1.e[i]?, s1.p with
  | some (some .p), .obj c ks vs => if c = cn ∧ ks.length < 100 then .nx { s1 with p := .obj c (fsK f ks) (fsV f d ks vs) } else .no
  | _, _ => .no
theorem q_self {i : Nat} {cn f : Str} (na : NoAttr K (He.ga K cn) f) (h : PS X st (sFld K (tVar i) (tV K pa W fa) f)) : PS X st (tS K pa W (sSelf i cn f fa)) := by
  refine h.mono ?_
  rintro E σ H ⟨F, s, rep, h⟩
  refine ⟨F, s, rep, (FinS.st h).mono ?_⟩
  rintro v H1 ⟨F1, s1, d, st1, rep1, dv, h1⟩
  have dv : Den K F1 v d := dv
  split at h1
  · rename_i c ks ds e0 ep
    by_cases hc : c = cn ∧ ks.length < 100
    · rw [if_pos hc] at h1
      obtain ⟨rfl, hk⟩ := hc
      obtain ⟨q1, q2, q3⟩ := rep1.pot ⟨i, e0⟩
      rw [ep] at q2
      obtain ⟨qm, w, dx, vs, g1, g2, g3⟩ := q2
      obtain ⟨z1, z2⟩ := zip_putF (f := f) (v := v) g2
      refine ⟨_, rep1.potAt e0, pa.root, _, dx, _, rfl, g1, w.cl, na, ?_, ?_⟩
      · rw [List.length_zip]
        exact Nat.lt_of_le_of_lt (Nat.min_le_left _ _) (Nat.lt_trans hk (by decide))
      · rw [z1]
        have ex : ExtP pa F1 H1 F1 (upd H1 pa.root (.ins (He.ga K c) dx ((fsK f ks).zip (fsV f v ks vs)))) := by
          exact ⟨Le.refl, rep1.sub.updN (q1 _ (.inl rfl)) (plain_of g1), fun b o hb n => ⟨o, by rw [upd_ne (fun z => n (.inl z))]; exact hb, fun _ => rfl⟩, fun b hb => .inl hb, q1⟩
        obtain ⟨st2, rep2⟩ := rep1.drawn (pt := .obj c (fsK f ks) (fsV f d ks ds)) ⟨i, e0⟩ ex ⟨qm, w, dx, _, upd_same, z2, g3.fs dv⟩
        exact h1 _ _ _ st2 rep2
    · rw [if_neg hc] at h1
      exact h1.elim
  · exact h1.elim
/-! ### new objects -/
def mNew (cn : Str) (m : Bw → List D → Rp) (fr : S → Rs (List D)) : S → Rs D := fun s => (fr s).bind fun ds s1 => match m (.obj cn [] []) ds with
  | .ok .non (.obj c ks vs) => if c = cn then .ok (.obj c ks vs) s1 else .no
  | _ => .no
theorem pv_new {k : Nat} {cn x : Str} {ps : List Str} {m : Bw → List D → Rp} (w : OwnC K (He.ga K cn)) (M : NCal X.prog X.w X.K X.mg X.base k x (He.ga K cn) ps (spP K m)) (room : Room (k + 1) X.A) (gd : X.A.guards = some []) (gl : Gl X x) (args : PA X (e :: es) (tVA K pa W fr))
    (n1 : (x == ("__debug__" : Str)) = false := by decide) (n2 : starEach (e :: es) X.env = (false, eval e X.env) :: starEach es X.env := by rfl) (n3 : (backTo pos (starEach es X.env)).any (·.1) = false := by rfl) :
    PE X (.Call (.Name x p) (e :: es) [] pos) (tV K pa W (mNew cn m fr)) := by
  refine (pe_ncal M room gd gl args n1 n2 n3).mono ?_
  rintro σ H Q ⟨F, s, rep, h⟩
  refine ⟨F, s, rep, (Fin.bind h).mono ?_⟩
  rintro vs H1 ⟨F1, s1, ds, st1, rep1, dv, h1⟩
  have dv : DenAll K F1 vs ds := dv
  intro y dx hy hdx ne
  rw [List.append_nil]
  have e1 : Ext F1 H1 F1 (upd H1 dx (.own y)) := Ext.fresh rep1.sub hdx
  have hy2 : upd H1 dx (.own y) y = none := by rw [upd_ne ne.symm]; exact hy
  have e2 : Ext F1 (upd H1 dx (.own y)) F1 (upd (upd H1 dx (.own y)) y (.ins (He.ga K cn) dx [])) := Ext.fresh e1.sub hy2
  refine ⟨F1, ⟨y, []⟩, .obj cn [] [], vs, ds, rfl, e2.sub, fun a ha => ?_, ⟨rfl, w, dx, [], upd_same, rfl, .nil⟩, dv, ?_⟩
  · rcases ha with rfl | ha
    · exact rep1.sub.isN hy
    · cases ha
  split at h1
  · rename_i c ks us em
    rw [em]
    by_cases hc : c = cn
    · rw [if_pos hc] at h1
      subst hc
      rintro v H' F' ex ⟨_, _, dx', ws, g1, g2, g3⟩ dn
      cases dn
      refine ⟨rfl, ?_⟩
      have fy : F' y = none := ex.np y (.inl rfl)
      have le : Le F' (upd F' y (.ins (He.ga K c) dx' (ks.zip ws))) := upd_le fy
      have ext : Ext F1 H1 (upd F' y (.ins (He.ga K c) dx' (ks.zip ws))) H' := by
        refine ⟨ex.le.trans le, ex.sub.laid g1 (fun _ z => nomatch z), fun a o ho => ?_, fun a ha => ?_⟩
        · have na : a ≠ y := fun z => by
            rw [z, hy] at ho
            cases ho
          have nd : a ≠ dx := fun z => by
            rw [z, hdx] at ho
            cases ho
          exact ex.keep a o (by rw [upd_ne na, upd_ne nd]; exact ho) (fun z => z.elim na (fun z => nomatch z))
        · by_cases q : a = y
          · subst q
            exact .inr hy
          · rw [upd_ne q] at ha
            rcases ex.new a ha with z | z
            · exact .inl z
            · rw [upd_ne q] at z
              refine .inr ?_
              by_cases q2 : a = dx
              · rw [q2, upd_same] at z
                cases z
              · rw [upd_ne q2] at z
                exact z
      exact h1 _ _ _ ext.step (rep1.ext ext) (.obj w upd_same g2 (g3.mono le))
    · rw [if_neg hc] at h1
      exact h1.elim
  · exact h1.elim
end

/-! ### len(d), tuple(d) of dicts -/
section
variable {prog : Program} {w : World} {A : Around} {E : Value → Shared → Prop} {s : Shared} {d : Addr} {vs : List (Key × Value)} {ep : Nat}
theorem code_tuple_new_dict {Q₁ : Value → Shared → Prop} (hh : A.handled = none) (lo : (d == sysModules) = false) (hat : s.heap.DictAt (mixKind prog w) d vs ep) (hty : s.TypeIs (.ref d) "dict") (h16 : vs.length ≤ sizeLine)
    (h : ∀ (h' : Heap) (tk : Nat) (acc : Array Value), (∀ b o, s.heap.get? b = some o → h'.get? b = some o) → acc.size = vs.length → (∀ (j : Nat) (v : Value), acc[j]? = some v → ∃ (k : Key) (x : Value), vs[j]? = some (k, x) ∧ keyIs k v = true) →
      Q₁ (.ref h'.objs.size) { s with heap := h'.push { cls := .type "tuple", data := .seq acc }, toks := tk }) :
    codeAny (model prog w) A (.call (.builtin "tuple.__new__") ⟨[.type "tuple", .ref d], []⟩) (wants Q₁ E) s := by
  refine codeAny_of_tree ?_
  show wpAny _ A.in1 (do checkBuiltinCall "tuple.__new__" ⟨[.type "tuple", .ref d], []⟩; again (.builtin "tuple.__new__" ⟨[.type "tuple", .ref d], []⟩)) _ _ s
  refine wpAny_bind (wpAny_of_eq (F.newCall_tuple_1 _) (wpAny_pure ⟨plainId_quiet F.plain_tuple_new _, codeAny_builtin F.entry_tuple_new ?_⟩))
  rw [Around.under_plainId F.plain_tuple_new _]
  have hsub := sub_tuple_self
  have hinit := init_tuple_lookup
  have hmh := madeHere_tuple
  have hh1 : A.in1.handled = none := hh
  wp_walk using wpAny_typeOf hty, PySem.W.kdu_collect (A := A.in1) (PySem.W.kdl_dict (knd := mixKind prog w) (kvs := vs) (ep := ep) lo) hh1 hat h16
  intro h' tk acc hk hacc
  show wpAny _ _ (Builtin.Tuple.tupleExact acc.toList.toArray >>= fun v => ret v) _ _ _
  unfold Builtin.Tuple.tupleExact
  refine wpAny_bind (wpAny_newObj_type ?_ (by show acc.toList.toArray.size ≤ sizeLine; simp only [Array.toArray_toList]; rw [hacc.1]; exact h16))
  refine wpAny_pure ?_
  have e : acc.toList.toArray = acc := by simp
  rw [e]
  exact h h' tk acc hk hacc.1 hacc.2
theorem call_tuple_dict {Q : Value → Shared → Prop} (hh : A.handled = none) (lo : (d == sysModules) = false) (hat : s.heap.DictAt (mixKind prog w) d vs ep) (hty : s.TypeIs (.ref d) "dict") (h16 : vs.length ≤ sizeLine)
    (hQ : ∀ (h' : Heap) (tk : Nat) (acc : Array Value), (∀ b o, s.heap.get? b = some o → h'.get? b = some o) → acc.size = vs.length → (∀ (j : Nat) (v : Value), acc[j]? = some v → ∃ (k : Key) (x : Value), vs[j]? = some (k, x) ∧ keyIs k v = true) →
      Q (.ref h'.objs.size) { s with heap := h'.push { cls := .type "tuple", data := .seq acc }, toks := tk }) :
    wpAny (model prog w) A (call (.type "tuple") [.ref d]) Q E s := by
  refine callType_codes (Q₁ := fun obj s₁ => s₁.TypeIs obj "tuple" ∧ Q obj s₁) F.called_tuple (F.typeCall_tuple_1 _) F.entry_object_init
    (code_tuple_new_dict (A := A.in1) hh lo hat hty h16 fun h' tk acc hk h1 h2 => ⟨⟨_, Heap.get?_push_size _ rfl, rfl⟩, hQ h' tk acc hk h1 h2⟩) fun obj s₁ h₁ => ?_
  exact ⟨h₁.1, F.args_object_init_2 obj _, object_init_meets F.called_tuple.init.lookup F.called_tuple.made (by decide) prog w A.in1 _ s₁ ⟨h₁.1, rfl, h₁.2⟩⟩
end
section
variable {X : Cx} {K : PySem.W.Frag}
def rTupD : List V → Hp → VK → Prop := fun xs H Q => ∃ (a : Addr) (kvs : List (Key × V)), xs = [.ref a] ∧ Rd H a (.dK kvs) ∧ ∀ p, H p = none → Q (.ref p) (upd H p (.tup (kvs.map fun kv => kV kv.1)))
theorem c_tupleD (hc : X.calm = true) : CallR X (.type "tuple") rTupD := by
  intro pins s σ H xs us Q I r h
  obtain ⟨a, kvs, rfl, hd, q⟩ := h
  obtain ⟨u, rfl, ru⟩ := vals1 r
  cases ru
  obtain ⟨z, lo, vs, rel, dd⟩ := dk_rd I.hok hd
  obtain ⟨ep, hat⟩ := dd.dictAt
  have hl : kvs.length = vs.length := rel.length
  have hty : s.TypeIs (.ref a) "dict" := by
    obtain ⟨o, es, e2, h1, h2, _⟩ := dd
    exact ⟨o, h1, h2.1⟩
  refine call_tuple_dict (I.ok.hd hc) lo hat hty (by omega) fun h' tk acc hk h1 h2 => ?_
  have I1 : Inv X pins σ H { s with heap := h', toks := tk } := I.kept hk
  have vals : Vals (vs.map fun p => kV p.1) acc.toList := keys_at (by rw [Array.length_toList, h1]) fun j v e => h2 j v (by rw [← Array.getElem?_toList]; exact e)
  have ek : (kvs.map fun kv => kV kv.1) = vs.map fun p => kV p.1 := by
    have e := congrArg (List.map kV) rel.keys
    rw [List.map_map, List.map_map] at e
    exact e
  rw [← ek] at vals
  have hz : (kvs.map fun kv => kV kv.1).length ≤ sizeLine := by rw [List.length_map]; exact z
  refine ⟨.ref h'.objs.size, upd H h'.objs.size (.tup (kvs.map fun kv => kV kv.1)), I1.laid (t' := tk) (fun b o e => Heap.get?_push_of_some _ e) (Nat.le_refl _) (show ObjOk X.prog X.w _ _ _ (.tup _) from ⟨hz, acc.toList, vals, by
    have e : acc.toList.toArray = acc := by simp
    rw [e]
    exact IsTup.new _ _⟩), rfl, q _ (I1.hok.fresh (Nat.le_refl _))⟩
def tupleDD : List D → Option D
  | [.dic ks _] => some (.tup (ks.map kD))
  | _ => none
theorem den_keys {F : Hp} : ∀ ks : List Key, DenAll K F (ks.map kV) (ks.map kD)
  | [] => .nil
  | k :: ks => .cons (den_kV k) (den_keys ks)
theorem zip_keys : ∀ {ks : List Key} {vs : List V}, ks.length = vs.length → (ks.zip vs).map (fun kv => kV kv.1) = ks.map kV
  | [], [], _ => rfl
  | [], _ :: _, h => by cases h
  | _ :: _, [], h => by cases h
  | k :: ks, v :: vs, h => by
    rw [List.zip_cons_cons, List.map_cons, List.map_cons, zip_keys (Nat.succ.inj h)]
theorem l_tupleD : LiftCB K rTupD tupleDD := by
  intro F H xs as z Q s d e o
  match as, e with
  | [.dic ks ds], e =>
    cases e
    obtain ⟨v, rfl, dd⟩ := d.one
    obtain ⟨a, ws, rfl, q1, q2, q3, q4⟩ := Den.dict s dd
    exact ⟨a, _, rfl, q2, fun p hp => by rw [zip_keys q3]; exact o.tup s (den_keys ks) hp⟩
def rLenD : List V → Hp → VK → Prop := fun xs H Q => ∃ (a : Addr) (kvs : List (Key × V)), xs = [.ref a] ∧ Rd H a (.dK kvs) ∧ Q (.int kvs.length) H
theorem c_lenD : CallR X (.builtin "len") rLenD := by
  intro pins s σ H xs us Q I r h
  obtain ⟨a, kvs, rfl, ha, q⟩ := h
  obtain ⟨u, rfl, ru⟩ := vals1 r
  cases ru
  exact d_len I ha fun t s' I' => ⟨.int kvs.length, H, I', ⟨t, rfl⟩, q⟩
def lenDD : List D → Option D
  | [.dic ks _] => some (.int ks.length)
  | _ => none
theorem l_lenD : LiftCB K rLenD lenDD := by
  intro F H xs as z Q s d e o
  match as, e with
  | [.dic ks ds], e =>
    cases e
    obtain ⟨v, rfl, dd⟩ := d.one
    obtain ⟨a, ws, rfl, q1, q2, q3, q4⟩ := Den.dict s dd
    exact ⟨a, _, rfl, q2, by rw [List.length_zip, ← q3, Nat.min_self]; exact o.here s (.int _)⟩
/-! {} -/
def mDNew : S → Rs LV := fun s => .ok (.k [] []) s
theorem pm_dnew {pa : Plc} {W : L2.St → XK} {pos : Pos} : PE X (.Dict [] [] pos) (tM K pa W mDNew) := by
  refine pe_dnewK.mono ?_
  rintro σ H Q ⟨F, s, rep, h⟩
  intro p hp
  exact h p H F _ Step.refl rep hp ⟨[], upd_same, rfl, .nil⟩
end

/-! ### a Reading that is changed -/
def rdK : List Str := ["own_units", "own_rows", "own_depths"]
def rdObj (u : D) (ks : List Key) (vs : List D) (ks2 : List Key) (vs2 : List D) : D := .obj "Reading" rdK [u, .dic ks vs, .dic ks2 vs2]
def plainE : Env' → Bool
  | [] => true
  | none :: r => plainE r
  | some (.d _) :: r => plainE r
  | _ :: _ => false
theorem plainE_ok : ∀ {e : Env'} {i : Nat} {x : LV}, plainE e = true → e[i]? = some (some x) → ∃ d, x = .d d
  | [], _, _, _, h => by simp at h
  | none :: r, 0, _, _, h => by simp at h
  | none :: r, i + 1, x, p, h => plainE_ok (e := r) (i := i) (by simpa [plainE] using p) (by simpa using h)
  | some (.d d) :: r, 0, x, _, h => by
    simp at h
    exact ⟨d, h.symm⟩
  | some (.d d) :: r, i + 1, x, p, h => plainE_ok (e := r) (i := i) (by simpa [plainE] using p) (by simpa using h)
  | some (.l _) :: r, _, _, p, _ => by cases p
  | some (.k _ _) :: r, _, _, p, _ => by cases p
  | some .p :: r, _, _, p, _ => by cases p
/-- a look: the object frozen for it; the result holds nothing -/
def mPeekG {α : Type} (ok : α → Bool) (f : S → Rs α) : S → Rs α := fun s => match s.e, s.p with
  | some LV.p :: r, .rd u ks vs ks2 vs2 => if plainE r then (match f ⟨some (.d (rdObj u ks vs ks2 vs2)) :: r, s.p⟩ with
    | .ok d _ => if ok d then .ok d s else .no
    | _ => .no) else .no
  | _, _ => .no
def mPeek (f : S → Rs D) : S → Rs D := mPeekG D.isFlat f
def mPeekT (f : S → Rs Bool) : S → Rs Bool := mPeekG (fun _ => true) f
section
variable {X : Cx} {K : PySem.W.Frag} {pa : Plc} {W : L2.St → XK} {a b c o e : Expr} {fa fb fc : S → Rs D} {pos p apos : Pos} {es : List Expr} {fr : S → Rs (List D)} {st : Stmt}
theorem upd3 {F : Hp} {x r q : Addr} {o1 o2 o3 : HO} (h1 : F x = none) (h2 : F r = none) (h3 : F q = none) (n1 : r ≠ q) (n2 : x ≠ r) (n3 : x ≠ q) :
    Le F (upd (upd (upd F x o1) r o2) q o3) ∧ upd (upd (upd F x o1) r o2) q o3 x = some o1 ∧ upd (upd (upd F x o1) r o2) q o3 r = some o2 ∧ upd (upd (upd F x o1) r o2) q o3 q = some o3 := by
  refine ⟨(upd_le h1).trans ((upd_le (by rw [upd_ne n2.symm]; exact h2)).trans (upd_le (by rw [upd_ne n1.symm, upd_ne n3.symm]; exact h3))), ?_, ?_, upd_same⟩
  · rw [upd_ne n3, upd_ne n2, upd_same]
  · rw [upd_ne n1, upd_same]
theorem peek_of {α β : Type} {den : Hp → Hp → β → α → Prop} {ok : α → Bool} {fa : S → Rs α} (any : ∀ F' H' F H v x, ok x = true → den F' H' v x → den F H v x) {σ : L2.St} {H : Hp} {Q : β → Hp → Prop} : tG den K pa W (mPeekG ok fa) σ H Q → tG den K pa W0 fa σ H Q := by
  rintro ⟨F, s, rep, h⟩
  unfold mPeekG at h
  split at h
  · rename_i r u ks vs ks2 vs2 ee ep
    by_cases hp : plainE r = true
    · rw [if_pos hp] at h
      split at h
      · rename_i d s1 ed
        by_cases fl : ok d = true
        · rw [if_pos fl] at h
          have e0 : s.e[0]? = some (some .p) := by rw [ee]; rfl
          obtain ⟨q1, q2, q3⟩ := rep.pot ⟨0, e0⟩
          rw [ep] at q2
          obtain ⟨w, r1, r2, dx, uv, us, us2, hm, n1, n2, n3, g1, gu, g2, l2, d2, g3, l3, d3⟩ := q2
          have hx := q1 pa.root (.inl rfl)
          have hr1 := q1 r1 (.inr (by rw [hm]; exact .head _))
          have hr2 := q1 r2 (.inr (by rw [hm]; exact .tail _ (.head _)))
          obtain ⟨le, f1, f2, f3⟩ := upd3 (o1 := .ins (He.ga K "Reading") dx [("own_units", uv), ("own_rows", .ref r1), ("own_depths", .ref r2)]) (o2 := .dK (ks.zip us)) (o3 := .dK (ks2.zip us2)) hx hr1 hr2 n1 n2 n3
          generalize hF : upd (upd (upd F pa.root (.ins (He.ga K "Reading") dx [("own_units", uv), ("own_rows", .ref r1), ("own_depths", .ref r2)])) r1 (.dK (ks.zip us))) r2 (.dK (ks2.zip us2)) = F1 at le f1 f2 f3
          have other : ∀ b, b ≠ pa.root → b ≠ r1 → b ≠ r2 → F1 b = F b := fun b z1 z2 z3 => by rw [← hF, upd_ne z3, upd_ne z2, upd_ne z1]
          have sub1 : Sub F1 H := ⟨fun b v hb => by
            by_cases z1 : b = pa.root
            · subst z1
              rw [f1] at hb
              cases hb
              exact .inl ⟨fun _ z => (nomatch z), .inl g1⟩
            · by_cases z2 : b = r1
              · subst z2
                rw [f2] at hb
                cases hb
                exact .inl ⟨fun _ z => (nomatch z), .inl g2⟩
              · by_cases z3 : b = r2
                · subst z3
                  rw [f3] at hb
                  cases hb
                  exact .inl ⟨fun _ z => (nomatch z), .inl g3⟩
                · rw [other b z1 z2 z3] at hb
                  exact rep.sub b v hb, fun p hp => le _ _ (rep.sub.tb p hp)⟩
          have dobj : Den K F1 (.ref pa.root) (rdObj u ks vs ks2 vs2) := .obj (ks := rdK) (vs := [uv, .ref r1, .ref r2]) w f1 rfl (.cons (gu.mono le) (.cons (.dic f2 l2 (d2.mono le)) (.cons (.dic f3 l3 (d3.mono le)) .nil)))
          have pl : ∀ (i : Nat) (x : LV), (some (LV.d (rdObj u ks vs ks2 vs2)) :: r)[i]? = some (some x) → ∃ d, x = .d d := fun i x hi => plainE_ok (e := some (.d (rdObj u ks vs ks2 vs2)) :: r) (by simpa [plainE] using hp) hi
          have no : ∀ i b, ¬ Owns σ (some (LV.d (rdObj u ks vs ks2 vs2)) :: r) i b := fun i b ⟨_, y, hy, ho⟩ => by
            obtain ⟨d, rfl⟩ := pl i y hy
            cases ho
          have nop : ¬ HasP (some (LV.d (rdObj u ks vs ks2 vs2)) :: r) := fun ⟨i, hi⟩ => by
            obtain ⟨d, z⟩ := pl i _ hi
            cases z
          have rep1 : Rep K pa F1 H σ ⟨some (.d (rdObj u ks vs ks2 vs2)) :: r, s.p⟩ := by
            refine ⟨sub1, by rw [rep.len, ee]; rfl, fun i x hi => ?_, fun i j b h1 => absurd h1 (no i b), fun z => absurd z nop⟩
            cases i with
            | zero =>
              cases hi
              exact ⟨_, rep.potAt e0, dobj⟩
            | succ i =>
              obtain ⟨d, rfl⟩ := pl (i + 1) x hi
              obtain ⟨v, h1, h2⟩ := rep.slot (i + 1) (.d d) (by rw [ee]; simpa using hi)
              exact ⟨v, h1, by cases v <;> exact Den.mono le h2⟩
          refine ⟨F1, _, rep1, ?_⟩
          rw [ed]
          intro v H' F' st rp dv
          have same : Kept H H' := fun b ob hb => st.keep b ob hb (by
            rintro (⟨i, z⟩ | ⟨z, _⟩)
            · exact no i b z
            · exact nop z)
          have ext : Ext F H F H' := ⟨Le.refl, ⟨fun b v hb => rp.sub b v (st.le b v (le b v hb)), rep.sub.tb⟩, same, fun b hb => .inl hb⟩
          exact h v H' F ext.step (rep.ext ext) (any _ _ _ _ _ _ fl dv)
        · rw [if_neg fl] at h
          exact h.elim
      · exact h.elim
    · rw [if_neg hp] at h
      exact h.elim
  · exact h.elim
theorem pv_peek (h : PE X a (tV K pa W0 fa)) : PE X a (tV K pa W (mPeek fa)) := h.mono fun _ _ _ z => peek_of (den := dV K) (fun _ _ _ _ _ _ fl dv => Den.any (show Den K _ _ _ from dv) fl) z
theorem qt_peek {fa : S → Rs Bool} (h : PT X a (tVB K pa W0 fa)) : PT X a (tVB K pa W (mPeekT fa)) := h.mono fun _ _ _ z => peek_of (fun _ _ _ _ _ _ _ dv => dv) z
/-- self.own_units -/
def mRdU (i : Nat) : S → Rs D := fun s => match s.e[i]?, s.p with
  | some (some LV.p), .rd u _ _ _ _ => .ok u s
  | _, _ => .no
theorem pv_rdU {i : Nat} (ek : X.K = K) (na : NoAttr K (He.ga K "Reading") "own_units") (ha : PE X a (tVar i)) (hb : attributeBase a "own_units" X.env (eval a X.env) = eval a X.env := by rfl) : PE X (.Attribute a "own_units" pos) (tV K pa W (mRdU i)) := by
  subst ek
  refine (pe_fld ha hb).mono ?_
  rintro σ H Q ⟨F, s, rep, h⟩
  unfold mRdU at h
  split at h
  · rename_i u ks vs ks2 vs2 e0 ep
    obtain ⟨q1, q2, q3⟩ := rep.pot ⟨i, e0⟩
    rw [ep] at q2
    obtain ⟨w, r1, r2, dx, uv, us, us2, hm, n1, n2, n3, g1, gu, _⟩ := q2
    exact ⟨_, rep.potAt e0, pa.root, _, dx, _, uv, rfl, g1, w.cl, na, rfl, h _ _ _ Step.refl rep gu⟩
  · exact h.elim
/-- self.own_rows[k] = v, self.own_depths[k] = v -/
def sRdPut (rows : Bool) (fa fb : S → Rs D) : S → Ro := fun s => (fa s).st fun d s1 => match s1.e[0]?, s1.p with
  | some (some LV.p), .rd _ _ _ _ _ => (fb s1).st fun y s2 => (match s2.e[0]?, s2.p, y.key with
    | some (some LV.p), .rd u ks vs ks2 vs2, some k => if ks.length < 1000 ∧ ks2.length < 1000 then .nx { s2 with p := if rows then .rd u (putKs ks k) (putVs ks vs k d) ks2 vs2 else .rd u ks vs (putKs ks2 k) (putVs ks2 vs2 k d) } else .no
    | _, _, _ => .no)
  | _, _ => .no
def rdF (rows : Bool) : Str := if rows then "own_rows" else "own_depths"
theorem ext_more {F H : Hp} {r : Addr} {ob : HO} (sub : Sub F H) (q1 : ∀ a, pa.has a → F a = none) (hr : pa.has r) (hp : ∀ o', H r = some o' → Plain o') : ExtP pa F H F (upd H r ob) :=
  ⟨Le.refl, sub.updN (q1 r hr) hp, fun b o hb n => ⟨o, by rw [upd_ne (fun z => n (by rw [z]; exact hr))]; exact hb, fun _ => rfl⟩, fun b hb => .inl hb, q1⟩
theorem q_rdPut {rows : Bool} (na : NoAttr K (He.ga K "Reading") (rdF rows)) (h : PS X st (sDPut (tFld K (tVar 0) (rdF rows)) (tV K pa W fb) (tV K pa W fa))) : PS X st (tS K pa W (sRdPut rows fa fb)) := by
  refine h.mono ?_
  rintro E σ H ⟨F, s, rep, h⟩
  refine ⟨F, s, rep, (FinS.st h).mono ?_⟩
  rintro v H1 ⟨F1, s1, d, st1, rep1, dv, h1⟩
  have dv : Den K F1 v d := dv
  try dsimp only at h1
  split at h1
  · rename_i _ _ _ _ _ e0 ep0
    obtain ⟨q1, q2, q3⟩ := rep1.pot ⟨0, e0⟩
    rw [ep0] at q2
    obtain ⟨w, r1, r2, dx, uv, us, us2, hm, n1, n2, n3, g1, gu, g2, l2, d2, g3, l3, d3⟩ := q2
    have look : [(("own_units" : Str), uv), ("own_rows", V.ref r1), ("own_depths", V.ref r2)].lookup (rdF rows) = some (.ref (if rows then r1 else r2)) := by
      cases rows <;> rfl
    refine ⟨_, rep1.potAt e0, pa.root, _, dx, _, _, rfl, g1, w.cl, na, look, F1, s1, rep1, (FinS.st h1).mono ?_⟩
    rintro y H2 ⟨F2, s2, yd, st2, rep2, dy, h2⟩
    have dy : Den K F2 y yd := dy
    try dsimp only at h2
    split at h2
    · rename_i u ks vs ks2 vs2 k e1 ep ek
      obtain ⟨p1, p2, p3⟩ := rep2.pot ⟨0, e1⟩
      rw [ep] at p2
      obtain ⟨w', r1', r2', dx', uv', ws, ws2, hm', n1', n2', n3', k1, ku, k2, m2, e2, k3, m3, e3⟩ := p2
      rw [hm] at hm'
      cases hm'
      have dv2 := dv.mono st2.le
      by_cases hl : ks.length < 1000 ∧ ks2.length < 1000
      · rw [if_pos hl] at h2
        have hz : (ks.zip ws).length < sizeLine := by
          rw [List.length_zip]
          exact Nat.lt_of_le_of_lt (Nat.min_le_left _ _) (Nat.lt_trans hl.1 (by decide))
        have hz2 : (ks2.zip ws2).length < sizeLine := by
          rw [List.length_zip]
          exact Nat.lt_of_le_of_lt (Nat.min_le_left _ _) (Nat.lt_trans hl.2 (by decide))
        cases rows with
        | true =>
          refine ⟨r1, _, rfl, .inl ⟨_, k, k2, dy.key ek, hz, rfl⟩, ?_⟩
          rw [zip_put m2]
          have ex := ext_more (pa := pa) (ob := .dK ((putKs ks k).zip (putVs ks ws k v))) rep2.sub p1 (r := r1) (.inr (by rw [hm]; exact .head _)) (plain_of k2)
          obtain ⟨st3, rep3⟩ := rep2.drawn (pt := .rd u (putKs ks k) (putVs ks vs k d) ks2 vs2) ⟨0, e1⟩ ex ⟨w, r1, r2, dx', uv', _, ws2, hm, n1, n2, n3, by rw [upd_ne n2]; exact k1, ku, upd_same, putVs_len m2, e2.put dv2, by rw [upd_ne n1.symm]; exact k3, m3, e3⟩
          exact h2 _ _ _ st3 rep3
        | false =>
          refine ⟨r2, _, rfl, .inl ⟨_, k, k3, dy.key ek, hz2, rfl⟩, ?_⟩
          rw [zip_put m3]
          have ex := ext_more (pa := pa) (ob := .dK ((putKs ks2 k).zip (putVs ks2 ws2 k v))) rep2.sub p1 (r := r2) (.inr (by rw [hm]; exact .tail _ (.head _))) (plain_of k3)
          obtain ⟨st3, rep3⟩ := rep2.drawn (pt := .rd u ks vs (putKs ks2 k) (putVs ks2 vs2 k d)) ⟨0, e1⟩ ex ⟨w, r1, r2, dx', uv', ws, _, hm, n1, n2, n3, by rw [upd_ne n3]; exact k1, ku, by rw [upd_ne n1]; exact k2, m2, e2, upd_same, putVs_len m3, e3.put dv2⟩
          exact h2 _ _ _ st3 rep3
      · rw [if_neg hl] at h2
        exact h2.elim
    · exact h2.elim
  · exact h1.elim
/-- self.m(..), which may change self -/
def mMethP (m : Bw → List D → Rp) (fr : S → Rs (List D)) : S → Rs D := fun s => match s.e[0]?, s.p with
  | some (some LV.p), .rd _ _ _ _ _ => (fr s).bind fun ds s1 => (match s1.e[0]? with
    | some (some LV.p) => (match m s1.p ds with
      | .ok d p' => .ok d { s1 with p := p' }
      | .no => .no)
    | _ => .no)
  | _, _ => .no
theorem pv_methP {k : Nat} {mn : Str} {ps : List Str} {m : Bw → List D → Rp} {pl : Sem Bool} (he : PE X o (tVar 0)) (M : MCal X.prog X.w X.K X.mg X.base k (He.ga K "Reading") mn ps (spP K m)) (room : Room k X.A) (gd : X.A.guards = some []) (hmn : rdK.contains mn = false) (args : PA X (e :: es) (tVA K pa W fr))
    (hst : starEach (e :: es) X.env = (false, eval e X.env) :: starEach es X.env := by rfl) (hpl : (backTo pos (starEach es X.env)).any (·.1) = false := by rfl)
    (ht : eval (.Call (.Attribute o mn apos) (e :: es) [] pos) X.env = (do
      let ov ← eval o X.env
      standAt apos.atName
      let (f, first) ← holding [ov] (getMethod ov mn pl)
      callWith pos f first (backTo pos (starEach (e :: es) X.env)) (backToKw pos (keywordEach [] X.env))) := by rfl) :
    PE X (.Call (.Attribute o mn apos) (e :: es) [] pos) (tV K pa W (mMethP m fr)) := by
  refine (pe_mcal (pl := pl) he M room gd args hst hpl ht).mono ?_
  rintro σ H Q ⟨F, s, rep, h⟩
  unfold mMethP at h
  split at h
  · rename_i _ _ _ _ _ e0 ep0
    obtain ⟨q1, q2, q3⟩ := rep.pot ⟨0, e0⟩
    rw [ep0] at q2
    obtain ⟨w, r1, r2, dx, uv, us, us2, hm, n1, n2, n3, g1, _⟩ := q2
    have nl : (rdK.zip [uv, V.ref r1, V.ref r2]).lookup mn = none := look_none hmn
    refine ⟨_, rep.potAt e0, pa.root, dx, _, rfl, g1, nl, F, s, rep, (Fin.bind h).mono ?_⟩
    rintro vs H1 ⟨F1, s1, ds, st1, rep1, dv, h1⟩
    rw [List.append_nil]
    try dsimp only at h1
    split at h1
    · rename_i e1
      obtain ⟨p1, p2, p3⟩ := rep1.pot ⟨0, e1⟩
      refine ⟨F1, pa, s1.p, vs, ds, rfl, rep1.sub, p1, p2, dv, ?_⟩
      cases q : m s1.p ds with
      | no =>
        rw [q] at h1
        exact h1.elim
      | ok d p' =>
        rw [q] at h1
        intro v H2 F2 ex hh dv2
        obtain ⟨st2, rep2⟩ := rep1.drawn ⟨0, e1⟩ ex hh
        exact h1 v H2 F2 st2 rep2 dv2
    · exact h1.elim
  · exact h.elim
/-! odd places of a list; the module's table TAILS; enumerate(list, 2) -/
def oddD : D → Option D
  | .lst [] => some (.lst [])
  | .lst [_, b] => some (.lst [b])
  | .lst [_, b, _, d] => some (.lst [b, d])
  | _ => none
theorem odd_ok {F : Hp} {vs : List V} {ds es : List D} (r : DenAll K F vs ds) (e : oddD (.lst ds) = some (.lst es)) : ∃ ws, OddOf vs ws ∧ DenAll K F ws es := by
  match ds, r, e with
  | [], .nil, e =>
    cases e
    exact ⟨[], .inl ⟨rfl, rfl⟩, .nil⟩
  | [a, b], .cons h1 (.cons h2 .nil), e =>
    cases e
    exact ⟨_, .inr (.inl ⟨_, _, rfl, rfl⟩), .cons h2 .nil⟩
  | [a, b, c, d], .cons h1 (.cons h2 (.cons h3 (.cons h4 .nil))), e =>
    cases e
    exact ⟨_, .inr (.inr ⟨_, _, _, _, rfl, rfl⟩), .cons h2 (.cons h4 .nil)⟩
theorem oddD_is {x z : D} (e : oddD x = some z) : ∃ ds es, x = .lst ds ∧ z = .lst es := by
  unfold oddD at e
  split at e <;> first | (cases e; exact ⟨_, _, rfl, rfl⟩) | cases e
theorem pv_odd {k1 k2 : Nat} {p1 p2 p3 : Pos} (ek : X.K = K) (he : PE X e (tV K pa W fa)) : PE X (.Subscript e (.Slice (some (.Constant (.int 1) k1 p1)) none (some (.Constant (.int 2) k2 p2)) p3) pos) (tV K pa W (mUn oddD fa)) := by
  refine (xe_odd ek he).mono ?_
  rintro σ H Q ⟨F, s, rep, h⟩
  refine ⟨F, s, rep, (Fin.bind h).mono ?_⟩
  rintro v H1 ⟨F1, s1, x, st1, rep1, dv, h1⟩
  have dv : Den K F1 v x := dv
  obtain ⟨z, ez, out⟩ := h1.lift rep1
  obtain ⟨ds, es, rfl, rfl⟩ := oddD_is ez
  cases dv with
  | lst q r =>
    obtain ⟨ws, o1, o2⟩ := odd_ok r ez
    exact ⟨_, _, ws, rfl, rep1.sub.sqL q, o1, fun p hp => out.lst rep1.sub o2 hp⟩
def notInI (ks : List Int) : D → Option D
  | .int i => some (.bl (!decide (i ∈ ks)))
  | _ => none
theorem qt_notInI {nm : Str} {ks : List Int} (ek : X.K = K) (D0 : IDict K nm ks) (ha : PE X a (tV K pa W fa)) (hb : PE X b (tC (.ref (He.ga K nm)))) (hm : behindInMarks .NotIn b = false) : PT X (.Compare a [.NotIn] [b] pos) (tVB K pa W (mTest (mUn (notInI ks) fa))) := by
  refine (pt_cmpR (x_notInId ek D0) ha hb hm).mono ?_
  rintro σ H Q ⟨F, s, rep, h⟩
  unfold mTest mUn at h
  refine ⟨F, s, rep, ?_⟩
  cases e : fa s with
  | no =>
    rw [e] at h
    exact h.elim
  | ex c d s1 =>
    rw [e] at h
    exact h
  | ok x s1 =>
    rw [e] at h
    intro v H1 F1 st1 rep1 dv
    have dv : Den K F1 v x := dv
    cases dv with
    | int i => exact ⟨i, rfl, rfl, _, rfl, h _ _ _ st1 rep1 rfl⟩
    | _ => exact h.elim
def tabI (tab : List (Int × List D)) : D → Option D
  | .int i => match tab.lookup i with
    | some ds => some (.tup ds)
    | none => none
  | _ => none
theorem pv_tabI {nm : Str} {ks : List Int} {tab : List (Int × List D)} (ek : X.K = K) (D0 : IDict K nm ks) (ht : ∀ i ds, tab.lookup i = some ds → idR K nm i = true ∧ ∃ vs, (∀ H, SqT K H (idA K nm i) vs) ∧ ∀ F, DenAll K F vs ds) (ha : PE X a (tV K pa W fa)) (hb : PE X b (tC (.ref (He.ga K nm)))) (hs : PlainIx a) :
    PE X (.Subscript b a pos) (tV K pa W (mUn (tabI tab) fa)) := by
  refine (pe_ix (x_ixId ek D0) hb ha hs).mono ?_
  rintro σ H Q ⟨F, s, rep, h⟩
  refine ⟨F, s, rep, (Fin.bind h).mono ?_⟩
  rintro v H1 ⟨F1, s1, x, st1, rep1, dv, h1⟩
  have dv : Den K F1 v x := dv
  obtain ⟨z, ez, out⟩ := h1.lift rep1
  cases dv with
  | int i =>
    dsimp only [tabI] at ez
    cases q : tab.lookup i with
    | none =>
      rw [q] at ez
      cases ez
    | some ds =>
      rw [q] at ez
      cases ez
      obtain ⟨h2, vs, h3, h4⟩ := ht i ds q
      exact ⟨i, rfl, rfl, h2, out.here rep1.sub (.tup (.inr h3) (h4 F1))⟩
  | _ => cases ez
theorem iter_enum2 {F H : Hp} {a : Addr} {vs : List V} {ds : List D} (h : F a = some (.lst vs)) (r : DenAll K F vs ds) : IterOf K F H (It2 K a) (enumD 2 ds) := by
  refine ⟨_, _, by rw [enumD_len, ← r.length]; exact walk_enS (xs := vs), fun F' H' le s _ => s.sqL (le _ _ h), fun i F' H' x H'' le s _ y => ?_⟩
  obtain ⟨T, u, v, rfl, n, rfl, e1, e2⟩ := y
  cases e1
  obtain ⟨d, q1, q2⟩ := (r.mono le).get e2
  obtain ⟨x1, x2⟩ := ext_pair (x := .int (2 + (i : Nat))) s n (.int _) q2
  refine ⟨_, _, ?_, x1, x2⟩
  rw [enumD_get q1]
  have : ((2 + i : Nat) : Int) = 2 + (i : Nat) := by omega
  rw [this]
def mEnum2 (fr : S → Rs (List D)) : S → Rs (List D) := fun s => (fr s).bind fun xs s1 => match xs with
  | [.lst xs, .int 2] => .ok (enumD 2 xs) s1
  | _ => .no
theorem qi_enum2 {e2 : Expr} {elts : List Expr} {kk : Nat} {tpos : Pos} (ek : X.K = K) (hg : Gl X "enumerate") (hm : X.mg "enumerate" = none) (ha : PA X [a, e2] (tVA K pa W fr)) (hs : starEach [a, e2] X.env = (false, eval a X.env) :: starEach [e2] X.env := by rfl) (hpl : (backTo pos (starEach [e2] X.env)).any (·.1) = false := by rfl) :
    PI X (.Tuple elts kk tpos) (.Call (.Name "enumerate" p) [a, e2] [] pos) (tVI K pa W (mEnum2 fr)) := by
  refine (xi_en2 ek hg hm ha hs hpl).mono ?_
  rintro σ H R ⟨F, s, rep, h⟩
  refine ⟨F, s, rep, (Fin.bind h).mono ?_⟩
  rintro vs H1 ⟨F1, s1, xs, st1, rep1, dv, h1⟩
  have dv : DenAll K F1 vs xs := dv
  split at h1
  · obtain ⟨v, w, rfl, d1, d2⟩ := dv.two
    cases d2
    cases d1 with
    | lst q r => exact ⟨_, _, rfl, rep1.sub.sqL q, h1 _ _ _ Step.refl rep1 (iter_enum2 q r)⟩
  · exact h1.elim
end

/-! ### a new Reading -/
structure ExtN (y : Addr) (F H F' H' : Hp) : Prop where
  le : Le F F'
  sub : Sub F' H'
  keep : ∀ a o, H a = some o → a ≠ y → ∃ o', H' a = some o' ∧ (NoTab o → o' = o)
  new : ∀ a, F' a ≠ none → F a ≠ none ∨ H a = none ∨ a = y
def spNew (K : PySem.W.Frag) (cn : Str) (m : List D → Rv) : Sp := fun vs H Q _ => ∃ F y dx ws ds, vs = .ref y :: ws ∧ Sub F H ∧ F y = none ∧ H y = some (.ins (He.ga K cn) dx []) ∧ DenAll K F ws ds ∧ match m ds with
  | .ok d => ∀ H' F', ExtN y F H F' H' → Den K F' (.ref y) d → Q .non H'
  | _ => False
def initN (n : Nat) (ds : List D) : S := ⟨none :: (ds.map (fun d => some (.d d)) ++ List.replicate (n - (ds.length + 1)) none), .pot ⟨0, 0, 0⟩⟩
def endN : Ro → Rv
  | .nx s => (match s.e[0]?, s.p with
    | some (some LV.p), .rd u ks vs ks2 vs2 => .ok (rdObj u ks vs ks2 vs2)
    | _, _ => .no)
  | _ => .no
def mDefN (np n : Nat) (g1 : S → Rs D) (g : S → Ro) : List D → Rv := fun ds => if ds.length + 1 = np then (match g1 (initN n ds) with
  | .ok u ⟨none :: r, _⟩ => if plainE r then endN (g ⟨some .p :: r, .rd u [] [] [] []⟩) else .no
  | _ => .no) else .no
theorem PSs.exi {X : Cx} {ss : List Stmt} {t : Plc → TS} (h : ∀ pa, PSs X ss (t pa)) : PSs X ss (fun E σ H => ∃ pa, t pa E σ H) := ⟨fun pins s σ H E I ⟨pa, w⟩ => (h pa).run pins s σ H E I w⟩
section
variable {K : PySem.W.Frag} {pa : Plc} {F H : Hp}
theorem plain_upd {a b : Addr} {o : HO} (h : ∀ o', H b = some o' → Plain o') (ho : Plain o) : ∀ o', upd H a o b = some o' → Plain o' := fun o' e => by
  by_cases q : b = a
  · subst q
    rw [upd_same] at e
    cases e
    exact ho
  · rw [upd_ne q] at e
    exact h o' e
theorem rd_freeze {u : D} {ks ks2 : List Key} {vs vs2 : List D} (sub : Sub F H) (q1 : ∀ a, pa.has a → F a = none) (q2 : BorAt K F H pa (.rd u ks vs ks2 vs2)) :
    ∃ F1, Le F F1 ∧ Sub F1 H ∧ Den K F1 (.ref pa.root) (rdObj u ks vs ks2 vs2) ∧ ∀ a, F1 a ≠ none → F a ≠ none ∨ pa.has a := by
  obtain ⟨w, r1, r2, dx, uv, us, us2, hm, n1, n2, n3, g1, gu, g2, l2, d2, g3, l3, d3⟩ := q2
  have p1 : pa.has r1 := .inr (by rw [hm]; exact .head _)
  have p2 : pa.has r2 := .inr (by rw [hm]; exact .tail _ (.head _))
  obtain ⟨le, f1, f2, f3⟩ := upd3 (o1 := .ins (He.ga K "Reading") dx [("own_units", uv), ("own_rows", .ref r1), ("own_depths", .ref r2)]) (o2 := .dK (ks.zip us)) (o3 := .dK (ks2.zip us2)) (q1 pa.root (.inl rfl)) (q1 r1 p1) (q1 r2 p2) n1 n2 n3
  generalize hF : upd (upd (upd F pa.root (.ins (He.ga K "Reading") dx [("own_units", uv), ("own_rows", .ref r1), ("own_depths", .ref r2)])) r1 (.dK (ks.zip us))) r2 (.dK (ks2.zip us2)) = F1 at le f1 f2 f3
  have other : ∀ b, b ≠ pa.root → b ≠ r1 → b ≠ r2 → F1 b = F b := fun b z1 z2 z3 => by rw [← hF, upd_ne z3, upd_ne z2, upd_ne z1]
  refine ⟨F1, le, ⟨fun b v hb => ?_, fun p hp => le _ _ (sub.tb p hp)⟩, .obj (ks := rdK) (vs := [uv, .ref r1, .ref r2]) w f1 rfl (.cons (gu.mono le) (.cons (.dic f2 l2 (d2.mono le)) (.cons (.dic f3 l3 (d3.mono le)) .nil))), fun b hb => ?_⟩
  · by_cases z1 : b = pa.root
    · subst z1
      rw [f1] at hb
      cases hb
      exact .inl ⟨fun _ z => (nomatch z), .inl g1⟩
    · by_cases z2 : b = r1
      · subst z2
        rw [f2] at hb
        cases hb
        exact .inl ⟨fun _ z => (nomatch z), .inl g2⟩
      · by_cases z3 : b = r2
        · subst z3
          rw [f3] at hb
          cases hb
          exact .inl ⟨fun _ z => (nomatch z), .inl g3⟩
        · rw [other b z1 z2 z3] at hb
          exact sub b v hb
  · by_cases z1 : b = pa.root
    · exact .inr (.inl z1)
    · by_cases z2 : b = r1
      · exact .inr (z2 ▸ p1)
      · by_cases z3 : b = r2
        · exact .inr (z3 ▸ p2)
        · rw [other b z1 z2 z3] at hb
          exact .inl hb
theorem initN_get {n i : Nat} {ds : List D} {x : LV} (h : (initN n ds).e[i]? = some (some x)) : ∃ d k, i = k + 1 ∧ ds[k]? = some d ∧ x = .d d := by
  unfold initN at h
  cases i with
  | zero => cases h
  | succ i =>
    have h : (ds.map (fun d => some (LV.d d)) ++ List.replicate (n - (ds.length + 1)) none)[i]? = some (some x) := by simpa using h
    by_cases hl : i < ds.length
    · rw [List.getElem?_append_left (by simpa using hl), List.getElem?_map] at h
      cases e : ds[i]? with
      | none =>
        rw [e] at h
        cases h
      | some d =>
        rw [e] at h
        cases h
        exact ⟨d, i, rfl, e, rfl⟩
    · rw [List.getElem?_append_right (by simpa using Nat.le_of_not_lt hl), List.getElem?_replicate] at h
      split at h <;> cases h
theorem initN_no {n : Nat} {ds : List D} {σ : L2.St} {a : Addr} : ¬ OwnA pa σ (initN n ds) a := by
  rintro (⟨i, h1, y, h2, h3⟩ | ⟨⟨i, h⟩, e⟩)
  · obtain ⟨d, k, _, _, rfl⟩ := initN_get h2
    cases h3
  · obtain ⟨d, k, _, _, q⟩ := initN_get h
    cases q
theorem Rep.initN {N : List Str} {y : Addr} {vs : List V} {ds : List D} (sub : Sub F H) (r : DenAll K F vs ds) : Rep K pa F H (L2.start N (.ref y :: vs)) (initN N.length ds) := by
  refine ⟨sub, ?_, fun i x h => ?_, fun i j a h1 h2 => absurd (.inl ⟨i, h1⟩) (initN_no (pa := pa) (a := a)), fun h => ?_⟩
  · unfold L2.start Ak.initN
    simp [r.length]
  · obtain ⟨d, k, rfl, e, rfl⟩ := initN_get h
    obtain ⟨v, e1, e2⟩ := r.getD e
    refine ⟨v, ?_, by cases v <;> exact e2⟩
    unfold L2.start
    have hl : k < vs.length := (List.getElem?_eq_some_iff.mp e1).1
    rw [List.getElem?_append_left (by simp; omega), List.getElem?_map, List.getElem?_cons_succ, e1]
    rfl
  · obtain ⟨i, h⟩ := h
    obtain ⟨d, k, _, _, q⟩ := initN_get h
    cases q
theorem spNew_len {cn : Str} {np n : Nat} {g1 : S → Rs D} {g : S → Ro} {vs : List V} {Q : VK} {E : XK} (h : spNew K cn (mDefN np n g1 g) vs H Q E) : vs.length = np := by
  obtain ⟨F, y, dx, ws, ds, rfl, _, _, _, r, h⟩ := h
  unfold mDefN at h
  by_cases hl : ds.length + 1 = np
  · rw [List.length_cons, r.length, hl]
  · rw [if_neg hl] at h
    exact h.elim
theorem start0 {N : List Str} {v : V} {vs : List V} : (L2.start N (v :: vs))[0]? = some (some v) := rfl
theorem init_of {N : List Str} {np : Nat} {g1 : S → Rs D} {g : S → Ro} {vs : List V} {Q : VK} {E : XK} (w : OwnC K (He.ga K "Reading")) (na1 : NoAttr K (He.ga K "Reading") "own_units") (na2 : NoAttr K (He.ga K "Reading") "own_rows") (na3 : NoAttr K (He.ga K "Reading") "own_depths") (h : spNew K "Reading" (mDefN np N.length g1 g) vs H Q E) :
    tSeq (sFld K (tVar 0) (tV K ⟨0, []⟩ W0 g1) "own_units") (tSeq (sFld K (tVar 0) tDNewK "own_rows") (tSeq (sFld K (tVar 0) tDNewK "own_depths") (fun E σ H => ∃ pa, tS K pa W0 g E σ H))) { nx := fun _ H' => Q .non H', rt := Q } (L2.start N vs) H := by
  obtain ⟨F, y, dx, ws, ds, rfl, sub, fy, hy, r, h⟩ := h
  unfold mDefN at h
  by_cases hl : ds.length + 1 = np
  · rw [if_pos hl] at h
    refine ⟨F, _, Rep.initN sub r, ?_⟩
    cases e : g1 (initN N.length ds) with
    | no =>
      rw [e] at h
      exact h.elim
    | ex c d s1 =>
      rw [e] at h
      exact h.elim
    | ok u s1 =>
      rw [e] at h
      intro uv H1 F1 st1 rep1 du
      have du : Den K F1 uv u := du
      have hy1 : H1 y = some (.ins (He.ga K "Reading") dx []) := st1.at hy initN_no
      have fy1 : F1 y = none := by
        cases q : F1 y with
        | none => rfl
        | some o =>
          rcases st1.new y (by rw [q]; exact fun z => nomatch z) with z | z | z
          · exact absurd fy z
          · rw [hy] at z
            cases z
          · exact absurd z initN_no
      refine ⟨_, start0, y, _, dx, _, rfl, hy1, w.cl, na1, by decide, ?_⟩
      intro r1 hr1
      have n1 : r1 ≠ y := fun z => by
        rw [z, upd_same] at hr1
        cases hr1
      have hr1' : H1 r1 = none := by rw [upd_ne n1] at hr1; exact hr1
      refine ⟨_, start0, y, _, dx, _, rfl, by rw [upd_ne n1.symm, upd_same], w.cl, na2, by show 1 < 1000; decide, ?_⟩
      intro r2 hr2
      have n2 : r2 ≠ y := fun z => by
        rw [z, upd_same] at hr2
        cases hr2
      have n3 : r2 ≠ r1 := fun z => by
        rw [z, upd_ne n1, upd_same] at hr2
        cases hr2
      have hr2' : H1 r2 = none := by rw [upd_ne n2, upd_ne n3, upd_ne n2] at hr2; exact hr2
      refine ⟨_, start0, y, _, dx, _, rfl, by rw [upd_ne n2.symm, upd_same], w.cl, na3, by show 2 < 1000; decide, ?_⟩
      have fs : putF "own_depths" (V.ref r2) (putF "own_rows" (V.ref r1) (putF "own_units" uv [])) = [(("own_units" : Str), uv), ("own_rows", .ref r1), ("own_depths", .ref r2)] := rfl
      rw [fs]
      generalize hH : upd (upd (upd (upd (upd H1 y (HO.ins (He.ga K "Reading") dx (putF "own_units" uv []))) r1 (HO.dK [])) y (HO.ins (He.ga K "Reading") dx (putF "own_rows" (V.ref r1) (putF "own_units" uv [])))) r2 (HO.dK [])) y (HO.ins (He.ga K "Reading") dx [("own_units", uv), ("own_rows", .ref r1), ("own_depths", .ref r2)]) = H3
      have k1 : H3 y = some (HO.ins (He.ga K "Reading") dx [("own_units", uv), ("own_rows", .ref r1), ("own_depths", .ref r2)]) := by rw [← hH, upd_same]
      have k2 : H3 r1 = some (.dK []) := by rw [← hH, upd_ne n1, upd_ne n3.symm, upd_ne n1, upd_same]
      have k3 : H3 r2 = some (.dK []) := by rw [← hH, upd_ne n2, upd_same]
      have k4 : ∀ a, a ≠ y → a ≠ r1 → a ≠ r2 → H3 a = H1 a := fun a z1 z2 z3 => by rw [← hH, upd_ne z1, upd_ne z3, upd_ne z1, upd_ne z2, upd_ne z1]
      have fr1 : F1 r1 = none := rep1.sub.isN hr1'
      have fr2 : F1 r2 = none := rep1.sub.isN hr2'
      have sub3 : Sub F1 H3 := by
        rw [← hH]
        have pI : ∀ fs, Plain (.ins (He.ga K "Reading") dx fs) := fun _ => ⟨fun _ z => (nomatch z), fun _ z => (nomatch z)⟩
        have pD : ∀ kv, Plain (.dK kv) := fun _ => ⟨fun _ z => (nomatch z), fun _ z => (nomatch z)⟩
        have py : ∀ o', H1 y = some o' → Plain o' := plain_of hy1
        have p1 : ∀ o', H1 r1 = some o' → Plain o' := plain_none hr1'
        have p2 : ∀ o', H1 r2 = some o' → Plain o' := plain_none hr2'
        exact ((((rep1.sub.updN fy1 py).updN fr1 (plain_upd p1 (pI _))).updN fy1 (plain_upd (plain_upd py (pI _)) (pD _))).updN fr2 (plain_upd (plain_upd (plain_upd p2 (pI _)) (pD _)) (pI _))).updN fy1 (plain_upd (plain_upd (plain_upd (plain_upd py (pI _)) (pD _)) (pI _)) (pD _))
      have np : ∀ a, (Plc.mk y [r1, r2]).has a → F1 a = none := fun a ha => by
        rcases ha with rfl | ha
        · exact fy1
        · rcases List.mem_cons.mp ha with rfl | ha
          · exact fr1
          · rcases List.mem_cons.mp ha with rfl | ha
            · exact fr2
            · cases ha
      have bor : BorAt K F1 H3 ⟨y, [r1, r2]⟩ (.rd u [] [] [] []) := ⟨w, r1, r2, dx, uv, [], [], rfl, n3.symm, n1.symm, n2.symm, k1, du, k2, rfl, .nil, k3, rfl, .nil⟩
      obtain ⟨se, sp⟩ := s1
      split at h
      · rename_i d q
        split at q
        · rename_i u' r' p' e2
          cases e2
          by_cases hp : plainE r' = true
          · rw [if_pos hp] at q
            have pl : ∀ (i : Nat) (x : LV), (some LV.p :: r')[i]? = some (some x) → i = 0 ∧ x = .p ∨ ∃ k d, i = k + 1 ∧ x = .d d ∧ r'[k]? = some (some x) := fun i x hi => by
              cases i with
              | zero =>
                cases hi
                exact .inl ⟨rfl, rfl⟩
              | succ i =>
                have hi : r'[i]? = some (some x) := by simpa using hi
                obtain ⟨d, rfl⟩ := plainE_ok hp hi
                exact .inr ⟨i, d, rfl, rfl, hi⟩
            have no : ∀ i b, ¬ Owns (L2.start N (.ref y :: ws)) (some LV.p :: r') i b := fun i b ⟨_, x, hx, ho⟩ => by
              rcases pl i x hx with ⟨_, z⟩ | ⟨k, d, _, z, _⟩ <;> subst z <;> cases ho
            have rep3 : Rep K ⟨y, [r1, r2]⟩ F1 H3 (L2.start N (.ref y :: ws)) ⟨some .p :: r', .rd u [] [] [] []⟩ := by
              refine ⟨sub3, by have := rep1.len; simpa using this, fun i x hi => ?_, fun i j b h1 => absurd h1 (no i b), fun _ => ⟨np, bor, fun i a _ => no i a⟩⟩
              rcases pl i x hi with ⟨z, rfl⟩ | ⟨k, d, z, rfl, hk⟩
              · subst z
                exact ⟨_, start0, rfl⟩
              · subst z
                obtain ⟨v, h1, h2⟩ := rep1.slot (k + 1) (.d d) (by simpa using hk)
                exact ⟨v, h1, by cases v <;> exact h2⟩
            refine ⟨⟨y, [r1, r2]⟩, F1, _, rep3, ?_⟩
            cases eg : g ⟨some .p :: r', .rd u [] [] [] []⟩ with
            | nx s2 =>
              rw [eg] at q
              dsimp only [endN] at q
              split at q
              · rename_i u2 ks vs ks2 vs2 e0 ep
                cases q
                intro σ' H' F' st rp
                obtain ⟨q1, q2, _⟩ := rp.pot ⟨0, e0⟩
                rw [ep] at q2
                obtain ⟨F2, le2, sub2, den2, new2⟩ := rd_freeze rp.sub q1 q2
                have ow : ∀ a, OwnA ⟨y, [r1, r2]⟩ (L2.start N (.ref y :: ws)) ⟨some .p :: r', .rd u [] [] [] []⟩ a → (Plc.mk y [r1, r2]).has a := fun a z => by
                  rcases z with ⟨i, z⟩ | ⟨_, z⟩
                  · exact absurd z (no i a)
                  · exact z
                have far : ∀ a, (Plc.mk y [r1, r2]).has a → a = y ∨ H1 a = none := fun a ha => by
                  rcases ha with rfl | ha
                  · exact .inl rfl
                  · rcases List.mem_cons.mp ha with rfl | ha
                    · exact .inr hr1'
                    · rcases List.mem_cons.mp ha with rfl | ha
                      · exact .inr hr2'
                      · cases ha
                have back : ∀ a, H1 a = none → H a = none := fun a ha => by
                  cases q : H a with
                  | none => rfl
                  | some o =>
                    obtain ⟨_, e, _⟩ := st1.keep a o q initN_no
                    rw [e] at ha
                    cases ha
                refine h H' F2 ⟨st1.le.trans (st.le.trans le2), sub2, fun a o ho ne => ?_, fun a ha => ?_⟩ den2
                · obtain ⟨o1, ho1, hq1⟩ := st1.keep a o ho initN_no
                  have z2 : a ≠ r1 := fun z => by
                    rw [z, hr1'] at ho1
                    cases ho1
                  have z3 : a ≠ r2 := fun z => by
                    rw [z, hr2'] at ho1
                    cases ho1
                  obtain ⟨o2, ho2, hq2⟩ := st.keep a o1 (by rw [k4 a ne z2 z3]; exact ho1) fun z => by
                    rcases far a (ow a z) with z | z
                    · exact ne z
                    · rw [ho1] at z
                      cases z
                  refine ⟨o2, ho2, fun m => ?_⟩
                  have e := hq1 m
                  rw [e] at hq2
                  exact hq2 m
                · have old : F1 a ≠ none → F a ≠ none ∨ H a = none ∨ a = y := fun z => by
                    rcases st1.new a z with z | z | z
                    · exact .inl z
                    · exact .inr (.inl z)
                    · exact absurd z initN_no
                  have at_ : (Plc.mk y [r1, r2]).has a → F a ≠ none ∨ H a = none ∨ a = y := fun z => by
                    rcases far a z with z | z
                    · exact .inr (.inr z)
                    · exact .inr (.inl (back a z))
                  rcases new2 a ha with z | z
                  · rcases st.new a z with z | z | z
                    · exact old z
                    · by_cases z1 : a = y
                      · exact .inr (.inr z1)
                      · by_cases z2 : a = r1
                        · exact .inr (.inl (back a (z2 ▸ hr1')))
                        · by_cases z3 : a = r2
                          · exact .inr (.inl (back a (z3 ▸ hr2')))
                          · rw [k4 a z1 z2 z3] at z
                            exact .inr (.inl (back a z))
                    · exact at_ (ow a z)
                  · exact at_ z
              · cases q
            | _ =>
              rw [eg] at q
              cases q
          · rw [if_neg hp] at q
            cases q
        · cases q
      · exact h.elim
  · rw [if_neg hl] at h
    exact h.elim
end
section
variable {X : Cx} {K : PySem.W.Frag} {pa : Plc} {W : L2.St → XK} {e : Expr} {pos p : Pos} {es : List Expr} {fr : S → Rs (List D)}
theorem pv_newV {k : Nat} {cn x : Str} {ps : List Str} {m : List D → Rv} (M : NCal X.prog X.w X.K X.mg X.base k x (He.ga K cn) ps (spNew K cn m)) (room : Room (k + 1) X.A) (gd : X.A.guards = some []) (gl : Gl X x) (args : PA X (e :: es) (tVA K pa W fr))
    (n1 : (x == ("__debug__" : Str)) = false := by decide) (n2 : starEach (e :: es) X.env = (false, eval e X.env) :: starEach es X.env := by rfl) (n3 : (backTo pos (starEach es X.env)).any (·.1) = false := by rfl) :
    PE X (.Call (.Name x p) (e :: es) [] pos) (tV K pa W (mCal m fr)) := by
  refine (pe_ncal M room gd gl args n1 n2 n3).mono ?_
  rintro σ H Q ⟨F, s, rep, h⟩
  refine ⟨F, s, rep, (Fin.bind h).mono ?_⟩
  rintro vs H1 ⟨F1, s1, ds, st1, rep1, dv, h1⟩
  have dv : DenAll K F1 vs ds := dv
  intro y dx hy hdx ne
  rw [List.append_nil]
  have e1 : Ext F1 H1 F1 (upd H1 dx (.own y)) := Ext.fresh rep1.sub hdx
  have hy2 : upd H1 dx (.own y) y = none := by rw [upd_ne ne.symm]; exact hy
  have e2 : Ext F1 (upd H1 dx (.own y)) F1 (upd (upd H1 dx (.own y)) y (.ins (He.ga K cn) dx [])) := Ext.fresh e1.sub hy2
  refine ⟨F1, y, dx, vs, ds, rfl, e2.sub, rep1.sub.isN hy, upd_same, dv, ?_⟩
  cases em : m ds with
  | no =>
    rw [em] at h1
    exact h1.elim
  | ex c d =>
    rw [em] at h1
    exact h1.elim
  | ok d =>
    rw [em] at h1
    intro H' F' ex dn
    refine ⟨rfl, ?_⟩
    have ext : Ext F1 H1 F' H' := by
      refine ⟨ex.le, ex.sub, fun a o ho => ?_, fun a ha => ?_⟩
      · have na : a ≠ y := fun z => by
          rw [z, hy] at ho
          cases ho
        have nd : a ≠ dx := fun z => by
          rw [z, hdx] at ho
          cases ho
        exact ex.keep a o (by rw [upd_ne na, upd_ne nd]; exact ho) na
      · rcases ex.new a ha with z | z | z
        · exact .inl z
        · by_cases q : a = y
          · exact .inr (q ▸ hy)
          · rw [upd_ne q] at z
            by_cases q2 : a = dx
            · rw [q2, upd_same] at z
              cases z
            · rw [upd_ne q2] at z
              exact .inr z
        · exact .inr (z ▸ hy)
    exact h1 _ _ _ ext.step (rep1.ext ext) dn
end

/-! ### tests: a if t else b -/
def mIfT (ft fa fb : S → Rs Bool) : S → Rs Bool := fun s => (ft s).bind fun c s1 => match c with
  | true => fa s1
  | false => fb s1
theorem pt_ifE {X : Cx} {c a b : Expr} {pos : Pos} {tc ta tb : TT} (hc : PT X c tc) (ha : PT X a ta) (hb : PT X b tb) : PT X (.IfExp c a b pos) (fun σ H Q => tc σ H fun d H1 => if d = true then ta σ H1 Q else tb σ H1 Q) := by
  refine ⟨fun pins s σ H Q I h => isTrue_IfExp (thn (hc.run pins s σ H _ I h) fun d s1 ⟨H1, I1, q1⟩ => ?_)⟩
  cases d with
  | true => exact ha.run pins s1 σ H1 Q I1 q1
  | false => exact hb.run pins s1 σ H1 Q I1 q1
theorem qt_ifE {X : Cx} {K : PySem.W.Frag} {pa : Plc} {W : L2.St → XK} {c a b : Expr} {pos : Pos} {ft fa fb : S → Rs Bool} (hc : PT X c (tVB K pa W ft)) (ha : PT X a (tVB K pa W fa)) (hb : PT X b (tVB K pa W fb)) : PT X (.IfExp c a b pos) (tVB K pa W (mIfT ft fa fb)) := by
  refine (pt_ifE hc ha hb).mono ?_
  rintro σ H Q ⟨F, s, rep, h⟩
  refine ⟨F, s, rep, (Fin.bind h).mono ?_⟩
  rintro v H1 ⟨F1, s1, x, st1, rep1, rfl, h1⟩
  cases v with
  | true => exact ⟨F1, s1, rep1, h1⟩
  | false => exact ⟨F1, s1, rep1, h1⟩
/-! ### dict([(k, v), ..]) -/
def pairsK : List D → Option (List Key × List D)
  | [] => some ([], [])
  | .tup [a, v] :: r => match a.key, pairsK r with
    | some k, some (ks, vs) => some (k :: ks, v :: vs)
    | _, _ => none
  | _ :: _ => none
section
variable {α : Type}
def mergeKs : List Key → List Key → List Key
  | ks, [] => ks
  | ks, k :: r => mergeKs (putKs ks k) r
def mergeVs : List Key → List α → List Key → List α → List α
  | ks, vs, k :: r, v :: s => mergeVs (putKs ks k) (putVs ks vs k v) r s
  | _, vs, _, _ => vs
end
def dictD : List D → Option D
  | [.lst ds] => match pairsK ds with
    | some (ks, vs) => some (.dic (mergeKs [] ks) (mergeVs [] [] ks vs))
    | none => none
  | _ => none
def rDictP (K : PySem.W.Frag) : List V → Hp → VK → Prop := fun xs H Q => ∃ (a : Addr) (ps : List Addr) (kvs : List (Key × V)), xs = [.ref a] ∧ SqL K H a (ps.map V.ref) ∧ Paired (fun p kv => SqT K H p [kV kv.1, kv.2]) ps kvs ∧ ∀ p, H p = none → Q (.ref p) (upd H p (.dK (mergeK [] kvs)))
theorem merge_zip : ∀ {r : List Key} {s : List V} {ks : List Key} {vs : List V}, r.length = s.length → ks.length = vs.length → mergeK (ks.zip vs) (r.zip s) = (mergeKs ks r).zip (mergeVs ks vs r s) ∧ (mergeKs ks r).length = (mergeVs ks vs r s).length
  | [], [], ks, vs, _, h => ⟨rfl, h⟩
  | [], _ :: _, _, _, h, _ => by cases h
  | _ :: _, [], _, _, h, _ => by cases h
  | k :: r, v :: s, ks, vs, h, h2 => by
    have ih := merge_zip (r := r) (s := s) (ks := putKs ks k) (vs := putVs ks vs k v) (Nat.succ.inj h) (putVs_len h2)
    rw [← zip_put h2] at ih
    exact ih
theorem DenAll.merge {K : PySem.W.Frag} {F : Hp} : ∀ {r : List Key} {s : List V} {t : List D} {ks : List Key} {vs : List V} {ds : List D}, DenAll K F s t → DenAll K F vs ds → DenAll K F (mergeVs ks vs r s) (mergeVs ks ds r t)
  | [], _, _, _, _, _, .nil, h => h
  | [], _, _, _, _, _, .cons _ _, h => h
  | _ :: _, _, _, _, _, _, .nil, h => h
  | k :: r, _, _, ks, vs, ds, .cons h1 h2, h => DenAll.merge (r := r) (ks := putKs ks k) h2 (h.put h1)
section
variable {K : PySem.W.Frag} {F H : Hp}
theorem DenAll.put' {k : Key} {v : V} {d : D} {ks : List Key} {vs : List V} {ds : List D} (h : DenAll K F vs ds) (h2 : Den K F v d) : DenAll K F (putVs ks vs k v) (putVs ks ds k d) := DenAll.put h2 h
theorem pairs_ok (s : Sub F H) : ∀ {ds : List D} {vs : List V} {ks : List Key} {ws : List D}, DenAll K F vs ds → pairsK ds = some (ks, ws) → ∃ ps us, vs = ps.map V.ref ∧ ks.length = us.length ∧ Paired (fun p kv => SqT K H p [kV kv.1, kv.2]) ps (ks.zip us) ∧ DenAll K F us ws
  | [], _, _, _, .nil, e => by
    cases e
    exact ⟨[], [], rfl, rfl, .nil, .nil⟩
  | d :: ds, _, ks, ws, .cons h1 h2, e => by
    unfold pairsK at e
    split at e
    · cases ‹_ = []›
    · rename_i a v r hd
      cases hd
      split at e
      · rename_i k ks' vs' e1 e2
        cases e
        obtain ⟨ps, us, rfl, l, pr, dn⟩ := pairs_ok s h2 e2
        cases h1 with
        | tup q d2 =>
          obtain ⟨x, y, rfl, dx, dy⟩ := d2.two
          have ex := dx.key e1
          subst ex
          exact ⟨_ :: ps, _ :: us, rfl, congrArg (· + 1) l, .cons (s.sqT q) pr, .cons dy dn⟩
      · cases e
    · cases e
theorem l_dict : LiftCB K (rDictP K) dictD := by
  intro F H xs as z Q s d e o
  match as, e with
  | [.lst ds], e =>
    dsimp only [dictD] at e
    split at e
    · rename_i ks ws ep
      cases e
      obtain ⟨v, rfl, dd⟩ := d.one
      cases dd with
      | lst q r =>
        obtain ⟨ps, us, rfl, l, pr, dn⟩ := pairs_ok s r ep
        refine ⟨_, ps, ks.zip us, rfl, s.sqL q, pr, fun p hp => ?_⟩
        obtain ⟨m1, m2⟩ := merge_zip (r := ks) (s := us) (ks := []) (vs := []) l rfl
        have m1 : mergeK [] (ks.zip us) = (mergeKs [] ks).zip (mergeVs [] [] ks us) := m1
        rw [m1]
        exact o _ _ _ (Ext.laid s hp) (.dic upd_same m2 ((DenAll.merge dn .nil).mono (upd_le (s.isN hp))))
    · cases e
end
/-! ### own __eq__ -/
def rEqO (K : PySem.W.Frag) (C : Addr) (sp : Sp) (neg : Bool) : R2 := fun x y H Q => ∃ a dx fs t, x = .ref a ∧ H a = some (.ins C dx fs) ∧ TyX K H y t ∧ PySem.W.notFirst K C t = true ∧ sp [.ref a, y] H (fun v H' => ∃ b, v = .bl b ∧ Q (.bl (if neg then !b else b)) H') E0
section
variable {X : Cx} {k : Nat} {C : Addr} {ps : List Str} {sp : Sp}
theorem o_eqO (M : MCal X.prog X.w X.K X.mg X.base k C "__eq__" ps sp) (room : Room k X.A) (gd : X.A.guards = some []) : OpR X (compareOp .Eq) (rEqO X.K C sp false) := by
  intro pins s σ H x y v u Q I rx ry h
  obtain ⟨a, dx, fs, t, rfl, ea, ty, nf, q⟩ := h
  obtain rfl : v = Value.ref a := rx
  obtain ⟨f, fd, G, hm, b, _⟩ := M.ex
  obtain ⟨mA, O, _, _, _, _⟩ := ins_get I.hok ea
  obtain ⟨od, J, _⟩ := O.look
  obtain ⟨mm, fr⟩ := I.fr
  obtain ⟨P, Z, hP, _⟩ := kit_of I ry ty
  show wpAny _ _ (richCompare .Eq (.ref a) u) _ _ s
  refine PySem.W.cmp_K (op := .Eq) (tb := t) room.units0 fr I.ok.mod.kin J (Z.ty _ _ I.kIn hP) nf hm.at_ hm.fn (wpAny_mono (runG (us := [.ref a, u]) (vs := [.ref a, y]) G room gd b passL I (.cons rfl (.cons ry .nil)) q) (fun r s' z => ?_) fun _ _ z => z)
  obtain ⟨z, H', I', rz, bb, rfl, q'⟩ := z
  obtain rfl : r = Value.bool bb := rz
  exact ⟨.bl bb, H', I', rfl, q'⟩
end
def eqO (cn : Str) (cs : List Str) (m : List D → Rv) (neg : Bool) : D → D → Option D
  | .obj c ks vs, y => if c = cn then (match isiO cn cs y, m [.obj c ks vs, y] with
    | some _, .ok (.bl b) => some (.bl (if neg then !b else b))
    | _, _ => none) else none
  | _, _ => none
theorem nf_of {K : PySem.W.Frag} {C : Addr} {t : Value} {b : Bool} (h : PySem.W.kitOne K t (.ref C) = some b) (e : b = false ∨ t = .ref C) : PySem.W.notFirst K C t = true := by
  unfold PySem.W.notFirst
  by_cases q : (t == Value.ref C) = true
  · rw [q]
    rfl
  · rcases e with rfl | rfl
    · unfold PySem.W.kitOne at h
      rw [if_neg q] at h
      unfold PySem.W.kitCls at h
      dsimp only at h
      split at h
      · rw [h]
        simp
      · cases h
    · exact absurd (by simp) q
section
variable {K : PySem.W.Frag} {F H : Hp}
theorem Den.tyNF {v : V} {d z : D} {c : Str} {cs : List Str} (s : Sub F H) (i : IsiC K c cs) (h : Den K F v d) (e : isiO c cs d = some z) : ∃ t, TyX K H v t ∧ PySem.W.notFirst K (He.ga K c) t = true := by
  cases d with
  | obj c' ks vs =>
    cases h with
    | @obj a dx _ _ ws _ w q l r =>
      dsimp only [isiO] at e
      by_cases hc : cs.contains c' = true
      · rw [if_pos hc] at e
        refine ⟨_, .base (.ins (s.ins q) w.cl w.ha w.hn w.htk w.hm), nf_of (i.own c' (by simpa using hc)) ?_⟩
        by_cases z : c' = c
        · exact .inr (by rw [z])
        · exact .inl (decide_eq_false z)
      · rw [if_neg hc] at e
        cases e
  | exc c' x => cases e
  | _ =>
    obtain ⟨t, b, h1, h2, h3⟩ := Den.tyO s i h e
    cases e
    cases h3
    exact ⟨t, h1, nf_of h2 (.inl rfl)⟩
theorem l_eqO {cn : Str} {cs : List Str} {mm : List D → Rv} {neg : Bool} (i : IsiC K cn cs) : LiftOp K (rEqO K (He.ga K cn) (spV K mm) neg) (eqO cn cs mm neg) := by
  intro F H x y a b z Q s dx dy e o
  cases a with
  | obj c' ks ds =>
    dsimp only [eqO] at e
    by_cases hc : c' = cn
    · rw [if_pos hc] at e
      split at e
      · rename_i _ bb e1 eb
        cases e
        subst hc
        obtain ⟨t, ty, nf⟩ := Den.tyNF s i dy e1
        cases id dx with
        | @obj p dx' _ _ vs _ w q l r =>
          refine ⟨p, dx', _, t, rfl, s.ins q, ty, nf, spV_out s (.cons dx (.cons dy .nil)) eb (fun v H' F' ext dv => ?_)⟩
          exact ⟨bb, dv.isBl, o _ _ _ ext (.bl _)⟩
      · cases e
    · rw [if_neg hc] at e
      cases e
  | _ => cases e
end
/-! ### != by object's own -/
section
variable {prog : Program} {w : World} {A : Around} {E : Value → Shared → Prop} {s : Shared} {K : PySem.W.Frag} {x C : Addr} {ox : Obj} {od : Option Obj} {name : Str} {id T : String}
theorem ifBoundB {M : Model} {args : List Value} {Q : Option Value → Shared → Prop} (X : K.In s.heap) (I : PySem.W.InstAt s.heap x ox C od) (hs : PySem.W.findIn K (.ref C) name = some (some (.builtin id))) (S : Slot T name id)
    (h : wpAny M A (call (.builtin id) (.ref x :: args)) (fun v => Q (some v)) E s) : wpAny M A (callSpecialIfBound? (.ref x) name args) Q E s := by
  simp only [callSpecialIfBound?, bindSpecialIfBound?]
  refine wpAny_holding (wpAny_bind (wpAny_bind (wpAny_bind (I.type.here ((PySem.W.looks_findIn X hs).here ?_)))))
  simp only [S.bind]
  refine wpAny_bind (wpAny_askSetting (wpAny_ite ?_))
  have fin : wpAny M A (call (.builtin id) ([.ref x] ++ args) >>= fun v => pure (some v)) Q E s := wpAny_bind (wpAny_mono h (fun v s' h' => wpAny_pure h') fun _ _ h' => h')
  split
  · exact wpAny_bind (wpAny_pure (wpAny_pure fin))
  · exact wpAny_tryCatch (wpAny_bind (wpAny_pure (wpAny_pure fin)))
theorem check_own {M : Model} {owner n : String} {rest : List Value} {Q : Unit → Shared → Prop} (hk : builtinKind id = some .slot) (hs : splitId id = some (owner, n)) (ha : argsOk id ⟨.ref x :: rest, []⟩) (X : K.In s.heap) (I : PySem.W.InstAt s.heap x ox C od)
    (hob : PySem.W.mroIn K C (.type owner) = some true) (hq : Q () s) : wpAny M A (checkBuiltinCall id ⟨.ref x :: rest, []⟩) Q E s := by
  simp only [checkBuiltinCall, hk, hs]
  refine wpAny_bind ?_
  unfold isInstance
  refine wpAny_bind (I.type.here ((PySem.W.looks_mroIn X hob).here ?_))
  simp only [Bool.not_true, Bool.false_eq_true, if_false]
  repeat (with_reducible wp_step)
  cases hsig : Manifest.signature? id with
  | none => exact wpAny_pure hq
  | some sig =>
    simp only [argsOk, hsig] at ha
    have h2 : Bind.checkArgs id sig ⟨.ref x :: rest, []⟩ = pure () := ha
    show wpAny M A (Bind.checkArgs id sig ⟨.ref x :: rest, []⟩) Q E _
    rw [h2]; exact wpAny_pure hq
end
section
variable {X : Cx} {k : Nat} {C : Addr} {ps : List Str} {sp : Sp}
theorem o_neO (w : OwnC X.K C) (hne : PySem.W.findIn X.K (.ref C) "__ne__" = some (some (.builtin "object.__ne__"))) (M : MCal X.prog X.w X.K X.mg X.base k C "__eq__" ps sp) (room : Room (k + 1) X.A) (gd : X.A.guards = some []) : OpR X (compareOp .NotEq) (rEqO X.K C sp true) := by
  intro pins s σ H x y v u Q I rx ry h
  obtain ⟨a, dx, fs, t, rfl, ea, ty, nf, q⟩ := h
  obtain rfl : v = Value.ref a := rx
  obtain ⟨f, fd, G, hm, b, _⟩ := M.ex
  obtain ⟨mA, O, _, _, _, _⟩ := ins_get I.hok ea
  obtain ⟨od, J, _⟩ := O.look
  obtain ⟨P, Z, hP, _⟩ := kit_of I ry ty
  have hb := Z.ty (model X.prog X.w) _ I.kIn hP
  have hu := room.units0
  have hu1 := room.in1.units0
  show wpAny _ _ (richCompare .NotEq (.ref a) u) _ _ s
  have entry : wpAny (model X.prog X.w) X.A.in1 (Builtin.«object.__ne__» ⟨[.ref a, u], []⟩) (fun r s' => ∃ bb, r = .done (.ret (.bool (!bb))) ∧ EP X pins σ Q (.bool (!bb)) s') X.xe s := by
    have sp1 : wpAny (model X.prog X.w) X.A.in1 (callSpecialIfBound? (.ref a) "__eq__" [u]) (fun r s' => ∃ bb, r = some (.bool bb) ∧ EP X pins σ Q (.bool (!bb)) s') X.xe s := by
      refine PySem.W.ifBound_K I.kIn J hm.at_ hm.fn (wpAny_mono (runI (us := [.ref a, u]) (vs := [.ref a, y]) G room gd b I (.cons rfl (.cons ry .nil)) q) (fun r s' z => ?_) fun _ _ z => z)
      obtain ⟨z, H', I', rz, bb, rfl, q'⟩ := z
      obtain rfl : r = Value.bool bb := rz
      exact ⟨bb, rfl, .bl (!bb), H', I', rfl, q'⟩
    unfold Builtin.«object.__ne__»
    repeat (first | with_reducible refine wpAny_cRoomFor hu1 ?_ | (refine wpAny_mono sp1 ?_ (fun _ _ z => z); rintro _ s' ⟨bb, rfl, z⟩) | wp_step)
    exact ⟨_, rfl, z⟩
  have one : wpAny (model X.prog X.w) X.A (tryCompare (.ref a) "__ne__" u) (fun r s' => ∃ v, r = some v ∧ EP X pins σ Q v s') X.xe s := by
    unfold tryCompare
    refine wpAny_bind (ifBoundB I.kIn J hne F.cmp_object.ne (wpAny_call (codeAny_call_builtin F.cmp_object.ne.plain F.cmpEntry_ne (check_own F.cmpKind_ne F.cmpSplit_ne (F.cmpArgs_ne _ _) I.kIn J w.hm (wpAny_mono entry (fun r s' z => ?_) fun _ _ z => z)))))
    obtain ⟨bb, rfl, z⟩ := z
    exact wpAny_pure ⟨_, rfl, z⟩
  unfold richCompare
  simp only [oneThing_ref]
  refine wpAny_holding (wpAny_bind (wpAny_cRoomFor hu ?_))
  refine wpAny_bind (J.type.here (wpAny_bind (hb.here ?_)))
  split
  · rename_i q
    have e : PySem.W.subIn X.K t (.ref C) = some false := by
      rcases Bool.or_eq_true_iff.mp nf with e | e
      · rw [beq_iff_eq.mp e] at q; simp at q
      · exact beq_iff_eq.mp e
    refine wpAny_bind ((PySem.W.looks_subIn I.kIn e).here ?_)
    simp only [Bool.false_eq_true, if_false]
    refine wpAny_bind (wpAny_mono one (fun r s' z => ?_) fun _ _ e => e)
    obtain ⟨v, rfl, hq⟩ := z
    exact wpAny_pure hq
  · refine wpAny_bind (wpAny_pure ?_)
    simp only [Bool.false_eq_true, if_false]
    refine wpAny_bind (wpAny_mono one (fun r s' z => ?_) fun _ _ e => e)
    obtain ⟨v, rfl, hq⟩ := z
    exact wpAny_pure hq
end

/-! ### divmod, is True -/
section
variable {X : Cx} {K : PySem.W.Frag}
def divmodD : List D → Option D
  | [.int i, .int j] => if 0 < j ∧ j < 1073741824 then some (.tup [.int (i / j), .int (i % j)]) else none
  | _ => none
theorem l_divmod : LiftCB K rDivmod divmodD := by
  intro F H xs as z Q s d e o
  match as, e with
  | [.int i, .int j], e =>
    dsimp only [divmodD] at e
    by_cases hl : 0 < j ∧ j < 1073741824
    · rw [if_pos hl] at e
      cases e
      obtain ⟨v, w, rfl, d1, d2⟩ := d.two
      cases d1
      cases d2
      exact ⟨i, j, rfl, ⟨hl.1, PyProof.noPylong_small (by omega)⟩, fun p hp => o.tup s (.cons (.int _) (.cons (.int _) .nil)) hp⟩
    · rw [if_neg hl] at e
      cases e
def rIsTr : R2 := fun x y H Q => ∃ a b, x = .bl a ∧ y = .bl b ∧ Q (.bl (decide (a = b))) H
theorem o_isB : OpR X (compareOp .Is) rIsTr := op_is_bl
def rNotTr : R2 := fun x y H Q => ∃ a b, x = .bl a ∧ y = .bl b ∧ Q (.bl (!decide (a = b))) H
theorem o_notB : OpR X (compareOp .IsNot) rNotTr := op_isnot_bl
def isBD : D → D → Option D
  | .bl a, .bl b => some (.bl (decide (a = b)))
  | _, _ => none
def notBD : D → D → Option D
  | .bl a, .bl b => some (.bl (!decide (a = b)))
  | _, _ => none
theorem l_isB : LiftOp K rIsTr isBD := by
  intro F H x y a b z Q s dx dy e o
  cases dx <;> cases dy <;> first | (cases e; done) | skip
  cases e
  exact ⟨_, _, rfl, rfl, o.here s (.bl _)⟩
theorem l_notB : LiftOp K rNotTr notBD := by
  intro F H x y a b z Q s dx dy e o
  cases dx <;> cases dy <;> first | (cases e; done) | skip
  cases e
  exact ⟨_, _, rfl, rfl, o.here s (.bl _)⟩
end

/-! ### x[::-1] -/
section
variable {prog : Program} {w : World} {A : Around} {E : Value → Shared → Prop} {s : Shared}
theorem sliceApplied_rev {sl : Addr} {vs : Value} {n : Nat} {Q : Int × Int × Nat → Shared → Prop} (hs : s.heap.IsSliceOf sl .none .none vs) (ps : IsPart vs (some (-1)))
    (h : Q ((n : Int) - 1, -1, n) s) : wpAny (model prog w) A (Builtin.Slice.sliceApplied (.ref sl) (pure (n : Int))) Q E s := by
  obtain ⟨os, hos, hcs, hds⟩ := id hs
  unfold Builtin.Slice.sliceApplied Builtin.Slice.sliceFields
  refine wpAny_bind (wpAny_bind (wpAny_field hos hds (x := .none) rfl (wpAny_bind (wpAny_field hos hds (x := .none) rfl (wpAny_bind (wpAny_field hos hds (x := vs) rfl (wpAny_pure ?_)))))))
  refine wpAny_bind (HT.slicePart_ ps ?_)
  show wpAny _ _ (if ((-1 : Int) == 0) = true then _ else _) _ _ s
  rw [if_neg (by decide)]
  refine wpAny_bind (HT.slicePart_ .none (wpAny_bind (HT.slicePart_ .none (wpAny_bind (wpAny_pure ?_)))))
  show wpAny _ _ (match Builtin.Slice.sliceAdjust none none (-1) (n : Int) with | (lo, hi) => pure (lo, (-1 : Int), Builtin.Slice.slicePlaces lo hi (-1))) _ _ s
  have e : Builtin.Slice.sliceAdjust none none (-1) (n : Int) = ((n : Int) - 1, -1) := by
    unfold Builtin.Slice.sliceAdjust
    simp
  rw [e]
  have e2 : Builtin.Slice.slicePlaces ((n : Int) - 1) (-1) (-1) = n := by
    unfold Builtin.Slice.slicePlaces
    simp
    omega
  show wpAny _ _ (pure ((n : Int) - 1, (-1 : Int), Builtin.Slice.slicePlaces ((n : Int) - 1) (-1) (-1))) _ _ s
  rw [e2]
  exact wpAny_pure h
theorem fm_congr {α β : Type} {f g : α → Option β} : ∀ {l : List α}, (∀ x ∈ l, f x = g x) → l.filterMap f = l.filterMap g
  | [], _ => rfl
  | a :: l, h => by
    rw [List.filterMap_cons, List.filterMap_cons, h a (.head _), fm_congr fun x hx => h x (.tail _ hx)]
theorem pick_rev (xs : Array Value) : ((List.range xs.size).filterMap fun (m : Nat) => xs[((xs.size : Int) - 1 + (m : Int) * -1).toNat]?).toArray = xs.toList.reverse.toArray := by
  have e : ∀ m ∈ List.range xs.size, xs[((xs.size : Int) - 1 + (m : Int) * -1).toNat]? = xs[xs.size - 1 - m]? := by
    intro m hm
    have := List.mem_range.mp hm
    have : ((xs.size : Int) - 1 + (m : Int) * -1).toNat = xs.size - 1 - m := by omega
    rw [this]
  have e2 : (List.range xs.size).filterMap (fun (m : Nat) => xs[((xs.size : Int) - 1 + (m : Int) * -1).toNat]?) = ((List.range xs.size).map fun k => xs.size - 1 - k).filterMap (xs[·]?) := by
    rw [List.filterMap_map]
    exact fm_congr e
  rw [e2, PySem.W.krv_range, List.filterMap_reverse, PySem.W.krv_all]
theorem getItem_tuple_rev {t sl : Addr} {items : Array Value} {vs : Value} {Q : Value → Shared → Prop} (ht : IsTup s.heap t items) (hs : s.heap.IsSliceOf sl .none .none vs) (ps : IsPart vs (some (-1)))
    (h : Q (.ref s.heap.objs.size) { s with heap := s.heap.push { cls := .type "tuple", data := .seq items.toList.reverse.toArray } })
    (hsz : items.size ≤ sizeLine) : wpAny (model prog w) A (getItem (.ref t) (.ref sl)) Q E s := by
  have htake : sizeOk (.seq items.toList.reverse.toArray) := by
    show items.toList.reverse.toArray.size ≤ sizeLine
    rw [List.size_toArray, List.length_reverse, Array.length_toList]
    exact hsz
  obtain ⟨os, hos, hcs, hds⟩ := id hs
  have hTs : s.TypeIs (.ref sl) "slice" := ⟨os, hos, hcs⟩
  unfold getItem
  try with_reducible refine wpAny_holding ?_
  first | refine wpAny_bind (wpAny_pure ?_) | skip
  refine wpAny_bind (wpAny_sequenceKey ht.typeIs (by decide) ?_)
  refine wpAny_bind (wpAny_callSpecial?_slot (name := Str.ofString "__getitem__") ht.typeIs PyProof.Rows.slot_tuple_getitem
    (wpAny_call_entry PyProof.Rows.slot_tuple_getitem ht.typeIs entry_tuple_getitem ?_ (args_tuple_getitem _ _)))
  show wpAny _ _ (Builtin.Tuple.tupleItemsOf (.ref t) >>= _) _ _ s
  refine wpAny_bind (PyProof.Rows.tupleItemsOf_ ht ?_)
  refine wpAny_bind (wpAny_typeOf hTs ?_)
  rw [if_pos (by decide)]
  refine wpAny_bind (sliceApplied_rev hs ps ?_)
  have hno : ¬ ((((items.size : Int) - 1) == 0 && (-1 : Int) == 1 && items.size == items.size) = true) := by
    intro q
    rw [Bool.and_eq_true, Bool.and_eq_true] at q
    exact absurd q.1.2 (by decide)
  show wpAny _ _ (if (((items.size : Int) - 1) == 0 && (-1 : Int) == 1 && items.size == items.size) = true then _ else _) _ _ s
  rw [if_neg hno, pick_rev]
  first
    | exact wpAny_bind (m := Builtin.Tuple.tupleExact _) (wpAny_newObj_type (wpAny_pure ⟨_, rfl, wpAny_pure h⟩) htake)
    | exact wpAny_bind (m := Builtin.Tuple.tupleExact _) (wpAny_newObj_type (wpAny_bind (wpAny_pure (wpAny_pure ⟨_, rfl, wpAny_pure h⟩))) htake)
    | exact wpAny_bind (wpAny_bind (m := Builtin.Tuple.tupleExact _) (wpAny_newObj_type (wpAny_pure (wpAny_pure ⟨_, rfl, wpAny_pure h⟩)) htake))
    | exact wpAny_bind (wpAny_bind (m := Builtin.Tuple.tupleExact _) (wpAny_newObj_type (wpAny_pure ⟨_, rfl, wpAny_pure h⟩) htake))
end
def revD : D → Option D
  | .tup xs => some (.tup xs.reverse)
  | .lst xs => some (.lst xs.reverse)
  | _ => none
def tRev (K : PySem.W.Frag) (te : TE) (ts : TO) : TE := fun σ H Q => te σ H fun x H1 => ts σ H1 fun o H2 => o = some (-1) ∧ ∃ a xs, x = .ref a ∧ ((SqL K H2 a xs ∧ ∀ p, H2 p = none → Q (.ref p) (upd H2 p (.lst xs.reverse))) ∨ (SqT K H2 a xs ∧ ∀ p, H2 p = none → Q (.ref p) (upd H2 p (.tup xs.reverse))))
section
variable {X : Cx} {K : PySem.W.Frag} {pa : Plc} {W : L2.St → XK} {e e3 : Expr} {te : TE} {ts : TO} {p3 pos : Pos} {fa fs : S → Rs D}
theorem vals_rev {xs : List V} {us : List Value} (r : Vals xs us) : Vals xs.reverse us.reverse := by
  induction r with
  | nil => exact .nil
  | cons h _ ih =>
    rw [List.reverse_cons, List.reverse_cons]
    exact ih.append (.cons h .nil)
theorem pe_rev (he : PE X e te) (h3 : PO X (some e3) ts) : PE X (.Subscript e (.Slice none none (some e3) p3) pos) (tRev X.K te ts) := by
  refine ⟨fun pins s σ H Q I h => Subscript_ (thn (he.run pins s σ H _ I h) fun v s1 z => ?_)⟩
  obtain ⟨x, H1, I1, r1, z⟩ := z
  refine wpAny_Slice (thn (po_none.run pins s1 σ H1 (fun o H3 => o = none ∧ H3 = H1) I1 ⟨rfl, rfl⟩) fun vl s2 z2 => ?_)
  obtain ⟨l, H2, I2, pl, rfl, rfl⟩ := z2
  refine thn (po_none.run pins s2 σ H2 (fun o H3 => o = none ∧ H3 = H2) I2 ⟨rfl, rfl⟩) fun vu s3 z3 => ?_
  obtain ⟨u, H3, I3, pu, rfl, rfl⟩ := z3
  refine thn (h3.run pins s3 σ H3 _ I3 z) fun vs s4 z4 => ?_
  obtain ⟨o, H4, I4, ps, rfl, a, xs, rfl, z5⟩ := z4
  cases r1
  cases pl
  cases pu
  have I5 : Inv X pins σ H4 { s4 with heap := s4.heap.push { cls := .type "slice", data := .fields #[.none, .none, vs] } } := I4.kept (t' := s4.toks) fun b ob q => Heap.get?_push_of_some _ q
  show wpAny (model X.prog X.w) X.A (subscriptTail e (.Slice none none (some e3) p3) (.ref a) (.ref s4.heap.objs.size)) (EP X pins σ Q) X.xe { s4 with heap := s4.heap.push { cls := .type "slice", data := .fields #[.none, .none, vs] } }
  rcases z5 with ⟨hx, q⟩ | ⟨hx, q⟩
  · obtain ⟨its, r, ht, hz⟩ := I5.list hx
    refine tail_any (ops := [.ref a, .ref s4.heap.objs.size]) ht.isList.typeIs PySem.slot_list_getitem.lookup ?_ (by with_unfolding_all rfl)
    refine wpAny_getItem_list_slice ht.isList (Heap.IsSliceOf.new _ .none .none vs) .none .none ps (by decide) ?_ (by rw [List.size_toArray, ← r.length]; exact hz)
    rw [PySem.W.krv_pick]
    refine ⟨.ref _, _, I5.laid (t' := s4.toks) (o := .lst xs.reverse) (fun b ob q => Heap.get?_push_of_some _ q) (Nat.le_refl _) ?_, rfl, q _ (I5.hok.fresh (Nat.le_refl _))⟩
    exact ⟨by rw [List.length_reverse]; exact hz, its.reverse, 0, vals_rev r, Heap.get?_push_size _ rfl⟩
  · obtain ⟨its, r, ht, hz⟩ := I5.tuple hx
    refine tail_any (ops := [.ref a, .ref s4.heap.objs.size]) ht.typeIs PyProof.Rows.slot_tuple_getitem.lookup ?_ (by with_unfolding_all rfl)
    refine getItem_tuple_rev ht (Heap.IsSliceOf.new _ .none .none vs) ps ?_ (by rw [List.size_toArray, ← r.length]; exact hz)
    refine ⟨.ref _, _, I5.laid (t' := s4.toks) (o := .tup xs.reverse) (fun b ob q => Heap.get?_push_of_some _ q) (Nat.le_refl _) ?_, rfl, q _ (I5.hok.fresh (Nat.le_refl _))⟩
    exact ⟨by rw [List.length_reverse]; exact hz, its.reverse, vals_rev r, IsTup.new _ _⟩
def mRev (fa : S → Rs D) (fs : S → Rs (Option Int)) : S → Rs D := fun s => (fa s).bind fun x s1 => (fs s1).bind fun o s2 => if o = some (-1) then liftO (revD x) s2 else .no
theorem pv_rev (ek : X.K = K) {fs : S → Rs (Option Int)} (ha : PE X e (tV K pa W fa)) (h3 : PO X (some e3) (tVO K pa W fs)) : PE X (.Subscript e (.Slice none none (some e3) p3) pos) (tV K pa W (mRev fa fs)) := by
  subst ek
  refine (pe_rev ha h3).mono ?_
  rintro σ H Q ⟨F, s, rep, h⟩
  refine ⟨F, s, rep, (Fin.bind h).mono ?_⟩
  rintro v H1 ⟨F1, s1, x, st1, rep1, dv, h1⟩
  refine ⟨F1, s1, rep1, (Fin.bind h1).mono ?_⟩
  rintro o H2 ⟨F2, s2, o', st2, rep2, rfl, h2⟩
  by_cases ho : o = some (-1)
  · rw [if_pos ho] at h2
    refine ⟨ho, ?_⟩
    obtain ⟨z, e, o⟩ := Fin.lift rep2 h2
    have dv2 : Den X.K F2 v x := Den.mono st2.le dv
    have sb := rep2.sub
    cases dv2 with
    | @lst a vs ds q r =>
      cases e
      exact ⟨a, vs, rfl, .inl ⟨sb.sqL q, fun p hp => o.lst sb r.rev hp⟩⟩
    | @tup a vs ds q r =>
      cases e
      exact ⟨a, vs, rfl, .inr ⟨sb.sqT q, fun p hp => o.tup sb r.rev hp⟩⟩
    | _ => cases e
  · rw [if_neg ho] at h2
    exact h2.elim
end
/-! ### name op= e, of ints -/
def augI (g : Int → Int → Bool) (f : Int → Int → Int) : D → D → Option D
  | .int i, .int j => if g i j then some (.int (f i j)) else none
  | _, _ => none
def mulOkB (i j : Int) : Bool := small i || small j || (wideB i && wideB j)
def yesB (_ _ : Int) : Bool := true
def sAug (i : Nat) (g : D → D → Option D) (fa : S → Rs D) : S → Ro := fun s => match s.e[i]? with
  | some (some (.d x)) => (fa s).st fun d s1 => (match g x d with
    | some z => .nx (s1.put i (some (.d z)))
    | none => .no)
  | _ => .no
def rIpMul : TIp := fun x y H Q => ∃ i j, x = .int i ∧ y = .int j ∧ IntMulOk i j ∧ Q (.int (i * j)) H
section
variable {X : Cx} {K : PySem.W.Frag} {pa : Plc} {W : L2.St → XK} {st : Stmt} {fa : S → Rs D}
theorem ip_mulW : PIp X .Mult rIpMul := by
  intro pins s σ H x y v u Q I r1 r2 h
  obtain ⟨i, j, e1, e2, hm, q⟩ := h
  subst e1; subst e2
  obtain ⟨t, rfl⟩ := r1
  obtain ⟨t', rfl⟩ := r2
  exact imul_int ⟨.int _, H, I.tok _, ⟨_, rfl⟩, q⟩ hm
theorem l_ipMul : LiftOp K rIpMul (augI mulOkB fun i j => i * j) := by
  intro F H x y a b z Q s dx dy e o
  cases dx <;> cases dy <;> first | (cases e; done) | skip
  rename_i i j
  dsimp only [augI] at e
  by_cases hl : mulOkB i j = true
  · rw [if_pos hl] at e
    cases e
    exact ⟨i, j, rfl, rfl, mul_ok hl, o.here s (.int _)⟩
  · rw [if_neg hl] at e
    cases e
theorem l_ipAdd : LiftOp K (ipI fun i j => i + j) (augI yesB fun i j => i + j) := by
  intro F H x y a b z Q s dx dy e o
  cases dx <;> cases dy <;> first | (cases e; done) | skip
  cases e
  exact ⟨_, _, rfl, rfl, o.here s (.int _)⟩
theorem l_ipSub : LiftOp K (ipI fun i j => i - j) (augI yesB fun i j => i - j) := by
  intro F H x y a b z Q s dx dy e o
  cases dx <;> cases dy <;> first | (cases e; done) | skip
  cases e
  exact ⟨_, _, rfl, rfl, o.here s (.int _)⟩
theorem q_aug {i : Nat} {ti : TIp} {g : D → D → Option D} (h : PS X st (tAug i (tV K pa W fa) ti)) (l : LiftOp K ti g) : PS X st (tS K pa W (sAug i g fa)) := by
  refine h.mono ?_
  rintro E σ H ⟨F, s, rep, h⟩
  unfold sAug at h
  split at h
  · rename_i x e0
    obtain ⟨v, h1, h2⟩ := rep.slot i _ e0
    have dx : Den K F v x := by cases v <;> exact h2
    refine ⟨v, h1, F, s, rep, (FinS.st h).mono ?_⟩
    rintro y H1 ⟨F1, s1, d, st1, rep1, dv, h3⟩
    have dv : Den K F1 y d := dv
    cases e : g x d with
    | none =>
      rw [e] at h3
      exact h3.elim
    | some z =>
      rw [e] at h3
      refine l F1 H1 v y x d z _ rep1.sub (dx.mono st1.le) dv e ?_
      intro v' H' F' ext dn
      exact h3 _ H' F' (ext.step.putD i _ _) ((rep1.ext ext).putD i dn)
  · exact h.elim
end
/-! ### max(xs) of a list of ints -/
def maxI : Int → List Int → Int
  | m, [] => m
  | m, y :: r => maxI (if m < y then y else m) r
theorem maxI_ge : ∀ (r : List Int) (m : Int), m ≤ maxI m r ∧ ∀ y ∈ r, y ≤ maxI m r
  | [], m => ⟨Int.le_refl _, fun y h => by cases h⟩
  | y :: r, m => by
    obtain ⟨h1, h2⟩ := maxI_ge r (if m < y then y else m)
    show m ≤ maxI (if m < y then y else m) r ∧ ∀ z ∈ y :: r, z ≤ maxI (if m < y then y else m) r
    have h3 : m ≤ (if m < y then y else m) ∧ y ≤ (if m < y then y else m) := by split <;> omega
    refine ⟨Int.le_trans h3.1 h1, fun z hz => ?_⟩
    rcases List.mem_cons.mp hz with rfl | hz
    · exact Int.le_trans h3.2 h1
    · exact h2 z hz
theorem maxI_mem : ∀ (r : List Int) (m : Int), maxI m r ∈ m :: r
  | [], m => .head _
  | y :: r, m => by
    show maxI (if m < y then y else m) r ∈ m :: y :: r
    have h := maxI_mem r (if m < y then y else m)
    rcases List.mem_cons.mp h with h | h
    · rw [h]
      split
      · exact .tail _ (.head _)
      · exact .head _
    · exact .tail _ (.tail _ h)
def maxLD : List D → Option D
  | [.lst xs] => match intsOf xs with
    | some (m :: r) => some (.int (maxI m r))
    | _ => none
  | _ => none
theorem l_maxL {K : PySem.W.Frag} : LiftCB K (rMax K) maxLD := by
  intro F H xs as z Q s d e o
  match as, e with
  | [.lst ds], e =>
    obtain ⟨v, rfl, dd⟩ := d.one
    dsimp only [maxLD] at e
    split at e
    · rename_i m r q
      cases e
      cases dd with
      | lst h r' =>
        refine ⟨_, m :: r, rfl, by rw [← r'.intsD q]; exact s.sqL h, Nat.succ_pos _, fun k h1 h2 => ?_⟩
        have e1 := h2 _ (maxI_mem r m)
        have e2 : k ≤ maxI m r := by
          rcases List.mem_cons.mp h1 with rfl | h1
          · exact (maxI_ge r _).1
          · exact (maxI_ge r m).2 _ h1
        have e3 : k = maxI m r := by omega
        subst e3
        exact o.here s (.int _)
    · cases e
/-! ### a, b = a list -/
def bLst (n : Nat) (bs : List D → S → Option S) : D → S → Option S
  | .lst ds, s => if ds.length = n then bs ds s else none
  | _, _ => none
theorem qg_lst {X : Cx} {K : PySem.W.Frag} {pa : Plc} {es : List Expr} {pos : Pos} {k n : Nat} {is : List Nat} {bs : List D → S → Option S} (ek : X.K = K) (hc : X.calm = true) (h : PGs X es (tGts K pa is bs)) (hn : (assignEach es X.env).length = n := by rfl) (hst : (assignEach es X.env).findIdx? (·.1) = none := by rfl) : PG X (.Tuple es k pos) (tGt K pa is (bLst n bs)) := by
  subst ek
  refine (pg_lst hc h hn hst).mono ?_
  rintro v σ H R ⟨F, s, d, s', rep, dv, e, h⟩
  cases dv with
  | @lst a vs ds q r =>
    dsimp only [bLst] at e
    by_cases hl : ds.length = n
    · rw [if_pos hl] at e
      exact ⟨a, vs, rfl, rep.sub.sqL q, r.length.trans hl, F, s, ds, s', rep, r, e, h⟩
    · rw [if_neg hl] at e
      cases e
  | _ => cases e

/-! ### errors as values -/
/-- the facts of errors that hold of the written part -/
structure XiF (P : Program) (w : World) (K : PySem.W.Frag) (mg : Str → Option Value) (base : Heap) : Prop where
  ex : ∃ fd, FnG P w K mg base 3 (xF K) fd ["self", "value"] (spXi P w K (xD K) (xF K)) ∧ Binds K fd ["self", "value"] []
  sys : ∃ o : Obj, K.lookup sysModules = some o ∧ o.cls = .type "dict"
/-! repr, dicts too -/
def keyP : Key → PyData
  | .inl i => .int i
  | .inr x => .str x
mutual
def D.dataR : D → Option PyData
  | .non => some .none
  | .bl b => some (.bool b)
  | .int i => some (.int i)
  | .str x => some (.str x)
  | .tup xs => match D.dataRs xs with
    | some ys => some (.tuple ys)
    | none => none
  | .lst xs => match D.dataRs xs with
    | some ys => some (.list ys)
    | none => none
  | .dic ks vs => match D.dataRs vs with
    | some ys => some (.dict ((ks.map keyP).zip ys))
    | none => none
  | _ => none
def D.dataRs : List D → Option (List PyData)
  | [] => some []
  | x :: xs => match D.dataR x with
    | some y => (match D.dataRs xs with
      | some ys => some (y :: ys)
      | none => none)
    | none => none
end
section
variable {P : Program} {w : World} {K : PySem.W.Frag} {F H : Hp} {h : Heap}
theorem seq_list (hok : HOk P w H h) (e : F a = some (.lst vs)) (s : Sub F H) : ∃ its : List Value, Vals vs its ∧ ∃ n, h.get? a = some { cls := .type "list", data := .seq its.toArray n } := by
  obtain ⟨_, its, n, r, q⟩ := (show ObjOk P w H h a (.lst vs) from hok a _ (s.lst e))
  exact ⟨its, r, n, q⟩
theorem seq_tup (KX : K.In h) (hok : HOk P w H h) (s : SqT K H a vs) : ∃ (o : Obj) (its : Array Value) (n : Nat), h.get? a = some o ∧ o.cls = .type "tuple" ∧ o.data = .seq its n ∧ Vals vs its.toList := by
  rcases s with q | ⟨o, its, n, hk, hc, hs, _, r⟩
  · obtain ⟨_, its, r, o, h1, h2, n, h3⟩ := q.ok hok
    exact ⟨o, its.toArray, n, h1, h2, h3, by simpa using r⟩
  · exact ⟨o, its, n, KX _ _ hk, hc, hs, r⟩
theorem pairs_keys {ks : List Key} {vs : List V} {us : List (Key × Value)} {es : List DictEntry} (hl : ks.length = vs.length) (kv : KV (ks.zip vs) us) (p : Pairs (mixKind P w) es us) : (∃ as, ReadsAll h (es.map (·.key)) (ks.map keyP) as ∧ as = []) ∧ Vals vs (es.map (·.val)) := by
  induction p generalizing ks vs with
  | nil =>
    cases ks with
    | nil =>
      cases vs with
      | nil => exact ⟨⟨[], .nil, rfl⟩, .nil⟩
      | cons => cases hl
    | cons k ks =>
      cases vs with
      | nil => cases hl
      | cons v vs => cases kv
  | @cons e kv2 es us hk hv p ih =>
    cases ks with
    | nil => cases kv
    | cons k ks =>
      cases vs with
      | nil => cases hl
      | cons v vs =>
        cases kv with
        | cons q r =>
          obtain ⟨⟨as, h1, rfl⟩, h2⟩ := ih (by simpa using hl) r
          obtain ⟨q1, q2⟩ := q
          refine ⟨⟨[], ?_, rfl⟩, .cons (show RelV v e.val by rw [hv]; exact q2) h2⟩
          have key : Reads h e.key (keyP k) [] := by
            have q1 : k = kv2.1 := q1
            rw [← q1] at hk
            rcases keyIs_shape hk with ⟨i, t, e1, e2⟩ | ⟨x, t, e1, e2⟩
            · rw [e1, e2]
              exact .int i t
            · rw [e1, e2]
              exact .str x t
          exact .cons key h1
theorem dataRs_len : ∀ {ds : List D} {ys : List PyData}, D.dataRs ds = some ys → ds.length = ys.length
  | [], _, e => by
    cases e
    rfl
  | d :: ds, ys, e => by
    cases q : D.dataR d with
    | none =>
      simp only [D.dataRs, q] at e
      cases e
    | some y =>
      cases q2 : D.dataRs ds with
      | none =>
        simp only [D.dataRs, q, q2] at e
        cases e
      | some zs =>
        simp only [D.dataRs, q, q2] at e
        cases e
        simp [dataRs_len q2]
mutual
theorem Den.readsR (KX : K.In h) (hok : HOk P w H h) (s : Sub F H) (sy : ∃ o : Obj, K.lookup sysModules = some o ∧ o.cls = .type "dict") : ∀ {v : V} {d : D} {x : PyData} {u : Value}, Den K F v d → d.dataR = some x → RelV v u → ∃ as, Reads h u x as ∧ sysModules ∉ as
  | _, _, _, _, .non, e, r => by
    cases e
    cases r
    exact ⟨_, .none, by simp⟩
  | _, _, _, _, .bl b, e, r => by
    cases e
    cases r
    exact ⟨_, .bool b, by simp⟩
  | _, _, _, _, .int i, e, r => by
    cases e
    obtain ⟨t, rfl⟩ := r
    exact ⟨_, .int i t, by simp⟩
  | _, _, _, _, .str x, e, r => by
    cases e
    obtain ⟨t, rfl⟩ := r
    exact ⟨_, .str x t, by simp⟩
  | _, .tup ds, x, u, .tup hq hr, e, r => by
    cases q : D.dataRs ds with
    | none =>
      simp only [D.dataR, q] at e
      cases e
    | some ys =>
      simp only [D.dataR, q] at e
      cases e
      cases r
      obtain ⟨o, its, n, h1, h2, h3, rv⟩ := seq_tup KX hok (s.sqT hq)
      obtain ⟨as, z1, z2⟩ := DenAll.readsR KX hok s sy hr q rv
      exact ⟨as, .tuple h1 h2 h3 z1, z2⟩
  | _, .lst ds, x, u, .lst hq hr, e, r => by
    cases q : D.dataRs ds with
    | none =>
      simp only [D.dataR, q] at e
      cases e
    | some ys =>
      simp only [D.dataR, q] at e
      cases e
      cases r
      obtain ⟨its, rv, n, h1⟩ := seq_list hok hq s
      obtain ⟨as, z1, z2⟩ := DenAll.readsR KX hok s sy hr q rv
      refine ⟨_, .list h1 rfl rfl (by simpa using z1), fun z => ?_⟩
      rcases List.mem_cons.mp z with e2 | z
      · obtain ⟨o, k1, k2⟩ := sy
        have k3 := KX _ _ k1
        rw [e2, h1] at k3
        rw [← Option.some.inj k3] at k2
        have k2 : Value.type "list" = Value.type "dict" := k2
        exact absurd k2 (by decide)
      · exact z2 z
  | _, .dic ks ds, x, u, .dic hq hl hr, e, r => by
    cases q : D.dataRs ds with
    | none =>
      simp only [D.dataR, q] at e
      cases e
    | some ys =>
      simp only [D.dataR, q] at e
      cases e
      cases r
      obtain ⟨_, ns, us, kv, o, es, ep, h1, ex, h3, _, pr, _⟩ := (s.rd hq).ok hok
      obtain ⟨⟨as1, k1, rfl⟩, k2⟩ := pairs_keys (h := h) hl kv pr
      obtain ⟨as, z1, z2⟩ := DenAll.readsR KX hok s sy hr q k2
      have ly : (ks.map keyP).length = ys.length := by
        rw [List.length_map, hl]
        have a1 := hr.length
        have a2 := dataRs_len q
        omega
      refine ⟨_, .dict h1 ex.1 h3 (by rw [List.map_fst_zip (by omega)]; exact k1) (by rw [List.map_snd_zip (by omega)]; exact z1), fun z => ?_⟩
      rcases List.mem_cons.mp z with e2 | z
      · rw [← e2] at ns
        simp at ns
      · exact z2 (by simpa using z)
  | _, _, _, _, .obj _ _ _ _, e, _ => by cases e
  | _, _, _, _, .exc _ _ _ _, e, _ => by cases e
theorem DenAll.readsR (KX : K.In h) (hok : HOk P w H h) (s : Sub F H) (sy : ∃ o : Obj, K.lookup sysModules = some o ∧ o.cls = .type "dict") : ∀ {vs : List V} {ds : List D} {xs : List PyData} {us : List Value}, DenAll K F vs ds → D.dataRs ds = some xs → Vals vs us → ∃ as, ReadsAll h us xs as ∧ sysModules ∉ as
  | _, _, _, _, .nil, e, r => by
    cases e
    cases r
    exact ⟨_, .nil, by simp⟩
  | _, d :: ds, xs, us, .cons hd hr, e, r => by
    cases q : D.dataR d with
    | none =>
      simp only [D.dataRs, q] at e
      cases e
    | some y =>
      cases q2 : D.dataRs ds with
      | none =>
        simp only [D.dataRs, q, q2] at e
        cases e
      | some ys =>
        simp only [D.dataRs, q, q2] at e
        cases e
        cases r with
        | cons r1 r2 =>
          obtain ⟨as, z1, z2⟩ := Den.readsR KX hok s sy hd q r1
          obtain ⟨bs, z3, z4⟩ := DenAll.readsR KX hok s sy hr q2 r2
          exact ⟨_, .cons z1 z3, by simp [z2, z4]⟩
end
theorem Den.shw {v : V} {d : D} {y : PyData} (sy : ∃ o : Obj, K.lookup sysModules = some o ∧ o.cls = .type "dict") (s : Sub F H) (h : Den K F v d) (e : d.dataR = some y) (b : reprB y = true) : ShwR P w K H v y := by
  unfold reprB at b
  simp only [Bool.and_eq_true, decide_eq_true_eq] at b
  exact ⟨fun hh u KX hok r => let ⟨as, z1, z2⟩ := Den.readsR KX hok s sy h e r; ⟨as, z1, fun _ => z2⟩, b.1.1, b.1.2, b.2⟩
theorem Sub.upd_new {p : Addr} {o : HO} (s : Sub F H) (n : H p = none) : Sub F (upd H p o) := (Ext.fresh s n).sub
def reprR : List D → Option D
  | [x] => match x.dataR with
    | some y => if reprB y then some (.str y.shown) else none
    | none => none
  | _ => none
theorem l_reprR (sy : ∃ o : Obj, K.lookup sysModules = some o ∧ o.cls = .type "dict") : LiftCB K (rReprR P w K) reprR := by
  intro F H xs as z Q s d e o
  match as, e with
  | [x], e =>
    obtain ⟨v, rfl, dd⟩ := d.one
    dsimp only [reprR] at e
    cases q : x.dataR with
    | none =>
      rw [q] at e
      cases e
    | some y =>
      rw [q] at e
      dsimp only at e
      by_cases hl : reprB y = true
      · rw [if_pos hl] at e
        cases e
        exact ⟨v, y, rfl, dd.shw sy s q hl, o.here s (.str _)⟩
      · rw [if_neg hl] at e
        cases e
end
/-! errors made, raised -/
def mXc (c : Str) (fe : S → Rs D) : S → Rs D := fun s => (fe s).bind fun d s1 => match d.dataR with
  | some y => if reprB y then .ok (.exc c d) s1 else .no
  | none => .no
def sXc (c : Str) (fe : S → Rs D) : S → Ro := fun s => (fe s).st fun d s1 => match d.dataR with
  | some y => if reprB y then .ex c d s1 else .no
  | none => .no
def valX : D → Option D
  | .exc _ d => some d
  | _ => none
section
variable {X : Cx} {K : PySem.W.Frag} {pa : Plc} {W : L2.St → XK} {a b c e : Expr} {fa fb fe : S → Rs D} {pos p : Pos} {cn : Str}
theorem exc_laid {F H : Hp} {v : V} {d : D} (s : Sub F H) (w : XcK K cn) (dv : Den K F v d) {a dx : Addr} (n1 : H a = none) (n2 : H dx = none) (ne : dx ≠ a) :
    ∃ F', Ext F H F' (upd (upd H dx (.xd [("value", v)])) a (exO a (He.ga K cn) dx)) ∧ Den K F' (.ref a) (.exc cn d) := by
  have e1 : Ext F H (upd F dx (.xd [("value", v)])) (upd H dx (.xd [("value", v)])) := Ext.laid s n2
  have n3 : upd H dx (.xd [("value", v)]) a = none := by rw [upd_ne (Ne.symm ne)]; exact n1
  have e2 : Ext (upd F dx (.xd [("value", v)])) (upd H dx (.xd [("value", v)])) (upd (upd F dx (.xd [("value", v)])) a (exO a (He.ga K cn) dx)) (upd (upd H dx (.xd [("value", v)])) a (exO a (He.ga K cn) dx)) := Ext.laid e1.sub n3
  refine ⟨_, e1.trans e2, .exc w upd_same (by rw [upd_ne ne, upd_same]) (dv.mono (e1.le.trans e2.le))⟩
/-- C(e) as a value -/
theorem pv_xnew (ek : X.K = K) (T : XiF X.prog X.w X.K X.mg X.base) (w : XcK X.K cn) (room : Room 4 X.A) (gd : X.A.guards = some []) (gl : Gl X cn) (gm : X.mg cn = some (.ref (He.ga X.K cn))) (he : PE X e (tV K pa W fe))
    (n1 : (cn == ("__debug__" : Str)) = false := by decide) (n2 : starEach [e] X.env = (false, eval e X.env) :: starEach [] X.env := by rfl) : PE X (.Call (.Name cn p) [e] [] pos) (tV K pa W (mXc cn fe)) := by
  subst ek
  obtain ⟨fd, G, b⟩ := T.ex
  refine (pe_xnew (k := 3) w G b room gd gl gm he n1 n2).mono ?_
  rintro σ H Q ⟨F, s, rep, h⟩
  refine ⟨F, s, rep, (Fin.bind h).mono ?_⟩
  rintro v H1 ⟨F1, s1, x, st1, rep1, dv, h1⟩
  have dv : Den X.K F1 v x := dv
  cases q : x.dataR with
  | none =>
    rw [q] at h1
    exact h1.elim
  | some y =>
    rw [q] at h1
    dsimp only at h1
    by_cases hl : reprB y = true
    · rw [if_pos hl] at h1
      refine ⟨y, fun a na => dv.shw T.sys (rep1.sub.upd_new na) q hl, fun a dx na nd ne => ?_⟩
      obtain ⟨F2, ext, d2⟩ := exc_laid rep1.sub w dv na nd ne
      exact h1 _ _ _ ext.step (rep1.ext ext) d2
    · rw [if_neg hl] at h1
      exact h1.elim
/-- e.value -/
theorem pe_xval {te : TE} (he : PE X e te) (hb : attributeBase e "value" X.env (eval e X.env) = eval e X.env := by rfl) :
    PE X (.Attribute e "value" pos) (fun σ H Q => te σ H fun u H1 => ∃ (a C dx : Addr) (v : V), u = .ref a ∧ XcC X.K (xD X.K) (xF X.K) C ∧ H1 a = some (exO a C dx) ∧ H1 dx = some (.xd [("value", v)]) ∧ Q v H1) := by
  refine ⟨fun pins s σ H Q I h => attr_of hb (thn (he.run pins s σ H _ I h) fun u s1 z => ?_)⟩
  obtain ⟨x, H1, I1, rx, a, C, dx, v, ex, w, ea, ed, q⟩ := z
  subst ex
  obtain rfl : u = Value.ref a := rx
  obtain ⟨oe, vs, h1, h2, h3, h4⟩ := exO_get I1.hok ea
  have hx : ObjOk X.prog X.w H1 s1.heap dx (.xd [("value", v)]) := I1.hok dx _ ed
  obtain ⟨mA, hns, hr⟩ := hx
  obtain ⟨od, ho, hl⟩ := lookIn_ns hns
  have lk : ([(("value" : Str), v)] : List (Str × V)).lookup ("value" : Str) = some v := by simp [List.lookup]
  obtain ⟨u, hu, ru⟩ := RelO.some_of (v := v) (o := mA "value") (by rw [← lk]; exact hr "value")
  have J : PySem.W.InstAt s1.heap a oe C (some od) := ⟨h1, h2, by unfold PySem.W.notCls; rw [h4], by rw [h3]; exact ho⟩
  exact HandSPX.exc_get I1.kIn J w.x.ga w.x.gg w.x.exC (PySem.W.findObj_own w.x.hdC w.nov rfl (by rw [hl, hu])) (handed_of ru) ⟨v, H1, I1.tok _, ru, q⟩
theorem pv_xval (ek : X.K = K) (he : PE X e (tV K pa W fe)) (hb : attributeBase e "value" X.env (eval e X.env) = eval e X.env := by rfl) : PE X (.Attribute e "value" pos) (tV K pa W (mUn valX fe)) := by
  subst ek
  refine (pe_xval he hb).mono ?_
  rintro σ H Q ⟨F, s, rep, h⟩
  refine ⟨F, s, rep, (Fin.bind h).mono ?_⟩
  rintro v H1 ⟨F1, s1, x, st1, rep1, dv, h1⟩
  obtain ⟨z, e, o⟩ := h1.lift rep1
  cases dv with
  | @exc a dx c v d w f1 f2 dd =>
    cases e
    exact ⟨a, _, dx, v, rfl, w, rep1.sub.at f1 (fun _ z => by cases z), rep1.sub.at f2 (fun _ z => by cases z), o.here rep1.sub dd⟩
  | _ => cases e
end
/-! isinstance of errors -/
def isiX (c : Str) (xs : List Str) : D → Option D
  | .exc c' _ => if xs.contains c' then some (.bl (subX c' c)) else none
  | .obj _ _ _ => none
  | _ => some (.bl false)
def isiV (xs : List Str) : D → Option D
  | .exc c' _ => if xs.contains c' then some (.bl true) else none
  | _ => none
section
variable {K : PySem.W.Frag} {F H : Hp}
theorem Den.tyE {v : V} {d z : D} {c : Str} {xs : List Str} (s : Sub F H) (i : IsxC K c xs) (h : Den K F v d) (e : isiX c xs d = some z) : ∃ t b, TyZ K H v t ∧ PySem.W.kitOne K t (.ref (He.ga K c)) = some b ∧ z = .bl b := by
  cases h with
  | int j =>
    cases e
    exact ⟨_, _, .base (.int j), i.tys _ (by decide), rfl⟩
  | bl b =>
    cases e
    exact ⟨_, _, .base (.bl b), i.tys _ (by decide), rfl⟩
  | str x =>
    cases e
    exact ⟨_, _, .base (.str x), i.tys _ (by decide), rfl⟩
  | non =>
    cases e
    exact ⟨_, _, .base .non, i.tys _ (by decide), rfl⟩
  | @tup a vs ds h r =>
    cases e
    have ty : TyZ K H (.ref a) (.type "tuple") := by
      rcases h with h | h
      · exact .base (.tup (s.at h (fun _ z => nomatch z)))
      · rcases h (fun _ => none) with (z | ⟨_, z⟩) | ⟨o, its, n, h1, h2, _⟩
        · cases z
        · cases z
        · exact .kTuple h1 h2
    exact ⟨_, _, ty, i.tys _ (by decide), rfl⟩
  | @lst a vs ds h r =>
    cases e
    exact ⟨_, _, .base (.lst (s.lst h)), i.tys _ (by decide), rfl⟩
  | @dic a ks vs ds h l r =>
    cases e
    have ty : TyZ K H (.ref a) (.type "dict") := by
      rcases s.rc h with h | ⟨_, o, h⟩
      · exact .base (.dK h)
      · exact .fDict h
    exact ⟨_, _, ty, i.tys _ (by decide), rfl⟩
  | obj w h l r => cases e
  | @exc a dx c' v d w h1 h2 r =>
    dsimp only [isiX] at e
    by_cases hc : xs.contains c' = true
    · rw [if_pos hc] at e
      cases e
      exact ⟨_, _, .exc w (s.at h1 (fun _ z => by cases z)) (s.at h2 (fun _ z => by cases z)), i.exc c' (by simpa using hc), rfl⟩
    · rw [if_neg hc] at e
      cases e
end
section
variable {X : Cx} {K : PySem.W.Frag} {pa : Plc} {W : L2.St → XK} {a b c o e : Expr} {fa fb fc : S → Rs D} {pos p apos : Pos}
theorem pv_isiX {cn : Str} {xs : List Str} (ek : X.K = K) (i : IsxC K cn xs) (hg : Gl X "isinstance") (hm : X.mg "isinstance" = none) (ha : PE X a (tV K pa W fa)) (hc : PE X c (tC (.ref (He.ga K cn))))
    (h1 : starEach [a, c] X.env = (false, eval a X.env) :: starEach [c] X.env := by rfl) (h2 : starEach [c] X.env = (false, eval c X.env) :: starEach [] X.env := by rfl) (hpl : (backTo pos (starEach [c] X.env)).any (·.1) = false := by rfl) :
    PE X (.Call (.Name "isinstance" p) [a, c] [] pos) (tV K pa W (mUn (isiX cn xs) fa)) := by
  subst ek
  refine (pe_callB call_isiZ hg hm (by decide +kernel) (pa_cons ha (pa_cons hc pa_nil h2) h1) (by decide) (by decide) h1 hpl).mono ?_
  rintro σ H Q ⟨F, s, rep, h⟩
  refine ⟨F, s, rep, (Fin.bind h).mono ?_⟩
  rintro v H1 ⟨F1, s1, x, st1, rep1, dv, h1⟩
  obtain ⟨z, e, out⟩ := h1.lift rep1
  obtain ⟨t, b, h1, h2, rfl⟩ := Den.tyE rep1.sub i dv e
  exact ⟨v, _, t, _, b, rfl, .own _, h1, h2, out.here rep1.sub (.bl _)⟩
theorem pv_isiV {xs : List Str} (ek : X.K = K) (i : isvB K xs = true) (hg : Gl X "isinstance") (hm : X.mg "isinstance" = none) (ha : PE X a (tV K pa W fa)) (hc : PE X c (tC (.ty "ValueError")))
    (h1 : starEach [a, c] X.env = (false, eval a X.env) :: starEach [c] X.env := by rfl) (h2 : starEach [c] X.env = (false, eval c X.env) :: starEach [] X.env := by rfl) (hpl : (backTo pos (starEach [c] X.env)).any (·.1) = false := by rfl) :
    PE X (.Call (.Name "isinstance" p) [a, c] [] pos) (tV K pa W (mUn (isiV xs) fa)) := by
  subst ek
  refine (pe_callB call_isiZ hg hm (by decide +kernel) (pa_cons ha (pa_cons hc pa_nil h2) h1) (by decide) (by decide) h1 hpl).mono ?_
  rintro σ H Q ⟨F, s, rep, h⟩
  refine ⟨F, s, rep, (Fin.bind h).mono ?_⟩
  rintro v H1 ⟨F1, s1, x, st1, rep1, dv, h1⟩
  obtain ⟨z, e, out⟩ := h1.lift rep1
  cases dv with
  | @exc a dx c' v d w f1 f2 dd =>
    dsimp only [isiV] at e
    by_cases hc : xs.contains c' = true
    · rw [if_pos hc] at e
      cases e
      exact ⟨_, _, _, _, true, rfl, .ty "ValueError", .exc w (rep1.sub.at f1 (fun _ z => by cases z)) (rep1.sub.at f2 (fun _ z => by cases z)), of_decide_eq_true (List.all_eq_true.mp i c' (by simpa using hc)), out.here rep1.sub (.bl _)⟩
    · rw [if_neg hc] at e
      cases e
  | _ => cases e
end

/-! ### defs that raise -/
def mDefX (np n : Nat) (g : S → Ro) : List D → Rv := fun ds => if ds.length = np then (match g (initS n ds) with
  | .rt d _ => .ok d
  | .nx _ => .ok .non
  | .ex c d _ => .ex c d
  | _ => .no) else .no
def mCalX (m : List D → Rv) (fr : S → Rs (List D)) : S → Rs D := fun s => (fr s).bind fun ds s1 => match m ds with
  | .ok d => .ok d s1
  | .ex c d => .ex c d s1
  | .no => .no
section
variable {K : PySem.W.Frag} {pa : Plc} {F H F' H' : Hp} {σ σ' : L2.St} {s s' : S}
theorem spX_len {np n : Nat} {g : S → Ro} {vs : List V} {Q : VK} {E : XK} (h : spV K (mDefX np n g) vs H Q E) : vs.length = np := by
  obtain ⟨F, ds, _, r, h⟩ := h
  unfold mDefX at h
  by_cases hl : ds.length = np
  · rw [r.length, hl]
  · rw [if_neg hl] at h
    exact h.elim
theorem spX_body {N : List Str} {np : Nat} {g : S → Ro} {vs : List V} {Q : VK} {E : XK} (h : spV K (mDefX np N.length g) vs H Q E) : tS K ⟨0, []⟩ (fun _ => E) g { nx := fun _ H' => Q .non H', rt := Q } (L2.start N vs) H := by
  obtain ⟨F, ds, sub, r, h⟩ := h
  unfold mDefX at h
  by_cases hl : ds.length = np
  · rw [if_pos hl] at h
    refine ⟨F, _, Rep.init sub r, ?_⟩
    cases e : g (initS N.length ds) with
    | nx s' =>
      rw [e] at h
      exact fun σ' H' F' st rp => h .non H' F' (st.ext (fun a => init_no) rp.sub) .non
    | rt d s' =>
      rw [e] at h
      exact fun σ' v H' F' st rp dv => h v H' F' (st.ext (fun a => init_no) rp.sub) dv
    | bk s' =>
      rw [e] at h
      exact h.elim
    | ct s' =>
      rw [e] at h
      exact h.elim
    | ex c d s' =>
      rw [e] at h
      exact fun σ' H' F' st rp v da dv hf => h v da H' F' (st.ext (fun a => init_no) rp.sub) dv hf
    | no =>
      rw [e] at h
      exact h.elim
  · rw [if_neg hl] at h
    exact h.elim
theorem spX_of {m : List D → Rv} {vs : List V} {ds : List D} {Q : VK} {E : XK} (rep : Rep K pa F H σ s) (r : DenAll K F vs ds) (h : Fin (dV K) K pa (fun _ => E) F H σ s (match m ds with
  | .ok d => .ok d s
  | .ex c d => .ex c d s
  | .no => .no) Q) : spV K m vs H Q E := by
  refine ⟨F, ds, rep.sub, r, ?_⟩
  cases q : m ds with
  | ok d =>
    rw [q] at h
    exact fun v H' F' ext dv => h v H' F' ext.step (rep.ext ext) dv
  | ex c d =>
    rw [q] at h
    exact fun v da H' F' ext dv hf => h H' F' ext.step (rep.ext ext) v da dv hf
  | no =>
    rw [q] at h
    exact h.elim
end
section
variable {X : Cx} {K : PySem.W.Frag} {pa : Plc} {W : L2.St → XK} {a b c e : Expr} {fa fb fe : S → Rs D} {pos p : Pos} {cn x : Str} {es : List Expr} {fr : S → Rs (List D)} {E : XK}
theorem pv_calX {k : Nat} {ps : List Str} {m : List D → Rv} (tk : Takes X (fun cls d _ H => E cls d H)) (C : Cal X.prog X.w X.K X.mg X.base k x ps (spV K m)) (room : Room k X.A) (gd : X.A.guards = some []) (gl : Gl X x) (args : PA X (e :: es) (tVA K pa (fun _ => E) fr))
    (n1 : (x == ("__debug__" : Str)) = false := by decide) (n2 : starEach (e :: es) X.env = (false, eval e X.env) :: starEach es X.env := by rfl) (n3 : (backTo pos (starEach es X.env)).any (·.1) = false := by rfl) :
    PE X (.Call (.Name x p) (e :: es) [] pos) (tV K pa (fun _ => E) (mCalX m fr)) := by
  refine (pe_calE (passes_call tk fun _ _ _ _ h => h) C room gd gl args n1 n2 n3).mono ?_
  rintro σ H Q ⟨F, s, rep, h⟩
  refine ⟨F, s, rep, (Fin.bind h).mono ?_⟩
  rintro vs H1 ⟨F1, s1, ds, st1, rep1, dv, h1⟩
  rw [List.append_nil]
  exact spX_of rep1 dv h1
/-- raise C(e) -/
theorem q_raise (ek : X.K = K) (hc : X.calm = true) (tk : Takes X (fun cls d σ H => W σ cls d H)) (T : XiF X.prog X.w X.K X.mg X.base) (w : XcK X.K cn) (room : Room 4 X.A) (gd : X.A.guards = some []) (gl : Gl X cn) (gm : X.mg cn = some (.ref (He.ga X.K cn))) (he : PE X e (tV K pa W fe))
    (n1 : (cn == ("__debug__" : Str)) = false := by decide) (n2 : starEach [e] X.env = (false, eval e X.env) :: starEach [] X.env := by rfl) {p2 : Pos} : PS X (.Raise (some (.Call (.Name cn p) [e] [] pos)) none p2) (tS K pa W (sXc cn fe)) := by
  subst ek
  obtain ⟨fd, G, b⟩ := T.ex
  refine (ps_raise hc tk (pmk_xc (k := 3) w G b room gd gl gm he n1 n2)).mono ?_
  rintro D σ H ⟨F, s, rep, h⟩
  refine ⟨F, s, rep, (FinS.st h).mono ?_⟩
  rintro v H1 ⟨F1, s1, x, st1, rep1, dv, h1⟩
  have dv : Den X.K F1 v x := dv
  cases q : x.dataR with
  | none =>
    rw [q] at h1
    exact h1.elim
  | some y =>
    rw [q] at h1
    dsimp only at h1
    by_cases hl : reprB y = true
    · rw [if_pos hl] at h1
      refine ⟨y, fun a na => dv.shw T.sys (rep1.sub.upd_new na) q hl, fun dx nd => ?_⟩
      have ext : Ext F1 H1 (upd F1 dx (.xd [("value", v)])) (upd H1 dx (.xd [("value", v)])) := Ext.laid rep1.sub nd
      exact h1 σ _ _ ext.step (rep1.ext ext) v dx (dv.mono ext.le) upd_same
    · rw [if_neg hl] at h1
      exact h1.elim
end

/-! ### an error caught as e, kept behind the suite -/
section
variable {X : Cx} {pins : List (Addr × Obj)} {σ : L2.St} {H : Hp} {s : Shared}
/-- what is new for the def, and untold, is told -/
theorem inv_track {a : Addr} {o : HO} (I : Inv X pins σ H s) (n : H a = none) (n0 : X.s_0.heap.get? a = none) (nL : a ≠ X.env.locals) (nC : ∀ y c, X.env.cells.lookup y = some c → c ≠ a) (nP : ∀ p ∈ X.pn ++ pins, p.1 ≠ a) (ok : ObjOk X.prog X.w (upd H a o) s.heap a o) : Inv X pins σ (upd H a o) s := by
  refine ⟨I.ok, I.os, I.bare, ⟨I.base.keep, I.base.slot, fun b ob e q hx => ?_, I.base.there, fun b xs e => ?_, fun b ob u e => ?_, fun b ps e => ?_⟩, I.loc, I.cell, ?_, fun y c e => ?_, fun p hp => ?_, fun b u e => ?_, I.len⟩
  · have hb : b ≠ a := fun z => by
      rw [z, n0] at e
      cases e
    rw [upd_ne hb]
    exact I.base.free b ob e q hx
  · have z := I.base.tups b xs e
    rw [upd_ne (ne_of_none z n)]
    exact z
  · have z := I.base.frzs b ob u e
    rw [upd_ne (ne_of_none z n)]
    exact z
  · obtain ⟨more, z⟩ := I.base.tbls b ps e
    exact ⟨more, by rw [upd_ne (ne_of_none z n)]; exact z⟩
  · rw [upd_ne (Ne.symm nL)]
    exact I.free
  · rw [upd_ne (nC y c e)]
    exact I.freeC y c e
  · obtain ⟨z1, z2, z3⟩ := I.pin p hp
    exact ⟨z1, by rw [upd_ne (nP p hp)]; exact z2, z3⟩
  · by_cases hb : b = a
    · subst hb
      rw [upd_same] at e
      cases e
      exact ok
    · rw [upd_ne hb] at e
      exact (I.hok b u e).stay (fun _ _ _ q => q) (fun d q => (upd_ne (ne_of_none q n)).trans q) fun d _ q => (upd_ne (ne_of_none q n)).trans q
theorem inv_suite0 (I : Inv X pins σ H s) (a : Addr) : Inv (X.suite a (X.pn ++ pins)) [] σ H s :=
  ⟨I.ok.suite _ _, I.os, I.bare, I.base, I.loc, I.cell, I.free, I.freeC, fun p hp => I.pin p (by rw [List.append_nil] at hp; exact hp), I.hok, I.len⟩
theorem inv_unsuite0 {a : Addr} {pn' : List (Addr × Obj)} (I : Inv (X.suite a (X.pn ++ pins)) pn' σ H s) (ok : X.Ok) : Inv X pins σ H s :=
  ⟨ok, I.os, I.bare, I.base, I.loc, I.cell, I.free, I.freeC, fun p hp => I.pin p (List.mem_append_left _ hp), I.hok, I.len⟩
end
/-- what the clause 'except x as n' wishes: the error is told in the suite, and behind it -/
def wKp (K : PySem.W.Frag) (c : Value) (i : Nat) (ts : TS) (D : Ends) : WX := fun cls d σ H =>
  PySem.W.exmOne K cls c = some true ∧ ∃ C dx fs, cls = .ref C ∧ d = some dx ∧ H dx = some (.xd fs) ∧ ∀ a, H a = none →
    ts { nx := fun σ' H' => D.nx (σ'.set i none) H', rt := D.rt, bk := fun σ' H' => D.bk (σ'.set i none) H', ct := fun σ' H' => D.ct (σ'.set i none) H' } (σ.set i (some (.ref a))) (upd H a (exO a C dx))
section
variable {X : Cx} {x n : Str} {c : Value} {i : Nat} {body suite : List Stmt} {b₀ : Stmt} {np pos pos' : Pos} {tb : WX → TS} {ts : TS}
theorem ps_try_keep (hs : X.stack = X.env :: X.outer) (hf : X.env.frame = some X.env.locals) (hex : X.ex = []) (hN : X.N.Nodup) (hi : X.N[i]? = some n) (hln : X.env.kindOf n = some .local) (hc : Names X x c)
    (hb : ∀ (W : WX) (pn : List (Addr × Obj)) (xe : Value → Shared → Prop), Takes (X.tr pn xe) W → PassesOwn (model X.prog X.w) X.A X.env xe → PSs (X.tr pn xe) body (tb W))
    (hsu : ∀ (a : Addr) (pn : List (Addr × Obj)), PSs (X.suite a pn) (b₀ :: suite) ts) :
    PS X (.Try body [.ExceptHandler (some (.Name x np)) (some n) (b₀ :: suite) pos'] [] [] pos) (fun D σ H => tb (wKp X.K c i ts D) D σ H) := by
  refine ⟨fun pins s σ H D I h => ?_⟩
  have ok := I.ok
  have hfr : X.A.frames = some (X.env :: X.outer) := by rw [ok.frames, hs]
  have hloc : Loc X.env.scope n := .inl hln
  refine wpAny_Try_except ?_
  refine wpAny_mono ((hb (wKp X.K c i ts D) (X.pn ++ pins) (fun e s₁ => wpAny (model X.prog X.w) X.A (noteFrame e X.env) (fun _ s₂ => wpAny (model X.prog X.w) X.A (setFlight e none) (fun _ s₃ =>
    wpAny (model X.prog X.w) X.A (handleBy e X.env [.ExceptHandler (some (.Name x np)) (some n) (b₀ :: suite) pos']) (SP X pins D) X.xe s₃) X.xe s₂) X.xe s₁) (fun u s' xx => ?_) PassesOwn.looking).run [] s σ H D (I.toTry _) h) (fun f s1 hsp => ?_) (fun e s1 he => he)
  · obtain ⟨a, B, sI, pins', σ', H', cls, d, rfl, J', nb, up, sky, na, os, ag, hyes, C, dx, fs, rfl, rfl, hdx, hts⟩ := xx
    have J : Inv X pins σ' H' sI := J'.ofTry ok
    have sky' : Sky B (X.env :: X.outer) a (Zc (.ref C) (some dx)) X.env.locals s'.heap := by rw [← hs]; exact sky
    show wpAny (model X.prog X.w) X.A (noteFrame (.ref a) X.env) _ _ _
    refine Sky.land Zc.steady hfr hf sky' fun h3 fl3 up3 => ?_
    have J3 : Inv X pins σ' H' { s' with heap := h3 } := J.landed nb fl3.1 (up.trans up3) os ag
    obtain ⟨oe3, vs3, he3, hz3, hd3⟩ := fl3.there
    have notFr : ∀ {h : Heap} {o : Obj} {vs : Array Value}, h.FunFrames B (X.env :: X.outer) → h.get? a = some o → o.data = .fields vs → a ∉ frs (X.env :: X.outer) := fun {h o vs} ff e dd hm => by
      obtain ⟨_, o', e', hnf⟩ := ff.mem hm
      rw [e] at e'; cases e'
      exact hnf _ dd
    have nfr := notFr fl3.2.2.1 he3 hd3
    have nB : B.get? a = none := fl3.2.1
    have nL : a ≠ X.env.locals := fun z => nfr (List.mem_filterMap.mpr ⟨X.env, List.mem_cons_self, by rw [hf, z]⟩)
    have nF : a ∉ X.fs := fun hm => by
      obtain ⟨e, he, q⟩ := List.mem_filterMap.mp hm
      exact nfr (List.mem_filterMap.mpr ⟨e, List.mem_cons_of_mem _ he, q⟩)
    have nI : sI.heap.get? a = none := by
      cases q : sI.heap.get? a with
      | none => rfl
      | some o =>
        have z := nb a o q (by rw [hs]; exact nfr)
        rw [nB] at z
        cases z
    have n0 : X.s_0.heap.get? a = none := by
      cases q : X.s_0.heap.get? a with
      | none => rfl
      | some o =>
        obtain ⟨o', z⟩ := J.base.there a o q (by rw [hex]; exact fun z => nomatch z)
        rw [nI] at z
        cases z
    have LT : PySem.W.Looks (model X.prog X.w) h3 (typeOf (.ref a)) (.ref C) := fun A Q E s k q => wpAny_typeOf_ref (k _ _ he3) (by rw [hz3.1]; exact q)
    have LM := PySem.W.exm_one (M := model X.prog X.w) (J3.kIn) LT hyes
    refine wpAny_handleBy_cons (codeAny_handlers_test ?_) (by intro q; cases q)
    have S3 := inv_suite0 J3 a
    have test : ∀ {Q : Value → Shared → Prop} {E : Value → Shared → Prop}, Q c { s' with heap := h3 } → wpAny (model X.prog X.w) (X.A.mark (some (.ref a))) (eval (.Name x np) X.env) Q E { s' with heap := h3 } := fun {Q E} q => by
      obtain ⟨hg, hdbg, hm | ⟨hm, hv, hnn⟩⟩ := hc
      · exact ld_glob (X := X.suite a (X.pn ++ pins)) S3 hg hm q hdbg
      · exact ld_blt (X := X.suite a (X.pn ++ pins)) S3 hg hm hv q hnn hdbg
    refine test (LM.here ?_)
    refine codeAny_handlers_suite_as ?_
    refine HandSPX.lands_againZ fl3 fun h4 fl4 up4 => ?_
    have J4 : Inv X pins σ' H' { s' with heap := h4 } := J.landed nb fl4.1 ((up.trans up3).trans up4) os ag
    obtain ⟨oe4, vs4, he4, hz4, hd4⟩ := fl4.there
    have JT : Inv X pins σ' (upd H' a (exO a C dx)) { s' with heap := h4 } := by
      refine inv_track J4 na n0 nL (fun y c e z => ?_) (fun p hp z => ?_) (exO_mk he4 hz4.1 hz4.2 hd4)
      · obtain ⟨v, o, q1, q2⟩ := J4.cell y c e
        rw [z] at q1
        rw [he4] at q1
        cases q1
        rw [hd4] at q2
        cases q2
      · obtain ⟨z1, _⟩ := J.pin p hp
        rw [z, nI] at z1
        cases z1
    have S4 := inv_suite0 JT a
    refine store_ok (X := X.suite a (X.pn ++ pins)) (v := .ref a) S4 hN hi hloc rfl (fun s5 S5 => ?_) (.inr hln)
    refine wpAny_mono ((hsu a (X.pn ++ pins)).run [] s5 _ _ _ S5 (hts a na)) (fun f s6 hsp => ?_) (fun _ _ z => False.elim z)
    have end_ : ∀ {σ6 : L2.St} {H6 : Hp} {Q : Shared → Prop}, Inv (X.suite a (X.pn ++ pins)) [] σ6 H6 s6 → (∀ s7, Inv X pins (σ6.set i none) H6 s7 → Q s7) →
        wpAny (model X.prog X.w) X.A (do bindName X.env n .none; unbindBehindTheSuite X.env n pos') (fun _ s7 => Q s7) X.xe s6 := fun {σ6 H6 Q} S6 hq => gone_ok (inv_unsuite0 S6 ok) hN hi hln hq
    cases f with
    | next =>
      obtain ⟨σ6, H6, S6, q6⟩ := hsp
      exact end_ S6 fun s7 J7 => ⟨_, _, J7, q6⟩
    | brk =>
      obtain ⟨σ6, H6, S6, q6⟩ := hsp
      exact end_ S6 fun s7 J7 => ⟨_, _, J7, q6⟩
    | cont =>
      obtain ⟨σ6, H6, S6, q6⟩ := hsp
      exact end_ S6 fun s7 J7 => ⟨_, _, J7, q6⟩
    | ret u =>
      obtain ⟨v6, σ6, H6, S6, r6, q6⟩ := hsp
      exact end_ S6 fun s7 J7 => ⟨_, _, _, J7, r6, q6⟩
  · cases f with
    | next =>
      obtain ⟨σ', H', J', q⟩ := hsp
      exact wpAny_execs_nil ⟨σ', H', J'.ofTry ok, q⟩
    | brk =>
      obtain ⟨σ', H', J', q⟩ := hsp
      exact ⟨σ', H', J'.ofTry ok, q⟩
    | cont =>
      obtain ⟨σ', H', J', q⟩ := hsp
      exact ⟨σ', H', J'.ofTry ok, q⟩
    | ret u =>
      obtain ⟨v, σ', H', J', r, q⟩ := hsp
      exact ⟨v, σ', H', J'.ofTry ok, r, q⟩
end
/-! ### lambdas without parameters, handed to a def -/
/-- what is wanted of an outcome -/
def OutR (K : PySem.W.Frag) (F H : Hp) (r : Rv) (Q : VK) (E : XK) : Prop := match r with
  | .ok d => ∀ v H' F', Ext F H F' H' → Den K F' v d → Q v H'
  | .ex c d => ∀ v da H' F', Ext F H F' H' → Den K F' v d → F' da = some (.xd [("value", v)]) → E (.ref (He.ga K c)) (some da) H'
  | .no => False
/-- a reading that comes out as r, from F and H on -/
def RdAs (K : PySem.W.Frag) (F H : Hp) (rd : XK → Hp → VK → Prop) (r : Rv) : Prop := ∀ F' H', Ext F H F' H' → ∀ Q E, OutR K F' H' r Q E → rd E H' Q
theorem RdAs.ext {K : PySem.W.Frag} {F H F' H' : Hp} {rd : XK → Hp → VK → Prop} {r : Rv} (h : RdAs K F H rd r) (e : Ext F H F' H') : RdAs K F' H' rd r := fun F2 H2 e2 => h F2 H2 (e.trans e2)
/-- the object at f is a lambda: called later, from anywhere, it reads as rd -/
structure Th (P : Program) (w : World) (K : PySem.W.Frag) (mg : Str → Option Value) (base : Heap) (k : Nat) (fs : List Addr) (h : Heap) (H : Hp) (f c' : Addr) (q : Str) (rd : XK → Hp → VK → Prop) : Prop where
  co : H c' = some (LamX.CodeO c' q)
  fn : ∀ hZ HZ, Un fs [] H HZ h hZ → PySem.W.FnAt f hZ
  run : ∀ (A : Around) (outer : List Env) (s1 : Shared) (HZ : Hp) (Q : VK) (E : XK), Room k A → A.guards = some [] → Env0 P w K mg base A outer s1 HZ → Un fs [] H HZ h s1.heap → HZ c' = some (LamX.CodeO c' q) → rd E HZ Q →
    codeAny (model P w) A (.call (.ref f) ⟨[], []⟩) (CR (L2.CX P w) outer P w HZ s1 Q E) s1
section
variable {X : Cx} {i k : Nat} {a q : Str} {f c' : Addr} {rd : XK → Hp → VK → Prop} {W : WX} {p1 p2 : Pos}
/-- x(), in the def that got the lambda -/
theorem pe_look (th : Th X.prog X.w X.K X.mg X.base k X.fs X.s_0.heap X.H_0 f c' q rd) (hex : X.ex = []) (tk : Takes X W) (room : Room k X.A) (gd : X.A.guards = some []) (hN : X.N[i]? = some a) (hv : Vis X.env.scope a)
    (hd : (a == ("__debug__" : Str)) = false := by decide) (hcd : (a == ("__classdict__" : Str)) = false := by decide) :
    PE X (.Call (.Name a p1) [] [] p2) (fun σ H Q => σ[i]? = some (some (.ref f)) ∧ H c' = some (LamX.CodeO c' q) ∧ ∃ E : XK, (∀ cls d H', E cls d H' → W cls d σ H') ∧ rd E H Q) := by
  refine ⟨fun pins s σ H Q I h => ?_⟩
  obtain ⟨hs, hc, E, hW, hr⟩ := h
  refine wpAny_Call_Name_kw (thn ((pe_var (pos := p1) (i := i) hN hv hd hcd).run pins s σ H (fun v H1 => v = .ref f ∧ H1 = H) I ⟨.ref f, hs, rfl, rfl⟩) fun u s1 ⟨v, H1, I1, r1, q1⟩ => ?_)
  obtain ⟨ev, eH⟩ := q1
  subst ev
  rw [eH] at I1
  obtain rfl : u = Value.ref f := r1
  have un : Un X.fs [] X.H_0 H X.s_0.heap s1.heap := by
    have z := I1.base
    rw [hex] at z
    exact z
  refine PySem.W.callWith_F0 (th.fn _ _ un) ?_
  refine wpAny_call (codeAny_mono (th.run X.A X.stack s1 H Q E room gd I1.env0 un hc hr) fun r s' hq => ?_)
  cases r with
  | error e => exact tk e s' (XE.of_call I1 (fun cls d H' h => hW cls d H' h) hq)
  | ok fl =>
    cases fl with
    | ret u => exact I1.after hq
    | next => exact False.elim hq
    | brk => exact False.elim hq
    | cont => exact False.elim hq
end
/-- a def whose first argument is such a lambda: what it answers, of the lambda's outcome -/
structure FnT (P : Program) (w : World) (K : PySem.W.Frag) (mg : Str → Option Value) (base : Heap) (kt k : Nat) (f : Addr) (fd : FuncData) (ps : List Str) (m : Rv → List D → Rv) : Prop where
  goes : ∀ (A : Around) (outer : List Env) (s : Shared) (H : Hp) (args : Args) (us : List Value) (vs : List V) (Q : VK) (E : XK) (fa c' : Addr) (q : Str) (rd : XK → Hp → VK → Prop) (r : Rv) (F : Hp) (ds : List D),
    Room k A → A.guards = some [] → Env0 P w K mg base A outer s H → BindsTo s fd args (ps.zip (.ref fa :: us)) → Vals vs us → vs.length + 1 = ps.length → Th P w K mg base kt (frs outer) s.heap H fa c' q rd → RdAs K F H rd r → Sub F H → DenAll K F vs ds → OutR K F H (m r ds) Q E →
    codeAny (model P w) A (.call (.ref f) args) (CR (L2.CX P w) outer P w H s Q E) s
structure CalT (P : Program) (w : World) (K : PySem.W.Frag) (mg : Str → Option Value) (base : Heap) (kt k : Nat) (x : Str) (ps : List Str) (m : Rv → List D → Rv) : Prop where
  ex : ∃ f fd, FnT P w K mg base kt k f fd ps m ∧ mg x = some (.ref f) ∧ PySem.W.keepIn K (.ref f) = true ∧ Binds K fd ps []
section
variable {P : Program} {w : World} {K : PySem.W.Frag} {mg : Str → Option Value} {base : Heap}
theorem okT {x qual : Str} {params : Arguments} {body : List Stmt} {scope : Scope} {dvs : List V} {kws : List (Str × V)} {f : Addr} {fd : FuncData} {N ps : List Str} {kt k : Nat} {m : Rv → List D → Rv} (Fd : FunD K x qual params body scope dvs kws f fd) (S : FnScope N ps scope)
    (walk : ∀ (cdv : Value) (A : Around) (outer : List Env) (s : Shared) (H : Hp) (vs : List V) (Q : VK) (E : XK) (fa c' : Addr) (q : Str) (rd : XK → Hp → VK → Prop) (r : Rv) (F : Hp) (ds : List D), Room k (A.deeper (envOfC qual scope s.heap.objs.size f cdv)) → A.guards = some [] → vs.length + 1 = ps.length →
      Th P w K mg base kt (frs outer) s.heap H fa c' q rd → RdAs K F H rd r → Sub F H → DenAll K F vs ds → OutR K F H (m r ds) Q E →
      ∃ t, PSs (cxOf (L2.CX P w) P w K mg base N qual scope f cdv A outer s H E) body t ∧ t { nx := fun _ H' => Q .non H', rt := Q } (L2.start N (.ref fa :: vs)) H) : FnT P w K mg base kt (k + 1) f fd ps m := by
  obtain ⟨oc, od, dV, kV, doc, pm, an, cdv, ct, osl, rfl, there, code, _⟩ := Fd.ex
  refine ⟨fun A outer s H args us vs Q E fa c' q rd r F ds room gd e0 bound rel len th ra sub den want => ?_⟩
  have KX : K.In s.heap := e0.mod.kin.keeps fun b o z => (e0.bs b o z).1
  have nolim : s.heap.NoLimit := e0.mod.nolimit.keeps fun b o z => (e0.bs b o z).1
  have kinds : ((ps.zip (.ref fa :: us)).all fun y => scope.names.lookup y.1 == some .local || scope.names.lookup y.1 == some .cell) = true := by
    rw [List.all_eq_true]
    intro y hy
    rcases S.par y.1 (List.of_mem_zip (a := y.1) (b := y.2) hy).1 with z | z
    · rw [z]
      rfl
    · rw [z]
      rfl
  refine Att.call_fn (binds := ps.zip (.ref fa :: us)) KX nolim there code room.depth bound kinds (fun s1 inC => ?_) S.co S.gen S.kind
  obtain ⟨t, runs, goal⟩ := walk cdv A outer s H vs Q E fa c' q rd r F ds (room.deeper _) gd len th ra sub den want
  have J := inv_start (CX := L2.CX P w) (E := E) (vs := .ref fa :: vs) S room.hd e0 len (.cons rfl rel) inC
  refine wpAny_mono (runs.run [] s1 (L2.start N (.ref fa :: vs)) H _ J goal) (fun fl s2 z => ?_) (fun e s2 z => z)
  cases fl with
  | ret u =>
    obtain ⟨v, σ2, H2, J2, r2, q2⟩ := z
    exact ⟨v, H2, J2.os, J2.bare, J2.base, J2.hok, r2, q2⟩
  | next =>
    obtain ⟨σ2, H2, J2, q2⟩ := z
    exact ⟨.non, H2, J2.os, J2.bare, J2.base, J2.hok, rfl, q2⟩
  | brk =>
    obtain ⟨_, _, _, no⟩ := z
    exact no.elim
  | cont =>
    obtain ⟨_, _, _, no⟩ := z
    exact no.elim
end
/-! ### a lambda is made: all that is told stays told -/
section
variable {X : Cx} {pins : List (Addr × Obj)} {σ : L2.St} {H : Hp} {s : Shared}
/-- the lambda's object, over the code object d -/
abbrev lamO (X : Cx) (params : Arguments) (body : Expr) (scope : Scope) (pm : Value) (d : Addr) (ct : Value) : Obj := PySem.W.kla_obj "<lambda>" (X.env.qual ++ "<lambda>") params body scope (cloFrom X.env.cells scope.names []) pm d ct
theorem lam_new {T : List (Addr × Str)} {c P : Addr} {params : Arguments} {body : Expr} {scope : Scope} {pos : Pos} {E : Value → Shared → Prop} {Q : Value → Shared → Prop} (I : Inv X pins σ H s) (tb : LamX.TabB X.base X.mg c P) (code : X.env.code = .ref c)
    (mem : (P, X.env.qual ++ "<lambda>") ∈ T) (one : ∀ p ∈ T, p.1 = P → p.2 = X.env.qual ++ "<lambda>") (tabs : LamX.Tabs T H) (dflt : defaultsOf params X.env = ([], [])) (caps : ∀ y ∈ scope.names, y.2 = .free → ∃ c, X.env.cells.lookup y.1 = some c)
    (go : ∀ (f d : Addr) (pm ct : Value) (H1 : Hp) (s1 : Shared), Inv X pins σ H1 s1 → Kept H H1 → LamX.Tabs T H1 → s1.heap.get? f = some (lamO X params body scope pm d ct) → H1 f = none → f ∉ X.env.locals :: X.fs → H1 d = some (LamX.CodeO d (X.env.qual ++ "<lambda>")) → Q (.ref f) s1) :
    wpAny (model X.prog X.w) X.A (eval (.Lambda params body scope pos) X.env) Q E s := by
  obtain ⟨ps, told, tri, known⟩ := tabs _ mem
  have lies : s.heap.get? P = some { cls := .none, data := .fields ps } := I.hok P _ told
  have away : ∀ f, s.heap.objs.size ≤ f → f ∉ X.env.locals :: X.fs := fun f ge z => by
    rcases List.mem_cons.mp z with q | q
    · have lt := I.lt
      rw [← q] at lt
      exact Nat.lt_irrefl _ (Nat.lt_of_lt_of_le lt ge)
    · exact I.nofs ge q
  refine PySem.W.kla_eval dflt ?_
  cases look : codeAmong pos ps.toList with
  | some cv =>
    obtain ⟨d, rfl, dc⟩ := known pos cv look
    refine PySem.W.kla_makeFunctionHit (mg := X.mg) (c := c) (P := P) (ps := ps) (closure_ok caps) I.ok.glob (I.mod.glob.keeps I.bk) code (tb.code.keeps I.bk) lies tri look (tb.bm.keeps I.bk) fun ct h1 tk keep size => ?_
    exact go h1.objs.size d _ ct H _ (I.kept fun b o z => Heap.get?_push_of_some _ (keep b o z)) Kept.refl tabs (Heap.get?_push_size _ rfl) (I.hok.fresh size) (away _ size) dc
  | none =>
    refine PySem.W.kla_makeFunction (mg := X.mg) (c := c) (P := P) (ps := ps) (closure_ok caps) I.ok.glob (I.mod.glob.keeps I.bk) code (tb.code.keeps I.bk) lies tri look tb.gP (tb.bm.keeps I.bk) fun d ct h1 tk keep ge lt isrec grown => ?_
    obtain ⟨_, oc, vs, t, eq, there, flds, name⟩ := isrec
    cases eq
    have nd : H d = none := I.hok.fresh ge
    have nP : P ≠ d := ne_of_none told nd
    have size : s.heap.objs.size ≤ h1.objs.size := by omega
    let put := h1.push (lamO X params body scope ((X.mg "__name__").getD .none) d ct)
    let H1 : Hp := upd (upd H P (.tbl (ps ++ #[rawInt pos.line, rawInt pos.col, .ref d]))) d (LamX.CodeO d (X.env.qual ++ "<lambda>"))
    have I1 : Inv X pins σ H1 { s with heap := put, toks := tk } := LamX.inv_table I told (fun b o ne z => Heap.get?_push_of_some _ (keep b o ne z)) (Heap.get?_push_of_some _ grown) ge ⟨oc, vs, t, Heap.get?_push_of_some _ there, flds, name⟩
    have at1 : ∀ b, b ≠ P → b ≠ d → H1 b = H b := fun b q1 q2 => (upd_ne q2).trans (upd_ne q1)
    have at2 : H1 P = some (.tbl (ps ++ #[rawInt pos.line, rawInt pos.col, .ref d])) := (upd_ne nP).trans upd_same
    have at3 : H1 d = some (LamX.CodeO d (X.env.qual ++ "<lambda>")) := upd_same
    have stays : Kept H H1 := fun b o z => by
      have q2 : b ≠ d := ne_of_none z nd
      by_cases q1 : b = P
      · subst q1
        exact ⟨_, at2, fun nt => absurd (Option.some.inj (z.symm.trans told)) (nt ps)⟩
      · exact ⟨o, (at1 b q1 q2).trans z, fun _ => rfl⟩
    have codeNT : ∀ (d : Addr) (q : Str), NoTab (LamX.CodeO d q) := fun _ _ ps => LamX.codeO_ne ps
    refine go h1.objs.size d _ ct H1 _ I1 stays (fun p hp => ?_) (Heap.get?_push_size _ rfl) ?_ (away _ size) at3
    · by_cases q1 : p.1 = P
      · rw [one p hp q1, q1]
        have app : (ps ++ #[rawInt pos.line, rawInt pos.col, .ref d]).toList = ps.toList ++ [rawInt pos.line, rawInt pos.col, .ref d] := by simp
        refine ⟨_, at2, by rw [app]; exact PySem.TriplesOk_snoc _ _ _ _ tri, fun pos2 cv among => ?_⟩
        rw [app] at among
        rcases LamX.among_app _ tri among with z | z
        · obtain ⟨d0, e0, t0⟩ := known pos2 cv z
          exact ⟨d0, e0, stays.at t0 (codeNT _ _)⟩
        · exact ⟨d, z, at3⟩
      · obtain ⟨qs, z1, z2, z3⟩ := tabs p hp
        refine ⟨qs, (at1 _ q1 (ne_of_none z1 nd)).trans z1, z2, fun pos2 cv among => ?_⟩
        obtain ⟨d0, e0, t0⟩ := z3 pos2 cv among
        exact ⟨d0, e0, stays.at t0 (codeNT _ _)⟩
    · have ltP := Heap.lt_size lies
      exact (at1 _ (Nat.ne_of_gt (Nat.lt_of_lt_of_le ltP size)) (Nat.ne_of_gt lt)).trans (I.hok.fresh size)
end
/-! ### x(lambda: body, ..) -/
def S.pure (s : S) : S := ⟨s.e.map fun x => match x with
  | some (.d d) => some (.d d)
  | _ => none, .pot ⟨0, 0, 0⟩⟩
theorem pure_get {s : S} {i : Nat} {x : LV} (h : s.pure.e[i]? = some (some x)) : ∃ d, x = .d d ∧ s.e[i]? = some (some (.d d)) := by
  unfold S.pure at h
  rw [List.getElem?_map] at h
  cases e : s.e[i]? with
  | none =>
    rw [e] at h
    cases h
  | some y =>
    rw [e] at h
    cases y with
    | none => cases h
    | some y =>
      cases y with
      | d d =>
        cases h
        exact ⟨d, rfl, rfl⟩
      | l xs => cases h
      | k ks vs => cases h
      | p => cases h
theorem pure_no {pa : Plc} {σ : L2.St} {s : S} (a : Addr) : ¬ OwnA pa σ s.pure a := by
  rintro (⟨i, h1, y, h2, h3⟩ | ⟨⟨i, h⟩, _⟩)
  · obtain ⟨d, rfl, _⟩ := pure_get h2
    cases h3
  · obtain ⟨d, q, _⟩ := pure_get h
    cases q
theorem Rep.pure {K : PySem.W.Frag} {pa : Plc} {F H : Hp} {σ : L2.St} {s : S} (rep : Rep K pa F H σ s) : Rep K ⟨0, []⟩ F H σ s.pure := by
  refine ⟨rep.sub, by rw [rep.len]; unfold S.pure; simp, fun i x h => ?_, fun i j a h1 _ => absurd (.inl ⟨i, h1⟩) (pure_no (pa := ⟨0, []⟩) (σ := σ) (s := s) a), fun h => ?_⟩
  · obtain ⟨d, rfl, e⟩ := pure_get h
    obtain ⟨v, h1, h2⟩ := rep.slot i _ e
    exact ⟨v, h1, by cases v <;> exact h2⟩
  · obtain ⟨i, h⟩ := h
    obtain ⟨d, q, _⟩ := pure_get h
    cases q
/-- what is owned is no record of another kind -/
theorem own_not_ext {K : PySem.W.Frag} {pa : Plc} {F H : Hp} {σ : L2.St} {s : S} (rep : Rep K pa F H σ s) {a : Addr} {g : Heap → Prop} (h : H a = some (.ext g)) : ¬ OwnA pa σ s a := by
  rintro (⟨i, h1, y, h2, h3⟩ | ⟨hp, ha⟩)
  · obtain ⟨v, q1, q2⟩ := rep.slot i y h2
    rw [h1] at q1
    cases q1
    cases y with
    | d d => cases h3
    | p => cases h3
    | l xs =>
      obtain ⟨_, vs, q3, _⟩ := q2
      rw [h] at q3
      cases q3
    | k ks xs =>
      obtain ⟨_, vs, q3, _⟩ := q2
      rw [h] at q3
      cases q3
  · obtain ⟨_, b, _⟩ := rep.pot hp
    cases e : s.p with
    | pot p =>
      rw [e] at b
      obtain ⟨b1, b2⟩ := b
      rcases ha with rfl | ha
      · rw [h] at b2
        cases b2
      · rw [b1] at ha
        cases ha
    | obj c ks ds =>
      rw [e] at b
      obtain ⟨b1, _, dx, vs, b2, _⟩ := b
      rcases ha with rfl | ha
      · rw [h] at b2
        cases b2
      · rw [b1] at ha
        cases ha
    | rd u ks ds ks2 ds2 =>
      rw [e] at b
      obtain ⟨_, r, q, dx, uv, vs, vs2, b1, _, _, _, b2, _, b3, _, _, b4, _⟩ := b
      rcases ha with rfl | ha
      · rw [h] at b2
        cases b2
      · rw [b1] at ha
        rcases List.mem_cons.mp ha with rfl | ha
        · rw [h] at b3
          cases b3
        · rcases List.mem_cons.mp ha with rfl | ha
          · rw [h] at b4
            cases b4
          · cases ha
/-- the lambda's outcome -/
def thO (fb : S → Rs D) (s : S) : Rv := match fb s.pure with
  | .ok d _ => .ok d
  | .ex c d _ => .ex c d
  | .no => .no
def mTh (np : Nat) (m : Rv → List D → Rv) (fb : S → Rs D) (fr : S → Rs (List D)) : S → Rs D := fun s => (fr s).bind fun ds s1 => if ds.length + 1 = np then (match m (thO fb s1) ds with
  | .ok d => .ok d s1
  | _ => .no) else .no
section
variable {X : Cx} {K : PySem.W.Frag} {pa : Plc} {W : L2.St → XK} {x : Str} {ps : List Str} {m : Rv → List D → Rv} {kt k : Nat} {c P : Addr} {params : Arguments} {body : Expr} {scope : Scope} {lpos pos p : Pos} {es : List Expr} {fb : S → Rs D} {fr : S → Rs (List D)}
theorem rd_as {F H : Hp} {σ : L2.St} {s : S} (rep : Rep K pa F H σ s) : RdAs K F H (fun E HZ Q => tV K ⟨0, []⟩ (fun _ => E) fb σ HZ Q) (thO fb s) := by
  intro F2 H2 e2 Q E want
  refine ⟨F2, s.pure, (rep.ext e2).pure, ?_⟩
  unfold thO at want
  cases q : fb s.pure with
  | no =>
    rw [q] at want
    exact want.elim
  | ok d s1 =>
    rw [q] at want
    exact fun v H3 F3 st rp dv => want v H3 F3 (st.ext (pure_no ·) rp.sub) dv
  | ex cl d s1 =>
    rw [q] at want
    exact fun H3 F3 st rp v da dv hf => want v da H3 F3 (st.ext (pure_no ·) rp.sub) dv hf
theorem pv_th {np : Nat} (ek : X.K = K) (C : CalT X.prog X.w X.K X.mg X.base (kt + 1) k x ps m) (room : Room k X.A) (gd : X.A.guards = some []) (gl : Gl X x) (tb : LamX.TabB X.base X.mg c P) (code : X.env.code = .ref c) (mem : (P, X.env.qual ++ "<lambda>") ∈ Tb.t)
    (L : LamX.LamS X.env.scope scope) (dflt : defaultsOf params X.env = ([], [])) (bind : ∀ (q : Str) (cl : List (Str × Addr)) (pm cv ct : Value), bindArgs (PySem.W.kla_fn "<lambda>" q params body scope cl pm cv ct) ⟨[], []⟩ = pure [])
    (hbody : ∀ (A : Around) (outer : List Env) (s : Shared) (H : Hp) (E : XK) (f d : Addr), Room kt (A.deeper (LamX.lamEnv X scope s.heap.objs.size f d)) → A.guards = some [] → PE (LamX.lamCx X A outer s H E scope f d) body (tV K ⟨0, []⟩ (fun _ => E) fb))
    (args : PA X es (tVA K pa W fr)) (n1 : (x == ("__debug__" : Str)) = false := by decide) (n2 : starEach (.Lambda params body scope lpos :: es) X.env = (false, eval (.Lambda params body scope lpos) X.env) :: starEach es X.env := by rfl) (n3 : (backTo pos (starEach es X.env)).any (·.1) = false := by rfl) (hnp : ps.length = np := by rfl) :
    PE X (.Call (.Name x p) (.Lambda params body scope lpos :: es) [] pos) (tV K pa W (mTh np m fb fr)) := by
  subst ek hnp
  obtain ⟨g, fd, G, hg, kp, b⟩ := C.ex
  refine ⟨fun pins s σ H Q I h => ?_⟩
  obtain ⟨F, s0, rep, h⟩ := h
  have tabs : LamX.Tabs Tb.t H := fun t ht => by
    obtain ⟨q, h1, h2, h3⟩ := (rep.sub _ _ (rep.sub.tb t ht)).resolve_left fun z => z.1 _ rfl
    rw [Tb.u t ht _ h1 rfl]
    exact h3
  refine wpAny_Call_Name_kw (ld_glob I gl hg ?_ n1)
  refine PySem.W.callWith_K (h₀ := X.base) I.ok.mod.kin kp ?_ n2 n3
  rw [n2]
  show wpAny _ _ (spliced ((false, eval (.Lambda params body scope lpos) X.env) :: backTo pos (starEach es X.env))) _ _ s
  refine Calls.spliced_cons (lam_new I tb code mem (fun t ht e => Tb.u t ht _ mem e) tabs dflt (L.has I.ok) fun f d pm ct H1 s1 I1 kept T1 hf nf away hd => ?_)
  have ext1 : Ext F H F H1 := ⟨Le.refl, ⟨fun a u hu => by
    rcases rep.sub a u hu with ⟨n, z | ⟨kv, o, z⟩⟩ | ⟨q, e0, e1, _⟩
    · exact .inl ⟨n, .inl (kept.at z n)⟩
    · exact .inl ⟨n, .inr ⟨kv, o, kept.at z fun _ z => (nomatch z)⟩⟩
    · exact .inr ⟨q, e0, e1, T1 _ e0⟩, rep.sub.tb⟩, kept, fun a ha => .inl ha⟩
  have rep1 := rep.ext ext1
  -- the lambda's object stays while the arguments are made
  have Ip : Inv X (pins ++ [(f, lamO X params body scope pm d ct)]) σ H1 s1 := I1.pins_of fun t ht => by
    rcases List.mem_append.mp ht with ht | ht
    · exact I1.pin t (List.mem_append_right _ ht)
    · rw [List.mem_singleton.mp ht]
      exact ⟨hf, nf, fun z => away (by rw [show f = X.env.locals from z]; exact .head _), fun z => away (.tail _ z), fun v z => (nomatch z)⟩
  refine thn (args.run pos (pins ++ [(f, lamO X params body scope pm d ct)]) s1 σ H1 _ Ip ⟨F, s0, rep1, (Fin.bind (Fin.shift ext1.step h))⟩) fun us s2 z => ?_
  obtain ⟨vs, H2, I2, rel, F2, t2, ds, st2, rep2, dv, h2⟩ := z
  have dv : DenAll X.K F2 vs ds := dv
  obtain ⟨hf2, nf2, _⟩ := I2.pin (f, lamO X params body scope pm d ct) (List.mem_append_right _ (List.mem_append_right _ (.head _)))
  have hf2 : s2.heap.get? f = some (lamO X params body scope pm d ct) := hf2
  have nf2 : H2 f = none := nf2
  have Iq : Inv X pins σ H2 s2 := I2.pins_of fun t ht => I2.pin t (List.mem_append_right _ (List.mem_append_left _ ht))
  have hd2 : H2 d = some (LamX.CodeO d (X.env.qual ++ "<lambda>")) := st2.at hd (own_not_ext rep1 hd) fun ps => LamX.codeO_ne ps
  have far : f ∉ frs X.stack := fun z => away (Iq.stkSub _ z)
  by_cases hl : ds.length + 1 = ps.length
  · rw [if_pos hl] at h2
    refine ⟨Iq.kIn, ?_⟩
    have bt : BindsTo s2 fd ⟨.ref f :: us, []⟩ (ps.zip (.ref f :: us)) := by
      have z := b s2 (.ref f :: us) Iq.kIn (by rw [List.append_nil, List.length_cons, ← rel.length, dv.length]; exact hl)
      rw [List.append_nil] at z
      exact z
    have th : Th X.prog X.w X.K X.mg X.base (kt + 1) (frs X.stack) s2.heap H2 f d (X.env.qual ++ "<lambda>") (fun E HZ Q => tV X.K ⟨0, []⟩ (fun _ => E) fb σ HZ Q) := by
      refine ⟨hd2, fun hZ HZ un => ⟨_, _, _, _, un.keep f _ hf2 nf2 far fun z => nomatch z⟩, fun A outer sZ HZ Q2 E room2 gd2 e0 un hc hr => ?_⟩
      have of2 := un.keep f _ hf2 nf2 far fun z => nomatch z
      obtain ⟨⟨oc, ws, t, hoc, hdc, hvc⟩, _, _⟩ := e0.hok d _ hc
      have nolim : sZ.heap.NoLimit := e0.mod.nolimit.keeps fun b o z => (e0.bs b o z).1
      refine PySem.W.kla_callFunE room2.depth of2 rfl L.co L.gen rfl ⟨d, oc, ws, t, rfl, hoc, hdc, hvc⟩ ?_
      rw [bind]
      refine wpAny_pure (wpAny_newFunctionEnv (fun y hy => (L.own y hy).2) (fun y hy => absurd hy (by simp)) (fun h3 ns3 sb3 => ⟨nolim.fresh _ sb3, ?_⟩) L.kind)
      have keep3 : ∀ b o, sZ.heap.get? b = some o → h3.get? b = some o := fun b o z => sb3.extBut b o (Nat.ne_of_lt (Heap.lt_size z)) (Heap.get?_push_of_some _ z)
      have J := LamX.lam_start2 (E := E) (f := f) (c' := d) (tk := sZ.toks + ([] : List (Str × Value)).length) Iq L e0 room2.hd un ns3 keep3
      show codeAny _ _ (.expr body (LamX.lamEnv X scope sZ.heap.objs.size f d)) _ _
      refine PySem.W.kla_codeExpr (wpAny_mono ((hbody A outer sZ HZ E f d (room2.deeper _) gd2).run [] _ σ HZ Q2 J hr) (fun v s4 hq => ?_) fun e s4 hq => hq)
      obtain ⟨v4, H4, J4, r4, q4⟩ := hq
      exact ⟨v4, H4, J4.os, J4.bare, J4.base, J4.hok, r4, q4⟩
    have want : OutR X.K F2 H2 (m (thO fb t2) ds) Q E0 := by
      cases q : m (thO fb t2) ds with
      | ok z =>
        rw [q] at h2
        exact fun v H3 F3 ext dz => h2 v H3 F3 ext.step (rep2.ext ext) dz
      | ex c z =>
        rw [q] at h2
        exact h2.elim
      | no =>
        rw [q] at h2
        exact h2.elim
    refine wpAny_call (codeAny_mono (G.goes X.A X.stack s2 H2 ⟨.ref f :: us, []⟩ us vs Q E0 f d _ _ _ F2 ds room gd Iq.env0 bt rel (by rw [dv.length]; exact hl) th (rd_as rep2) rep2.sub dv want) fun out s3 z => ?_)
    match out, z with
    | .error e, z => exact passL pins σ H2 s2 e s3 Iq z
    | .ok (.ret u), z => exact Iq.after z
    | .ok .next, z => exact z.elim
    | .ok .brk, z => exact z.elim
    | .ok .cont, z => exact z.elim
  · rw [if_neg hl] at h2
    exact h2.elim
end
/-! ### _law_told -/
def xsF (K : PySem.W.Frag) (xs : List Str) : Prop := ∀ c ∈ xs, XcK K c ∧ PySem.W.exmOne K (.ref (He.ga K c)) (.ref (He.ga K "AskedError")) = some true
theorem xsB_ok {K : PySem.W.Frag} {xs : List Str} (h : xsB K xs = true) : xsF K xs := fun c hc => by
  have z := List.all_eq_true.mp h c hc
  rw [Bool.and_eq_true] at z
  exact ⟨xcB_ok z.1, of_decide_eq_true z.2⟩
/-- told: (error, None) or (None, what it answers) -/
def mTold (xs : List Str) : Rv → List D → Rv := fun r _ => match r with
  | .ok d => .ok (.tup [.non, d])
  | .ex c d => if c ∈ xs then .ok (.tup [.exc c d, .non]) else .no
  | .no => .no
section
variable {P : Program} {w : World} {K : PySem.W.Frag} {mg : Str → Option Value} {base : Heap} {scope : Scope}
abbrev toldN : List Str := ["_law_look", "_law_caught", "_law_back", "error"]
theorem told_walk {xs : List Str} {fT : Addr} {cdv : Value} {A : Around} {outer : List Env} {s : Shared} {H : Hp} {vs : List V} {Q : VK} {E : XK} {fa c' : Addr} {q : Str} {rd : XK → Hp → VK → Prop} {r : Rv} {F : Hp} {ds : List D} {kt : Nat} {b1 b3 : Stmt} {t1 : TS} {p1 p2 p3 p4 p5 p6 p7 p8 p9 p10 : Pos}
    (room : Room kt (A.deeper (envOfC "_law_told" scope s.heap.objs.size fT cdv))) (gd : A.guards = some []) (len : vs.length + 1 = 1) (th : Th P w K mg base kt (frs outer) s.heap H fa c' q rd) (ra : RdAs K F H rd r) (sub : Sub F H) (want : OutR K F H (mTold xs r ds) Q E)
    (k0 : scope.names.lookup ("_law_look" : Str) = some .local) (k1 : scope.names.lookup ("_law_caught" : Str) = some .local) (k2 : scope.names.lookup ("_law_back" : Str) = some .local) (k3 : scope.names.lookup ("error" : Str) = some .local) (k4 : scope.names.lookup ("AskedError" : Str) = some .globalImplicit) (ga : mg "AskedError" = some (.ref (He.ga K "AskedError"))) (hx : xsF K xs)
    (h1 : PS (cxOf (L2.CX P w) P w K mg base toldN "_law_told" scope fT cdv A outer s H E) b1 t1) (w1 : ∀ D : Ends, (∀ p, H p = none → D.nx [some (.ref fa), some .non, some .non, none] (upd H p (.tup [.non, .non]))) → t1 D [some (.ref fa), none, none, none] H)
    (h3 : PS (cxOf (L2.CX P w) P w K mg base toldN "_law_told" scope fT cdv A outer s H E) b3 (tS K ⟨0, []⟩ W0 (sRet (mTup (mCons (mVar 1) (mCons (mVar 2) mNil)))))) :
    ∃ t, PSs (cxOf (L2.CX P w) P w K mg base toldN "_law_told" scope fT cdv A outer s H E) [b1, .Try [.Assign [.Name "_law_back" p1] (.Call (.Name "_law_look" p2) [] [] p3) p4] [.ExceptHandler (some (.Name "AskedError" p5)) (some "error") [.Assign [.Name "_law_caught" p6] (.Name "error" p7) p8] p9] [] [] p10, b3] t ∧ t { nx := fun _ H' => Q .non H', rt := Q } (L2.start toldN (.ref fa :: vs)) H := by
  have nd : toldN.Nodup := by decide
  match vs, len with
  | [], _ =>
  refine ⟨_, pss_cons h1 (pss_cons (ps_try_keep (i := 3) rfl rfl rfl nd rfl k3 ⟨k4, by decide, .inl ga⟩ (fun W pn xe tk _ => pss_one (ps_set (i := 2) nd rfl (.inl k2) (pe_look (i := 0) (k := kt) th rfl tk room gd rfl (.inl k0)))) (fun a pn => pss_one (ps_set (i := 1) nd rfl (.inl k1) (pe_var (i := 3) rfl (.inl k3)) (by rfl) (.inr k1)))) (pss_one h3)), ?_⟩
  show t1 _ [some (.ref fa), none, none, none] H
  refine w1 _ fun p np => ?_
  have e1 : Ext F H F (upd H p (.tup [.non, .non])) := Ext.fresh sub np
  generalize upd H p (HO.tup [.non, .non]) = H1 at e1
  have co1 : H1 c' = some (LamX.CodeO c' q) := e1.same.at th.co fun ps => LamX.codeO_ne ps
  -- the end: both are told
  have fin : ∀ (F2 H2 : Hp) (a b : V) (x y : D), Ext F H1 F2 H2 → Den K F2 a x → Den K F2 b y → mTold xs r ds = .ok (.tup [x, y]) →
      (tS K ⟨0, []⟩ W0 (sRet (mTup (mCons (mVar 1) (mCons (mVar 2) mNil))))) { nx := fun _ H' => Q .non H', rt := Q } [some (.ref fa), some a, some b, none] H2 := by
    intro F2 H2 a b x y e2 da db er
    rw [er] at want
    have no : ∀ z, ¬ OwnA (⟨0, []⟩ : Plc) [some (.ref fa), some a, some b, none] ⟨[none, some (.d x), some (.d y), none], .pot ⟨0, 0, 0⟩⟩ z := by
      rintro z (⟨i, h1, u, h2, h3⟩ | ⟨⟨i, h⟩, _⟩)
      · match i, h2 with
        | 1, h2 =>
          cases h2
          cases h3
        | 2, h2 =>
          cases h2
          cases h3
        | 3, h2 => cases h2
        | i + 4, h2 => cases h2
      · match i, h with
        | i + 4, h => cases h
    refine ⟨F2, ⟨[none, some (.d x), some (.d y), none], .pot ⟨0, 0, 0⟩⟩, ⟨e2.sub, rfl, fun i u hu => ?_, fun i j z h1 _ => absurd (.inl ⟨i, h1⟩) (no z), fun h => ?_⟩, ?_⟩
    · match i, hu with
      | 1, hu =>
        cases hu
        exact ⟨a, rfl, by cases a <;> exact da⟩
      | 2, hu =>
        cases hu
        exact ⟨b, rfl, by cases b <;> exact db⟩
      | 3, hu => cases hu
      | i + 4, hu => cases hu
    · obtain ⟨i, h⟩ := h
      match i, h with
      | i + 4, h => cases h
    · show ∀ σ' v H' F', _ → _ → _ → _
      exact fun σ' v H' F' st rp dv => want v H' F' ((e1.trans e2).trans (st.ext no rp.sub)) dv
  refine ⟨rfl, co1, (fun cls d H' => wKp K (.ref (He.ga K "AskedError")) 3 _ _ cls d [some (.ref fa), some .non, some .non, none] H'), fun _ _ _ z => z, ra F H1 e1 _ _ ?_⟩
  cases r with
  | no => exact want.elim
  | ok d => exact fun v H2 F2 e2 dv => fin F2 H2 .non v .non d e2 .non dv rfl
  | ex c d =>
    have want2 := want
    unfold mTold at want2
    by_cases hc : c ∈ xs
    · intro v da H2 F2 e2 dv hf
      obtain ⟨xc, xm⟩ := hx c hc
      refine ⟨xm, _, da, _, rfl, rfl, e2.sub.at hf (fun _ z => nomatch z), fun a na => ?_⟩
      have e3 : Ext F2 H2 (upd F2 a (exO a (He.ga K c) da)) (upd H2 a (exO a (He.ga K c) da)) := Ext.laid e2.sub na fun _ z => by cases z
      refine ⟨.ref a, rfl, ?_⟩
      exact fin _ _ (.ref a) .non (.exc c d) .non (e2.trans e3) (.exc xc upd_same (e3.le _ _ hf) (dv.mono e3.le)) .non (if_pos hc)
    · have want2 : OutR K F H (if c ∈ xs then Rv.ok (.tup [.exc c d, .non]) else .no) Q E := want2
      rw [if_neg hc] at want2
      exact want2.elim
end
/-! ### defs that make lambdas -/
section
variable {P : Program} {w : World} {K : PySem.W.Frag} {mg : Str → Option Value} {base : Heap}
/-- the def's code object, by its name -/
abbrev lamC (K : PySem.W.Frag) (x : Str) : Addr := (He.cT K (x, none)).1
abbrev lamP (K : PySem.W.Frag) (x : Str) : Addr := (He.cT K (x, none)).2
/-- how its lambdas are called -/
abbrev lamQ (x : Str) : Str := (x ++ ".<locals>.") ++ "<lambda>"
theorem okGL {x : Str} {params : Arguments} {body : List Stmt} {scope : Scope} {dvs : List V} {kws : List (Str × V)} {fd : FuncData} {N ps : List Str} {k : Nat} {sp : Sp} (Fd : FunD K x x params body scope dvs kws (He.ga K x) fd) (S : FnScope N ps scope) (many : ∀ vs H Q E, sp vs H Q E → vs.length = ps.length)
    (walk : ∀ (A : Around) (outer : List Env) (s : Shared) (H : Hp) (vs : List V) (Q : VK) (E : XK), Room k (A.deeper (envOfC x scope s.heap.objs.size (He.ga K x) (.ref (lamC K x)))) → A.guards = some [] → sp vs H Q E →
      ∃ t, PSs (cxOf (L2.CX P w) P w K mg base N x scope (He.ga K x) (.ref (lamC K x)) A outer s H E) body t ∧ t { nx := fun _ H' => Q .non H', rt := Q } (L2.start N vs) H) : FnG P w K mg base (k + 1) (He.ga K x) fd ps sp := by
  obtain ⟨oc, od, dV, kV, doc, pm, an, cdv, ct, osl, rfl, there, code, _⟩ := Fd.ex
  obtain ⟨c, rfl⟩ := He.codeIn_ref code
  have ec : lamC K x = c := He.codeOf_eq (p := (x, none)) there rfl
  refine ⟨many, fun A outer s H args us vs Q E room gd e0 bound rel want => ?_⟩
  have KX : K.In s.heap := e0.mod.kin.keeps fun b o z => (e0.bs b o z).1
  have nolim : s.heap.NoLimit := e0.mod.nolimit.keeps fun b o z => (e0.bs b o z).1
  have kinds : ((ps.zip us).all fun y => scope.names.lookup y.1 == some .local || scope.names.lookup y.1 == some .cell) = true := by
    rw [List.all_eq_true]
    intro y hy
    rcases S.par y.1 (List.of_mem_zip (a := y.1) (b := y.2) hy).1 with z | z
    · rw [z]
      rfl
    · rw [z]
      rfl
  refine Att.call_fn (binds := ps.zip us) KX nolim there code room.depth bound kinds (fun s1 inC => ?_) S.co S.gen S.kind
  have room2 : Room k (A.deeper (envOfC x scope s.heap.objs.size (He.ga K x) (.ref (lamC K x)))) := room.deeper _
  obtain ⟨t, runs, goal⟩ := walk A outer s H vs Q E room2 gd want
  rw [ec] at runs
  have J := inv_start (CX := L2.CX P w) (E := E) S room.hd e0 (many _ _ _ _ want) rel inC
  refine wpAny_mono (runs.run [] s1 (L2.start N vs) H _ J goal) (fun fl s2 z => ?_) (fun e s2 z => z)
  cases fl with
  | ret u =>
    obtain ⟨v, σ2, H2, J2, r2, q2⟩ := z
    exact ⟨v, H2, J2.os, J2.bare, J2.base, J2.hok, r2, q2⟩
  | next =>
    obtain ⟨σ2, H2, J2, q2⟩ := z
    exact ⟨.non, H2, J2.os, J2.bare, J2.base, J2.hok, rfl, q2⟩
  | brk =>
    obtain ⟨_, _, _, no⟩ := z
    exact no.elim
  | cont =>
    obtain ⟨_, _, _, no⟩ := z
    exact no.elim
end

/-! ### a lambda handed on -/
theorem un_less {fs : List Addr} {L : Addr} {H H' : Hp} {h h' : Heap} (u : Un (L :: fs) [] H H' h h') (n : h.get? L = none) : Un fs [] H H' h h' :=
  ⟨fun b o e q hb hx => u.keep b o e q (fun z => (List.mem_cons.mp z).elim (fun z => by rw [z, n] at e; cases e) hb) hx, fun b o e q hb hx => u.slot b o e q (.tail _ hb) hx, u.free, u.there, u.tups, u.frzs, u.tbls⟩
section
variable {X : Cx} {i k k2 : Nat} {a q x : Str} {f c' : Addr} {rd : XK → Hp → VK → Prop} {W : WX} {p1 p2 : Pos}
/-- told of the frames of X's own callees -/
theorem Th.on {pins : List (Addr × Obj)} {σ : L2.St} {H : Hp} {s : Shared} (th : Th X.prog X.w X.K X.mg X.base k X.fs X.s_0.heap X.H_0 f c' q rd) (hex : X.ex = []) (I : Inv X pins σ H s) (hc : H c' = some (LamX.CodeO c' q)) :
    Th X.prog X.w X.K X.mg X.base k (frs X.stack) s.heap H f c' q rd := by
  have un1 : Un X.fs [] X.H_0 H X.s_0.heap s.heap := by
    have z := I.base
    rw [hex] at z
    exact z
  have n0 : X.s_0.heap.get? X.env.locals = none := by
    cases e : X.s_0.heap.get? X.env.locals with
    | none => rfl
    | some o => exact absurd (Nat.lt_of_lt_of_le (Heap.lt_size e) I.ok.above) (Nat.lt_irrefl _)
  have join : ∀ {hZ : Heap} {HZ : Hp}, Un (frs X.stack) [] H HZ s.heap hZ → Un X.fs [] X.H_0 HZ X.s_0.heap hZ := fun {hZ HZ} u =>
    un_less ((un1.mono (fun b hb => List.mem_cons_of_mem _ hb) fun _ z => z).trans (u.mono (fun b hb => I.stkSub b hb) fun _ z => z)) n0
  exact ⟨hc, fun hZ HZ u => th.fn hZ HZ (join u), fun A outer s1 HZ Q E room gd e0 u hcZ hr => th.run A outer s1 HZ Q E room gd e0 (join u) hcZ hr⟩
/-- y(x), x the lambda that the def got -/
theorem pe_hand {ps : List Str} {m : Rv → List D → Rv} {r : Rv} {y : Str} (th : Th X.prog X.w X.K X.mg X.base k X.fs X.s_0.heap X.H_0 f c' q rd) (hex : X.ex = []) (C : CalT X.prog X.w X.K X.mg X.base k k2 y ps m) (one : ps.length = 1) (room : Room k2 X.A) (gd : X.A.guards = some []) (gl : Gl X y)
    (hN : X.N[i]? = some a) (hv : Vis X.env.scope a) (hd : (a == ("__debug__" : Str)) = false := by decide) (hcd : (a == ("__classdict__" : Str)) = false := by decide)
    (n1 : (y == ("__debug__" : Str)) = false := by decide) (n2 : starEach [.Name a p1] X.env = (false, eval (.Name a p1) X.env) :: starEach [] X.env := by rfl) {p3 : Pos} :
    PE X (.Call (.Name y p2) [.Name a p1] [] p3) (fun σ H Q => σ[i]? = some (some (.ref f)) ∧ H c' = some (LamX.CodeO c' q) ∧ ∃ F, Sub F H ∧ RdAs X.K F H rd r ∧ OutR X.K F H (m r []) Q E0) := by
  obtain ⟨g, fd, G, hg, kp, b⟩ := C.ex
  refine ⟨fun pins s σ H Q I h => ?_⟩
  obtain ⟨hs, hc, F, sub, ra, want⟩ := h
  refine wpAny_Call_Name_kw (ld_glob I gl hg ?_ n1)
  refine PySem.W.callWith_K (h₀ := X.base) I.ok.mod.kin kp ?_ n2 (by rfl)
  rw [n2]
  show wpAny _ _ (spliced ((false, eval (.Name a p1) X.env) :: backTo p3 (starEach [] X.env))) _ _ s
  refine Calls.spliced_cons (thn ((pe_var (pos := p1) (i := i) hN hv hd hcd).run pins s σ H (fun v H1 => v = .ref f ∧ H1 = H) I ⟨.ref f, hs, rfl, rfl⟩) fun u s1 ⟨v, H1, I1, r1, q1⟩ => ?_)
  obtain ⟨ev, eH⟩ := q1
  subst ev
  rw [eH] at I1
  obtain rfl : u = Value.ref f := r1
  refine Calls.spliced_nil ⟨I1.kIn, ?_⟩
  have bt : BindsTo s1 fd ⟨[.ref f], []⟩ (ps.zip [.ref f]) := by
    have z := b s1 [.ref f] I1.kIn (by rw [List.append_nil, one]; rfl)
    rw [List.append_nil] at z
    exact z
  refine wpAny_call (codeAny_mono (G.goes X.A X.stack s1 H ⟨[.ref f], []⟩ [] [] Q E0 f c' q rd r F [] room gd I1.env0 bt .nil (by rw [one]; rfl) (th.on hex I1 hc) ra sub .nil want) fun out s3 z => ?_)
  match out, z with
  | .error e, z => exact passL pins σ H s1 e s3 I1 z
  | .ok (.ret u), z => exact I1.after z
  | .ok .next, z => exact z.elim
  | .ok .brk, z => exact z.elim
  | .ok .cont, z => exact z.elim
end

/-! ### a def that got a lambda and hands it to _law_told in its first statement -/
def mTl (xs : List Str) (r : Rv) : S → Rs D := fun s => match mTold xs r [] with
  | .ok d => .ok d s
  | _ => .no
structure HandC (K : PySem.W.Frag) (rd : XK → Hp → VK → Prop) (c' : Addr) (q : Str) (f : Addr) (r : Rv) (F : Hp) (σ : L2.St) (H : Hp) : Prop where
  sl : σ[0]? = some (some (.ref f))
  co : H c' = some (LamX.CodeO c' q)
  ra : RdAs K F H rd r
def tHd (C : Hp → L2.St → Hp → Prop) (K : PySem.W.Frag) (pa : Plc) (W : L2.St → XK) (g : S → Rs D) : TE := fun σ H Q => ∃ F, C F σ H ∧ ∃ s, Rep K pa F H σ s ∧ Fin (dV K) K pa W F H σ s (g s) Q
def tHs (C : Hp → L2.St → Hp → Prop) (K : PySem.W.Frag) (pa : Plc) (W : L2.St → XK) (g : S → Ro) : TS := fun E σ H => ∃ F, C F σ H ∧ ∃ s, Rep K pa F H σ s ∧ FinS K pa W F H σ s (g s) E
section
variable {X : Cx} {K : PySem.W.Frag} {pa : Plc} {W : L2.St → XK} {k k2 : Nat} {a q y : Str} {f c' : Addr} {rd : XK → Hp → VK → Prop} {p1 p2 p3 pos : Pos} {C : Hp → L2.St → Hp → Prop} {tg e e2 : Expr} {st : Stmt} {rest : List Stmt} {g fb : S → Rs D}
theorem hd_call {xs : List Str} {ps : List Str} {r : Rv} (ek : X.K = K) (th : Th X.prog X.w X.K X.mg X.base k X.fs X.s_0.heap X.H_0 f c' q rd) (hex : X.ex = []) (Ct : CalT X.prog X.w X.K X.mg X.base k k2 y ps (mTold xs)) (one : ps.length = 1) (room : Room k2 X.A) (gd : X.A.guards = some []) (gl : Gl X y)
    (hN : X.N[0]? = some a) (hv : Vis X.env.scope a) (hd : (a == ("__debug__" : Str)) = false := by decide) (hcd : (a == ("__classdict__" : Str)) = false := by decide)
    (n1 : (y == ("__debug__" : Str)) = false := by decide) (n2 : starEach [.Name a p1] X.env = (false, eval (.Name a p1) X.env) :: starEach [] X.env := by rfl) :
    PE X (.Call (.Name y p2) [.Name a p1] [] p3) (tHd (HandC K rd c' q f r) K pa W (mTl xs r)) := by
  subst ek
  refine (pe_hand (r := r) (i := 0) th hex Ct one room gd gl hN hv hd hcd n1 n2).mono ?_
  rintro σ H Q ⟨F, ⟨sl, co, ra⟩, s, rep, h⟩
  refine ⟨sl, co, F, rep.sub, ra, ?_⟩
  unfold mTl at h
  cases z : mTold xs r [] with
  | ok d =>
    rw [z] at h
    exact fun v H' F' ext dv => h v H' F' ext.step (rep.ext ext) dv
  | ex c d =>
    rw [z] at h
    exact h.elim
  | no =>
    rw [z] at h
    exact h.elim
theorem hd_ix {r : R2} {go : D → D → Option D} (ho : IxR X r) (l : LiftOp K r go) (ha : PE X e (tHd C K pa W g)) (hb : PE X e2 (tV K pa W fb)) (hs : PlainIx e2) : PE X (.Subscript e e2 pos) (tHd C K pa W (mOp go g fb)) := by
  refine (pe_ix ho ha hb hs).mono ?_
  rintro σ H Q ⟨F, c, s, rep, h⟩
  refine ⟨F, c, s, rep, (Fin.bind h).mono ?_⟩
  rintro v H1 ⟨F1, s1, x, st1, rep1, dv, h1⟩
  refine ⟨F1, s1, rep1, (Fin.bind h1).mono ?_⟩
  rintro w H2 ⟨F2, s2, y, st2, rep2, dw, h2⟩
  obtain ⟨z, e, o⟩ := h2.lift rep2
  exact l F2 H2 v w x y z Q rep2.sub (Den.mono st2.le dv) dw e o
theorem hd_asg {is : List Nat} {b : D → S → Option S} (he : PE X e (tHd C K pa W g)) (hg : PG X tg (tGt K pa is b)) (hs : swapsWithSole [tg] e pos.line X.env = pure false := by rfl) (hw : swappedStores [tg] e X.env = pure none := by rfl)
    (h1 : (assignEach [tg] X.env).map (·.2) = [assign tg X.env] := by rfl) : PS X (.Assign [tg] e pos) (tHs C K pa W (sAsg b g)) := by
  refine (ps_asg he hg hs hw h1).mono ?_
  rintro E σ H ⟨F, c, s, rep, h⟩
  refine ⟨F, c, s, rep, (FinS.st h).mono ?_⟩
  rintro v H1 ⟨F1, s1, x, st1, rep1, dv, h1⟩
  cases q : b x s1 with
  | none =>
    rw [q] at h1
    exact h1.elim
  | some s2 =>
    rw [q] at h1
    exact ⟨F1, s1, x, s2, rep1, dv, q, fun σ' st rp _ => h1 _ _ _ st rp⟩
theorem hd_seq {g1 g2 : S → Ro} (h1 : PS X st (tHs C K pa W g1)) (h2 : PSs X rest (tS K pa W g2)) : PSs X (st :: rest) (tHs C K pa W (sSeq g1 g2)) := by
  refine (pss_cons h1 h2).mono ?_
  rintro E σ H ⟨F, c, s, rep, h⟩
  exact ⟨F, c, s, rep, FinS.seq h⟩
end
def mHand (np n : Nat) (g : Rv → S → Ro) : Rv → List D → Rv := fun r ds => if ds.length + 1 = np then (match g r (initN n ds) with
  | .rt d _ => .ok d
  | .nx _ => .ok .non
  | _ => .no) else .no
theorem hand_body {K : PySem.W.Frag} {C : Hp → L2.St → Hp → Prop} {F H : Hp} {N : List Str} {np : Nat} {g : Rv → S → Ro} {vs : List V} {ds : List D} {r : Rv} {f : Addr} {Q : VK} {E : XK} (sub : Sub F H) (rel : DenAll K F vs ds) (c : C F (L2.start N (.ref f :: vs)) H) (h : OutR K F H (mHand np N.length g r ds) Q E) :
    tHs C K ⟨0, []⟩ W0 (g r) { nx := fun _ H' => Q .non H', rt := Q } (L2.start N (.ref f :: vs)) H := by
  unfold mHand at h
  by_cases hl : ds.length + 1 = np
  · rw [if_pos hl] at h
    refine ⟨F, c, _, Rep.initN sub rel, ?_⟩
    cases e : g r (initN N.length ds) with
    | nx s' =>
      rw [e] at h
      exact fun σ' H' F' st rp => h .non H' F' (st.ext (fun a => initN_no) rp.sub) .non
    | rt d s' =>
      rw [e] at h
      exact fun σ' v H' F' st rp dv => h v H' F' (st.ext (fun a => initN_no) rp.sub) dv
    | bk s' =>
      rw [e] at h
      exact h.elim
    | ct s' =>
      rw [e] at h
      exact h.elim
    | ex c v s' =>
      rw [e] at h
      exact h.elim
    | no =>
      rw [e] at h
      exact h.elim
  · rw [if_neg hl] at h
    exact h.elim

end Ak
namespace Ak
open PySem PySem.Spec PyProof.Rows L2
variable [Tb]
abbrev FnP (K : PySem.W.Frag) (x : Str) (st : Stmt) (f : Addr) (fd : FuncData) : Prop := FunD K x x (defArgs st) (defBody st) (defScope st) [] [] f fd
structure Txt (P : Program) (K : PySem.W.Frag) (mg : Str → Option Value) (base : Heap) : Prop where
  d_is_integer : ∃ fd, FnP K "is_integer" s_is_integer (He.ga K "is_integer") fd
  g_is_integer : mg "is_integer" = some (.ref (He.ga K "is_integer"))
  d_is_between : ∃ fd, FnP K "is_between" s_is_between (He.ga K "is_between") fd
  g_is_between : mg "is_between" = some (.ref (He.ga K "is_between"))
  d_is_tuple : ∃ fd, FnP K "is_tuple" s_is_tuple (He.ga K "is_tuple") fd
  g_is_tuple : mg "is_tuple" = some (.ref (He.ga K "is_tuple"))
  d_is_word : ∃ fd, FnP K "is_word" s_is_word (He.ga K "is_word") fd
  g_is_word : mg "is_word" = some (.ref (He.ga K "is_word"))
  d_divisor_of : ∃ fd, FnP K "divisor_of" s_divisor_of (He.ga K "divisor_of") fd
  g_divisor_of : mg "divisor_of" = some (.ref (He.ga K "divisor_of"))
  d_fraction : ∃ fd, FnP K "fraction" s_fraction (He.ga K "fraction") fd
  g_fraction : mg "fraction" = some (.ref (He.ga K "fraction"))
  d_is_units : ∃ fd, FnP K "is_units" s_is_units (He.ga K "is_units") fd
  g_is_units : mg "is_units" = some (.ref (He.ga K "is_units"))
  d_check_units : ∃ fd, FnP K "check_units" s_check_units (He.ga K "check_units") fd
  g_check_units : mg "check_units" = some (.ref (He.ga K "check_units"))
  d_is_share : ∃ fd, FnP K "is_share" s_is_share (He.ga K "is_share") fd
  g_is_share : mg "is_share" = some (.ref (He.ga K "is_share"))
  d_check_share : ∃ fd, FnP K "check_share" s_check_share (He.ga K "check_share") fd
  g_check_share : mg "check_share" = some (.ref (He.ga K "check_share"))
  d_rounded : ∃ fd, FnP K "rounded" s_rounded (He.ga K "rounded") fd
  g_rounded : mg "rounded" = some (.ref (He.ga K "rounded"))
  d_shown : ∃ fd, FnP K "shown" s_shown (He.ga K "shown") fd
  g_shown : mg "shown" = some (.ref (He.ga K "shown"))
  d_halves : ∃ fd, FnP K "halves" s_halves (He.ga K "halves") fd
  g_halves : mg "halves" = some (.ref (He.ga K "halves"))
  d_stretch : ∃ fd, FnP K "stretch" s_stretch (He.ga K "stretch") fd
  g_stretch : mg "stretch" = some (.ref (He.ga K "stretch"))
  d_l_pot : ∃ fd, FnP K "_law_pot" s_l_pot (He.ga K "_law_pot") fd
  g_l_pot : mg "_law_pot" = some (.ref (He.ga K "_law_pot"))
  d_l_take : ∃ fd, FnP K "_law_take" s_l_take (He.ga K "_law_take") fd
  g_l_take : mg "_law_take" = some (.ref (He.ga K "_law_take"))
  d_l_of : ∃ fd, FnP K "_law_of" s_l_of (He.ga K "_law_of") fd
  g_l_of : mg "_law_of" = some (.ref (He.ga K "_law_of"))
  d_l_cells : ∃ fd, FnP K "_law_cells" s_l_cells (He.ga K "_law_cells") fd
  g_l_cells : mg "_law_cells" = some (.ref (He.ga K "_law_cells"))
  d_l_units : ∃ fd, FnP K "_law_units" s_l_units (He.ga K "_law_units") fd
  g_l_units : mg "_law_units" = some (.ref (He.ga K "_law_units"))
  d_l_is_int : ∃ fd, FnP K "_law_is_int" s_l_is_int (He.ga K "_law_is_int") fd
  g_l_is_int : mg "_law_is_int" = some (.ref (He.ga K "_law_is_int"))
  d_l_told : ∃ fd, FnP K "_law_told" s_l_told (He.ga K "_law_told") fd
  g_l_told : mg "_law_told" = some (.ref (He.ga K "_law_told"))
  d_l_odd : ∃ fd, FnP K "_law_odd" s_l_odd (He.ga K "_law_odd") fd
  g_l_odd : mg "_law_odd" = some (.ref (He.ga K "_law_odd"))
  d_l_bent : ∃ fd, FnP K "_law_bent" s_l_bent (He.ga K "_law_bent") fd
  g_l_bent : mg "_law_bent" = some (.ref (He.ga K "_law_bent"))
  d_l_is_units : ∃ fd, FnP K "_law_is_units" s_l_is_units (He.ga K "_law_is_units") fd
  g_l_is_units : mg "_law_is_units" = some (.ref (He.ga K "_law_is_units"))
  d_l_is_due : ∃ fd, FnP K "_law_is_due" s_l_is_due (He.ga K "_law_is_due") fd
  g_l_is_due : mg "_law_is_due" = some (.ref (He.ga K "_law_is_due"))
  d_l_shown_due : ∃ fd, FnP K "_law_shown_due" s_l_shown_due (He.ga K "_law_shown_due") fd
  g_l_shown_due : mg "_law_shown_due" = some (.ref (He.ga K "_law_shown_due"))
  d_l_stretch_due : ∃ fd, FnP K "_law_stretch_due" s_l_stretch_due (He.ga K "_law_stretch_due") fd
  g_l_stretch_due : mg "_law_stretch_due" = some (.ref (He.ga K "_law_stretch_due"))
  d_l_right : ∃ fd, FnP K "_law_right" s_l_right (He.ga K "_law_right") fd
  g_l_right : mg "_law_right" = some (.ref (He.ga K "_law_right"))
  d_law : ∃ fd, FnP K "law" s_law (He.ga K "law") fd
  g_law : mg "law" = some (.ref (He.ga K "law"))
  g_AskedError : mg "AskedError" = some (.ref (He.ga K "AskedError"))
  x_AskedError : XcK K "AskedError"
  y_AskedError : IsxC K "AskedError" xsL
  g_BadUnits : mg "BadUnits" = some (.ref (He.ga K "BadUnits"))
  x_BadUnits : XcK K "BadUnits"
  y_BadUnits : IsxC K "BadUnits" xsL
  g_BadCount : mg "BadCount" = some (.ref (He.ga K "BadCount"))
  x_BadCount : XcK K "BadCount"
  y_BadCount : IsxC K "BadCount" xsL
  g_BadShare : mg "BadShare" = some (.ref (He.ga K "BadShare"))
  x_BadShare : XcK K "BadShare"
  y_BadShare : IsxC K "BadShare" xsL
  xm : xsF K xsL
  yv : isvB K xsL = true
  sys : ∃ o : Obj, K.lookup sysModules = some o ∧ o.cls = .type "dict"
  xi : XinK P K (xD K) (xF K) (xCode K) (xCell K) (defArgs s_AskedError___init__) (defBody s_AskedError___init__) (defScope s_AskedError___init__)
  top : (P.main.scope.names.lookup ("super" : Str)).isSome = false
  c_PAIR : ∃ t, mg "PAIR" = some (.int 2 t)
  c_NEAR : ∃ t, mg "NEAR" = some (.str "near" t)
  c_EVEN : ∃ t, mg "EVEN" = some (.str "even" t)
  c_DOWN : ∃ t, mg "DOWN" = some (.str "down" t)
  c_UP : ∃ t, mg "UP" = some (.str "up" t)
  c_HOWS : mg "HOWS" = some (.ref (He.ga K "HOWS"))
  t_HOWS : ∀ H, SqT K H (He.ga K "HOWS") [(.str "near"), (.str "even"), (.str "down"), (.str "up")]
  c_NONE : ∃ t, mg "NONE" = some (.str "none" t)
  c_SOME : ∃ t, mg "SOME" = some (.str "some" t)
  c_LEAST_UNITS : ∃ t, mg "LEAST_UNITS" = some (.int 2 t)
  c_MOST_UNITS : ∃ t, mg "MOST_UNITS" = some (.int 100 t)
  z_abs : mg "abs" = none
  z_all : mg "all" = none
  z_bool : mg "bool" = none
  z_divmod : mg "divmod" = none
  z_int : mg "int" = none
  z_isinstance : mg "isinstance" = none
  z_len : mg "len" = none
  z_list : mg "list" = none
  z_max : mg "max" = none
  z_min : mg "min" = none
  z_range : mg "range" = none
  z_repr : mg "repr" = none
  z_str : mg "str" = none
  z_super : mg "super" = none
  z_tuple : mg "tuple" = none
  tb_l_right : LamX.TabB base mg (lamC K "_law_right") (lamP K "_law_right")
  tm_l_right : (lamP K "_law_right", lamQ "_law_right") ∈ Tb.t
theorem X_i {P : Program} {w : World} {K : PySem.W.Frag} {mg : Str → Option Value} {base : Heap} (T : Txt P K mg base) : XiF P w K mg base :=
  ⟨G_xi (k := 2) (p0 := ⟨5, 8, 5, 13⟩) (p1 := ⟨5, 8, 5, 15⟩) (p2 := ⟨5, 8, 5, 24⟩) (p3 := ⟨5, 25, 5, 29⟩) (p4 := ⟨5, 30, 5, 35⟩) (p5 := ⟨5, 25, 5, 36⟩) (p6 := ⟨5, 8, 5, 37⟩) (p7 := ⟨5, 8, 5, 37⟩) (p8 := ⟨6, 8, 6, 12⟩) (p9 := ⟨6, 8, 6, 18⟩) (p10 := ⟨6, 21, 6, 26⟩) (p11 := ⟨6, 8, 6, 26⟩) T.xi ⟨rfl, rfl, rfl, rfl, rfl, rfl, rfl, rfl, by decide +kernel, by decide +kernel⟩ T.z_super T.z_repr T.top (fun _ => rfl) ⟨_, rfl, rfl⟩ fun _ _ _ _ _ _ _ => rfl, T.sys⟩
end Ak
namespace Ak
open PySem PySem.Spec PyProof.Rows L2
variable [Tb]
def g_is_integer : S → Ro := (sRet (mAnd (mUn (isiD "int") (mVar 0)) (mNot (mUn (isiD "bool") (mVar 0)))))
def m_is_integer : List D → Rv := mDef 1 1 g_is_integer
section
variable {P : Program} {w : World} {K : PySem.W.Frag} {mg : Str → Option Value} {base : Heap}
theorem C_is_integer (T : Txt P K mg base) : Cal P w K mg base 1 "is_integer" ["value"] (spV K m_is_integer) := by
  obtain ⟨fd, F⟩ := T.d_is_integer
  refine ⟨_, fd, okG F sc_is_integer (fun vs H Q E h => spV_len h) (fun cdv A outer s H vs Q E hr hgd h => ?_), T.g_is_integer, F.kp, (F.bindsN fun _ _ _ _ _ _ us hl => match us, hl with | [_], _ => rfl)⟩
  exact ⟨tS K ⟨0, []⟩ W0 g_is_integer, PSs.nox (qs_one (q_ret (pv_and (pv_isi (K := K) (T := "") (x := "") rfl (by decide) (by rfl) T.z_isinstance (pv_var (pv 0)) (pe_bltn (v := .ty "int") (u := .type "int") (by rfl) T.z_int (by decide +kernel) rfl)) (pe_one (pv_not (pv_isi (K := K) (T := "") (x := "") rfl (by decide) (by rfl) T.z_isinstance (pv_var (pv 0)) (pe_bltn (v := .ty "bool") (u := .type "bool") (by rfl) T.z_bool (by decide +kernel) rfl))))))), spV_body h⟩
end
def g_is_between : S → Ro := (sRet (mAnd (mCal m_is_integer (mCons (mVar 0) mNil)) (mChain leD leD (mVar 1) (mVar 0) (mVar 2))))
def m_is_between : List D → Rv := mDef 3 3 g_is_between
section
variable {P : Program} {w : World} {K : PySem.W.Frag} {mg : Str → Option Value} {base : Heap}
theorem C_is_between (T : Txt P K mg base) : Cal P w K mg base 2 "is_between" ["value", "low", "high"] (spV K m_is_between) := by
  have C_is_integer := C_is_integer (P := P) (w := w) (base := base) T
  obtain ⟨fd, F⟩ := T.d_is_between
  refine ⟨_, fd, okG F sc_is_between (fun vs H Q E h => spV_len h) (fun cdv A outer s H vs Q E hr hgd h => ?_), T.g_is_between, F.kp, (F.bindsN fun _ _ _ _ _ _ us hl => match us, hl with | [_, _, _], _ => rfl)⟩
  exact ⟨tS K ⟨0, []⟩ W0 g_is_between, PSs.nox (qs_one (q_ret (pv_and (pv_cal C_is_integer (hr.mono (by decide)) hgd (by rfl) (qa_cons (pv_var (pv 0)) qa_nil)) (pe_one (pv_chain o_le l_le o_le l_le (pv_var (pv 1)) (pv_var (pv 0)) (pv_var (pv 2))))))), spV_body h⟩
end
def g_is_tuple : S → Ro := (sRet (mAnd (mUn (isiD "tuple") (mVar 0)) (mChain leD leD (mVar 1) (mCB lenD (mCons (mVar 0) mNil)) (mVar 2))))
def m_is_tuple : List D → Rv := mDef 3 3 g_is_tuple
section
variable {P : Program} {w : World} {K : PySem.W.Frag} {mg : Str → Option Value} {base : Heap}
theorem C_is_tuple (T : Txt P K mg base) : Cal P w K mg base 1 "is_tuple" ["value", "least", "most"] (spV K m_is_tuple) := by
  obtain ⟨fd, F⟩ := T.d_is_tuple
  refine ⟨_, fd, okG F sc_is_tuple (fun vs H Q E h => spV_len h) (fun cdv A outer s H vs Q E hr hgd h => ?_), T.g_is_tuple, F.kp, (F.bindsN fun _ _ _ _ _ _ us hl => match us, hl with | [_, _, _], _ => rfl)⟩
  exact ⟨tS K ⟨0, []⟩ W0 g_is_tuple, PSs.nox (qs_one (q_ret (pv_and (pv_isi (K := K) (T := "") (x := "") rfl (by decide) (by rfl) T.z_isinstance (pv_var (pv 0)) (pe_bltn (v := .ty "tuple") (u := .type "tuple") (by rfl) T.z_tuple (by decide +kernel) rfl)) (pe_one (pv_chain o_le l_le o_le l_le (pv_var (pv 1)) (pv_callB (c_lenAll (K := K) rfl) l_len (by rfl) T.z_len (by decide +kernel) (qa_cons (pv_var (pv 0)) qa_nil)) (pv_var (pv 2))))))), spV_body h⟩
end
def g_is_word : S → Ro := (sRet (mAnd (mUn (isiD "str") (mVar 0)) (mOp inD (mVar 0) (mVar 1))))
def m_is_word : List D → Rv := mDef 2 2 g_is_word
section
variable {P : Program} {w : World} {K : PySem.W.Frag} {mg : Str → Option Value} {base : Heap}
theorem C_is_word (T : Txt P K mg base) : Cal P w K mg base 1 "is_word" ["value", "words"] (spV K m_is_word) := by
  obtain ⟨fd, F⟩ := T.d_is_word
  refine ⟨_, fd, okG F sc_is_word (fun vs H Q E h => spV_len h) (fun cdv A outer s H vs Q E hr hgd h => ?_), T.g_is_word, F.kp, (F.bindsN fun _ _ _ _ _ _ us hl => match us, hl with | [_, _], _ => rfl)⟩
  exact ⟨tS K ⟨0, []⟩ W0 g_is_word, PSs.nox (qs_one (q_ret (pv_and (pv_isi (K := K) (T := "") (x := "") rfl (by decide) (by rfl) T.z_isinstance (pv_var (pv 0)) (pe_bltn (v := .ty "str") (u := .type "str") (by rfl) T.z_str (by decide +kernel) rfl)) (pe_one (pv_cmp (o_inAll (K := K) rfl) l_in (pv_var (pv 0)) (pv_var (pv 1)) (by rfl)))))), spV_body h⟩
end
def g_divisor_of : S → Ro := (sSeq (sSet 1 (mC (.int 0)))
    (sSeq (sFor (mIter iterD (mVar 0)) (bName 2)
    (sSeq (sSet 3 (mCB absD (mCons (mVar 2) mNil)))
    (whileL (mTest (mOp gtD (mVar 3) (mC (.int 0)))) (sPar 1 3 (mCons (mVar 3) (mCons (mOp modD (mVar 1) (mVar 3)) mNil))) 10000)))
    (sRet (mVar 1))))
def m_divisor_of : List D → Rv := mDef 1 4 g_divisor_of
section
variable {P : Program} {w : World} {K : PySem.W.Frag} {mg : Str → Option Value} {base : Heap}
theorem C_divisor_of (T : Txt P K mg base) : Cal P w K mg base 1 "divisor_of" ["numbers"] (spV K m_divisor_of) := by
  obtain ⟨fd, F⟩ := T.d_divisor_of
  refine ⟨_, fd, okG F sc_divisor_of (fun vs H Q E h => spV_len h) (fun cdv A outer s H vs Q E hr hgd h => ?_), T.g_divisor_of, F.kp, (F.bindsN fun _ _ _ _ _ _ us hl => match us, hl with | [_], _ => rfl)⟩
  exact ⟨tS K ⟨0, []⟩ W0 g_divisor_of, PSs.nox (qs_cons (q_set (ps_set (i := 1) sc_divisor_of.nd rfl (.inl rfl) v_int))
    (qs_cons (q_for PassesOwn.never rfl (qi_any (K := K) rfl (pv_var (pv 0))) (qg_name (i := 2) sc_divisor_of.nd rfl (.inl rfl))
    (qs_cons (q_set (ps_set (i := 3) sc_divisor_of.nd rfl (.inl rfl) (pv_callB c_abs l_abs (by rfl) T.z_abs (by decide +kernel) (qa_cons (pv_var (pv 2)) qa_nil))))
    (qs_one (q_while (n := 10000) PassesOwn.never (qt_cmp o_gt l_gt (pv_var (pv 3)) v_int (nomark _)) (qs_one (q_par (ps_par (i := 1) (j := 3) (by rfl) sc_divisor_of.nd rfl rfl (by decide) rfl rfl (qa_cons (pv_var (pv 3)) (qa_cons (pv_op o_mod l_mod (pv_var (pv 1)) (pv_var (pv 3))) qa_nil)) (by rfl))))))))
    (qs_one (q_ret (pv_var (pv 1)))))), spV_body h⟩
end
def g_fraction : S → Ro := (sSeq (sSet 2 (mCal m_divisor_of (mCons (mLst (mCons (mVar 0) (mCons (mVar 1) mNil))) mNil)))
    (sRet (mTup (mCons (mOp fdivD (mVar 0) (mVar 2)) (mCons (mOp fdivD (mVar 1) (mVar 2)) mNil)))))
def m_fraction : List D → Rv := mDef 2 3 g_fraction
section
variable {P : Program} {w : World} {K : PySem.W.Frag} {mg : Str → Option Value} {base : Heap}
theorem C_fraction (T : Txt P K mg base) : Cal P w K mg base 2 "fraction" ["above", "under"] (spV K m_fraction) := by
  have C_divisor_of := C_divisor_of (P := P) (w := w) (base := base) T
  obtain ⟨fd, F⟩ := T.d_fraction
  refine ⟨_, fd, okG F sc_fraction (fun vs H Q E h => spV_len h) (fun cdv A outer s H vs Q E hr hgd h => ?_), T.g_fraction, F.kp, (F.bindsN fun _ _ _ _ _ _ us hl => match us, hl with | [_, _], _ => rfl)⟩
  exact ⟨tS K ⟨0, []⟩ W0 g_fraction, PSs.nox (qs_cons (q_set (ps_set (i := 2) sc_fraction.nd rfl (.inl rfl) (pv_cal C_divisor_of (hr.mono (by decide)) hgd (by rfl) (qa_cons (pv_lst (qa_cons (pv_var (pv 0)) (qa_cons (pv_var (pv 1)) qa_nil))) qa_nil))))
    (qs_one (q_ret (pv_tup (qa_cons (pv_op o_fdiv l_fdiv (pv_var (pv 0)) (pv_var (pv 2))) (qa_cons (pv_op o_fdiv l_fdiv (pv_var (pv 1)) (pv_var (pv 2))) qa_nil)))))), spV_body h⟩
end
def g_is_units : S → Ro := (sRet (mAnd (mCal m_is_tuple (mCons (mVar 0) (mCons (mC (.int 2)) (mCons (mC (.int 2)) mNil)))) (mAnd (mCal m_is_between (mCons (mOp ixD (mVar 0) (mC (.int 0))) (mCons (mC (.int 2)) (mCons (mC (.int 100)) mNil)))) (mCal m_is_word (mCons (mOp ixD (mVar 0) (mC (.int 1))) (mCons (mC (.tup [(.str "near"), (.str "even"), (.str "down"), (.str "up")])) mNil))))))
def m_is_units : List D → Rv := mDef 1 1 g_is_units
section
variable {P : Program} {w : World} {K : PySem.W.Frag} {mg : Str → Option Value} {base : Heap}
theorem C_is_units (T : Txt P K mg base) : Cal P w K mg base 3 "is_units" ["value"] (spV K m_is_units) := by
  have C_is_between := C_is_between (P := P) (w := w) (base := base) T
  have C_is_tuple := C_is_tuple (P := P) (w := w) (base := base) T
  have C_is_word := C_is_word (P := P) (w := w) (base := base) T
  obtain ⟨fd, F⟩ := T.d_is_units
  refine ⟨_, fd, okG F sc_is_units (fun vs H Q E h => spV_len h) (fun cdv A outer s H vs Q E hr hgd h => ?_), T.g_is_units, F.kp, (F.bindsN fun _ _ _ _ _ _ us hl => match us, hl with | [_], _ => rfl)⟩
  exact ⟨tS K ⟨0, []⟩ W0 g_is_units, PSs.nox (qs_one (q_ret (pv_and (pv_cal C_is_tuple (hr.mono (by decide)) hgd (by rfl) (qa_cons (pv_var (pv 0)) (qa_cons (pv_c (pe_ci T.c_PAIR rfl) (fun _ => .int _)) (qa_cons (pv_c (pe_ci T.c_PAIR rfl) (fun _ => .int _)) qa_nil)))) (pv_and (pv_cal C_is_between (hr.mono (by decide)) hgd (by rfl) (qa_cons (pv_ix (x_ix (K := K) rfl) l_ix (pv_var (pv 0)) v_int (fun _ _ => rfl)) (qa_cons (pv_c (pe_ci T.c_LEAST_UNITS rfl) (fun _ => .int _)) (qa_cons (pv_c (pe_ci T.c_MOST_UNITS rfl) (fun _ => .int _)) qa_nil)))) (pe_one (pv_cal C_is_word (hr.mono (by decide)) hgd (by rfl) (qa_cons (pv_ix (x_ix (K := K) rfl) l_ix (pv_var (pv 0)) v_int (fun _ _ => rfl)) (qa_cons (pv_c (pe_glob (v := .ref (He.ga K "HOWS")) rfl T.c_HOWS rfl) (fun _ => .tup (.inr T.t_HOWS) (.cons (.str _) (.cons (.str _) (.cons (.str _) (.cons (.str _) .nil)))))) qa_nil)))))))), spV_body h⟩
end
def g_check_units : S → Ro := (sIf (mNotT (mTest (mCal m_is_units (mCons (mVar 0) mNil)))) (sXc "BadUnits" (mVar 0)) sNil)
def m_check_units : List D → Rv := mDefX 1 1 g_check_units
section
variable {P : Program} {w : World} {K : PySem.W.Frag} {mg : Str → Option Value} {base : Heap}
theorem C_check_units (T : Txt P K mg base) : Cal P w K mg base 5 "check_units" ["value"] (spV K m_check_units) := by
  have XI := X_i (w := w) (base := base) T
  have C_is_units := C_is_units (P := P) (w := w) (base := base) T
  obtain ⟨fd, F⟩ := T.d_check_units
  refine ⟨_, fd, okG F sc_check_units (fun vs H Q E h => spX_len h) (fun cdv A outer s H vs Q E hr hgd h => ?_), T.g_check_units, F.kp, (F.bindsN fun _ _ _ _ _ _ us hl => match us, hl with | [_], _ => rfl)⟩
  exact ⟨tS K ⟨0, []⟩ (fun _ => E) g_check_units, (qs_one (q_if (qt_not (qt_val (pv_cal C_is_units (hr.mono (by decide)) hgd (by rfl) (qa_cons (pv_var (pv 0)) qa_nil)))) (qs_one (q_raise rfl rfl (L2.takes_of rfl rfl rfl rfl) XI T.x_BadUnits (hr.mono (by decide)) hgd (by rfl) T.g_BadUnits (pv_var (pv 0)))) qs_nil)), spX_body h⟩
end
def g_is_share : S → Ro := (sRet (mOr (mCal m_is_word (mCons (mVar 1) (mCons (mTup (mCons (mC (.str "none")) (mCons (mC (.str "some")) mNil))) mNil))) (mCal m_is_between (mCons (mVar 1) (mCons (mC (.int 0)) (mCons (mOp ixD (mVar 0) (mC (.int 0))) mNil))))))
def m_is_share : List D → Rv := mDef 2 2 g_is_share
section
variable {P : Program} {w : World} {K : PySem.W.Frag} {mg : Str → Option Value} {base : Heap}
theorem C_is_share (T : Txt P K mg base) : Cal P w K mg base 3 "is_share" ["units", "value"] (spV K m_is_share) := by
  have C_is_between := C_is_between (P := P) (w := w) (base := base) T
  have C_is_word := C_is_word (P := P) (w := w) (base := base) T
  obtain ⟨fd, F⟩ := T.d_is_share
  refine ⟨_, fd, okG F sc_is_share (fun vs H Q E h => spV_len h) (fun cdv A outer s H vs Q E hr hgd h => ?_), T.g_is_share, F.kp, (F.bindsN fun _ _ _ _ _ _ us hl => match us, hl with | [_, _], _ => rfl)⟩
  exact ⟨tS K ⟨0, []⟩ W0 g_is_share, PSs.nox (qs_one (q_ret (pv_or (pv_cal C_is_word (hr.mono (by decide)) hgd (by rfl) (qa_cons (pv_var (pv 1)) (qa_cons (pv_tup (qa_cons (pv_c (pe_cs T.c_NONE rfl) (fun _ => .str _)) (qa_cons (pv_c (pe_cs T.c_SOME rfl) (fun _ => .str _)) qa_nil))) qa_nil))) (pe_one (pv_cal C_is_between (hr.mono (by decide)) hgd (by rfl) (qa_cons (pv_var (pv 1)) (qa_cons v_int (qa_cons (pv_ix (x_ix (K := K) rfl) l_ix (pv_var (pv 0)) v_int (fun _ _ => rfl)) qa_nil)))))))), spV_body h⟩
end
def g_check_share : S → Ro := (sIf (mNotT (mTest (mCal m_is_share (mCons (mVar 0) (mCons (mVar 1) mNil))))) (sXc "BadShare" (mVar 1)) sNil)
def m_check_share : List D → Rv := mDefX 2 2 g_check_share
section
variable {P : Program} {w : World} {K : PySem.W.Frag} {mg : Str → Option Value} {base : Heap}
theorem C_check_share (T : Txt P K mg base) : Cal P w K mg base 5 "check_share" ["units", "value"] (spV K m_check_share) := by
  have XI := X_i (w := w) (base := base) T
  have C_is_share := C_is_share (P := P) (w := w) (base := base) T
  obtain ⟨fd, F⟩ := T.d_check_share
  refine ⟨_, fd, okG F sc_check_share (fun vs H Q E h => spX_len h) (fun cdv A outer s H vs Q E hr hgd h => ?_), T.g_check_share, F.kp, (F.bindsN fun _ _ _ _ _ _ us hl => match us, hl with | [_, _], _ => rfl)⟩
  exact ⟨tS K ⟨0, []⟩ (fun _ => E) g_check_share, (qs_one (q_if (qt_not (qt_val (pv_cal C_is_share (hr.mono (by decide)) hgd (by rfl) (qa_cons (pv_var (pv 0)) (qa_cons (pv_var (pv 1)) qa_nil))))) (qs_one (q_raise rfl rfl (L2.takes_of rfl rfl rfl rfl) XI T.x_BadShare (hr.mono (by decide)) hgd (by rfl) T.g_BadShare (pv_var (pv 1)))) qs_nil)), spX_body h⟩
end
def g_rounded : S → Ro := (sSeq (sAsg (bTup 2 (bCons (bName 3) (bCons (bName 4) bNil))) (mCB divmodD (mCons (mVar 1) (mCons (mVar 2) mNil))))
    (sSeq (sIf (mOrT (mTest (mOp eqD (mVar 0) (mC (.str "down")))) (mTest (mOp eqD (mVar 4) (mC (.int 0))))) (sRet (mVar 3)) sNil)
    (sSeq (sIf (mTest (mOp eqD (mVar 0) (mC (.str "up")))) (sRet (mOp addD (mVar 3) (mC (.int 1)))) sNil)
    (sSeq (sIf (mTest (mOp neD (mOp mulD (mC (.int 2)) (mVar 4)) (mVar 2))) (sRet (mOp addD (mVar 3) (mCB intD (mCons (mOp gtD (mOp mulD (mC (.int 2)) (mVar 4)) (mVar 2)) mNil)))) sNil)
    (sRet (mIf (mTest (mOp eqD (mVar 0) (mC (.str "near")))) (mOp addD (mVar 3) (mC (.int 1))) (mOp addD (mVar 3) (mOp modD (mVar 3) (mC (.int 2))))))))))
def m_rounded : List D → Rv := mDef 3 5 g_rounded
section
variable {P : Program} {w : World} {K : PySem.W.Frag} {mg : Str → Option Value} {base : Heap}
theorem C_rounded (T : Txt P K mg base) : Cal P w K mg base 1 "rounded" ["how", "above", "under"] (spV K m_rounded) := by
  obtain ⟨fd, F⟩ := T.d_rounded
  refine ⟨_, fd, okG F sc_rounded (fun vs H Q E h => spV_len h) (fun cdv A outer s H vs Q E hr hgd h => ?_), T.g_rounded, F.kp, (F.bindsN fun _ _ _ _ _ _ us hl => match us, hl with | [_, _, _], _ => rfl)⟩
  exact ⟨tS K ⟨0, []⟩ W0 g_rounded, PSs.nox (qs_cons (q_asg (pv_callB c_divmod l_divmod (by rfl) T.z_divmod (by decide +kernel) (qa_cons (pv_var (pv 1)) (qa_cons (pv_var (pv 2)) qa_nil))) (qg_tup (K := K) (n := 2) rfl rfl (qgs_cons (qg_name (i := 3) sc_rounded.nd rfl (.inl rfl)) (qgs_cons (qg_name (i := 4) sc_rounded.nd rfl (.inl rfl)) qgs_nil))))
    (qs_cons (q_if (PW.pt (qw_or (qt_cmp (x_eqD (K := K) rfl hr.units) l_eq (pv_var (pv 0)) (pv_c (pe_cs T.c_DOWN rfl) (fun _ => .str _)) (nomark _)) (qw_or1 (qt_cmp (x_eqD (K := K) rfl hr.units) l_eq (pv_var (pv 4)) v_int (nomark _))))) (qs_one (q_ret (pv_var (pv 3)))) qs_nil)
    (qs_cons (q_if (qt_cmp (x_eqD (K := K) rfl hr.units) l_eq (pv_var (pv 0)) (pv_c (pe_cs T.c_UP rfl) (fun _ => .str _)) (nomark _)) (qs_one (q_ret (pv_op (o_addAll (K := K) rfl) l_add (pv_var (pv 3)) v_int))) qs_nil)
    (qs_cons (q_if (qt_cmp (x_neD (K := K) rfl hr.units) l_ne (pv_op (o_mulAll (K := K) rfl) l_mul v_int (pv_var (pv 4))) (pv_var (pv 2)) (nomark _)) (qs_one (q_ret (pv_op (o_addAll (K := K) rfl) l_add (pv_var (pv 3)) (pv_callTy c_intAll l_int (by rfl) T.z_int (by decide +kernel) (qa_cons (pv_cmp o_gt l_gt (pv_op (o_mulAll (K := K) rfl) l_mul v_int (pv_var (pv 4))) (pv_var (pv 2)) (nomark _)) qa_nil))))) qs_nil)
    (qs_one (q_ret (pv_if (qt_cmp (x_eqD (K := K) rfl hr.units) l_eq (pv_var (pv 0)) (pv_c (pe_cs T.c_NEAR rfl) (fun _ => .str _)) (nomark _)) (pv_op (o_addAll (K := K) rfl) l_add (pv_var (pv 3)) v_int) (pv_op (o_addAll (K := K) rfl) l_add (pv_var (pv 3)) (pv_op o_mod l_mod (pv_var (pv 3)) v_int))))))))), spV_body h⟩
end
def g_shown : S → Ro := (sSeq (sDrop (mCalX m_check_units (mCons (mVar 0) mNil)))
    (sSeq (sIf (mOrT (mNotT (mTest (mCal m_is_integer (mCons (mVar 2) mNil)))) (mTest (mOp ltD (mVar 2) (mC (.int 1))))) (sXc "BadCount" (mVar 2)) sNil)
    (sSeq (sIf (mNotT (mTest (mCal m_is_between (mCons (mVar 1) (mCons (mC (.int 0)) (mCons (mVar 2) mNil)))))) (sXc "BadCount" (mVar 1)) sNil)
    (sRet (mCal m_rounded (mCons (mOp ixD (mVar 0) (mC (.int 1))) (mCons (mOp mulD (mOp ixD (mVar 0) (mC (.int 0))) (mVar 1)) (mCons (mVar 2) mNil))))))))
def m_shown : List D → Rv := mDefX 3 3 g_shown
section
variable {P : Program} {w : World} {K : PySem.W.Frag} {mg : Str → Option Value} {base : Heap}
theorem C_shown (T : Txt P K mg base) : Cal P w K mg base 6 "shown" ["units", "many", "whole"] (spV K m_shown) := by
  have XI := X_i (w := w) (base := base) T
  have C_check_units := C_check_units (P := P) (w := w) (base := base) T
  have C_is_between := C_is_between (P := P) (w := w) (base := base) T
  have C_is_integer := C_is_integer (P := P) (w := w) (base := base) T
  have C_rounded := C_rounded (P := P) (w := w) (base := base) T
  obtain ⟨fd, F⟩ := T.d_shown
  refine ⟨_, fd, okG F sc_shown (fun vs H Q E h => spX_len h) (fun cdv A outer s H vs Q E hr hgd h => ?_), T.g_shown, F.kp, (F.bindsN fun _ _ _ _ _ _ us hl => match us, hl with | [_, _, _], _ => rfl)⟩
  exact ⟨tS K ⟨0, []⟩ (fun _ => E) g_shown, (qs_cons (q_expr (pv_calX (L2.takes_of rfl rfl rfl rfl) C_check_units (hr.mono (by decide)) hgd (by rfl) (qa_cons (pv_var (pv 0)) qa_nil)))
    (qs_cons (q_if (PW.pt (qw_or (qt_not (qt_val (pv_cal C_is_integer (hr.mono (by decide)) hgd (by rfl) (qa_cons (pv_var (pv 2)) qa_nil)))) (qw_or1 (qt_cmp o_lt l_lt (pv_var (pv 2)) v_int (nomark _))))) (qs_one (q_raise rfl rfl (L2.takes_of rfl rfl rfl rfl) XI T.x_BadCount (hr.mono (by decide)) hgd (by rfl) T.g_BadCount (pv_var (pv 2)))) qs_nil)
    (qs_cons (q_if (qt_not (qt_val (pv_cal C_is_between (hr.mono (by decide)) hgd (by rfl) (qa_cons (pv_var (pv 1)) (qa_cons v_int (qa_cons (pv_var (pv 2)) qa_nil)))))) (qs_one (q_raise rfl rfl (L2.takes_of rfl rfl rfl rfl) XI T.x_BadCount (hr.mono (by decide)) hgd (by rfl) T.g_BadCount (pv_var (pv 1)))) qs_nil)
    (qs_one (q_ret (pv_cal C_rounded (hr.mono (by decide)) hgd (by rfl) (qa_cons (pv_ix (x_ix (K := K) rfl) l_ix (pv_var (pv 0)) v_int (fun _ _ => rfl)) (qa_cons (pv_op (o_mulAll (K := K) rfl) l_mul (pv_ix (x_ix (K := K) rfl) l_ix (pv_var (pv 0)) v_int (fun _ _ => rfl)) (pv_var (pv 1))) (qa_cons (pv_var (pv 2)) qa_nil))))))))), spX_body h⟩
end
def g_halves : S → Ro := (sSeq (sIf (mTest (mOp eqD (mVar 0) (mC (.str "down")))) (sRet (mTup (mCons (mOp mulD (mC (.int 2)) (mVar 1)) (mCons (mC (.bl true)) (mCons (mOp addD (mOp mulD (mC (.int 2)) (mVar 1)) (mC (.int 2))) (mCons (mC (.bl false)) mNil)))))) sNil)
    (sSeq (sIf (mTest (mOp eqD (mVar 0) (mC (.str "up")))) (sRet (mTup (mCons (mOp subD (mOp mulD (mC (.int 2)) (mVar 1)) (mC (.int 2))) (mCons (mC (.bl false)) (mCons (mOp mulD (mC (.int 2)) (mVar 1)) (mCons (mC (.bl true)) mNil)))))) sNil)
    (sSeq (sSet 2 (mOp eqD (mOp modD (mVar 1) (mC (.int 2))) (mC (.int 0))))
    (sRet (mTup (mCons (mOp subD (mOp mulD (mC (.int 2)) (mVar 1)) (mC (.int 1))) (mCons (mOr (mOp eqD (mVar 0) (mC (.str "near"))) (mVar 2)) (mCons (mOp addD (mOp mulD (mC (.int 2)) (mVar 1)) (mC (.int 1))) (mCons (mAnd (mOp eqD (mVar 0) (mC (.str "even"))) (mVar 2)) mNil)))))))))
def m_halves : List D → Rv := mDef 2 3 g_halves
section
variable {P : Program} {w : World} {K : PySem.W.Frag} {mg : Str → Option Value} {base : Heap}
theorem C_halves (T : Txt P K mg base) : Cal P w K mg base 1 "halves" ["how", "share"] (spV K m_halves) := by
  obtain ⟨fd, F⟩ := T.d_halves
  refine ⟨_, fd, okG F sc_halves (fun vs H Q E h => spV_len h) (fun cdv A outer s H vs Q E hr hgd h => ?_), T.g_halves, F.kp, (F.bindsN fun _ _ _ _ _ _ us hl => match us, hl with | [_, _], _ => rfl)⟩
  exact ⟨tS K ⟨0, []⟩ W0 g_halves, PSs.nox (qs_cons (q_if (qt_cmp (x_eqD (K := K) rfl hr.units) l_eq (pv_var (pv 0)) (pv_c (pe_cs T.c_DOWN rfl) (fun _ => .str _)) (nomark _)) (qs_one (q_ret (pv_tup (qa_cons (pv_op (o_mulAll (K := K) rfl) l_mul v_int (pv_var (pv 1))) (qa_cons v_bl (qa_cons (pv_op (o_addAll (K := K) rfl) l_add (pv_op (o_mulAll (K := K) rfl) l_mul v_int (pv_var (pv 1))) v_int) (qa_cons v_bl qa_nil))))))) qs_nil)
    (qs_cons (q_if (qt_cmp (x_eqD (K := K) rfl hr.units) l_eq (pv_var (pv 0)) (pv_c (pe_cs T.c_UP rfl) (fun _ => .str _)) (nomark _)) (qs_one (q_ret (pv_tup (qa_cons (pv_op o_sub l_sub (pv_op (o_mulAll (K := K) rfl) l_mul v_int (pv_var (pv 1))) v_int) (qa_cons v_bl (qa_cons (pv_op (o_mulAll (K := K) rfl) l_mul v_int (pv_var (pv 1))) (qa_cons v_bl qa_nil))))))) qs_nil)
    (qs_cons (q_set (ps_set (i := 2) sc_halves.nd rfl (.inl rfl) (pv_cmp (x_eqD (K := K) rfl hr.units) l_eq (pv_op o_mod l_mod (pv_var (pv 1)) v_int) v_int (nomark _))))
    (qs_one (q_ret (pv_tup (qa_cons (pv_op o_sub l_sub (pv_op (o_mulAll (K := K) rfl) l_mul v_int (pv_var (pv 1))) v_int) (qa_cons (pv_or (pv_cmp (x_eqD (K := K) rfl hr.units) l_eq (pv_var (pv 0)) (pv_c (pe_cs T.c_NEAR rfl) (fun _ => .str _)) (nomark _)) (pe_one (pv_var (pv 2)))) (qa_cons (pv_op (o_addAll (K := K) rfl) l_add (pv_op (o_mulAll (K := K) rfl) l_mul v_int (pv_var (pv 1))) v_int) (qa_cons (pv_and (pv_cmp (x_eqD (K := K) rfl hr.units) l_eq (pv_var (pv 0)) (pv_c (pe_cs T.c_EVEN rfl) (fun _ => .str _)) (nomark _)) (pe_one (pv_var (pv 2)))) qa_nil)))))))))), spV_body h⟩
end
def g_stretch : S → Ro := (sSeq (sDrop (mCalX m_check_units (mCons (mVar 0) mNil)))
    (sSeq (sDrop (mCalX m_check_share (mCons (mVar 0) (mCons (mVar 1) mNil))))
    (sSeq (sAsg (bTup 2 (bCons (bName 2) (bCons (bName 3) bNil))) (mVar 0))
    (sSeq (sIf (mTest (mOp eqD (mVar 1) (mC (.str "none")))) (sRet (mTup (mCons (mTup (mCons (mC (.int 0)) (mCons (mC (.int 1)) mNil))) (mCons (mC (.bl true)) (mCons (mTup (mCons (mC (.int 0)) (mCons (mC (.int 1)) mNil))) (mCons (mC (.bl true)) mNil)))))) sNil)
    (sSeq (sIf (mTest (mOp eqD (mVar 1) (mC (.str "some")))) (sRet (mTup (mCons (mTup (mCons (mC (.int 0)) (mCons (mC (.int 1)) mNil))) (mCons (mC (.bl false)) (mCons (mTup (mCons (mC (.int 1)) (mCons (mVar 2) mNil))) (mCons (mC (.bl false)) mNil)))))) sNil)
    (sSeq (sAsg (bTup 4 (bCons (bName 4) (bCons (bName 5) (bCons (bName 6) (bCons (bName 7) bNil))))) (mCal m_halves (mCons (mVar 3) (mCons (mVar 1) mNil))))
    (sSeq (sIf (mTest (mOp ltD (mVar 4) (mC (.int 0)))) (sAsg (bTup 2 (bCons (bName 4) (bCons (bName 5) bNil))) (mTup (mCons (mC (.int 0)) (mCons (mC (.bl true)) mNil)))) sNil)
    (sSeq (sIf (mTest (mOp gtD (mVar 6) (mOp mulD (mC (.int 2)) (mVar 2)))) (sPar 6 7 (mCons (mOp mulD (mC (.int 2)) (mVar 2)) (mCons (mC (.bl true)) mNil))) sNil)
    (sRet (mTup (mCons (mCal m_fraction (mCons (mVar 4) (mCons (mOp mulD (mC (.int 2)) (mVar 2)) mNil))) (mCons (mVar 5) (mCons (mCal m_fraction (mCons (mVar 6) (mCons (mOp mulD (mC (.int 2)) (mVar 2)) mNil))) (mCons (mVar 7) mNil))))))))))))))
def m_stretch : List D → Rv := mDefX 2 8 g_stretch
section
variable {P : Program} {w : World} {K : PySem.W.Frag} {mg : Str → Option Value} {base : Heap}
theorem C_stretch (T : Txt P K mg base) : Cal P w K mg base 6 "stretch" ["units", "share"] (spV K m_stretch) := by
  have C_check_share := C_check_share (P := P) (w := w) (base := base) T
  have C_check_units := C_check_units (P := P) (w := w) (base := base) T
  have C_fraction := C_fraction (P := P) (w := w) (base := base) T
  have C_halves := C_halves (P := P) (w := w) (base := base) T
  obtain ⟨fd, F⟩ := T.d_stretch
  refine ⟨_, fd, okG F sc_stretch (fun vs H Q E h => spX_len h) (fun cdv A outer s H vs Q E hr hgd h => ?_), T.g_stretch, F.kp, (F.bindsN fun _ _ _ _ _ _ us hl => match us, hl with | [_, _], _ => rfl)⟩
  exact ⟨tS K ⟨0, []⟩ (fun _ => E) g_stretch, (qs_cons (q_expr (pv_calX (L2.takes_of rfl rfl rfl rfl) C_check_units (hr.mono (by decide)) hgd (by rfl) (qa_cons (pv_var (pv 0)) qa_nil)))
    (qs_cons (q_expr (pv_calX (L2.takes_of rfl rfl rfl rfl) C_check_share (hr.mono (by decide)) hgd (by rfl) (qa_cons (pv_var (pv 0)) (qa_cons (pv_var (pv 1)) qa_nil))))
    (qs_cons (q_asg (pv_var (pv 0)) (qg_tup (K := K) (n := 2) rfl rfl (qgs_cons (qg_name (i := 2) sc_stretch.nd rfl (.inl rfl)) (qgs_cons (qg_name (i := 3) sc_stretch.nd rfl (.inl rfl)) qgs_nil))))
    (qs_cons (q_if (qt_cmp (x_eqD (K := K) rfl hr.units) l_eq (pv_var (pv 1)) (pv_c (pe_cs T.c_NONE rfl) (fun _ => .str _)) (nomark _)) (qs_one (q_ret (pv_tup (qa_cons (pv_tup (qa_cons v_int (qa_cons v_int qa_nil))) (qa_cons v_bl (qa_cons (pv_tup (qa_cons v_int (qa_cons v_int qa_nil))) (qa_cons v_bl qa_nil))))))) qs_nil)
    (qs_cons (q_if (qt_cmp (x_eqD (K := K) rfl hr.units) l_eq (pv_var (pv 1)) (pv_c (pe_cs T.c_SOME rfl) (fun _ => .str _)) (nomark _)) (qs_one (q_ret (pv_tup (qa_cons (pv_tup (qa_cons v_int (qa_cons v_int qa_nil))) (qa_cons v_bl (qa_cons (pv_tup (qa_cons v_int (qa_cons (pv_var (pv 2)) qa_nil))) (qa_cons v_bl qa_nil))))))) qs_nil)
    (qs_cons (q_asg (pv_cal C_halves (hr.mono (by decide)) hgd (by rfl) (qa_cons (pv_var (pv 3)) (qa_cons (pv_var (pv 1)) qa_nil))) (qg_tup (K := K) (n := 4) rfl rfl (qgs_cons (qg_name (i := 4) sc_stretch.nd rfl (.inl rfl)) (qgs_cons (qg_name (i := 5) sc_stretch.nd rfl (.inl rfl)) (qgs_cons (qg_name (i := 6) sc_stretch.nd rfl (.inl rfl)) (qgs_cons (qg_name (i := 7) sc_stretch.nd rfl (.inl rfl)) qgs_nil))))))
    (qs_cons (q_if (qt_cmp o_lt l_lt (pv_var (pv 4)) v_int (nomark _)) (qs_one (q_asg (pv_tup (qa_cons v_int (qa_cons v_bl qa_nil))) (qg_tup (K := K) (n := 2) rfl rfl (qgs_cons (qg_name (i := 4) sc_stretch.nd rfl (.inl rfl)) (qgs_cons (qg_name (i := 5) sc_stretch.nd rfl (.inl rfl)) qgs_nil))))) qs_nil)
    (qs_cons (q_if (qt_cmp o_gt l_gt (pv_var (pv 6)) (pv_op (o_mulAll (K := K) rfl) l_mul v_int (pv_var (pv 2))) (nomark _)) (qs_one (q_par (ps_par (i := 6) (j := 7) (by rfl) sc_stretch.nd rfl rfl (by decide) rfl rfl (qa_cons (pv_op (o_mulAll (K := K) rfl) l_mul v_int (pv_var (pv 2))) (qa_cons v_bl qa_nil)) (by rfl)))) qs_nil)
    (qs_one (q_ret (pv_tup (qa_cons (pv_cal C_fraction (hr.mono (by decide)) hgd (by rfl) (qa_cons (pv_var (pv 4)) (qa_cons (pv_op (o_mulAll (K := K) rfl) l_mul v_int (pv_var (pv 2))) qa_nil))) (qa_cons (pv_var (pv 5)) (qa_cons (pv_cal C_fraction (hr.mono (by decide)) hgd (by rfl) (qa_cons (pv_var (pv 6)) (qa_cons (pv_op (o_mulAll (K := K) rfl) l_mul v_int (pv_var (pv 2))) qa_nil))) (qa_cons (pv_var (pv 7)) qa_nil))))))))))))))), spX_body h⟩
end
def g_l_take : S → Ro := (sSeq (sIf (mTest (mOp gtD (mPotAt 0 (mC (.int 0))) (mC (.int 0)))) (sSeq (sSet 2 (mOp modD (mCB intD (mCons (mPotAt 0 (mC (.int 0))) mNil)) (mVar 1)))
    (sSeq (sPotSet 0 (mOp fdivD (mPotAt 0 (mC (.int 0))) (mVar 1)) (mC (.int 0)))
    (sRet (mVar 2)))) sNil)
    (sSeq (sPotSet 0 (mOp addD (mPotAt 0 (mC (.int 2))) (mC (.int 1))) (mC (.int 2)))
    (sSeq (sSet 3 (mOp ixD (mLst (mCons (mC (.int 2147483647)) (mCons (mC (.int 2147483629)) (mCons (mC (.int 2147483587)) (mCons (mC (.int 2147483579)) (mCons (mC (.int 2147483563)) mNil)))))) (mOp modD (mCB intD (mCons (mPotAt 0 (mC (.int 2))) mNil)) (mC (.int 5)))))
    (sSeq (sSet 4 (mOp modD (mCB intD (mCons (mOp powD (mCB intD (mCons (mOp addD (mOp addD (mPotAt 0 (mC (.int 1))) (mOp mulD (mOp mulD (mC (.int 110097)) (mPotAt 0 (mC (.int 2)))) (mPotAt 0 (mC (.int 2))))) (mC (.int 69))) mNil)) (mC (.int 3))) mNil)) (mVar 3)))
    (sSeq (sSet 4 (mOp modD (mCB intD (mCons (mOp mulD (mVar 4) (mOp addD (mOp modD (mCB intD (mCons (mVar 4) mNil)) (mC (.int 10069))) (mOp mulD (mC (.int 109)) (mPotAt 0 (mC (.int 2)))))) mNil)) (mC (.int 2305843009213693907))))
    (sRet (mOp modD (mCB intD (mCons (mOp fdivD (mVar 4) (mC (.int 139))) mNil)) (mVar 1))))))))
def m_l_take : Bw → List D → Rp := mDefP 2 5 g_l_take
section
variable {P : Program} {w : World} {K : PySem.W.Frag} {mg : Str → Option Value} {base : Heap}
theorem C_l_take (T : Txt P K mg base) : Cal P w K mg base 1 "_law_take" ["_law_pot_here", "_law_upto"] (spP K m_l_take) := by
  obtain ⟨fd, F⟩ := T.d_l_take
  refine ⟨_, fd, okG F sc_l_take (fun vs H Q E h => spP_len h) (fun cdv A outer s H vs Q E hr hgd h => ?_), T.g_l_take, F.kp, (F.bindsN fun _ _ _ _ _ _ us hl => match us, hl with | [_, _], _ => rfl)⟩
  obtain ⟨pa, h⟩ := spP_body (N := ["_law_pot_here", "_law_upto", "_law_digit", "_law_prime", "_law_stir"]) h
  exact ⟨tS K pa W0 g_l_take, PSs.nox (qs_cons (q_if (qt_cmp o_gt l_gt (pv_potAt (K := K) rfl (pv 0) v_int (fun _ _ => rfl)) v_int (nomark _)) (qs_cons (q_set (ps_set (i := 2) sc_l_take.nd rfl (.inl rfl) (pv_op o_mod l_mod (pv_callTy c_intAll l_int (by rfl) T.z_int (by decide +kernel) (qa_cons (pv_potAt (K := K) rfl (pv 0) v_int (fun _ _ => rfl)) qa_nil)) (pv_var (pv 1)))))
    (qs_cons (q_potSet (ps_asg (pv_op o_fdiv l_fdiv (pv_potAt (K := K) rfl (pv 0) v_int (fun _ _ => rfl)) (pv_var (pv 1))) (pg_sub (pv 0) v_int set_list)))
    (qs_one (q_ret (pv_var (pv 2)))))) qs_nil)
    (qs_cons (q_potSet (ps_asg (pv_op (o_addAll (K := K) rfl) l_add (pv_potAt (K := K) rfl (pv 0) v_int (fun _ _ => rfl)) v_int) (pg_sub (pv 0) v_int set_list)))
    (qs_cons (q_set (ps_set (i := 3) sc_l_take.nd rfl (.inl rfl) (pv_ix (x_ix (K := K) rfl) l_ix (pv_lst (qa_cons v_int (qa_cons v_int (qa_cons v_int (qa_cons v_int (qa_cons v_int qa_nil)))))) (pv_op o_mod l_mod (pv_callTy c_intAll l_int (by rfl) T.z_int (by decide +kernel) (qa_cons (pv_potAt (K := K) rfl (pv 0) v_int (fun _ _ => rfl)) qa_nil)) v_int) (fun _ _ => rfl))))
    (qs_cons (q_set (ps_set (i := 4) sc_l_take.nd rfl (.inl rfl) (pv_op o_mod l_mod (pv_callTy c_intAll l_int (by rfl) T.z_int (by decide +kernel) (qa_cons (pv_op o_pow l_pow (pv_callTy c_intAll l_int (by rfl) T.z_int (by decide +kernel) (qa_cons (pv_op (o_addAll (K := K) rfl) l_add (pv_op (o_addAll (K := K) rfl) l_add (pv_potAt (K := K) rfl (pv 0) v_int (fun _ _ => rfl)) (pv_op (o_mulAll (K := K) rfl) l_mul (pv_op (o_mulAll (K := K) rfl) l_mul v_int (pv_potAt (K := K) rfl (pv 0) v_int (fun _ _ => rfl))) (pv_potAt (K := K) rfl (pv 0) v_int (fun _ _ => rfl)))) v_int) qa_nil)) v_int) qa_nil)) (pv_var (pv 3)))))
    (qs_cons (q_set (ps_set (i := 4) sc_l_take.nd rfl (.inl rfl) (pv_op o_mod l_mod (pv_callTy c_intAll l_int (by rfl) T.z_int (by decide +kernel) (qa_cons (pv_op (o_mulAll (K := K) rfl) l_mul (pv_var (pv 4)) (pv_op (o_addAll (K := K) rfl) l_add (pv_op o_mod l_mod (pv_callTy c_intAll l_int (by rfl) T.z_int (by decide +kernel) (qa_cons (pv_var (pv 4)) qa_nil)) v_int) (pv_op (o_mulAll (K := K) rfl) l_mul v_int (pv_potAt (K := K) rfl (pv 0) v_int (fun _ _ => rfl))))) qa_nil)) v_int)))
    (qs_one (q_ret (pv_op o_mod l_mod (pv_callTy c_intAll l_int (by rfl) T.z_int (by decide +kernel) (qa_cons (pv_op o_fdiv l_fdiv (pv_var (pv 4)) v_int) qa_nil)) (pv_var (pv 1)))))))))), h⟩
end
def g_l_of : S → Ro := (sRet (mOp ixD (mVar 1) (mCalP 0 m_l_take (mCons (mCB lenD (mCons (mVar 1) mNil)) mNil))))
def m_l_of : Bw → List D → Rp := mDefP 2 2 g_l_of
section
variable {P : Program} {w : World} {K : PySem.W.Frag} {mg : Str → Option Value} {base : Heap}
theorem C_l_of (T : Txt P K mg base) : Cal P w K mg base 2 "_law_of" ["_law_pot_here", "_law_some"] (spP K m_l_of) := by
  have C_l_take := C_l_take (P := P) (w := w) (base := base) T
  obtain ⟨fd, F⟩ := T.d_l_of
  refine ⟨_, fd, okG F sc_l_of (fun vs H Q E h => spP_len h) (fun cdv A outer s H vs Q E hr hgd h => ?_), T.g_l_of, F.kp, (F.bindsN fun _ _ _ _ _ _ us hl => match us, hl with | [_, _], _ => rfl)⟩
  obtain ⟨pa, h⟩ := spP_body (N := ["_law_pot_here", "_law_some"]) h
  exact ⟨tS K pa W0 g_l_of, PSs.nox (qs_one (q_ret (pv_ix (x_ix (K := K) rfl) l_ix (pv_var (pv 1)) (pv_calP C_l_take (hr.mono (by decide)) hgd (by rfl) (pv 0) (qa_cons (pv_callB (c_lenAll (K := K) rfl) l_len (by rfl) T.z_len (by decide +kernel) (qa_cons (pv_var (pv 1)) qa_nil)) qa_nil)) (fun _ _ => rfl)))), h⟩
end
def g_l_units : S → Ro := (sRet (mTup (mCons (mOp addD (mC (.int 2)) (mCalP 0 m_l_take (mCons (mOp subD (mVar 1) (mC (.int 1))) mNil))) (mCons (mCalP 0 m_l_of (mCons (mLst (mCons (mC (.str "near")) (mCons (mC (.str "even")) (mCons (mC (.str "down")) (mCons (mC (.str "up")) mNil))))) mNil)) mNil))))
def m_l_units : Bw → List D → Rp := mDefP 2 2 g_l_units
section
variable {P : Program} {w : World} {K : PySem.W.Frag} {mg : Str → Option Value} {base : Heap}
theorem C_l_units (T : Txt P K mg base) : Cal P w K mg base 3 "_law_units" ["_law_pot_here", "_law_most"] (spP K m_l_units) := by
  have C_l_of := C_l_of (P := P) (w := w) (base := base) T
  have C_l_take := C_l_take (P := P) (w := w) (base := base) T
  obtain ⟨fd, F⟩ := T.d_l_units
  refine ⟨_, fd, okG F sc_l_units (fun vs H Q E h => spP_len h) (fun cdv A outer s H vs Q E hr hgd h => ?_), T.g_l_units, F.kp, (F.bindsN fun _ _ _ _ _ _ us hl => match us, hl with | [_, _], _ => rfl)⟩
  obtain ⟨pa, h⟩ := spP_body (N := ["_law_pot_here", "_law_most"]) h
  exact ⟨tS K pa W0 g_l_units, PSs.nox (qs_one (q_ret (pv_tup (qa_cons (pv_op (o_addAll (K := K) rfl) l_add v_int (pv_calP C_l_take (hr.mono (by decide)) hgd (by rfl) (pv 0) (qa_cons (pv_op o_sub l_sub (pv_var (pv 1)) v_int) qa_nil))) (qa_cons (pv_calP C_l_of (hr.mono (by decide)) hgd (by rfl) (pv 0) (qa_cons (pv_lst (qa_cons v_str (qa_cons v_str (qa_cons v_str (qa_cons v_str qa_nil))))) qa_nil)) qa_nil))))), h⟩
end
def g_l_is_int : S → Ro := (sRet (mAnd (mUn (isiD "int") (mVar 0)) (mAnd (mNot (mUn (isiD "bool") (mVar 0))) (mChain leD leD (mVar 1) (mVar 0) (mVar 2)))))
def m_l_is_int : List D → Rv := mDef 3 3 g_l_is_int
section
variable {P : Program} {w : World} {K : PySem.W.Frag} {mg : Str → Option Value} {base : Heap}
theorem C_l_is_int (T : Txt P K mg base) : Cal P w K mg base 1 "_law_is_int" ["_law_value", "_law_low", "_law_high"] (spV K m_l_is_int) := by
  obtain ⟨fd, F⟩ := T.d_l_is_int
  refine ⟨_, fd, okG F sc_l_is_int (fun vs H Q E h => spV_len h) (fun cdv A outer s H vs Q E hr hgd h => ?_), T.g_l_is_int, F.kp, (F.bindsN fun _ _ _ _ _ _ us hl => match us, hl with | [_, _, _], _ => rfl)⟩
  exact ⟨tS K ⟨0, []⟩ W0 g_l_is_int, PSs.nox (qs_one (q_ret (pv_and (pv_isi (K := K) (T := "") (x := "") rfl (by decide) (by rfl) T.z_isinstance (pv_var (pv 0)) (pe_bltn (v := .ty "int") (u := .type "int") (by rfl) T.z_int (by decide +kernel) rfl)) (pv_and (pv_not (pv_isi (K := K) (T := "") (x := "") rfl (by decide) (by rfl) T.z_isinstance (pv_var (pv 0)) (pe_bltn (v := .ty "bool") (u := .type "bool") (by rfl) T.z_bool (by decide +kernel) rfl))) (pe_one (pv_chain o_le l_le o_le l_le (pv_var (pv 1)) (pv_var (pv 0)) (pv_var (pv 2)))))))), spV_body h⟩
end
def g_l_odd : S → Ro := (sSeq (sSet 1 (mLst (mCons (mC .non) (mCons (mC (.bl true)) (mCons (mC (.bl false)) (mCons (mC (.int 0)) (mCons (mC (.int 1)) (mCons (mUn negD (mC (.int 1))) (mCons (mOp powD (mC (.int 10)) (mC (.int 8))) (mCons (mC (.str "")) (mCons (mC (.str "a")) (mCons (mC (.str "some")) (mCons (mC (.str "near")) (mCons (mTup mNil) (mCons (mLst mNil) (mCons (mFrz mDNew) (mCons (mTup (mCons (mC (.int 0)) mNil)) (mCons (mTup (mCons (mTup mNil) mNil)) (mCons (mLst (mCons (mC (.int 0)) mNil)) mNil)))))))))))))))))))
    (sSeq (sSet 1 (mOp addD (mVar 1) (mLst (mCons (mTup (mCons (mC (.int 100)) (mCons (mC (.str "near")) mNil))) (mCons (mTup (mCons (mTup (mCons (mC (.str "a")) (mCons (mC (.int 1)) mNil))) mNil)) (mCons (mTup (mCons (mTup (mCons (mTup (mCons (mC (.str "a")) (mCons (mC (.int 1)) mNil))) mNil)) (mCons (mC (.str "more")) mNil))) (mCons (mTup (mCons (mC (.int 0)) (mCons (mC (.int 1)) mNil))) (mCons (mTup (mCons (mTup (mCons (mC (.int 0)) (mCons (mTup (mCons (mC (.int 1)) (mCons (mC (.int 1)) mNil))) mNil))) mNil)) (mCons (mC (.str "never")) (mCons (mTup (mCons (mC (.int 1)) (mCons (mC (.int 1)) (mCons (mC (.int 1)) mNil)))) mNil))))))))))
    (sRet (mCalP 0 m_l_of (mCons (mVar 1) mNil)))))
def m_l_odd : Bw → List D → Rp := mDefP 1 2 g_l_odd
section
variable {P : Program} {w : World} {K : PySem.W.Frag} {mg : Str → Option Value} {base : Heap}
theorem C_l_odd (T : Txt P K mg base) : Cal P w K mg base 3 "_law_odd" ["_law_pot_here"] (spP K m_l_odd) := by
  have C_l_of := C_l_of (P := P) (w := w) (base := base) T
  obtain ⟨fd, F⟩ := T.d_l_odd
  refine ⟨_, fd, okG F sc_l_odd (fun vs H Q E h => spP_len h) (fun cdv A outer s H vs Q E hr hgd h => ?_), T.g_l_odd, F.kp, (F.bindsN fun _ _ _ _ _ _ us hl => match us, hl with | [_], _ => rfl)⟩
  obtain ⟨pa, h⟩ := spP_body (N := ["_law_pot_here", "_law_some"]) h
  exact ⟨tS K pa W0 g_l_odd, PSs.nox (qs_cons (q_set (ps_set (i := 1) sc_l_odd.nd rfl (.inl rfl) (pv_lst (qa_cons v_non (qa_cons v_bl (qa_cons v_bl (qa_cons v_int (qa_cons v_int (qa_cons (pv_un u_neg l_neg v_int) (qa_cons (pv_op o_pow l_pow v_int v_int) (qa_cons v_str (qa_cons v_str (qa_cons v_str (qa_cons v_str (qa_cons (pv_tup qa_nil) (qa_cons (pv_lst qa_nil) (qa_cons (pv_frz pm_dnew) (qa_cons (pv_tup (qa_cons v_int qa_nil)) (qa_cons (pv_tup (qa_cons (pv_tup qa_nil) qa_nil)) (qa_cons (pv_lst (qa_cons v_int qa_nil)) qa_nil))))))))))))))))))))
    (qs_cons (q_set (ps_set (i := 1) sc_l_odd.nd rfl (.inl rfl) (pv_op (o_addAll (K := K) rfl) l_add (pv_var (pv 1)) (pv_lst (qa_cons (pv_tup (qa_cons v_int (qa_cons v_str qa_nil))) (qa_cons (pv_tup (qa_cons (pv_tup (qa_cons v_str (qa_cons v_int qa_nil))) qa_nil)) (qa_cons (pv_tup (qa_cons (pv_tup (qa_cons (pv_tup (qa_cons v_str (qa_cons v_int qa_nil))) qa_nil)) (qa_cons v_str qa_nil))) (qa_cons (pv_tup (qa_cons v_int (qa_cons v_int qa_nil))) (qa_cons (pv_tup (qa_cons (pv_tup (qa_cons v_int (qa_cons (pv_tup (qa_cons v_int (qa_cons v_int qa_nil))) qa_nil))) qa_nil)) (qa_cons v_str (qa_cons (pv_tup (qa_cons v_int (qa_cons v_int (qa_cons v_int qa_nil)))) qa_nil)))))))))))
    (qs_one (q_ret (pv_calP C_l_of (hr.mono (by decide)) hgd (by rfl) (pv 0) (qa_cons (pv_var (pv 1)) qa_nil)))))), h⟩
end
def g_l_bent (mr : Bw → List D → Rp) : S → Ro := (sSeq (sIf (mAndT (mTest (mUn (isiD "tuple") (mVar 1))) (mAndT (mTest (mOp neD (mVar 1) (mTup mNil))) (mTest (mOp gtD (mCalP 0 m_l_take (mCons (mC (.int 6)) mNil)) (mC (.int 0)))))) (sSeq (sSet 2 (mCalP 0 m_l_take (mCons (mCB lenD (mCons (mVar 1) mNil)) mNil)))
    (sRet (mOp addD (mOp addD (mSl (mVar 1) mNoPart (mPart (mVar 2))) (mTup (mCons (mCalP 0 mr (mCons (mOp ixD (mVar 1) (mVar 2)) mNil)) mNil))) (mSl (mVar 1) (mPart (mOp addD (mVar 2) (mC (.int 1)))) mNoPart)))) sNil)
    (sSeq (sIf (mTest (mUn (isiD "tuple") (mVar 1))) (sSeq (sSet 3 (mLst (mCons (mCB listD (mCons (mVar 1) mNil)) (mCons (mSl (mVar 1) (mPart (mC (.int 1))) mNoPart) (mCons (mSl (mVar 1) mNoPart (mPart (mUn negD (mC (.int 1))))) (mCons (mOp addD (mVar 1) (mSl (mVar 1) (mPart (mUn negD (mC (.int 1)))) mNoPart)) (mCons (mRev (mVar 1) (mPart (mUn negD (mC (.int 1))))) (mCons (mTup mNil) (mCons (mOp addD (mVar 1) (mTup (mCons (mC (.int 0)) mNil))) (mCons (mC .non) mNil))))))))))
    (sRet (mCalP 0 m_l_of (mCons (mVar 3) mNil)))) sNil)
    (sSeq (sIf (mTest (mUn (isiD "str") (mVar 1))) (sSeq (sSet 3 (mLst (mCons (mOp addD (mVar 1) (mC (.str "x"))) (mCons (mSl (mVar 1) mNoPart (mPart (mUn negD (mC (.int 1))))) (mCons (mS0 upperD (mVar 1)) (mCons (mOp addD (mVar 1) (mC (.str " "))) (mCons (mLst (mCons (mVar 1) mNil)) (mCons (mC (.str "more")) (mCons (mC (.str "least")) (mCons (mC .non) (mCons (mC (.int 0)) mNil)))))))))))
    (sRet (mCalP 0 m_l_of (mCons (mVar 3) mNil)))) sNil)
    (sSeq (sIf (mTest (mUn (isiD "bool") (mVar 1))) (sRet (mCalP 0 m_l_of (mCons (mLst (mCons (mNot (mVar 1)) (mCons (mCB intD (mCons (mVar 1) mNil)) (mCons (mC .non) mNil)))) mNil))) sNil)
    (sSeq (sIf (mTest (mUn (isiD "int") (mVar 1))) (sRet (mCalP 0 m_l_of (mCons (mLst (mCons (mOp addD (mVar 1) (mC (.int 1))) (mCons (mOp subD (mVar 1) (mC (.int 1))) (mCons (mOp eqD (mVar 1) (mC (.int 1))) (mCons (mCB strD (mCons (mVar 1) mNil)) (mCons (mUn negD (mC (.int 1))) (mCons (mC (.int 5)) (mCons (mC (.int 0)) (mCons (mUn negD (mVar 1)) (mCons (mC .non) (mCons (mTup (mCons (mVar 1) mNil)) mNil))))))))))) mNil))) sNil)
    (sRet (mCalP 0 m_l_odd mNil)))))))
def mN_l_bent : Nat → Bw → List D → Rp
  | 0 => fun _ _ => .no
  | n + 1 => mDefP 2 4 (g_l_bent (mN_l_bent n))
def m_l_bent : Bw → List D → Rp := mN_l_bent 6
section
variable {P : Program} {w : World} {K : PySem.W.Frag} {mg : Str → Option Value} {base : Heap}
theorem CS_l_bent {k : Nat} {mr : Bw → List D → Rp} (T : Txt P K mg base) (Cr : Cal P w K mg base (3 + k) "_law_bent" ["_law_pot_here", "_law_value"] (spP K mr)) : Cal P w K mg base (3 + k + 1) "_law_bent" ["_law_pot_here", "_law_value"] (spP K (mDefP 2 4 (g_l_bent mr))) := by
  have C_l_odd := C_l_odd (P := P) (w := w) (base := base) T
  have C_l_of := C_l_of (P := P) (w := w) (base := base) T
  have C_l_take := C_l_take (P := P) (w := w) (base := base) T
  obtain ⟨fd, F⟩ := T.d_l_bent
  refine ⟨_, fd, okG F sc_l_bent (fun vs H Q E h => spP_len h) (fun cdv A outer s H vs Q E hr hgd h => ?_), T.g_l_bent, F.kp, (F.bindsN fun _ _ _ _ _ _ us hl => match us, hl with | [_, _], _ => rfl)⟩
  obtain ⟨pa, h⟩ := spP_body (N := ["_law_pot_here", "_law_value", "_law_at", "_law_some"]) h
  exact ⟨tS K pa W0 (g_l_bent mr), PSs.nox (qs_cons (q_if (PW.pt (qw_and (qt_val (pv_isi (K := K) (T := "") (x := "") rfl (by decide) (by rfl) T.z_isinstance (pv_var (pv 1)) (pe_bltn (v := .ty "tuple") (u := .type "tuple") (by rfl) T.z_tuple (by decide +kernel) rfl))) (qw_and (qt_cmp (x_neD (K := K) rfl hr.units) l_ne (pv_var (pv 1)) (pv_tup qa_nil) (nomark _)) (qw_and1 (qt_cmp o_gt l_gt (pv_calP C_l_take (hr.mono (by omega)) hgd (by rfl) (pv 0) (qa_cons v_int qa_nil)) v_int (nomark _)))))) (qs_cons (q_set (ps_set (i := 2) sc_l_bent.nd rfl (.inl rfl) (pv_calP C_l_take (hr.mono (by omega)) hgd (by rfl) (pv 0) (qa_cons (pv_callB (c_lenAll (K := K) rfl) l_len (by rfl) T.z_len (by decide +kernel) (qa_cons (pv_var (pv 1)) qa_nil)) qa_nil))))
    (qs_one (q_ret (pv_op (o_addAll (K := K) rfl) l_add (pv_op (o_addAll (K := K) rfl) l_add (pv_slice (K := K) rfl (pv_var (pv 1)) qo_none (qo_some (pv_var (pv 2)))) (pv_tup (qa_cons (pv_calP Cr (hr.mono (by omega)) hgd (by rfl) (pv 0) (qa_cons (pv_ix (x_ix (K := K) rfl) l_ix (pv_var (pv 1)) (pv_var (pv 2)) (fun _ _ => rfl)) qa_nil)) qa_nil))) (pv_slice (K := K) rfl (pv_var (pv 1)) (qo_some (pv_op (o_addAll (K := K) rfl) l_add (pv_var (pv 2)) v_int)) qo_none))))) qs_nil)
    (qs_cons (q_if (qt_val (pv_isi (K := K) (T := "") (x := "") rfl (by decide) (by rfl) T.z_isinstance (pv_var (pv 1)) (pe_bltn (v := .ty "tuple") (u := .type "tuple") (by rfl) T.z_tuple (by decide +kernel) rfl))) (qs_cons (q_set (ps_set (i := 3) sc_l_bent.nd rfl (.inl rfl) (pv_lst (qa_cons (pv_callTy (c_listOf (K := K) rfl) l_list (by rfl) T.z_list (by decide +kernel) (qa_cons (pv_var (pv 1)) qa_nil)) (qa_cons (pv_slice (K := K) rfl (pv_var (pv 1)) (qo_some v_int) qo_none) (qa_cons (pv_slice (K := K) rfl (pv_var (pv 1)) qo_none (qo_some (pv_un u_neg l_neg v_int))) (qa_cons (pv_op (o_addAll (K := K) rfl) l_add (pv_var (pv 1)) (pv_slice (K := K) rfl (pv_var (pv 1)) (qo_some (pv_un u_neg l_neg v_int)) qo_none)) (qa_cons (pv_rev (K := K) rfl (pv_var (pv 1)) (qo_some (pv_un u_neg l_neg v_int))) (qa_cons (pv_tup qa_nil) (qa_cons (pv_op (o_addAll (K := K) rfl) l_add (pv_var (pv 1)) (pv_tup (qa_cons v_int qa_nil))) (qa_cons v_non qa_nil)))))))))))
    (qs_one (q_ret (pv_calP C_l_of (hr.mono (by omega)) hgd (by rfl) (pv 0) (qa_cons (pv_var (pv 3)) qa_nil))))) qs_nil)
    (qs_cons (q_if (qt_val (pv_isi (K := K) (T := "") (x := "") rfl (by decide) (by rfl) T.z_isinstance (pv_var (pv 1)) (pe_bltn (v := .ty "str") (u := .type "str") (by rfl) T.z_str (by decide +kernel) rfl))) (qs_cons (q_set (ps_set (i := 3) sc_l_bent.nd rfl (.inl rfl) (pv_lst (qa_cons (pv_op (o_addAll (K := K) rfl) l_add (pv_var (pv 1)) v_str) (qa_cons (pv_slice (K := K) rfl (pv_var (pv 1)) qo_none (qo_some (pv_un u_neg l_neg v_int))) (qa_cons (pv_upper (pv_var (pv 1))) (qa_cons (pv_op (o_addAll (K := K) rfl) l_add (pv_var (pv 1)) v_str) (qa_cons (pv_lst (qa_cons (pv_var (pv 1)) qa_nil)) (qa_cons v_str (qa_cons v_str (qa_cons v_non (qa_cons v_int qa_nil))))))))))))
    (qs_one (q_ret (pv_calP C_l_of (hr.mono (by omega)) hgd (by rfl) (pv 0) (qa_cons (pv_var (pv 3)) qa_nil))))) qs_nil)
    (qs_cons (q_if (qt_val (pv_isi (K := K) (T := "") (x := "") rfl (by decide) (by rfl) T.z_isinstance (pv_var (pv 1)) (pe_bltn (v := .ty "bool") (u := .type "bool") (by rfl) T.z_bool (by decide +kernel) rfl))) (qs_one (q_ret (pv_calP C_l_of (hr.mono (by omega)) hgd (by rfl) (pv 0) (qa_cons (pv_lst (qa_cons (pv_not (pv_var (pv 1))) (qa_cons (pv_callTy c_intAll l_int (by rfl) T.z_int (by decide +kernel) (qa_cons (pv_var (pv 1)) qa_nil)) (qa_cons v_non qa_nil)))) qa_nil)))) qs_nil)
    (qs_cons (q_if (qt_val (pv_isi (K := K) (T := "") (x := "") rfl (by decide) (by rfl) T.z_isinstance (pv_var (pv 1)) (pe_bltn (v := .ty "int") (u := .type "int") (by rfl) T.z_int (by decide +kernel) rfl))) (qs_one (q_ret (pv_calP C_l_of (hr.mono (by omega)) hgd (by rfl) (pv 0) (qa_cons (pv_lst (qa_cons (pv_op (o_addAll (K := K) rfl) l_add (pv_var (pv 1)) v_int) (qa_cons (pv_op o_sub l_sub (pv_var (pv 1)) v_int) (qa_cons (pv_cmp (x_eqD (K := K) rfl hr.units) l_eq (pv_var (pv 1)) v_int (nomark _)) (qa_cons (pv_callTy c_strAll l_str (by rfl) T.z_str (by decide +kernel) (qa_cons (pv_var (pv 1)) qa_nil)) (qa_cons (pv_un u_neg l_neg v_int) (qa_cons v_int (qa_cons v_int (qa_cons (pv_un u_neg l_neg (pv_var (pv 1))) (qa_cons v_non (qa_cons (pv_tup (qa_cons (pv_var (pv 1)) qa_nil)) qa_nil))))))))))) qa_nil)))) qs_nil)
    (qs_one (q_ret (pv_calP C_l_odd (hr.mono (by omega)) hgd (by rfl) (pv 0) qa_nil)))))))), h⟩
theorem CN_l_bent (T : Txt P K mg base) : ∀ n : Nat, Cal P w K mg base (3 + n) "_law_bent" ["_law_pot_here", "_law_value"] (spP K (mN_l_bent n))
  | 0 => by
    obtain ⟨fd, F⟩ := T.d_l_bent
    have no : ∀ (vs : List V) (H : Hp) (Q : VK) (E : XK), ¬ spP K (mN_l_bent 0) vs H Q E := fun vs H Q E ⟨_, _, _, _, _, _, _, _, _, _, h⟩ => h
    exact ⟨_, fd, ⟨fun vs H Q E h => (no _ _ _ _ h).elim, fun A outer s H args us vs Q E _ _ _ _ _ h => (no _ _ _ _ h).elim⟩, T.g_l_bent, F.kp, (F.bindsN fun _ _ _ _ _ _ us hl => match us, hl with | [_, _], _ => rfl)⟩
  | n + 1 => CS_l_bent T (CN_l_bent T n)
theorem C_l_bent (T : Txt P K mg base) : Cal P w K mg base 9 "_law_bent" ["_law_pot_here", "_law_value"] (spP K m_l_bent) := CN_l_bent T 6
end
def g_l_is_units : S → Ro := (sSeq (sIf (mOrT (mNotT (mTest (mUn (isiD "tuple") (mVar 0)))) (mOrT (mTest (mOp neD (mCB lenD (mCons (mVar 0) mNil)) (mC (.int 2)))) (mNotT (mTest (mCal m_l_is_int (mCons (mOp ixD (mVar 0) (mC (.int 0))) (mCons (mC (.int 2)) (mCons (mC (.int 100)) mNil)))))))) (sRet (mC (.bl false))) sNil)
    (sRet (mAnd (mUn (isiD "str") (mOp ixD (mVar 0) (mC (.int 1)))) (mOp inD (mOp ixD (mVar 0) (mC (.int 1))) (mTup (mCons (mC (.str "near")) (mCons (mC (.str "even")) (mCons (mC (.str "down")) (mCons (mC (.str "up")) mNil)))))))))
def m_l_is_units : List D → Rv := mDef 1 1 g_l_is_units
section
variable {P : Program} {w : World} {K : PySem.W.Frag} {mg : Str → Option Value} {base : Heap}
theorem C_l_is_units (T : Txt P K mg base) : Cal P w K mg base 2 "_law_is_units" ["_law_value"] (spV K m_l_is_units) := by
  have C_l_is_int := C_l_is_int (P := P) (w := w) (base := base) T
  obtain ⟨fd, F⟩ := T.d_l_is_units
  refine ⟨_, fd, okG F sc_l_is_units (fun vs H Q E h => spV_len h) (fun cdv A outer s H vs Q E hr hgd h => ?_), T.g_l_is_units, F.kp, (F.bindsN fun _ _ _ _ _ _ us hl => match us, hl with | [_], _ => rfl)⟩
  exact ⟨tS K ⟨0, []⟩ W0 g_l_is_units, PSs.nox (qs_cons (q_if (PW.pt (qw_or (qt_not (qt_val (pv_isi (K := K) (T := "") (x := "") rfl (by decide) (by rfl) T.z_isinstance (pv_var (pv 0)) (pe_bltn (v := .ty "tuple") (u := .type "tuple") (by rfl) T.z_tuple (by decide +kernel) rfl)))) (qw_or (qt_cmp (x_neD (K := K) rfl hr.units) l_ne (pv_callB (c_lenAll (K := K) rfl) l_len (by rfl) T.z_len (by decide +kernel) (qa_cons (pv_var (pv 0)) qa_nil)) v_int (nomark _)) (qw_or1 (qt_not (qt_val (pv_cal C_l_is_int (hr.mono (by decide)) hgd (by rfl) (qa_cons (pv_ix (x_ix (K := K) rfl) l_ix (pv_var (pv 0)) v_int (fun _ _ => rfl)) (qa_cons v_int (qa_cons v_int qa_nil)))))))))) (qs_one (q_ret v_bl)) qs_nil)
    (qs_one (q_ret (pv_and (pv_isi (K := K) (T := "") (x := "") rfl (by decide) (by rfl) T.z_isinstance (pv_ix (x_ix (K := K) rfl) l_ix (pv_var (pv 0)) v_int (fun _ _ => rfl)) (pe_bltn (v := .ty "str") (u := .type "str") (by rfl) T.z_str (by decide +kernel) rfl)) (pe_one (pv_cmp (o_inAll (K := K) rfl) l_in (pv_ix (x_ix (K := K) rfl) l_ix (pv_var (pv 0)) v_int (fun _ _ => rfl)) (pv_tup (qa_cons v_str (qa_cons v_str (qa_cons v_str (qa_cons v_str qa_nil))))) (by rfl))))))), spV_body h⟩
end
def g_l_shown_due : S → Ro := (sSeq (sIf (mNotT (mTest (mCal m_l_is_units (mCons (mVar 0) mNil)))) (sRet (mTup (mCons (mC (.str "units")) (mCons (mVar 0) mNil)))) sNil)
    (sSeq (sIf (mNotT (mTest (mCal m_l_is_int (mCons (mVar 2) (mCons (mC (.int 1)) (mCons (mOp powD (mC (.int 10)) (mC (.int 9))) mNil)))))) (sRet (mTup (mCons (mC (.str "count")) (mCons (mVar 2) mNil)))) sNil)
    (sRet (mIf (mTest (mCal m_l_is_int (mCons (mVar 1) (mCons (mC (.int 0)) (mCons (mVar 2) mNil))))) (mTup (mCons (mC (.str "")) (mCons (mC .non) mNil))) (mTup (mCons (mC (.str "count")) (mCons (mVar 1) mNil)))))))
def m_l_shown_due : List D → Rv := mDef 3 3 g_l_shown_due
section
variable {P : Program} {w : World} {K : PySem.W.Frag} {mg : Str → Option Value} {base : Heap}
theorem C_l_shown_due (T : Txt P K mg base) : Cal P w K mg base 3 "_law_shown_due" ["_law_units_here", "_law_many", "_law_whole"] (spV K m_l_shown_due) := by
  have C_l_is_int := C_l_is_int (P := P) (w := w) (base := base) T
  have C_l_is_units := C_l_is_units (P := P) (w := w) (base := base) T
  obtain ⟨fd, F⟩ := T.d_l_shown_due
  refine ⟨_, fd, okG F sc_l_shown_due (fun vs H Q E h => spV_len h) (fun cdv A outer s H vs Q E hr hgd h => ?_), T.g_l_shown_due, F.kp, (F.bindsN fun _ _ _ _ _ _ us hl => match us, hl with | [_, _, _], _ => rfl)⟩
  exact ⟨tS K ⟨0, []⟩ W0 g_l_shown_due, PSs.nox (qs_cons (q_if (qt_not (qt_val (pv_cal C_l_is_units (hr.mono (by decide)) hgd (by rfl) (qa_cons (pv_var (pv 0)) qa_nil)))) (qs_one (q_ret (pv_tup (qa_cons v_str (qa_cons (pv_var (pv 0)) qa_nil))))) qs_nil)
    (qs_cons (q_if (qt_not (qt_val (pv_cal C_l_is_int (hr.mono (by decide)) hgd (by rfl) (qa_cons (pv_var (pv 2)) (qa_cons v_int (qa_cons (pv_op o_pow l_pow v_int v_int) qa_nil)))))) (qs_one (q_ret (pv_tup (qa_cons v_str (qa_cons (pv_var (pv 2)) qa_nil))))) qs_nil)
    (qs_one (q_ret (pv_if (qt_val (pv_cal C_l_is_int (hr.mono (by decide)) hgd (by rfl) (qa_cons (pv_var (pv 1)) (qa_cons v_int (qa_cons (pv_var (pv 2)) qa_nil))))) (pv_tup (qa_cons v_str (qa_cons v_non qa_nil))) (pv_tup (qa_cons v_str (qa_cons (pv_var (pv 1)) qa_nil)))))))), spV_body h⟩
end
def g_l_stretch_due : S → Ro := (sSeq (sIf (mNotT (mTest (mCal m_l_is_units (mCons (mVar 0) mNil)))) (sRet (mTup (mCons (mC (.str "units")) (mCons (mVar 0) mNil)))) sNil)
    (sSeq (sIf (mTest (mUn (isiD "str") (mVar 1))) (sRet (mIf (mTest (mOp inD (mVar 1) (mTup (mCons (mC (.str "none")) (mCons (mC (.str "some")) mNil))))) (mTup (mCons (mC (.str "")) (mCons (mC .non) mNil))) (mTup (mCons (mC (.str "share")) (mCons (mVar 1) mNil))))) sNil)
    (sRet (mIf (mTest (mCal m_l_is_int (mCons (mVar 1) (mCons (mC (.int 0)) (mCons (mOp ixD (mVar 0) (mC (.int 0))) mNil))))) (mTup (mCons (mC (.str "")) (mCons (mC .non) mNil))) (mTup (mCons (mC (.str "share")) (mCons (mVar 1) mNil)))))))
def m_l_stretch_due : List D → Rv := mDef 2 2 g_l_stretch_due
section
variable {P : Program} {w : World} {K : PySem.W.Frag} {mg : Str → Option Value} {base : Heap}
theorem C_l_stretch_due (T : Txt P K mg base) : Cal P w K mg base 3 "_law_stretch_due" ["_law_units_here", "_law_share"] (spV K m_l_stretch_due) := by
  have C_l_is_int := C_l_is_int (P := P) (w := w) (base := base) T
  have C_l_is_units := C_l_is_units (P := P) (w := w) (base := base) T
  obtain ⟨fd, F⟩ := T.d_l_stretch_due
  refine ⟨_, fd, okG F sc_l_stretch_due (fun vs H Q E h => spV_len h) (fun cdv A outer s H vs Q E hr hgd h => ?_), T.g_l_stretch_due, F.kp, (F.bindsN fun _ _ _ _ _ _ us hl => match us, hl with | [_, _], _ => rfl)⟩
  exact ⟨tS K ⟨0, []⟩ W0 g_l_stretch_due, PSs.nox (qs_cons (q_if (qt_not (qt_val (pv_cal C_l_is_units (hr.mono (by decide)) hgd (by rfl) (qa_cons (pv_var (pv 0)) qa_nil)))) (qs_one (q_ret (pv_tup (qa_cons v_str (qa_cons (pv_var (pv 0)) qa_nil))))) qs_nil)
    (qs_cons (q_if (qt_val (pv_isi (K := K) (T := "") (x := "") rfl (by decide) (by rfl) T.z_isinstance (pv_var (pv 1)) (pe_bltn (v := .ty "str") (u := .type "str") (by rfl) T.z_str (by decide +kernel) rfl))) (qs_one (q_ret (pv_if (qt_cmp (o_inAll (K := K) rfl) l_in (pv_var (pv 1)) (pv_tup (qa_cons v_str (qa_cons v_str qa_nil))) (by rfl)) (pv_tup (qa_cons v_str (qa_cons v_non qa_nil))) (pv_tup (qa_cons v_str (qa_cons (pv_var (pv 1)) qa_nil)))))) qs_nil)
    (qs_one (q_ret (pv_if (qt_val (pv_cal C_l_is_int (hr.mono (by decide)) hgd (by rfl) (qa_cons (pv_var (pv 1)) (qa_cons v_int (qa_cons (pv_ix (x_ix (K := K) rfl) l_ix (pv_var (pv 0)) v_int (fun _ _ => rfl)) qa_nil))))) (pv_tup (qa_cons v_str (qa_cons v_non qa_nil))) (pv_tup (qa_cons v_str (qa_cons (pv_var (pv 1)) qa_nil)))))))), spV_body h⟩
end
end Ak
namespace Ak
open PySem PySem.Spec PyProof.Rows L2
variable [Tb]
/-! ### the walk of readings -/
local macro_rules | `(tactic| walk_at "go1") => `(tactic| (first
  | with_reducible refine w_seq ?_ | with_reducible refine w_next ?_ | with_reducible refine w_set ?_ | with_reducible refine w_asgS ?_ | with_reducible refine w_ret ?_ | with_reducible refine w_drop ?_ | with_reducible refine w_ifS ?_
  | with_reducible refine w_op ?_ | with_reducible refine w_un ?_ | ((with_reducible apply w_var); (· exact rfl)) | with_reducible refine w_c ?_
  | with_reducible refine w_add ?_ | with_reducible refine w_sub ?_ | with_reducible refine w_lt ?_ | with_reducible refine w_le ?_ | with_reducible refine w_gt ?_ | with_reducible refine w_ge ?_ | with_reducible refine w_neg ?_ | with_reducible refine w_isN ?_ | with_reducible refine w_notN ?_
  | ((with_reducible refine w_eq ?_ ?_); (· exact rfl)) | ((with_reducible refine w_ne ?_ ?_); (· exact rfl))
  | with_reducible refine w_test ?_ | with_reducible refine w_B ?_ | with_reducible refine w_or ?_ | with_reducible refine w_and ?_ | with_reducible refine w_not ?_ | with_reducible refine w_andV ?_ | with_reducible refine w_orV ?_ | with_reducible refine w_notV ?_
  | with_reducible refine w_ifE ?_ | with_reducible refine w_chain ?_ | with_reducible refine w_cb ?_ | with_reducible refine w_nil ?_ | with_reducible refine w_cons ?_ | with_reducible refine w_tup ?_ | with_reducible refine w_lst ?_ | with_reducible refine w_call ?_
  | with_reducible refine w_int1 ?_ | with_reducible refine w_abs ?_ | with_reducible refine w_max2 ?_ | with_reducible refine w_min2 ?_
  | with_reducible refine w_mknx ?_ | with_reducible refine w_mkrt ?_ | with_reducible refine w_mkbk ?_ | with_reducible refine w_mkct ?_ | with_reducible refine w_ifT ?_ | with_reducible refine w_ifF ?_ | with_reducible refine w_ifNT ?_ | with_reducible refine w_ifNF ?_
  | with_reducible refine w_lc ?_ | with_reducible refine w_lrg ?_ | with_reducible refine w_rg1 ?_ | with_reducible refine w_rg2 ?_ | with_reducible refine w_exI ?_ | with_reducible refine w_exI2 ?_
  | with_reducible refine w_sl ?_ | with_reducible refine w_part ?_ | with_reducible refine w_noPart ?_ | with_reducible refine w_lcE ?_ | with_reducible refine w_lcZ ?_ | with_reducible refine w_yes ?_
  | with_reducible refine w_bl ?_ | with_reducible refine w_asgT ?_ | with_reducible refine w_gcons ?_ | with_reducible refine w_gnil ?_ | with_reducible refine w_par ?_ | with_reducible refine w_pair ?_
  | ((with_reducible refine w_ixL (v := ?vv) (sqL (by assumption)) ?ee ?_); (case ee => exact rfl)) | ((with_reducible refine w_ixT (v := ?vv) (sqT (by assumption)) ?ee ?_); (case ee => exact rfl))
  | ((with_reducible refine w_ixL (v := ?vv) (by assumption) ?ee ?_); (case ee => exact rfl)) | ((with_reducible refine w_ixT (v := ?vv) (by assumption) ?ee ?_); (case ee => exact rfl))
  | ((with_reducible refine w_ifDT ?_ ?_); (· first | omega | decide +kernel)) | ((with_reducible refine w_ifDF ?_ ?_); (· first | omega | decide +kernel | exact ne_IS | exact ne_SI | exact ne_IN | exact ne_SN | exact ne_RN))
  | ((with_reducible refine w_mod ?_ ?_); (· omega)) | ((with_reducible refine w_fdiv ?_ ?_ ?_); (· omega); (· omega))
  | ((with_reducible refine w_mulL ?_ ?_ ?_); (· omega); (· omega)) | ((with_reducible refine w_mulR ?_ ?_ ?_); (· omega); (· omega))
  | with_reducible refine w_lenL (sqL (by assumption)) ?_ | with_reducible refine w_lenL (by assumption) ?_ | with_reducible refine w_lenT (sqT (by assumption)) ?_ | with_reducible refine w_lenT (by assumption) ?_))
local macro_rules | `(tactic| walk_at "go") => `(tactic| repeat walk_at "go1")
section
variable {P : Program} {w : World} {K : PySem.W.Frag} {mg : Str → Option Value} {base : Heap}
theorem C_l_told {kt : Nat} (T : Txt P K mg base) : CalT P w K mg base kt (kt + 1) "_law_told" ["_law_look"] (mTold xsL) := by
  obtain ⟨fd, F⟩ := T.d_l_told
  refine ⟨_, fd, okT F sc_l_told (fun cdv A outer s H vs Q E fa c' q rd r F0 ds hr hgd len th ra sub den want => ?_), T.g_l_told, F.kp, (F.bindsN fun _ _ _ _ _ _ us hl => match us, hl with | [_], _ => rfl)⟩
  exact told_walk hr hgd len th ra sub want rfl rfl rfl rfl rfl T.g_AskedError T.xm (ps_asg (pe_tup (pa_cons pe_non (pa_cons pe_non pa_nil))) (xg_tup (K := K) (n := 2) rfl rfl (pgs_cons (pg_name (i := 1) sc_l_told.nd rfl (.inl rfl)) (pgs_cons (pg_name (i := 2) sc_l_told.nd rfl (.inl rfl)) pgs_nil)))) (fun D h => ⟨by rw [sizeLine_eq]; decide, fun p np => ⟨p, _, rfl, .inl (.inl upd_same), rfl, _, _, rfl, _, _, rfl, rfl, h p np⟩⟩) (q_ret (pv_tup (qa_cons (pv_var (pv 1)) (qa_cons (pv_var (pv 2)) qa_nil))))
end
def g_l_is_due : S → Ro := (sSeq (sSet 4 (mLst (mCons (mUn (isiX "BadUnits" xsL) (mVar 3)) (mCons (mUn (isiX "BadCount" xsL) (mVar 3)) (mCons (mUn (isiX "BadShare" xsL) (mVar 3)) mNil)))))
    (sSeq (sIf (mTest (mOp eqD (mVar 1) (mC (.str "")))) (sRet (mOp isND (mVar 3) (mC .non))) sNil)
    (sRet (mAnd (mOp eqD (mVar 4) (mFrz (mComp (mIter iterD (mTup (mCons (mC (.str "units")) (mCons (mC (.str "count")) (mCons (mC (.str "share")) mNil))))) (bName 5) mYes (mOp eqD (mVar 1) (mVar 5)) [5]))) (mOp eqD (mCB reprR (mCons (mUn valX (mVar 3)) mNil)) (mCB reprR (mCons (mVar 2) mNil)))))))
def m_l_is_due : Rv → List D → Rv := mHand 3 6 fun r => sSeq (sAsg (bName 3) (mOp ixD (mTl xsL r) (mC (.int 0)))) g_l_is_due
section
variable {P : Program} {w : World} {K : PySem.W.Frag} {mg : Str → Option Value} {base : Heap}
theorem C_l_is_due {kt : Nat} (T : Txt P K mg base) : CalT P w K mg base kt (kt + 2) "_law_is_due" ["_law_look", "_law_word", "_law_value"] m_l_is_due := by
  have C_l_told := C_l_told (P := P) (w := w) (base := base) (kt := kt) T
  obtain ⟨fd, F⟩ := T.d_l_is_due
  refine ⟨_, fd, okT F sc_l_is_due (fun cdv A outer s H vs Q E fa c2 q rd r F0 ds hr hgd len th ra sub den want => ?_), T.g_l_is_due, F.kp, (F.bindsN fun _ _ _ _ _ _ us hl => match us, hl with | [_, _, _], _ => rfl)⟩
  exact ⟨_, PSs.nox (hd_seq (hd_asg (hd_ix (x_ix (K := K) rfl) l_ix (hd_call (K := K) (xs := xsL) rfl th rfl C_l_told rfl (hr.mono (by omega)) hgd (by rfl) rfl (.inl rfl)) v_int (fun _ _ => rfl)) (qg_name (i := 3) sc_l_is_due.nd rfl (.inl rfl)))
    (qs_cons (q_set (ps_set (i := 4) sc_l_is_due.nd rfl (.inl rfl) (pv_lst (qa_cons (pv_isiX (K := K) (cn := "BadUnits") (xs := xsL) rfl T.y_BadUnits (by rfl) T.z_isinstance (pv_var (pv 3)) (pe_glob (v := .ref (He.ga K "BadUnits")) rfl T.g_BadUnits rfl)) (qa_cons (pv_isiX (K := K) (cn := "BadCount") (xs := xsL) rfl T.y_BadCount (by rfl) T.z_isinstance (pv_var (pv 3)) (pe_glob (v := .ref (He.ga K "BadCount")) rfl T.g_BadCount rfl)) (qa_cons (pv_isiX (K := K) (cn := "BadShare") (xs := xsL) rfl T.y_BadShare (by rfl) T.z_isinstance (pv_var (pv 3)) (pe_glob (v := .ref (He.ga K "BadShare")) rfl T.g_BadShare rfl)) qa_nil))))))
    (qs_cons (q_if (qt_cmp (x_eqD (K := K) rfl hr.units) l_eq (pv_var (pv 1)) v_str (nomark _)) (qs_one (q_ret (pv_cmp o_isN l_isN (pv_var (pv 3)) v_non (nomark _)))) qs_nil)
    (qs_one (q_ret (pv_and (pv_cmp (x_eqD (K := K) rfl hr.units) l_eq (pv_var (pv 4)) (pv_frz (pm_comp (pe_lc (own := [("_law_one", 5)]) rfl sc_l_is_due.nd (qi_any (K := K) rfl (pv_tup (qa_cons v_str (qa_cons v_str (qa_cons v_str qa_nil))))) (blkOk_by (own := [("_law_one", 5)]) (N := ["_law_look", "_law_word", "_law_value", "_law_caught", "_law_marks", "_law_one"]) (sc := defScope s_l_is_due) (by decide +kernel)) (fun _ _ _ _ _ => (qg_name (i := 5) sc_l_is_due.nd rfl (.inl rfl))) (fun _ _ _ _ _ => pts_nil) (fun _ _ _ _ _ => (pv_cmp (x_eqD (K := K) rfl hr.units) l_eq (pv_var (pv 1)) (pv_var (pv 5)) (nomark _)))) (fun _ _ _ z => yes_of z) (by decide))) (nomark _)) (pe_one (pv_cmp (x_eqD (K := K) rfl hr.units) l_eq (pv_callB (c_reprR hr hgd) (l_reprR (K := K) T.sys) (by rfl) T.z_repr (by decide +kernel) (qa_cons (pv_xval (K := K) rfl (pv_var (pv 3))) qa_nil)) (pv_callB (c_reprR hr hgd) (l_reprR (K := K) T.sys) (by rfl) T.z_repr (by decide +kernel) (qa_cons (pv_var (pv 2)) qa_nil)) (nomark _))))))))), hand_body (N := ["_law_look", "_law_word", "_law_value", "_law_caught", "_law_marks", "_law_one"]) sub den ⟨rfl, th.co, ra⟩ want⟩
end
end Ak
namespace Ak
open PySem PySem.Spec PyProof.Rows L2
variable [Tb]
def g_l_right : S → Ro := (sSeq (sFor (mRng1 (mCons (mC (.int 16)) mNil)) (bName 1)
    (sSeq (sSet 2 (mCalP 0 m_l_units (mCons (mC (.int 100)) mNil)))
    (sSeq (sSet 3 (mLst (mCons (mTup (mCons (mC (.int 1)) (mCons (mC (.str "near")) mNil))) (mCons (mTup (mCons (mC (.int 101)) (mCons (mC (.str "up")) mNil))) (mCons (mTup (mCons (mC (.int 0)) (mCons (mC (.str "down")) mNil))) (mCons (mTup (mCons (mC (.bl true)) (mCons (mC (.str "near")) mNil))) (mCons (mTup (mCons (mC (.int 10)) (mCons (mC (.str "Near")) mNil))) (mCons (mTup (mCons (mC (.int 10)) mNil)) (mCons (mLst (mCons (mC (.int 10)) (mCons (mC (.str "near")) mNil))) mNil)))))))))
    (sSeq (sSet 3 (mOp addD (mVar 3) (mLst (mCons (mTup (mCons (mC (.int 10)) (mCons (mLst (mCons (mC (.str "near")) mNil)) mNil))) (mCons (mTup (mCons (mC (.str "near")) (mCons (mC (.int 10)) mNil))) (mCons (mTup (mCons (mC (.int 10)) (mCons (mC .non) mNil))) (mCons (mTup (mCons (mC (.int 10)) (mCons (mC (.str "near")) (mCons (mC (.int 0)) mNil)))) (mCons (mTup (mCons (mC (.int 10)) (mCons (mC (.str "")) mNil))) mNil))))))))
    (sSeq (sSet 3 (mOp addD (mVar 3) (mLst (mCons (mCalP 0 m_l_bent (mCons (mVar 2) mNil)) (mCons (mCalP 0 m_l_odd mNil) mNil)))))
    (sSeq (sSet 4 (mCalP 0 m_l_of (mCons (mOp addD (mOp addD (mOp mulD (mLst (mCons (mVar 2) mNil)) (mC (.int 12))) (mLst (mCons (mTup (mCons (mC (.int 2)) (mCons (mC (.str "near")) mNil))) (mCons (mTup (mCons (mC (.int 100)) (mCons (mC (.str "even")) mNil))) mNil)))) (mVar 3)) mNil)))
    (sSeq (sSet 5 (mCalP 0 m_l_of (mCons (mLst (mCons (mC (.int 1)) (mCons (mC (.int 7)) (mCons (mC (.int 7)) (mCons (mOp powD (mC (.int 10)) (mC (.int 8))) (mCons (mC (.int 0)) (mCons (mUn negD (mC (.int 1))) (mCons (mC (.bl true)) (mCons (mC (.str "7")) (mCons (mC .non) (mCons (mTup (mCons (mC (.int 7)) mNil)) (mCons (mCalP 0 m_l_odd mNil) mNil)))))))))))) mNil)))
    (sSeq (sSet 6 (mCalP 0 m_l_of (mCons (mLst (mCons (mC (.int 0)) (mCons (mC (.int 0)) (mCons (mC (.int 1)) (mCons (mC (.int 1)) (mCons (mC (.int 7)) (mCons (mC (.int 8)) (mCons (mUn negD (mC (.int 1))) (mCons (mC (.bl false)) (mCons (mC (.str "1")) (mCons (mOp powD (mC (.int 10)) (mC (.int 8))) (mCons (mLst (mCons (mC (.int 1)) mNil)) (mCons (mCalP 0 m_l_odd mNil) mNil))))))))))))) mNil)))
    (sSeq (sSet 7 (mCal m_l_shown_due (mCons (mVar 4) (mCons (mVar 6) (mCons (mVar 5) mNil)))))
    (sSeq (sIf (mNotT (mTest (mTh 3 m_l_is_due (mCalX m_shown (mCons (mVar 4) (mCons (mVar 6) (mCons (mVar 5) mNil)))) (mCons (mOp ixD (mVar 7) (mC (.int 0))) (mCons (mOp ixD (mVar 7) (mC (.int 1))) mNil))))) (sRet (mC (.bl false))) sNil)
    (sSeq (sSet 8 (mOp ixD (mVar 2) (mC (.int 0))))
    (sSeq (sSet 9 (mLst (mCons (mC (.int 0)) (mCons (mVar 8) (mCons (mVar 8) (mCons (mC (.int 1)) (mCons (mC (.str "none")) (mCons (mC (.str "some")) (mCons (mOp addD (mVar 8) (mC (.int 1))) (mCons (mC (.int 101)) (mCons (mUn negD (mC (.int 1))) (mCons (mC (.bl true)) (mCons (mC (.str "None")) (mCons (mC (.str "")) (mCons (mC .non) mNil)))))))))))))))
    (sSeq (sSet 10 (mCalP 0 m_l_of (mCons (mOp addD (mVar 9) (mLst (mCons (mCalP 0 m_l_odd mNil) mNil))) mNil)))
    (sSeq (sSet 7 (mCal m_l_stretch_due (mCons (mVar 4) (mCons (mVar 10) mNil))))
    (sIf (mNotT (mTest (mTh 3 m_l_is_due (mCalX m_stretch (mCons (mVar 4) (mCons (mVar 10) mNil))) (mCons (mOp ixD (mVar 7) (mC (.int 0))) (mCons (mOp ixD (mVar 7) (mC (.int 1))) mNil))))) (sRet (mC (.bl false))) sNil)))))))))))))))
    (sRet (mC (.bl true))))
def m_l_right : Bw → List D → Rp := mDefP 1 11 g_l_right
section
variable {P : Program} {w : World} {K : PySem.W.Frag} {mg : Str → Option Value} {base : Heap}
theorem C_l_right (T : Txt P K mg base) : Cal P w K mg base 10 "_law_right" ["_law_pot_here"] (spP K m_l_right) := by
  have C_l_bent := C_l_bent (P := P) (w := w) (base := base) T
  have C_l_is_due {kt : Nat} := C_l_is_due (P := P) (w := w) (base := base) (kt := kt) T
  have C_l_odd := C_l_odd (P := P) (w := w) (base := base) T
  have C_l_of := C_l_of (P := P) (w := w) (base := base) T
  have C_l_shown_due := C_l_shown_due (P := P) (w := w) (base := base) T
  have C_l_stretch_due := C_l_stretch_due (P := P) (w := w) (base := base) T
  have C_l_units := C_l_units (P := P) (w := w) (base := base) T
  have C_shown := C_shown (P := P) (w := w) (base := base) T
  have C_stretch := C_stretch (P := P) (w := w) (base := base) T
  obtain ⟨fd, F⟩ := T.d_l_right
  refine ⟨_, fd, okGL F sc_l_right (fun vs H Q E h => spP_len h) (fun A outer s H vs Q E hr hgd h => ?_), T.g_l_right, F.kp, (F.bindsN fun _ _ _ _ _ _ us hl => match us, hl with | [_], _ => rfl)⟩
  obtain ⟨pa, h⟩ := spP_body (N := ["_law_pot_here", "_law_lap", "_law_right_here", "_law_wrong", "_law_units_here", "_law_whole", "_law_many", "_law_due", "_law_top", "_law_some", "_law_share"]) h
  exact ⟨tS K pa W0 g_l_right, PSs.nox (qs_cons (q_for PassesOwn.never rfl (qi_range1 (by rfl) T.z_range (qa_cons v_int qa_nil)) (qg_name (i := 1) sc_l_right.nd rfl (.inl rfl))
    (qs_cons (q_set (ps_set (i := 2) sc_l_right.nd rfl (.inl rfl) (pv_calP C_l_units (hr.mono (by decide)) hgd (by rfl) (pv 0) (qa_cons v_int qa_nil))))
    (qs_cons (q_set (ps_set (i := 3) sc_l_right.nd rfl (.inl rfl) (pv_lst (qa_cons (pv_tup (qa_cons v_int (qa_cons v_str qa_nil))) (qa_cons (pv_tup (qa_cons v_int (qa_cons v_str qa_nil))) (qa_cons (pv_tup (qa_cons v_int (qa_cons v_str qa_nil))) (qa_cons (pv_tup (qa_cons v_bl (qa_cons v_str qa_nil))) (qa_cons (pv_tup (qa_cons v_int (qa_cons v_str qa_nil))) (qa_cons (pv_tup (qa_cons v_int qa_nil)) (qa_cons (pv_lst (qa_cons v_int (qa_cons v_str qa_nil))) qa_nil))))))))))
    (qs_cons (q_set (ps_set (i := 3) sc_l_right.nd rfl (.inl rfl) (pv_op (o_addAll (K := K) rfl) l_add (pv_var (pv 3)) (pv_lst (qa_cons (pv_tup (qa_cons v_int (qa_cons (pv_lst (qa_cons v_str qa_nil)) qa_nil))) (qa_cons (pv_tup (qa_cons v_str (qa_cons v_int qa_nil))) (qa_cons (pv_tup (qa_cons v_int (qa_cons v_non qa_nil))) (qa_cons (pv_tup (qa_cons v_int (qa_cons v_str (qa_cons v_int qa_nil)))) (qa_cons (pv_tup (qa_cons v_int (qa_cons v_str qa_nil))) qa_nil)))))))))
    (qs_cons (q_set (ps_set (i := 3) sc_l_right.nd rfl (.inl rfl) (pv_op (o_addAll (K := K) rfl) l_add (pv_var (pv 3)) (pv_lst (qa_cons (pv_calP C_l_bent (hr.mono (by decide)) hgd (by rfl) (pv 0) (qa_cons (pv_var (pv 2)) qa_nil)) (qa_cons (pv_calP C_l_odd (hr.mono (by decide)) hgd (by rfl) (pv 0) qa_nil) qa_nil))))))
    (qs_cons (q_set (ps_set (i := 4) sc_l_right.nd rfl (.inr rfl) (pv_calP C_l_of (hr.mono (by decide)) hgd (by rfl) (pv 0) (qa_cons (pv_op (o_addAll (K := K) rfl) l_add (pv_op (o_addAll (K := K) rfl) l_add (pv_op (o_mulAll (K := K) rfl) l_mul (pv_lst (qa_cons (pv_var (pv 2)) qa_nil)) v_int) (pv_lst (qa_cons (pv_tup (qa_cons v_int (qa_cons v_str qa_nil))) (qa_cons (pv_tup (qa_cons v_int (qa_cons v_str qa_nil))) qa_nil)))) (pv_var (pv 3))) qa_nil))))
    (qs_cons (q_set (ps_set (i := 5) sc_l_right.nd rfl (.inr rfl) (pv_calP C_l_of (hr.mono (by decide)) hgd (by rfl) (pv 0) (qa_cons (pv_lst (qa_cons v_int (qa_cons v_int (qa_cons v_int (qa_cons (pv_op o_pow l_pow v_int v_int) (qa_cons v_int (qa_cons (pv_un u_neg l_neg v_int) (qa_cons v_bl (qa_cons v_str (qa_cons v_non (qa_cons (pv_tup (qa_cons v_int qa_nil)) (qa_cons (pv_calP C_l_odd (hr.mono (by decide)) hgd (by rfl) (pv 0) qa_nil) qa_nil)))))))))))) qa_nil))))
    (qs_cons (q_set (ps_set (i := 6) sc_l_right.nd rfl (.inr rfl) (pv_calP C_l_of (hr.mono (by decide)) hgd (by rfl) (pv 0) (qa_cons (pv_lst (qa_cons v_int (qa_cons v_int (qa_cons v_int (qa_cons v_int (qa_cons v_int (qa_cons v_int (qa_cons (pv_un u_neg l_neg v_int) (qa_cons v_bl (qa_cons v_str (qa_cons (pv_op o_pow l_pow v_int v_int) (qa_cons (pv_lst (qa_cons v_int qa_nil)) (qa_cons (pv_calP C_l_odd (hr.mono (by decide)) hgd (by rfl) (pv 0) qa_nil) qa_nil))))))))))))) qa_nil))))
    (qs_cons (q_set (ps_set (i := 7) sc_l_right.nd rfl (.inl rfl) (pv_cal C_l_shown_due (hr.mono (by decide)) hgd (by rfl) (qa_cons (pv_var (pv 4)) (qa_cons (pv_var (pv 6)) (qa_cons (pv_var (pv 5)) qa_nil))))))
    (qs_cons (q_if (qt_not (qt_val (pv_th (kt := 6) rfl (C_l_is_due (kt := 7)) (hr.mono (by decide)) hgd (by rfl) T.tb_l_right rfl T.tm_l_right (LamX.lamS_by (sc := defScope s_l_right) (by decide +kernel)) (by rfl) (fun _ _ _ _ _ => rfl) (fun A2 outer2 s2 H2 E2 f2 d2 hr hgd =>
      (pv_calX (L2.takes_of rfl rfl rfl rfl) C_shown (hr.mono (by decide)) hgd (by rfl) (qa_cons (pv_var (pv 4)) (qa_cons (pv_var (pv 6)) (qa_cons (pv_var (pv 5)) qa_nil))))) (qa_cons (pv_ix (x_ix (K := K) rfl) l_ix (pv_var (pv 7)) v_int (fun _ _ => rfl)) (qa_cons (pv_ix (x_ix (K := K) rfl) l_ix (pv_var (pv 7)) v_int (fun _ _ => rfl)) qa_nil))))) (qs_one (q_ret v_bl)) qs_nil)
    (qs_cons (q_set (ps_set (i := 8) sc_l_right.nd rfl (.inl rfl) (pv_ix (x_ix (K := K) rfl) l_ix (pv_var (pv 2)) v_int (fun _ _ => rfl))))
    (qs_cons (q_set (ps_set (i := 9) sc_l_right.nd rfl (.inl rfl) (pv_lst (qa_cons v_int (qa_cons (pv_var (pv 8)) (qa_cons (pv_var (pv 8)) (qa_cons v_int (qa_cons v_str (qa_cons v_str (qa_cons (pv_op (o_addAll (K := K) rfl) l_add (pv_var (pv 8)) v_int) (qa_cons v_int (qa_cons (pv_un u_neg l_neg v_int) (qa_cons v_bl (qa_cons v_str (qa_cons v_str (qa_cons v_non qa_nil))))))))))))))))
    (qs_cons (q_set (ps_set (i := 10) sc_l_right.nd rfl (.inr rfl) (pv_calP C_l_of (hr.mono (by decide)) hgd (by rfl) (pv 0) (qa_cons (pv_op (o_addAll (K := K) rfl) l_add (pv_var (pv 9)) (pv_lst (qa_cons (pv_calP C_l_odd (hr.mono (by decide)) hgd (by rfl) (pv 0) qa_nil) qa_nil))) qa_nil))))
    (qs_cons (q_set (ps_set (i := 7) sc_l_right.nd rfl (.inl rfl) (pv_cal C_l_stretch_due (hr.mono (by decide)) hgd (by rfl) (qa_cons (pv_var (pv 4)) (qa_cons (pv_var (pv 10)) qa_nil)))))
    (qs_one (q_if (qt_not (qt_val (pv_th (kt := 6) rfl (C_l_is_due (kt := 7)) (hr.mono (by decide)) hgd (by rfl) T.tb_l_right rfl T.tm_l_right (LamX.lamS_by (sc := defScope s_l_right) (by decide +kernel)) (by rfl) (fun _ _ _ _ _ => rfl) (fun A2 outer2 s2 H2 E2 f2 d2 hr hgd =>
      (pv_calX (L2.takes_of rfl rfl rfl rfl) C_stretch (hr.mono (by decide)) hgd (by rfl) (qa_cons (pv_var (pv 4)) (qa_cons (pv_var (pv 10)) qa_nil)))) (qa_cons (pv_ix (x_ix (K := K) rfl) l_ix (pv_var (pv 7)) v_int (fun _ _ => rfl)) (qa_cons (pv_ix (x_ix (K := K) rfl) l_ix (pv_var (pv 7)) v_int (fun _ _ => rfl)) qa_nil))))) (qs_one (q_ret v_bl)) qs_nil))))))))))))))))
    (qs_one (q_ret v_bl))), h⟩
end
end Ak
namespace Ak
open PySem PySem.Spec PyProof.Rows L2
variable [Tb]
/-! ### the walk of readings -/
local macro_rules | `(tactic| walk_at "go1") => `(tactic| (first
  | with_reducible refine w_seq ?_ | with_reducible refine w_next ?_ | with_reducible refine w_set ?_ | with_reducible refine w_asgS ?_ | with_reducible refine w_ret ?_ | with_reducible refine w_drop ?_ | with_reducible refine w_ifS ?_
  | with_reducible refine w_op ?_ | with_reducible refine w_un ?_ | ((with_reducible apply w_var); (· exact rfl)) | with_reducible refine w_c ?_
  | with_reducible refine w_add ?_ | with_reducible refine w_sub ?_ | with_reducible refine w_lt ?_ | with_reducible refine w_le ?_ | with_reducible refine w_gt ?_ | with_reducible refine w_ge ?_ | with_reducible refine w_neg ?_ | with_reducible refine w_isN ?_ | with_reducible refine w_notN ?_
  | ((with_reducible refine w_eq ?_ ?_); (· exact rfl)) | ((with_reducible refine w_ne ?_ ?_); (· exact rfl))
  | with_reducible refine w_test ?_ | with_reducible refine w_B ?_ | with_reducible refine w_or ?_ | with_reducible refine w_and ?_ | with_reducible refine w_not ?_ | with_reducible refine w_andV ?_ | with_reducible refine w_orV ?_ | with_reducible refine w_notV ?_
  | with_reducible refine w_ifE ?_ | with_reducible refine w_chain ?_ | with_reducible refine w_cb ?_ | with_reducible refine w_nil ?_ | with_reducible refine w_cons ?_ | with_reducible refine w_tup ?_ | with_reducible refine w_lst ?_ | with_reducible refine w_call ?_
  | with_reducible refine w_int1 ?_ | with_reducible refine w_abs ?_ | with_reducible refine w_max2 ?_ | with_reducible refine w_min2 ?_
  | with_reducible refine w_mknx ?_ | with_reducible refine w_mkrt ?_ | with_reducible refine w_mkbk ?_ | with_reducible refine w_mkct ?_ | with_reducible refine w_ifT ?_ | with_reducible refine w_ifF ?_ | with_reducible refine w_ifNT ?_ | with_reducible refine w_ifNF ?_
  | with_reducible refine w_lc ?_ | with_reducible refine w_lrg ?_ | with_reducible refine w_rg1 ?_ | with_reducible refine w_rg2 ?_ | with_reducible refine w_exI ?_ | with_reducible refine w_exI2 ?_
  | with_reducible refine w_sl ?_ | with_reducible refine w_part ?_ | with_reducible refine w_noPart ?_ | with_reducible refine w_lcE ?_ | with_reducible refine w_lcZ ?_ | with_reducible refine w_yes ?_
  | with_reducible refine w_bl ?_ | with_reducible refine w_asgT ?_ | with_reducible refine w_gcons ?_ | with_reducible refine w_gnil ?_ | with_reducible refine w_par ?_ | with_reducible refine w_pair ?_
  | ((with_reducible refine w_ixL (v := ?vv) (sqL (by assumption)) ?ee ?_); (case ee => exact rfl)) | ((with_reducible refine w_ixT (v := ?vv) (sqT (by assumption)) ?ee ?_); (case ee => exact rfl))
  | ((with_reducible refine w_ixL (v := ?vv) (by assumption) ?ee ?_); (case ee => exact rfl)) | ((with_reducible refine w_ixT (v := ?vv) (by assumption) ?ee ?_); (case ee => exact rfl))
  | ((with_reducible refine w_ifDT ?_ ?_); (· first | omega | decide +kernel)) | ((with_reducible refine w_ifDF ?_ ?_); (· first | omega | decide +kernel | exact ne_IS | exact ne_SI | exact ne_IN | exact ne_SN | exact ne_RN))
  | ((with_reducible refine w_mod ?_ ?_); (· omega)) | ((with_reducible refine w_fdiv ?_ ?_ ?_); (· omega); (· omega))
  | ((with_reducible refine w_mulL ?_ ?_ ?_); (· omega); (· omega)) | ((with_reducible refine w_mulR ?_ ?_ ?_); (· omega); (· omega))
  | with_reducible refine w_lenL (sqL (by assumption)) ?_ | with_reducible refine w_lenL (by assumption) ?_ | with_reducible refine w_lenT (sqT (by assumption)) ?_ | with_reducible refine w_lenT (by assumption) ?_))
local macro_rules | `(tactic| walk_at "go") => `(tactic| repeat walk_at "go1")
/-! ### the law's own pot and cells (as draws.in, without what is drawn) -/
def PotL (n : Nat) (xs : List V) : Prop := ∃ a b c : Int, xs = [.int a, .int b, .int c] ∧ 0 ≤ a ∧ 0 ≤ b ∧ b < 2305843009213693952 ∧ 0 ≤ c ∧ c ≤ n
/-- all but what stands at p is as it was -/
def But (p : Addr) (H H' : Hp) : Prop := ∀ b o, b ≠ p → H b = some o → H' b = some o
theorem But.refl {p : Addr} {H : Hp} : But p H H := fun _ _ _ h => h
theorem But.trans {p : Addr} {H H1 H2 : Hp} (a : But p H H1) (b : But p H1 H2) : But p H H2 := fun c o n h => b c o n (a c o n h)
theorem But.upd {p : Addr} {H H' : Hp} {o : HO} (a : But p H H') : But p H (upd H' p o) := fun c u n h => by
  rw [upd_ne n]
  exact a c u n h
theorem But.new {p q : Addr} {H H' : Hp} {o : HO} (a : But p H H') (hq : H' q = none) : But p H (L2.upd H' q o) := fun c u n h => by
  rw [upd_ne (ne_of_none (a c u n h) hq)]
  exact a c u n h
theorem upd_old {H : Hp} {q b : Addr} {o u : HO} (hq : H q = none) (h : H b = some u) : upd H q o b = some u := by
  rw [upd_ne (ne_of_none h hq)]
  exact h
theorem But.tups {p : Addr} {H H' : Hp} {xs : List V} (b : But p H H') (hp : H p = some (.lst xs)) : ∀ a ys, H a = some (.tup ys) → H' a = some (.tup ys) := fun a ys h => b a _ (fun z => by
  rw [z, hp] at h
  cases h) h
/-- what a draw promises -/
def Draw (ok : V → Hp → Prop) (p : Addr) (m : Nat) (H : Hp) (Q : VK) : Prop := ∀ v H' ys, But p H H' → H' p = some (.lst ys) → PotL m ys → ok v H' → Q v H'
theorem cpow_of {i j : Int} (h0 : 0 ≤ i) (h : i < 340282366920938463463374607431768211456) (h1 : 0 ≤ j) (h2 : j ≤ 100) : CPowW i j := by
  refine ⟨h1, h2, Nat.lt_of_lt_of_le (m := 340282366920938463463374607431768211456) (by omega) ?_⟩
  exact Nat.pow_le_pow_right (i := 128) (j := 4096) (n := 2) (by decide) (by decide)
theorem cpow_gen {b k c m : Int} (hb : 0 ≤ b) (hb2 : b < 2305843009213693952) (hc : 0 ≤ c) (hc2 : c ≤ 100001) (hk : 0 ≤ k) (hk2 : k ≤ 1000000) (hm : 0 ≤ m) (hm2 : m ≤ 1000000) : CPowW (b + k * c * c + m) 3 := by
  have h1 : 0 ≤ k * c := Int.mul_nonneg hk hc
  have h2 : 0 ≤ k * c * c := Int.mul_nonneg h1 hc
  have h3 : k * c ≤ 1000000 * 100001 := Int.mul_le_mul hk2 hc2 hc (by decide)
  have h4 : k * c * c ≤ 1000000 * 100001 * 100001 := Int.mul_le_mul h3 hc2 hc (by decide)
  exact cpow_of (by omega) (by omega) (by decide) (by decide)
theorem _root_.L2.Same.but {p : Addr} {H H' : Hp} (s : Same H H') : But p H H' := fun b o _ h => s b o h
section
variable {P : Program} {w : World} {K : PySem.W.Frag} {mg : Str → Option Value} {base : Heap}
def spPot (K : PySem.W.Frag) : Sp := fun vs H Q _ => ∃ a k ns, vs = [.ref a, .int k] ∧ SqL K H a ((ns : List Int).map V.int) ∧ 0 ≤ k ∧ k ≤ 100 ∧ ∀ p H' ys, H p = none → Same H H' → H' p = some (.lst ys) → PotL 0 ys → Q (.ref p) H'
theorem C_l_pot (T : Txt P K mg base) : Cal P w K mg base 1 "_law_pot" ["_law_script", "_law_place"] (spPot K) := by
  obtain ⟨fd, F⟩ := T.d_l_pot
  refine ⟨_, fd, okG F sc_l_pot (fun vs H Q E h => ?_) (fun cdv A outer s H vs Q E hr hgd h => ?_), T.g_l_pot, F.kp, (F.bindsN fun _ _ _ _ _ _ us hl => match us, hl with | [_, _], _ => rfl)⟩
  · obtain ⟨p, n, u, rfl, _⟩ := h
    rfl
  · obtain ⟨a, k, ns, rfl, hS, hk, hk2, q⟩ := h
    refine ⟨_, PSs.nox (pss_cons (ps_set (i := 2) sc_l_pot.nd rfl (.inl rfl) (pe_ifExp (pt_cmpR o_lt (pv 1) (pe_callB (x_len (K := K) rfl) (by rfl) T.z_len (by decide +kernel) (pa_cons (pv 0) pa_nil)) (nomark _)) (pe_ix (x_ix (K := K) rfl) (pv 0) (pv 1) (fun _ _ => rfl)) (pe_op o_add (pe_op o_mul pe_int (pv 1)) pe_int)))
    (pss_cons (ps_set (i := 3) sc_l_pot.nd rfl (.inl rfl) (pe_op o_mul (pe_op o_mod (pe_callTy c_int1 (by rfl) T.z_int (by decide +kernel) (pa_cons (pe_callB c_abs (by rfl) T.z_abs (by decide +kernel) (pa_cons (pv 2) pa_nil)) pa_nil)) (pe_op o_pow (pe_op o_pow pe_int pe_int) pe_int)) (pe_callTy c_int1 (by rfl) T.z_int (by decide +kernel) (pa_cons (pe_cmpR o_ge (pe_callB c_abs (by rfl) T.z_abs (by decide +kernel) (pa_cons (pv 2) pa_nil)) (pe_op o_pow pe_int pe_int) (nomark _)) pa_nil))))
    (pss_cons (ps_set (i := 4) sc_l_pot.nd rfl (.inl rfl) (pe_op o_mod (pe_callTy c_int1 (by rfl) T.z_int (by decide +kernel) (pa_cons (pv 2) pa_nil)) pe_int))
    (pss_one (ps_ret (pe_lst (pa_cons (pv 3) (pa_cons (pe_op o_mod (pe_callTy c_int1 (by rfl) T.z_int (by decide +kernel) (pa_cons (pe_op o_add (pe_op o_add (pe_op o_mul (pv 4) pe_int) (pe_op o_mul (pe_op o_mul pe_int (pv 1)) (pv 1))) pe_int) pa_nil)) pe_int) (pa_cons pe_int pa_nil))))))))), ?_⟩
    try dsimp only [cxOf, Cx.nox, Cx.wish]
    rw [st_l_pot]; walk_at "go"
    refine w_if (fun e => ?g1) (fun e => ?_)
    case' g1 =>
      walk_at "go"
      obtain ⟨v, ev, mv⟩ := atI_ex (xs := ns.map V.int) hk e
      obtain ⟨z, _, rfl⟩ := List.mem_map.mp mv
      refine w_ixL hS ev ?_
    all_goals
      walk_at "go"
      refine w_pow (cpow_of (by decide) (by decide) (by decide) (by decide)) ?_
      walk_at "go"
      refine w_pow ⟨by decide, by decide, by decide +kernel⟩ ?_
      refine w_modG (Int.pow_pos (Int.pow_pos (by decide))) (fun r r0 _ => ?_)
      walk_at "go"
      refine w_pow (cpow_of (by decide) (by decide) (by decide) (by decide)) ?_
      walk_at "go"
      refine w_int1G (fun f f0 f1 => ?_)
      walk_at "go"
      refine w_newL rfl (fun p H1 np hp s1 => ?_)
      exact q _ _ _ np s1 hp ⟨_, _, 0, rfl, Int.mul_nonneg r0 f0, by omega, by omega, by omega, by omega⟩
def spCells (K : PySem.W.Frag) : Sp := fun vs H Q _ => ∃ a k ns, vs = [.ref a, .int k] ∧ SqL K H a ((ns : List Int).map V.int) ∧ 1 ≤ k ∧ k ≤ 100 ∧ ∀ p H' n, H p = none → Same H H' → n ≤ 100 → H' p = some (.lst (rgV 0 n)) → Q (.ref p) H'
theorem C_l_cells (T : Txt P K mg base) : Cal P w K mg base 1 "_law_cells" ["_law_script", "_law_most"] (spCells K) := by
  obtain ⟨fd, F⟩ := T.d_l_cells
  refine ⟨_, fd, okG F sc_l_cells (fun vs H Q E h => ?_) (fun cdv A outer s H vs Q E hr hgd h => ?_), T.g_l_cells, F.kp, (F.bindsN fun _ _ _ _ _ _ us hl => match us, hl with | [_, _], _ => rfl)⟩
  · obtain ⟨p, n, u, rfl, _⟩ := h
    rfl
  · obtain ⟨a, k, ns, rfl, hS, hk, hk2, q⟩ := h
    refine ⟨_, PSs.nox (pss_one (ps_ret (pe_listRg rfl (by rfl) T.z_list (prg_1 (by rfl) T.z_range (pe_callB (c_max2 rfl) (by rfl) T.z_max (by decide +kernel) (pa_cons pe_int (pa_cons (pe_callB (c_min2 rfl) (by rfl) T.z_min (by decide +kernel) (pa_cons (pv 1) (pa_cons (pe_callB (x_len (K := K) rfl) (by rfl) T.z_len (by decide +kernel) (pa_cons (pv 0) pa_nil)) pa_nil))) pa_nil))))))), ?_⟩
    try dsimp only [cxOf, Cx.nox, Cx.wish]
    rw [st_l_cells]; walk_at "go"
    refine w_newR (by decide) (by decide) ?_ ?_ (fun p H1 np hp s1 => ?_)
    · split <;> split <;> omega
    · split <;> split <;> omega
    · exact q _ _ _ np s1 (by split <;> split <;> omega) hp
end

/-! ### the law's tail over a mirrored _law_right; tables may grow -/
structure Fresh (q : Pot) : Prop where
  a0 : 0 ≤ q.a
  b0 : 0 ≤ q.b
  b1 : q.b < 2305843009213693952
  c0 : q.c = 0
def KBut (p : Addr) (H H' : Hp) : Prop := ∀ b o, b ≠ p → H b = some o → ∃ o', H' b = some o' ∧ (NoTab o → o' = o)
def spRight : Sp := fun vs H Q _ => ∃ p ys, vs = [.ref p] ∧ H p = some (.lst ys) ∧ PotL 0 ys ∧ Sub mkF H ∧ ∀ H', KBut p H H' → Sub mkF H' → Q (.bl true) H'
theorem spRight_of {K : PySem.W.Frag} {m : Bw → List D → Rp} (h : ∀ q : Pot, Fresh q → ∃ p', m (.pot q) [] = .ok (.bl true) p') {vs : List V} {H : Hp} {Q : VK} {E : XK} (w : spRight vs H Q E) : spP K m vs H Q E := by
  obtain ⟨p, ys, rfl, hp, ⟨a, b, c, rfl, ha, hb, hb2, hc, hc2⟩, sub, w⟩ := w
  obtain ⟨p', e⟩ := h ⟨a, b, c⟩ ⟨ha, hb, hb2, by show c = 0; omega⟩
  refine ⟨mkF, ⟨p, []⟩, .pot ⟨a, b, c⟩, [], [], rfl, sub, fun z hz => ?_, ⟨rfl, hp⟩, .nil, ?_⟩
  · rcases hz with rfl | hz
    · exact mkF_no sub hp
    · cases hz
  rw [e]
  intro v H' F' ex _ dv
  have ev := dv.isBl
  subst ev
  exact w H' (fun b o ne ho => ex.keep b o ho fun z => z.elim ne fun z => nomatch z) (ex.sub.less ex.le fun p hp => mkF_at hp)
theorem Cal.weak {P : Program} {w : World} {K : PySem.W.Frag} {mg : Str → Option Value} {base : Heap} {k : Nat} {x : Str} {ps : List Str} {sp sp' : Sp} (C : Cal P w K mg base k x ps sp) (h : ∀ vs H Q E, sp' vs H Q E → sp vs H Q E) : Cal P w K mg base k x ps sp' := by
  obtain ⟨f, fd, G, r⟩ := C.ex
  exact ⟨f, fd, ⟨fun vs H Q E z => G.many vs H Q E (h _ _ _ _ z), fun A st s H as us vs Q E hr hg e0 bt rel z => G.goes A st s H as us vs Q E hr hg e0 bt rel (h _ _ _ _ z)⟩, r⟩
theorem Kept.seq {K : PySem.W.Frag} {H H' : Hp} {a : Addr} {xs : List V} (k : Kept H H') (h : SqL K H a xs) : SqL K H' a xs := by
  rcases h with (h | ⟨o, h⟩) | h
  · exact .inl (.inl (k.at h))
  · exact .inl (.inr ⟨o, k.at h⟩)
  · exact .inr h
/-- a comprehension of trues over a list, whose turns make lambdas -/
theorem w_lcLK {K : PySem.W.Frag} {σ : L2.St} {H : Hp} {Q : VK} {a : Addr} {xs : List V} {g : TG} {te : TE} {vs : List Nat} (ha : SqL K H a xs) (hz : xs.length ≤ 1000000) (sub : Sub mkF H)
    (step : ∀ (i : Nat) (x : V) (H' : Hp) (Nx : VK), xs[i]? = some x → Kept H H' → Sub mkF H' → (∀ H3, Kept H' H3 → Sub mkF H3 → Nx (.bl true) H3) → g x (wipe σ vs) H' fun σ2 H2 => wipe σ2 vs = wipe σ vs ∧ te σ2 H2 Nx)
    (q : ∀ D H' ys, H' D = some (.lst ys) → (∀ (i : Nat) (y : V), ys[i]? = some y → y = .bl true) → Q (.ref D) H') : LcAt K (.ref a) g tYes te vs σ H Q := by
  refine ⟨a, rfl, ⟨xs, ha⟩, fun D hD => ?_⟩
  have start : Sub mkF (upd H D (.lst [])) := sub.updN (sub.isN hD) (plain_none hD)
  refine lc_list (K := K) (a := a) (xs := xs) (fun i H' => Kept H H' ∧ Sub mkF H' ∧ ∃ acc, H' D = some (.lst acc) ∧ acc.length = i ∧ ∀ y ∈ acc, y = V.bl true) ⟨Kept.of (same_new hD), start, [], upd_same, rfl, fun y hy => by cases hy⟩ (fun i H' _ h => h.1.seq ha) (fun i x H' hx h => ?_) (fun H' h => ?_)
  · obtain ⟨kp, sb, acc, hacc, hlen, hall⟩ := h
    refine step i x H' _ hx kp sb fun H3 kp3 sb3 => ?_
    have hi : i < xs.length := (List.getElem?_eq_some_iff.mp hx).1
    have at3 : H3 D = some (.lst acc) := kp3.at hacc
    refine ⟨acc, at3, Nat.lt_of_le_of_lt (show acc.length ≤ 1000000 by omega) (by decide), fun b o hb => ?_, sb3.updN (mkF_no sb3 at3) (plain_of at3), acc ++ [.bl true], upd_same, by simp [hlen], fun y hy => ?_⟩
    · rw [upd_ne (ne_of_none hb hD)]
      exact (kp.trans kp3) b o hb
    · rcases List.mem_append.mp hy with hy | hy
      · exact hall y hy
      · simpa using hy
  · obtain ⟨_, _, acc, hacc, _, hall⟩ := h
    exact q D H' acc hacc fun i y hy => hall y (List.mem_of_getElem? hy)

end Ak
namespace Ak
open PySem PySem.Spec PyProof.Rows L2
local instance tbI_plain : Tb := tb0
/-! ### plain reading of mirrors -/
structure PotOk (n : Nat) (q : Pot) : Prop where
  a0 : 0 ≤ q.a
  b0 : 0 ≤ q.b
  b1 : q.b < 2305843009213693952
  c0 : 0 ≤ q.c
  c1 : q.c ≤ n
theorem Fresh.ok {q : Pot} (h : Fresh q) : PotOk 0 q := ⟨h.a0, h.b0, h.b1, by rw [h.c0]; decide, by rw [h.c0]; decide⟩
theorem PotOk.mono {n m : Nat} {q : Pot} (h : PotOk n q) (l : n ≤ m) : PotOk m q := ⟨h.a0, h.b0, h.b1, h.c0, Int.le_trans h.c1 (by omega)⟩
/-! what comes out, by a wish -/
section
variable {α β : Type}
def Rs.wp (r : Rs α) (Q : α → S → Prop) : Prop := match r with
  | .ok a s => Q a s
  | _ => False
def Ro.wp (r : Ro) (N : S → Prop) (R : D → S → Prop) : Prop := match r with
  | .nx s => N s
  | .rt d s => R d s
  | _ => False
def Rv.wp (r : Rv) (Q : D → Prop) : Prop := match r with
  | .ok d => Q d
  | _ => False
def Rp.wp (r : Rp) (Q : D → Bw → Prop) : Prop := match r with
  | .ok d p => Q d p
  | _ => False
def owp (o : Option α) (Q : α → Prop) : Prop := match o with
  | some a => Q a
  | none => False
theorem owp_some {a : α} {Q : α → Prop} : owp (some a) Q = Q a := rfl
def blW (d : D) (Q : Bool → Prop) : Prop := match d with
  | .bl b => Q b
  | _ => False
theorem blW_bl {b : Bool} {Q : Bool → Prop} : blW (.bl b) Q = Q b := rfl
theorem owp_ite {c : Prop} [Decidable c] {o : Option α} {Q : α → Prop} (h : c) : owp (if c then o else none) Q = owp o Q := by rw [if_pos h]
def varW (x : Option (Option LV)) (i : Nat) (s : S) (Q : D → S → Prop) : Prop := match x with
  | some (some (.d x)) => Q x s
  | some (some (.l xs)) => Q (.lst xs) { s with e := s.e.set i (some (.d (.lst xs))) }
  | some (some (.k ks vs)) => Q (.dic ks vs) { s with e := s.e.set i (some (.d (.dic ks vs))) }
  | _ => False
theorem varW_d {x : D} {i : Nat} {s : S} {Q : D → S → Prop} : varW (some (some (.d x))) i s Q = Q x s := rfl
theorem varW_l {x : List D} {i : Nat} {s : S} {Q : D → S → Prop} : varW (some (some (.l x))) i s Q = Q (.lst x) { s with e := s.e.set i (some (.d (.lst x))) } := rfl
theorem varW_k {ks : List Key} {vs : List D} {i : Nat} {s : S} {Q : D → S → Prop} : varW (some (some (.k ks vs))) i s Q = Q (.dic ks vs) { s with e := s.e.set i (some (.d (.dic ks vs))) } := rfl
def potW (b : Bw) (Q : Pot → Prop) : Prop := match b with
  | .pot p => Q p
  | _ => False
theorem potW_pot {p : Pot} {Q : Pot → Prop} : potW (.pot p) Q = Q p := rfl
def isPW (x : Option (Option LV)) (Q : Prop) : Prop := match x with
  | some (some LV.p) => Q
  | _ => False
theorem isPW_p {Q : Prop} : isPW (some (some .p)) Q = Q := rfl
variable {s : S} {Q : D → S → Prop} {T : Bool → S → Prop} {L : List D → S → Prop} {N : S → Prop} {R : D → S → Prop} {fa fb fc : S → Rs D} {ft fu : S → Rs Bool} {fr : S → Rs (List D)} {g1 g2 : S → Ro}
theorem wp_bind {r : Rs α} {f : α → S → Rs β} {Q : β → S → Prop} : (r.bind f).wp Q = r.wp fun a s => (f a s).wp Q := by cases r <;> rfl
theorem wp_st {r : Rs α} {f : α → S → Ro} : (r.st f).wp N R = r.wp fun a s => (f a s).wp N R := by cases r <;> rfl
theorem wp_liftO {o : Option α} {Q : α → S → Prop} : (liftO o s).wp Q = owp o fun a => Q a s := by cases o <;> rfl
theorem wp_ok {a : α} {Q : α → S → Prop} : (Rs.ok a s).wp Q = Q a s := rfl
theorem wp_C {d : D} : (mC d s).wp Q = Q d s := rfl
theorem wp_var {i : Nat} : (mVar i s).wp Q = varW (s.e[i]?) i s Q := by
  unfold mVar varW
  generalize s.e[i]? = x
  cases x with
  | none => rfl
  | some y =>
    cases y with
    | none => rfl
    | some z => cases z <;> rfl
theorem wp_op {g : D → D → Option D} : (mOp g fa fb s).wp Q = (fa s).wp fun x s1 => (fb s1).wp fun y s2 => owp (g x y) fun z => Q z s2 := by
  unfold mOp
  simp only [wp_bind, wp_liftO]
theorem wp_un {g : D → Option D} : (mUn g fa s).wp Q = (fa s).wp fun x s1 => owp (g x) fun z => Q z s1 := by
  unfold mUn
  simp only [wp_bind, wp_liftO]
theorem wp_test : (mTest fa s).wp T = (fa s).wp fun x s1 => blW x fun b => T b s1 := by
  unfold mTest
  rw [wp_bind]
  congr 1
  funext x s1
  cases x <;> rfl
theorem wp_if : (mIf ft fa fb s).wp Q = (ft s).wp fun b s1 => (b = true → (fa s1).wp Q) ∧ (b = false → (fb s1).wp Q) := by
  unfold mIf
  rw [wp_bind]
  congr 1
  funext b s1
  cases b <;> simp
theorem wp_notT : (mNotT ft s).wp T = (ft s).wp fun b s1 => T (!b) s1 := by
  unfold mNotT
  rw [wp_bind]
  rfl
theorem wp_andT : (mAndT ft fu s).wp T = (ft s).wp fun b s1 => (b = true → (fu s1).wp T) ∧ (b = false → T false s1) := by
  unfold mAndT
  rw [wp_bind]
  congr 1
  funext b s1
  cases b <;> simp [Rs.wp]
theorem wp_orT : (mOrT ft fu s).wp T = (ft s).wp fun b s1 => (b = true → T true s1) ∧ (b = false → (fu s1).wp T) := by
  unfold mOrT
  rw [wp_bind]
  congr 1
  funext b s1
  cases b <;> simp [Rs.wp]
theorem wp_nil : (mNil s).wp L = L [] s := rfl
theorem wp_cons : (mCons fa fr s).wp L = (fa s).wp fun x s1 => (fr s1).wp fun xs s2 => L (x :: xs) s2 := by
  unfold mCons
  simp only [wp_bind, wp_ok]
theorem wp_CB {g : List D → Option D} : (mCB g fr s).wp Q = (fr s).wp fun xs s1 => owp (g xs) fun z => Q z s1 := by
  unfold mCB
  simp only [wp_bind, wp_liftO]
theorem wp_tup : (mTup fr s).wp Q = (fr s).wp fun xs s1 => owp (tupD xs) fun z => Q z s1 := by
  unfold mTup
  simp only [wp_bind, wp_liftO]
theorem wp_lst : (mLst fr s).wp Q = (fr s).wp fun xs s1 => owp (lstD xs) fun z => Q z s1 := by
  unfold mLst
  simp only [wp_bind, wp_liftO]
theorem wp_seq : (sSeq g1 g2 s).wp N R = (g1 s).wp (fun s1 => (g2 s1).wp N R) R := by
  unfold sSeq
  cases g1 s <;> rfl
theorem wp_ret : (sRet fa s).wp N R = (fa s).wp R := by
  unfold sRet
  rw [wp_st]
  rfl
theorem wp_sNil : (sNil s).wp N R = N s := rfl
theorem wp_set {i : Nat} : (sSet i fa s).wp N R = (fa s).wp fun d s1 => N (s1.put i (some (.d d))) := by
  unfold sSet
  rw [wp_st]
  rfl
theorem wp_sIf : (sIf ft g1 g2 s).wp N R = (ft s).wp fun b s1 => (b = true → (g1 s1).wp N R) ∧ (b = false → (g2 s1).wp N R) := by
  unfold sIf
  rw [wp_st]
  congr 1
  funext b s1
  cases b <;> simp
theorem wp_defP {np n : Nat} {g : S → Ro} {p : Bw} {ds : List D} {Q : D → Bw → Prop} (hl : ds.length + 1 = np) : (mDefP np n g p ds).wp Q = (g (initP n p ds)).wp (fun s => isPW (s.e[0]?) (Q .non s.p)) (fun d s => isPW (s.e[0]?) (Q d s.p)) := by
  unfold mDefP
  rw [if_pos hl]
  cases g (initP n p ds) with
  | nx s =>
    unfold Ro.wp isPW
    dsimp only
    generalize s.e[0]? = x
    cases x with
    | none => rfl
    | some y =>
      cases y with
      | none => rfl
      | some z => cases z <;> rfl
  | rt d s =>
    unfold Ro.wp isPW
    dsimp only
    generalize s.e[0]? = x
    cases x with
    | none => rfl
    | some y =>
      cases y with
      | none => rfl
      | some z => cases z <;> rfl
  | _ => rfl
theorem wp_def {np n : Nat} {g : S → Ro} {ds : List D} {Q : D → Prop} (hl : ds.length = np) : (mDef np n g ds).wp Q = (g (initS n ds)).wp (fun _ => Q .non) (fun d _ => Q d) := by
  unfold mDef
  rw [if_pos hl]
  cases g (initS n ds) <;> rfl
def potsW (x : Option (Option LV)) (b : Bw) (k : D) (Q : Int → Prop) : Prop := match x, b, k with
  | some (some LV.p), .pot q, .int k => owp (atI q.vs k) fun v => match v with
    | .int n => Q n
    | _ => False
  | _, _, _ => False
theorem potsW_0 {q : Pot} {Q : Int → Prop} : potsW (some (some .p)) (.pot q) (.int 0) Q = Q q.a := rfl
theorem potsW_1 {q : Pot} {Q : Int → Prop} : potsW (some (some .p)) (.pot q) (.int 1) Q = Q q.b := rfl
theorem potsW_2 {q : Pot} {Q : Int → Prop} : potsW (some (some .p)) (.pot q) (.int 2) Q = Q q.c := rfl
theorem wp_potC {i : Nat} {k : Int} : (mPotAt i (mC (.int k)) s).wp Q = potsW (s.e[i]?) s.p (.int k) fun n => Q (.int n) s := by
  unfold mPotAt mC Rs.bind potsW
  dsimp only
  generalize s.e[i]? = x
  cases x with
  | none => rfl
  | some y =>
    cases y with
    | none => rfl
    | some z =>
      cases z with
      | p =>
        dsimp only
        cases s.p with
        | pot q =>
          dsimp only
          cases atI q.vs k with
          | none => rfl
          | some v => cases v <;> rfl
        | _ => rfl
      | _ => rfl
def setW (x : Option (Option LV)) (b : Bw) (k : Int) (d : D) (Q : Pot → Prop) : Prop := match x, b, d with
  | some (some LV.p), .pot q, .int n => owp (q.set k n) Q
  | _, _, _ => False
theorem setW_0 {q : Pot} {n : Int} {Q : Pot → Prop} : setW (some (some .p)) (.pot q) 0 (.int n) Q = Q { q with a := n } := rfl
theorem setW_2 {q : Pot} {n : Int} {Q : Pot → Prop} : setW (some (some .p)) (.pot q) 2 (.int n) Q = Q { q with c := n } := rfl
theorem wp_potSetC {i : Nat} {k : Int} : (sPotSet i fa (mC (.int k)) s).wp N R = (fa s).wp fun d s1 => setW (s1.e[i]?) s1.p k d fun q => N { s1 with p := .pot q } := by
  unfold sPotSet
  rw [wp_st]
  congr 1
  funext d s1
  unfold mC Rs.st setW
  dsimp only
  generalize s1.e[i]? = x
  cases x with
  | none => rfl
  | some y =>
    cases y with
    | none => rfl
    | some z =>
      cases z with
      | p =>
        dsimp only
        cases d with
        | int n =>
          cases s1.p with
          | pot q =>
            dsimp only
            cases q.set k n <;> rfl
          | _ => rfl
        | _ => cases s1.p <;> rfl
      | _ => rfl
theorem defP_of {np n : Nat} {g : S → Ro} {p : Bw} {ds : List D} {Q : D → Bw → Prop} (hl : ds.length + 1 = np) (h : (g (initP n p ds)).wp (fun s => isPW (s.e[0]?) (Q .non s.p)) (fun d s => isPW (s.e[0]?) (Q d s.p))) : (mDefP np n g p ds).wp Q := by
  rw [wp_defP hl]
  exact h
theorem def_of {np n : Nat} {g : S → Ro} {ds : List D} {Q : D → Prop} (hl : ds.length = np) (h : (g (initS n ds)).wp (fun _ => Q .non) (fun d _ => Q d)) : (mDef np n g ds).wp Q := by
  rw [wp_def hl]
  exact h
end
/-! operators, by a wish -/
section
variable {Q : D → Prop} {i j : Int}
theorem owp_if {α : Type} {c : Prop} [Decidable c] {x : α} {Q : α → Prop} : owp (if c then some x else none) Q = (c ∧ Q x) := by
  by_cases h : c
  · rw [if_pos h]
    simp [owp, h]
  · rw [if_neg h]
    simp [owp, h]
theorem owp_cmp {f : Int → Int → Bool} : owp (cmpD f (.int i) (.int j)) Q = Q (.bl (f i j)) := rfl
theorem owp_add : owp (addD (.int i) (.int j)) Q = Q (.int (i + j)) := rfl
theorem owp_sub : owp (subD (.int i) (.int j)) Q = Q (.int (i - j)) := rfl
theorem owp_mul : owp (mulD (.int i) (.int j)) Q = ((small i || small j || (wideB i && wideB j)) = true ∧ Q (.int (i * j))) := owp_if
theorem owp_fdiv : owp (fdivD (.int i) (.int j)) Q = ((0 < j ∧ j.natAbs.log2 < 9000) ∧ Q (.int (i / j))) := owp_if
theorem owp_mod : owp (modD (.int i) (.int j)) Q = (0 < j ∧ Q (.int (i % j))) := owp_if
theorem owp_pow : owp (powD (.int i) (.int j)) Q = ((0 ≤ j ∧ j ≤ 100 ∧ i.natAbs < 2 ^ 4096) ∧ Q (.int (i ^ j.toNat))) := owp_if
theorem owp_int : owp (intD [.int i]) Q = Q (.int i) := rfl
theorem owp_intB {b : Bool} : owp (intD [.bl b]) Q = Q (.int (if b = true then 1 else 0)) := rfl
theorem owp_tup {xs : List D} : owp (tupD xs) Q = (xs.length ≤ 100000 ∧ Q (.tup xs)) := owp_if
theorem owp_lst {xs : List D} : owp (lstD xs) Q = (xs.length ≤ 100000 ∧ Q (.lst xs)) := owp_if
theorem atI_mem {α : Type} {xs : List α} {k : Int} (h0 : 0 ≤ k) (h1 : k < xs.length) : ∃ v, atI xs k = some v ∧ v ∈ xs := by
  have hl : k.toNat < xs.length := by omega
  refine ⟨xs[k.toNat], ?_, List.getElem_mem hl⟩
  unfold atI ixN
  simp [h0, h1, hl]
theorem log2_lt {u : Int} (h0 : 0 < u) (h1 : u < 1073741824) : u.natAbs.log2 < 9000 := by
  have : u.natAbs.log2 < 30 := (Nat.log2_lt (by omega)).mpr (by omega)
  omega
theorem owp_ixMem {xs : List D} {k : Int} (h0 : 0 ≤ k) (h1 : k < xs.length) (h : ∀ x ∈ xs, Q x) : owp (ixD (.lst xs) (.int k)) Q := by
  obtain ⟨v, e, m⟩ := atI_mem h0 h1
  show owp (atI xs k) Q
  rw [e]
  exact h v m
theorem small_of (h : -18446744073709551616 < i ∧ i < 18446744073709551616) : small i = true := decide_eq_true h
end
/-! calls, walks, comprehensions, by a wish -/
section
variable {s : S} {Q : D → S → Prop} {T : Bool → S → Prop} {L : List D → S → Prop} {M : LV → S → Prop} {N : S → Prop} {R : D → S → Prop} {fa fb fc : S → Rs D} {ft fu : S → Rs Bool} {fr : S → Rs (List D)} {g1 g2 : S → Ro} {fm : S → Rs LV}
theorem wp_cal {m : List D → Rv} : (mCal m fr s).wp Q = (fr s).wp fun ds s1 => (m ds).wp fun d => Q d s1 := by
  unfold mCal
  rw [wp_bind]
  congr 1
  funext ds s1
  cases m ds <;> rfl
def calPW (x : Option (Option LV)) (s : S) (m : Bw → List D → Rp) (ds : List D) (Q : D → S → Prop) : Prop := match x with
  | some (some LV.p) => (m s.p ds).wp fun d p' => Q d { s with p := p' }
  | _ => False
theorem calPW_p {m : Bw → List D → Rp} {ds : List D} : calPW (some (some .p)) s m ds Q = (m s.p ds).wp fun d p' => Q d { s with p := p' } := rfl
theorem wp_calP {i : Nat} {m : Bw → List D → Rp} : (mCalP i m fr s).wp Q = isPW (s.e[i]?) ((fr s).wp fun ds s1 => calPW (s1.e[i]?) s1 m ds Q) := by
  unfold mCalP
  generalize s.e[i]? = x
  cases x with
  | none => rfl
  | some y =>
    cases y with
    | none => rfl
    | some z =>
      cases z with
      | p =>
        show Rs.wp (Rs.bind _ _) Q = Rs.wp _ _
        rw [wp_bind]
        congr 1
        funext ds s1
        generalize s1.e[i]? = x
        cases x with
        | none => rfl
        | some y =>
          cases y with
          | none => rfl
          | some z =>
            cases z with
            | p =>
              show Rs.wp (match m s1.p ds with
                | .ok d p' => .ok d { s1 with p := p' }
                | .no => .no) Q = _
              cases e : m s1.p ds with
              | ok d p' => simp only [calPW, e]; rfl
              | no => simp only [calPW, e]; rfl
            | _ => rfl
      | _ => rfl
theorem wp_frz : (mFrz fm s).wp Q = (fm s).wp fun x s1 => owp x.d? fun d => Q d s1 := by
  unfold mFrz
  rw [wp_bind]
  congr 1
  funext x s1
  rw [wp_liftO]
theorem wp_mkL : (mMkL fr s).wp M = (fr s).wp fun xs s1 => xs.length ≤ 100000 ∧ M (.l xs) s1 := by
  unfold mMkL
  rw [wp_bind]
  congr 1
  funext xs s1
  by_cases h : xs.length ≤ 100000
  · rw [if_pos h]
    simp [Rs.wp, h]
  · rw [if_neg h]
    simp [Rs.wp, h]
theorem wp_mk {i : Nat} : (sMk i fm s).wp N R = (fm s).wp fun x s1 => N (s1.put i (some x)) := by
  unfold sMk
  rw [wp_st]
  rfl
theorem wp_drop : (sDrop fa s).wp N R = (fa s).wp fun _ s1 => N s1 := by
  unfold sDrop
  rw [wp_st]
  rfl
theorem wp_asg {b : D → S → Option S} : (sAsg b fa s).wp N R = (fa s).wp fun d s1 => owp (b d s1) N := by
  unfold sAsg
  rw [wp_st]
  congr 1
  funext d s1
  cases b d s1 <;> rfl
theorem wp_iter {g : D → Option (List D)} : (mIter g fa s).wp L = (fa s).wp fun x s1 => owp (g x) fun ds => L ds s1 := by
  unfold mIter
  rw [wp_bind]
  congr 1
  funext x s1
  rw [wp_liftO]
theorem wp_for {fi : S → Rs (List D)} {b : D → S → Option S} {body : S → Ro} : (sFor fi b body s).wp N R = (fi s).wp fun ds s1 => (forL b body ds s1).wp N R := by
  unfold sFor
  rw [wp_st]
theorem forL_inv {b : D → S → Option S} {body : S → Ro} {ds : List D} (I : Nat → S → Prop) (h0 : I 0 s) (step : ∀ i d s, ds[i]? = some d → I i s → owp (b d s) fun s1 => (body s1).wp (fun s2 => I (i + 1) s2) R) (fin : ∀ s, I ds.length s → N s) : (forL b body ds s).wp N R := by
  induction ds generalizing s I with
  | nil => exact fin s h0
  | cons d ds ih =>
    have st := step 0 d s rfl h0
    unfold forL
    cases e : b d s with
    | none =>
      rw [e] at st
      exact st.elim
    | some s1 =>
      rw [e] at st
      have st : (body s1).wp (fun s2 => I 1 s2) R := st
      dsimp only
      cases e2 : body s1 with
      | nx s2 =>
        rw [e2] at st
        exact ih (fun i => I (i + 1)) st (fun i d s hd hi => step (i + 1) d s (by simpa using hd) hi) (fun s hs => fin s hs)
      | rt d2 s2 =>
        rw [e2] at st
        exact st
      | _ =>
        rw [e2] at st
        exact st.elim
theorem wp_comp {fi : S → Rs (List D)} {b : D → S → Option S} {vs : List Nat} : (mComp fi b ft fa vs s).wp M = (fi s).wp fun ds s1 => ds.length ≤ 100000 ∧ (compL b ft fa vs ds s1).wp fun ys s2 => M (.l ys) s2 := by
  unfold mComp
  rw [wp_bind]
  congr 1
  funext ds s1
  by_cases h : ds.length ≤ 100000
  · rw [if_pos h, wp_bind]
    simp [Rs.wp, h]
  · rw [if_neg h]
    simp [Rs.wp, h]
theorem compL_inv {b : D → S → Option S} {vs : List Nat} {ds : List D} (I : Nat → List D → S → Prop) (ys0 : List D) (h0 : I 0 ys0 s)
    (step : ∀ i d ys s, ds[i]? = some d → I i ys s → owp (b d (s.wipe vs)) fun s1 => (ft s1).wp fun c s2 => (c = true → (fa s2).wp fun y s3 => I (i + 1) (ys ++ [y]) (s3.back s vs)) ∧ (c = false → I (i + 1) ys (s2.back s vs)))
    (fin : ∀ ys s, I ds.length (ys0 ++ ys) s → L ys s) : (compL b ft fa vs ds s).wp L := by
  induction ds generalizing s I ys0 L with
  | nil => exact fin [] s (by rw [List.append_nil]; exact h0)
  | cons d ds ih =>
    have st := step 0 d ys0 s rfl h0
    unfold compL
    cases e : b d (s.wipe vs) with
    | none =>
      rw [e] at st
      exact st.elim
    | some s1 =>
      rw [e] at st
      have st : (ft s1).wp fun c s2 => (c = true → (fa s2).wp fun y s3 => I 1 (ys0 ++ [y]) (s3.back s vs)) ∧ (c = false → I 1 ys0 (s2.back s vs)) := st
      dsimp only
      cases e2 : ft s1 with
      | no =>
        rw [e2] at st
        exact st.elim
      | ex c v s2 =>
        rw [e2] at st
        exact st.elim
      | ok c s2 =>
        rw [e2] at st
        obtain ⟨st1, st2⟩ := st
        cases c with
        | true =>
          have st1 := st1 rfl
          dsimp only
          cases e3 : fa s2 with
          | no =>
            rw [e3] at st1
            exact st1.elim
          | ex c v s2 =>
            rw [e3] at st1
            exact st1.elim
          | ok y s3 =>
            rw [e3] at st1
            have st1 : I 1 (ys0 ++ [y]) (s3.back s vs) := st1
            dsimp only
            have := ih (L := fun ys s => L (y :: ys) s) (s := s3.back s vs) (fun i => I (i + 1)) (ys0 ++ [y]) st1 (fun i d ys s hd hi => step (i + 1) d ys s (by simpa using hd) hi) (fun ys s hs => fin (y :: ys) s (by simpa using hs))
            cases e4 : compL b ft fa vs ds (s3.back s vs) with
            | ok ys s4 =>
              rw [e4] at this
              exact this
            | _ =>
              rw [e4] at this
              exact this.elim
        | false =>
          exact ih (s := s2.back s vs) (fun i => I (i + 1)) ys0 (st2 rfl) (fun i d ys s hd hi => step (i + 1) d ys s (by simpa using hd) hi) (fun ys s hs => fin ys s hs)
end

/-! more operations, by a wish -/
section
variable {s : S} {Q : D → S → Prop} {T : Bool → S → Prop} {L : List D → S → Prop} {M : LV → S → Prop} {N : S → Prop} {R : D → S → Prop} {fa fb fc : S → Rs D} {ft fu : S → Rs Bool} {fr : S → Rs (List D)} {g1 g2 : S → Ro} {fm fn : S → Rs LV} {fl fh : S → Rs (Option Int)} {O : Option Int → S → Prop}
def intW (d : D) (Q : Int → Prop) : Prop := match d with
  | .int i => Q i
  | _ => False
theorem intW_int {i : Int} {Q : Int → Prop} : intW (.int i) Q = Q i := rfl
theorem wp_part : (mPart fa s).wp O = (fa s).wp fun x s1 => intW x fun i => O (some i) s1 := by
  unfold mPart
  rw [wp_bind]
  congr 1
  funext x s1
  cases x <;> rfl
theorem wp_noPart : (mNoPart s).wp O = O none s := rfl
theorem wp_sl : (mSl fa fl fh s).wp Q = (fa s).wp fun x s1 => (fl s1).wp fun l s2 => (fh s2).wp fun h s3 => owp (slD x l h) fun z => Q z s3 := by
  unfold mSl
  simp only [wp_bind, wp_liftO]
theorem wp_and : (mAnd fa fb s).wp Q = (fa s).wp fun x s1 => blW x fun b => (b = true → (fb s1).wp Q) ∧ (b = false → Q (.bl false) s1) := by
  unfold mAnd
  rw [wp_bind]
  congr 1
  funext x s1
  cases x with
  | bl b => cases b <;> simp [Rs.wp, blW]
  | _ => rfl
theorem wp_or : (mOr fa fb s).wp Q = (fa s).wp fun x s1 => blW x fun b => (b = true → Q (.bl true) s1) ∧ (b = false → (fb s1).wp Q) := by
  unfold mOr
  rw [wp_bind]
  congr 1
  funext x s1
  cases x with
  | bl b => cases b <;> simp [Rs.wp, blW]
  | _ => rfl
theorem wp_not : (mNot fa s).wp Q = (fa s).wp fun x s1 => blW x fun b => Q (.bl (!b)) s1 := by
  unfold mNot
  rw [wp_bind]
  congr 1
  funext x s1
  cases x <;> rfl
theorem wp_chain {g g' : D → D → Option D} : (mChain g g' fa fb fc s).wp Q = (fa s).wp fun x s1 => (fb s1).wp fun y s2 => owp (g x y) fun r => blW r fun b => (b = true → (fc s2).wp fun z s3 => owp (g' y z) fun d => Q d s3) ∧ (b = false → Q (.bl false) s2) := by
  unfold mChain
  simp only [wp_bind]
  congr 1
  funext x s1
  congr 1
  funext y s2
  cases g x y with
  | none => rfl
  | some r =>
    cases r with
    | bl b => cases b <;> simp [owp_some, blW_bl, wp_bind, wp_liftO, wp_ok]
    | _ => rfl
def strW (d : D) (Q : Str → Prop) : Prop := match d with
  | .str x => Q x
  | _ => False
theorem strW_str {x : Str} {Q : Str → Prop} : strW (.str x) Q = Q x := rfl
theorem wp_s1 {g : Str → D → Option D} : (mS1 g fa fb s).wp Q = (fa s).wp fun x s1 => strW x fun a => (fb s1).wp fun y s2 => owp (g a y) fun z => Q z s2 := by
  unfold mS1
  rw [wp_bind]
  congr 1
  funext x s1
  cases x with
  | str a =>
    show Rs.wp (Rs.bind _ _) Q = _
    simp only [wp_bind, wp_liftO, strW]
  | _ => rfl
theorem wp_s0 {g : Str → Option D} : (mS0 g fa s).wp Q = (fa s).wp fun x s1 => strW x fun a => owp (g a) fun z => Q z s1 := by
  unfold mS0
  rw [wp_bind]
  congr 1
  funext x s1
  cases x with
  | str a =>
    show Rs.wp (liftO _ _) Q = _
    rw [wp_liftO]
    rfl
  | _ => rfl
def twoW (ds : List D) (Q : D → D → Prop) : Prop := match ds with
  | [x, y] => Q x y
  | _ => False
theorem twoW_two {x y : D} {Q : D → D → Prop} : twoW [x, y] Q = Q x y := rfl
theorem wp_par {i j : Nat} : (sPar i j fr s).wp N R = (fr s).wp fun ds s1 => twoW ds fun x y => N ((s1.put i (some (.d x))).put j (some (.d y))) := by
  unfold sPar
  rw [wp_st]
  congr 1
  funext ds s1
  match ds with
  | [] => rfl
  | [_] => rfl
  | [_, _] => rfl
  | _ :: _ :: _ :: _ => rfl
theorem wp_parMV {i j : Nat} : (sParMV i j fm fb s).wp N R = (fm s).wp fun x s1 => (fb s1).wp fun y s2 => N ((s2.put j (some (.d y))).put i (some x)) := by
  unfold sParMV
  simp only [wp_st]
  rfl
theorem wp_parVM {i j : Nat} : (sParVM i j fa fm s).wp N R = (fa s).wp fun x s1 => (fm s1).wp fun y s2 => N ((s2.put i (some (.d x))).put j (some y)) := by
  unfold sParVM
  simp only [wp_st]
  rfl
theorem wp_parMM {i j : Nat} : (sParMM i j fm fn s).wp N R = (fm s).wp fun x s1 => (fn s1).wp fun y s2 => N ((s2.put j (some y)).put i (some x)) := by
  unfold sParMM
  simp only [wp_st]
  rfl
def rngO : List D → Option (List D)
  | [.int n] => if -1000000 ≤ n ∧ n ≤ 1000000 then some (rangeD 0 n.toNat) else none
  | _ => none
theorem owp_rng {n : Int} {Q : List D → Prop} : owp (rngO [.int n]) Q = ((-1000000 ≤ n ∧ n ≤ 1000000) ∧ Q (rangeD 0 n.toNat)) := owp_if
theorem wp_rng1 : (mRng1 fr s).wp L = (fr s).wp fun xs s1 => owp (rngO xs) fun ys => L ys s1 := by
  unfold mRng1
  rw [wp_bind]
  congr 1
  funext xs s1
  unfold rngO
  split
  · rename_i n
    by_cases h : -1000000 ≤ n ∧ n ≤ 1000000
    · rw [if_pos h]
      simp [Rs.wp, owp, h]
    · rw [if_neg h]
      simp [Rs.wp, owp, h]
  · first
    | rfl
    | (split
       · simp_all
       · rfl)
def zipO : List D → Option (List D)
  | [.lst xs, .lst ys] => some (zipD xs ys)
  | [.tup xs, .tup ys] => some (zipD xs ys)
  | _ => none
theorem owp_zipL {xs ys : List D} {Q : List D → Prop} : owp (zipO [.lst xs, .lst ys]) Q = Q (zipD xs ys) := rfl
theorem owp_zipT {xs ys : List D} {Q : List D → Prop} : owp (zipO [.tup xs, .tup ys]) Q = Q (zipD xs ys) := rfl
theorem wp_zip : (mZip fr s).wp L = (fr s).wp fun xs s1 => owp (zipO xs) fun ys => L ys s1 := by
  unfold mZip
  rw [wp_bind]
  congr 1
  funext xs s1
  unfold zipO
  split
  · rfl
  · rfl
  · first
    | rfl
    | (split
       · simp_all
       · simp_all
       · rfl)
def enum2O : List D → Option (List D)
  | [.lst xs, .int 2] => some (enumD 2 xs)
  | _ => none
theorem owp_enum2 {xs : List D} {Q : List D → Prop} : owp (enum2O [.lst xs, .int 2]) Q = Q (enumD 2 xs) := rfl
theorem wp_enum2 : (mEnum2 fr s).wp L = (fr s).wp fun xs s1 => owp (enum2O xs) fun ys => L ys s1 := by
  unfold mEnum2
  rw [wp_bind]
  congr 1
  funext xs s1
  unfold enum2O
  split
  · rfl
  · first
    | rfl
    | (split
       · simp_all
       · rfl)
theorem wp_mkO {g : D → Option (List D)} : (mMkO g fa s).wp M = (fa s).wp fun x s1 => owp (g x) fun xs => M (.l xs) s1 := by
  unfold mMkO
  rw [wp_bind]
  congr 1
  funext x s1
  cases g x with
  | none => rfl
  | some xs => rfl
end

/-! owned lists and dicts, things, by a wish -/
section
variable {s : S} {Q : D → S → Prop} {T : Bool → S → Prop} {L : List D → S → Prop} {M : LV → S → Prop} {N : S → Prop} {R : D → S → Prop} {fa fb fc : S → Rs D} {ft fu : S → Rs Bool} {fr : S → Rs (List D)} {g1 g2 : S → Ro} {fm fn : S → Rs LV}
def lW (x : Option (Option LV)) (Q : List D → Prop) : Prop := match x with
  | some (some (.l xs)) => Q xs
  | _ => False
theorem lW_l {xs : List D} {Q : List D → Prop} : lW (some (some (.l xs))) Q = Q xs := rfl
def kW (x : Option (Option LV)) (Q : List Key → List D → Prop) : Prop := match x with
  | some (some (.k ks vs)) => Q ks vs
  | _ => False
theorem kW_k {ks : List Key} {vs : List D} {Q : List Key → List D → Prop} : kW (some (some (.k ks vs))) Q = Q ks vs := rfl
def oneW (ds : List D) (Q : D → Prop) : Prop := match ds with
  | [x] => Q x
  | _ => False
theorem oneW_one {x : D} {Q : D → Prop} : oneW [x] Q = Q x := rfl
def lstW (d : D) (Q : List D → Prop) : Prop := match d with
  | .lst xs => Q xs
  | _ => False
theorem lstW_lst {xs : List D} {Q : List D → Prop} : lstW (.lst xs) Q = Q xs := rfl
theorem wp_app {i : Nat} : (sApp i fr s).wp N R = lW (s.e[i]?) fun _ => (fr s).wp fun ds s1 => lW (s1.e[i]?) fun xs => oneW ds fun d => xs.length < 100000 ∧ N (s1.put i (some (.l (xs ++ [d])))) := by
  unfold sApp
  generalize s.e[i]? = x
  match x with
  | none => rfl
  | some none => rfl
  | some (some (.d _)) => rfl
  | some (some (.k _ _)) => rfl
  | some (some .p) => rfl
  | some (some (.l _)) =>
    show Ro.wp (Rs.st _ _) N R = Rs.wp _ _
    rw [wp_st]
    congr 1
    funext ds s1
    generalize s1.e[i]? = x
    match x, ds with
    | none, _ => rfl
    | some none, _ => rfl
    | some (some (.d _)), _ => rfl
    | some (some (.k _ _)), _ => rfl
    | some (some .p), _ => rfl
    | some (some (.l xs)), [] => rfl
    | some (some (.l xs)), _ :: _ :: _ => rfl
    | some (some (.l xs)), [d] =>
      by_cases h : xs.length < 100000 <;> simp [lW, oneW, Ro.wp, h]
theorem wp_ext {i : Nat} : (sExt i fr s).wp N R = lW (s.e[i]?) fun _ => (fr s).wp fun ds s1 => lW (s1.e[i]?) fun xs => oneW ds fun d => lstW d fun ys => xs.length + ys.length ≤ 100000 ∧ N (s1.put i (some (.l (xs ++ ys)))) := by
  unfold sExt
  generalize s.e[i]? = x
  match x with
  | none => rfl
  | some none => rfl
  | some (some (.d _)) => rfl
  | some (some (.k _ _)) => rfl
  | some (some .p) => rfl
  | some (some (.l _)) =>
    show Ro.wp (Rs.st _ _) N R = Rs.wp _ _
    rw [wp_st]
    congr 1
    funext ds s1
    generalize s1.e[i]? = x
    match x, ds with
    | none, _ => rfl
    | some none, _ => rfl
    | some (some (.d _)), _ => rfl
    | some (some (.k _ _)), _ => rfl
    | some (some .p), _ => rfl
    | some (some (.l xs)), [] => rfl
    | some (some (.l xs)), d1 :: _ :: _ => cases d1 <;> rfl
    | some (some (.l xs)), [d] =>
      cases d with
      | lst ys => by_cases h : xs.length + ys.length ≤ 100000 <;> simp [lW, oneW, lstW, Ro.wp, h]
      | _ => rfl
theorem wp_dput {i : Nat} : (sDPutO i fa fb s).wp N R = (fa s).wp fun d s1 => kW (s1.e[i]?) fun _ _ => (fb s1).wp fun y s2 => kW (s2.e[i]?) fun ks vs => owp y.key fun k => ks.length < 100000 ∧ N (s2.put i (some (.k (putKs ks k) (putVs ks vs k d)))) := by
  unfold sDPutO
  rw [wp_st]
  congr 1
  funext d s1
  generalize s1.e[i]? = x
  match x with
  | none => rfl
  | some none => rfl
  | some (some (.d _)) => rfl
  | some (some (.l _)) => rfl
  | some (some .p) => rfl
  | some (some (.k _ _)) =>
    show Ro.wp (Rs.st _ _) N R = Rs.wp _ _
    rw [wp_st]
    congr 1
    funext y s2
    generalize s2.e[i]? = x
    generalize y.key = z
    match x, z with
    | none, _ => rfl
    | some none, _ => rfl
    | some (some (.d _)), _ => rfl
    | some (some (.l _)), _ => rfl
    | some (some .p), _ => rfl
    | some (some (.k ks vs)), none => rfl
    | some (some (.k ks vs)), some k =>
      by_cases h : ks.length < 100000 <;> simp [kW, owp, Ro.wp, h]
end

section
variable {s : S} {Q : D → S → Prop} {T : Bool → S → Prop} {L : List D → S → Prop} {M : LV → S → Prop} {N : S → Prop} {R : D → S → Prop} {fa fb fc : S → Rs D} {ft fu : S → Rs Bool} {fr : S → Rs (List D)} {g1 g2 : S → Ro} {fm fn : S → Rs LV}
def flatW (o : Option D) (Q : D → Prop) : Prop := owp o fun z => z.isFlat = true ∧ Q z
theorem flat_wp {o : Option D} : Rs.wp (match o with
    | some z => if z.isFlat then Rs.ok z s else .no
    | none => .no) Q = flatW o fun z => Q z s := by
  cases o with
  | none => rfl
  | some z => by_cases h : z.isFlat = true <;> simp [flatW, owp, Rs.wp, h]
theorem flatW_of {z : D} {o : Option D} {Q : D → Prop} (e : o = some z) (f : z.isFlat = true) : flatW o Q = Q z := by
  subst e
  simp [flatW, owp, f]
theorem wp_opR {g : D → D → Option D} {i : Nat} : (mOpR g fa i s).wp Q = (fa s).wp fun x s1 => lW (s1.e[i]?) fun xs => flatW (g x (.lst xs)) fun z => Q z s1 := by
  unfold mOpR
  rw [wp_bind]
  congr 1
  funext x s1
  generalize s1.e[i]? = y
  match y with
  | none => rfl
  | some none => rfl
  | some (some (.d _)) => rfl
  | some (some (.k _ _)) => rfl
  | some (some .p) => rfl
  | some (some (.l xs)) => exact flat_wp
theorem wp_opL {g : D → D → Option D} {i : Nat} : (mOpL i g fb s).wp Q = lW (s.e[i]?) fun _ => (fb s).wp fun y s1 => lW (s1.e[i]?) fun xs => flatW (g (.lst xs) y) fun z => Q z s1 := by
  unfold mOpL
  generalize s.e[i]? = x
  match x with
  | none => rfl
  | some none => rfl
  | some (some (.d _)) => rfl
  | some (some (.k _ _)) => rfl
  | some (some .p) => rfl
  | some (some (.l _)) =>
    show Rs.wp (Rs.bind _ _) Q = Rs.wp _ _
    rw [wp_bind]
    congr 1
    funext y s1
    generalize s1.e[i]? = y
    match y with
    | none => rfl
    | some none => rfl
    | some (some (.d _)) => rfl
    | some (some (.k _ _)) => rfl
    | some (some .p) => rfl
    | some (some (.l xs)) => exact flat_wp
theorem wp_CBO {g : List D → Option D} {i : Nat} : (mCBO g i s).wp Q = lW (s.e[i]?) fun xs => flatW (g [.lst xs]) fun z => Q z s := by
  unfold mCBO
  generalize s.e[i]? = x
  match x with
  | none => rfl
  | some none => rfl
  | some (some (.d _)) => rfl
  | some (some (.k _ _)) => rfl
  | some (some .p) => rfl
  | some (some (.l xs)) => exact flat_wp
def objW (d : D) (Q : Str → List Str → List D → Prop) : Prop := match d with
  | .obj c ks vs => Q c ks vs
  | _ => False
theorem objW_obj {c : Str} {ks : List Str} {vs : List D} {Q : Str → List Str → List D → Prop} : objW (.obj c ks vs) Q = Q c ks vs := rfl
theorem wp_prop {cn : Str} {m : List D → Rv} : (mProp cn m fa s).wp Q = (fa s).wp fun x s1 => objW x fun c ks vs => c = cn ∧ (m [.obj c ks vs]).wp fun d => Q d s1 := by
  unfold mProp
  rw [wp_bind]
  congr 1
  funext x s1
  cases x with
  | obj c ks vs =>
    by_cases h : c = cn
    · simp only [h, if_true, objW, true_and]
      cases m [.obj cn ks vs] <;> rfl
    · simp only [h, if_false, objW, false_and]
      rfl
  | _ => rfl
theorem wp_meth {cn n : Str} {m : List D → Rv} : (mMeth cn n m fa fr s).wp Q = (fa s).wp fun x s1 => objW x fun c ks vs => (c = cn ∧ ks.contains n = false) ∧ (fr s1).wp fun ds s2 => (m (.obj c ks vs :: ds)).wp fun d => Q d s2 := by
  unfold mMeth
  rw [wp_bind]
  congr 1
  funext x s1
  cases x with
  | obj c ks vs =>
    by_cases h : c = cn ∧ ks.contains n = false
    · simp only [h, and_self, if_true, objW, true_and]
      rw [wp_bind]
      congr 1
      funext ds s2
      cases m (.obj cn ks vs :: ds) <;> rfl
    · simp only [h, if_false, objW, false_and]
      rfl
  | _ => rfl
def bobjW (d : D) (b : Bw) (Q : Str → List Str → List D → Prop) : Prop := match d, b with
  | .non, .obj c ks vs => Q c ks vs
  | _, _ => False
theorem bobjW_obj {c : Str} {ks : List Str} {vs : List D} {Q : Str → List Str → List D → Prop} : bobjW .non (.obj c ks vs) Q = Q c ks vs := rfl
theorem wp_new {cn : Str} {m : Bw → List D → Rp} : (mNew cn m fr s).wp Q = (fr s).wp fun ds s1 => (m (.obj cn [] []) ds).wp fun d b => bobjW d b fun c ks vs => c = cn ∧ Q (.obj c ks vs) s1 := by
  unfold mNew
  rw [wp_bind]
  congr 1
  funext ds s1
  cases m (.obj cn [] []) ds with
  | no => rfl
  | ok d b =>
    cases d with
    | non =>
      cases b with
      | obj c ks vs => by_cases h : c = cn <;> simp [Rs.wp, Rp.wp, bobjW, h]
      | _ => rfl
    | _ => cases b <;> rfl
end

section
variable {s : S} {Q : D → S → Prop} {T : Bool → S → Prop} {L : List D → S → Prop} {M : LV → S → Prop} {N : S → Prop} {R : D → S → Prop} {fa fb fc : S → Rs D} {ft fu : S → Rs Bool} {fr : S → Rs (List D)} {g1 g2 : S → Ro} {fm fn : S → Rs LV}
def dW (x : Option (Option LV)) (Q : D → Prop) : Prop := match x with
  | some (some (.d x)) => Q x
  | _ => False
theorem dW_d {x : D} {Q : D → Prop} : dW (some (some (.d x))) Q = Q x := rfl
theorem wp_varP {i : Nat} : (mVarP i s).wp Q = dW (s.e[i]?) fun x => Q x s := by
  unfold mVarP
  generalize s.e[i]? = x
  match x with
  | none => rfl
  | some none => rfl
  | some (some (.d _)) => rfl
  | some (some (.k _ _)) => rfl
  | some (some .p) => rfl
  | some (some (.l xs)) => rfl
theorem wp_pureR : (pureR fa s).wp Q = (fa s).wp Q := by
  unfold pureR
  cases fa s <;> rfl
theorem wp_pairs0 {P : List Key × List D → S → Prop} : (mPairs [] s).wp P = P ([], []) s := rfl
theorem wp_pairs {f g : S → Rs D} {r : List ((S → Rs D) × (S → Rs D))} {P : List Key × List D → S → Prop} : (mPairs ((f, g) :: r) s).wp P = (f s).wp fun x s1 => (g s1).wp fun y s2 => owp x.key fun k => (mPairs r s2).wp fun z s3 => P (k :: z.1, y :: z.2) s3 := by
  rw [mPairs, wp_bind]
  congr 1
  funext x s1
  rw [wp_bind]
  congr 1
  funext y s2
  cases x.key with
  | none => rfl
  | some k =>
    show Rs.wp (Rs.bind _ _) P = _
    rw [wp_bind]
    rfl
theorem wp_disp {fs : List ((S → Rs D) × (S → Rs D))} : (mDisp fs s).wp M = (mPairs fs s).wp fun z s1 => z.1.length ≤ 15 ∧ M (.k (mergeL [] [] z.1 z.2).1 (mergeL [] [] z.1 z.2).2) s1 := by
  unfold mDisp
  rw [wp_bind]
  congr 1
  funext z s1
  by_cases h : z.1.length ≤ 15 <;> simp [Rs.wp, h]
theorem whileL_inv {n : Nat} (I : Nat → S → Prop) (h0 : I n s) (step : ∀ m s, I m s → (ft s).wp fun c s1 => (c = true → ∃ k, m = k + 1 ∧ (g1 s1).wp (fun s2 => I k s2) R) ∧ (c = false → 0 < m ∧ N s1)) : (whileL ft g1 n s).wp N R := by
  induction n generalizing s with
  | zero =>
    have st := step 0 s h0
    exfalso
    cases e : ft s with
    | ok c s1 =>
      rw [e] at st
      obtain ⟨a, b⟩ := st
      cases c with
      | true =>
        obtain ⟨k, z, _⟩ := a rfl
        cases z
      | false => exact absurd (b rfl).1 (Nat.lt_irrefl 0)
    | _ =>
      rw [e] at st
      exact st
  | succ n ih =>
    have st := step (n + 1) s h0
    unfold whileL
    cases e : ft s with
    | ok c s1 =>
      rw [e] at st
      obtain ⟨a, b⟩ := st
      cases c with
      | true =>
        obtain ⟨k, z, w⟩ := a rfl
        cases z
        dsimp only
        cases e2 : g1 s1 with
        | nx s2 =>
          rw [e2] at w
          exact ih w
        | rt d s2 =>
          rw [e2] at w
          exact w
        | _ =>
          rw [e2] at w
          exact w.elim
      | false => exact (b rfl).2
    | _ =>
      rw [e] at st
      exact st.elim
end
theorem owp_lenL {xs : List D} {Q : D → Prop} : owp (lenD [.lst xs]) Q = Q (.int xs.length) := rfl

section
variable {s : S} {Q : D → S → Prop} {fr : S → Rs (List D)}
theorem wp_popAt {i : Nat} : (mPopAt i fr s).wp Q = lW (s.e[i]?) fun _ => (fr s).wp fun ds s1 => lW (s1.e[i]?) fun xs => oneW ds fun d => intW d fun k => (-1000000 ≤ k ∧ k ≤ 1000000) ∧ owp (seqIndex? k xs.length) fun j => owp (xs[j]?) fun d => Q d (s1.put i (some (.l (xs.eraseIdx j)))) := by
  unfold mPopAt
  generalize s.e[i]? = x
  match x with
  | none => rfl
  | some none => rfl
  | some (some (.d _)) => rfl
  | some (some (.k _ _)) => rfl
  | some (some .p) => rfl
  | some (some (.l _)) =>
    show Rs.wp (Rs.bind _ _) Q = Rs.wp _ _
    rw [wp_bind]
    congr 1
    funext ds s1
    generalize s1.e[i]? = x
    match x, ds with
    | none, _ => rfl
    | some none, _ => rfl
    | some (some (.d _)), _ => rfl
    | some (some (.k _ _)), _ => rfl
    | some (some .p), _ => rfl
    | some (some (.l xs)), [] => rfl
    | some (some (.l xs)), d1 :: _ :: _ => cases d1 <;> rfl
    | some (some (.l xs)), [d] =>
      cases d with
      | int k =>
        by_cases h : -1000000 ≤ k ∧ k ≤ 1000000
        · simp only [h, and_self, if_true, lW, oneW, intW, true_and]
          cases seqIndex? k xs.length with
          | none => rfl
          | some j =>
            show Rs.wp (match xs[j]? with
              | some d => Rs.ok d (s1.put i (some (.l (xs.eraseIdx j))))
              | none => .no) Q = owp (xs[j]?) _
            cases xs[j]? <;> rfl
        · simp only [h, if_false, lW, oneW, intW, false_and]
          rfl
      | _ => rfl
end
theorem flatW_lenL {xs : List D} {Q : D → Prop} : flatW (lenD [.lst xs]) Q = Q (.int xs.length) := flatW_of rfl rfl
theorem seqIndex_nat {r : Int} {n : Nat} (h0 : 0 ≤ r) (h1 : r < n) : seqIndex? r n = some r.toNat := by
  unfold seqIndex?
  have : ¬ r < 0 := by omega
  simp [this, h0, h1]
theorem perm_erase {α : Type} : ∀ (xs : List α) (j : Nat) (h : j < xs.length), ([xs[j]] ++ xs.eraseIdx j).Perm xs
  | [], _, h => absurd h (Nat.not_lt_zero _)
  | x :: xs, 0, _ => .refl _
  | x :: xs, j + 1, h => (List.Perm.swap x (xs[j]'(Nat.lt_of_succ_lt_succ h)) (xs.eraseIdx j)).trans ((perm_erase xs j (Nat.lt_of_succ_lt_succ h)).cons x)

/-! more equations -/
section
variable {s : S} {Q : D → S → Prop} {T : Bool → S → Prop} {L : List D → S → Prop} {M : LV → S → Prop} {N : S → Prop} {R : D → S → Prop} {fa fb fc : S → Rs D} {ft fu fv : S → Rs Bool} {fr : S → Rs (List D)} {g1 g2 : S → Ro} {fm fn : S → Rs LV}
theorem Rv.wp_ok {d : D} {Q : D → Prop} : (Rv.ok d).wp Q = Q d := rfl
theorem Rp.wp_ok {d : D} {p : Bw} {Q : D → Bw → Prop} : (Rp.ok d p).wp Q = Q d p := rfl
theorem Rv.of_wp {r : Rv} {d : D} (h : r.wp fun x => x = d) : r = .ok d := by
  cases r with
  | ok x => exact congrArg Rv.ok h
  | _ => exact h.elim
theorem Rv.wp_mono {r : Rv} {P Q : D → Prop} (h : r.wp P) (m : ∀ d, P d → Q d) : r.wp Q := by
  cases r with
  | ok x => exact m _ h
  | _ => exact h.elim
theorem Rp.wp_mono {r : Rp} {P Q : D → Bw → Prop} (h : r.wp P) (m : ∀ d p, P d p → Q d p) : r.wp Q := by
  cases r with
  | ok x => exact m _ _ h
  | _ => exact h.elim
theorem wp_yes : (mYes s).wp T = T true s := rfl
theorem wp_dNew : (mDNew s).wp M = M (.k [] []) s := rfl
theorem wp_ifT : (mIfT ft fu fv s).wp T = (ft s).wp fun b s1 => (b = true → (fu s1).wp T) ∧ (b = false → (fv s1).wp T) := by
  unfold mIfT
  rw [wp_bind]
  congr 1
  funext b s1
  cases b <;> simp
theorem wp_pop {i : Nat} : (mPop i s).wp Q = lW (s.e[i]?) fun xs => owp (xs[xs.length - 1]?) fun d => Q d (s.put i (some (.l xs.dropLast))) := by
  unfold mPop
  generalize s.e[i]? = x
  match x with
  | none => rfl
  | some none => rfl
  | some (some (.d _)) => rfl
  | some (some (.k _ _)) => rfl
  | some (some .p) => rfl
  | some (some (.l xs)) =>
    show Rs.wp (match xs[xs.length - 1]? with
      | some d => Rs.ok d (s.put i (some (.l xs.dropLast)))
      | none => .no) Q = owp (xs[xs.length - 1]?) _
    cases xs[xs.length - 1]? <;> rfl
def pobjW (b : Bw) (Q : Str → List Str → List D → Prop) : Prop := match b with
  | .obj c ks vs => Q c ks vs
  | _ => False
theorem pobjW_obj {c : Str} {ks : List Str} {vs : List D} {Q : Str → List Str → List D → Prop} : pobjW (.obj c ks vs) Q = Q c ks vs := rfl
def rdW (b : Bw) (Q : D → List Key → List D → List Key → List D → Prop) : Prop := match b with
  | .rd u ks vs ks2 vs2 => Q u ks vs ks2 vs2
  | _ => False
theorem rdW_rd {u : D} {ks ks2 : List Key} {vs vs2 : List D} {Q : D → List Key → List D → List Key → List D → Prop} : rdW (.rd u ks vs ks2 vs2) Q = Q u ks vs ks2 vs2 := rfl
theorem wp_self {i : Nat} {cn f : Str} : (mSelf i cn f s).wp Q = isPW (s.e[i]?) (pobjW s.p fun c ks vs => c = cn ∧ owp (lookD f ks vs) fun d => Q d s) := by
  unfold mSelf
  generalize s.e[i]? = x
  match x with
  | none => rfl
  | some none => rfl
  | some (some (.d _)) => rfl
  | some (some (.k _ _)) => rfl
  | some (some (.l _)) => rfl
  | some (some .p) =>
    cases s.p with
    | obj c ks vs =>
      by_cases h : c = cn <;> simp only [h, if_true, if_false, isPW_p, pobjW_obj, wp_liftO, true_and, false_and] <;> rfl
    | _ => rfl
theorem wp_sSelf {i : Nat} {cn f : Str} : (sSelf i cn f fa s).wp N R = (fa s).wp fun d s1 => isPW (s1.e[i]?) (pobjW s1.p fun c ks vs => (c = cn ∧ ks.length < 100) ∧ N { s1 with p := .obj c (fsK f ks) (fsV f d ks vs) }) := by
  unfold sSelf
  rw [wp_st]
  congr 1
  funext d s1
  generalize s1.e[i]? = x
  match x with
  | none => rfl
  | some none => rfl
  | some (some (.d _)) => rfl
  | some (some (.k _ _)) => rfl
  | some (some (.l _)) => rfl
  | some (some .p) =>
    cases s1.p with
    | obj c ks vs =>
      by_cases h : c = cn ∧ ks.length < 100 <;> simp only [h, if_true, if_false, isPW_p, pobjW_obj, true_and, false_and] <;> rfl
    | _ => rfl
theorem wp_rdU {i : Nat} : (mRdU i s).wp Q = isPW (s.e[i]?) (rdW s.p fun u _ _ _ _ => Q u s) := by
  unfold mRdU
  generalize s.e[i]? = x
  match x with
  | none => rfl
  | some none => rfl
  | some (some (.d _)) => rfl
  | some (some (.k _ _)) => rfl
  | some (some (.l _)) => rfl
  | some (some .p) => cases s.p <;> rfl
def pkW (e : Env') (p : Bw) (Q : D → Env' → Prop) : Prop := match e, p with
  | some LV.p :: r, .rd u ks vs ks2 vs2 => Q (rdObj u ks vs ks2 vs2) r
  | _, _ => False
theorem pkW_rd {r : Env'} {u : D} {ks ks2 : List Key} {vs vs2 : List D} {Q : D → Env' → Prop} : pkW (some LV.p :: r) (.rd u ks vs ks2 vs2) Q = Q (rdObj u ks vs ks2 vs2) r := rfl
theorem wp_peekG {α : Type} {ok : α → Bool} {f : S → Rs α} {Q : α → S → Prop} : (mPeekG ok f s).wp Q = pkW s.e s.p fun o r => plainE r = true ∧ (f ⟨some (.d o) :: r, s.p⟩).wp fun d _ => ok d = true ∧ Q d s := by
  obtain ⟨e, p⟩ := s
  unfold mPeekG
  match e with
  | [] => rfl
  | none :: r => rfl
  | some (.d _) :: r => rfl
  | some (.l _) :: r => rfl
  | some (.k _ _) :: r => rfl
  | some .p :: r =>
    cases p with
    | rd u ks vs ks2 vs2 =>
      by_cases h : plainE r = true
      · simp only [h, if_true, pkW_rd, true_and]
        cases f ⟨some (.d (rdObj u ks vs ks2 vs2)) :: r, .rd u ks vs ks2 vs2⟩ with
        | ok d s2 => by_cases h2 : ok d = true <;> simp [Rs.wp, h2]
        | _ => rfl
      · simp [h, Rs.wp, pkW_rd]
    | _ => rfl
theorem wp_peek : (mPeek fa s).wp Q = pkW s.e s.p fun o r => plainE r = true ∧ (fa ⟨some (.d o) :: r, s.p⟩).wp fun d _ => d.isFlat = true ∧ Q d s := wp_peekG
theorem wp_peekT : (mPeekT ft s).wp T = pkW s.e s.p fun o r => plainE r = true ∧ (ft ⟨some (.d o) :: r, s.p⟩).wp fun d _ => T d s := by
  unfold mPeekT
  rw [wp_peekG]
  simp
theorem wp_rdPut {rows : Bool} : (sRdPut rows fa fb s).wp N R = (fa s).wp fun d s1 => isPW (s1.e[0]?) (rdW s1.p fun _ _ _ _ _ => (fb s1).wp fun y s2 => isPW (s2.e[0]?) (rdW s2.p fun u ks vs ks2 vs2 => owp y.key fun k => (ks.length < 1000 ∧ ks2.length < 1000) ∧ N { s2 with p := if rows then .rd u (putKs ks k) (putVs ks vs k d) ks2 vs2 else .rd u ks vs (putKs ks2 k) (putVs ks2 vs2 k d) })) := by
  unfold sRdPut
  rw [wp_st]
  congr 1
  funext d s1
  generalize s1.e[0]? = x
  match x with
  | none => rfl
  | some none => rfl
  | some (some (.d _)) => rfl
  | some (some (.k _ _)) => rfl
  | some (some (.l _)) => rfl
  | some (some .p) =>
    obtain ⟨e1, p1⟩ := s1
    cases p1 with
    | rd u ks vs ks2 vs2 =>
      show Ro.wp (Rs.st _ _) N R = Rs.wp _ _
      rw [wp_st]
      congr 1
      funext y s2
      generalize s2.e[0]? = x
      match x with
      | none => rfl
      | some none => rfl
      | some (some (.d _)) => rfl
      | some (some (.k _ _)) => rfl
      | some (some (.l _)) => rfl
      | some (some .p) =>
        obtain ⟨e2, p2⟩ := s2
        cases p2 with
        | rd u ks vs ks2 vs2 =>
          cases y.key with
          | none => rfl
          | some k =>
            by_cases h : ks.length < 1000 ∧ ks2.length < 1000 <;> simp only [h, if_true, if_false, isPW_p, rdW_rd, owp_some, true_and, false_and, and_self] <;> rfl
        | _ => rfl
    | _ => rfl
theorem wp_methP {m : Bw → List D → Rp} : (mMethP m fr s).wp Q = isPW (s.e[0]?) (rdW s.p fun _ _ _ _ _ => (fr s).wp fun ds s1 => isPW (s1.e[0]?) ((m s1.p ds).wp fun d p' => Q d { s1 with p := p' })) := by
  unfold mMethP
  generalize s.e[0]? = x
  match x with
  | none => rfl
  | some none => rfl
  | some (some (.d _)) => rfl
  | some (some (.k _ _)) => rfl
  | some (some (.l _)) => rfl
  | some (some .p) =>
    cases s.p with
    | rd u ks vs ks2 vs2 =>
      show Rs.wp (Rs.bind _ _) Q = Rs.wp _ _
      rw [wp_bind]
      congr 1
      funext ds s1
      generalize s1.e[0]? = x
      match x with
      | none => rfl
      | some none => rfl
      | some (some (.d _)) => rfl
      | some (some (.k _ _)) => rfl
      | some (some (.l _)) => rfl
      | some (some .p) =>
        show Rs.wp (match m s1.p ds with
          | .ok d p' => .ok d { s1 with p := p' }
          | .no => .no) Q = Rp.wp _ _
        cases m s1.p ds <;> rfl
    | _ => rfl
def tlW (d : D) (Q : List D → Prop) : Prop := match d with
  | .tup ys => Q ys
  | .lst ys => Q ys
  | _ => False
theorem tlW_tup {ys : List D} {Q : List D → Prop} : tlW (.tup ys) Q = Q ys := rfl
theorem wp_star : (mStar fa fr s).wp L = (fa s).wp fun x s1 => tlW x fun ys => (fr s1).wp fun xs s2 => L (ys ++ xs) s2 := by
  unfold mStar
  rw [wp_bind]
  congr 1
  funext x s1
  cases x with
  | tup ys =>
    show Rs.wp (Rs.bind _ _) L = Rs.wp _ _
    rw [wp_bind]
    rfl
  | lst ys =>
    show Rs.wp (Rs.bind _ _) L = Rs.wp _ _
    rw [wp_bind]
    rfl
  | _ => rfl
theorem wp_setIx {i : Nat} : (sSetIx i fa fb s).wp N R = (fa s).wp fun d s1 => lW (s1.e[i]?) fun _ => (fb s1).wp fun k s2 => lW (s2.e[i]?) fun xs => intW k fun k => owp (ixN xs.length k) fun j => N (s2.put i (some (.l (xs.set j d)))) := by
  unfold sSetIx
  rw [wp_st]
  congr 1
  funext d s1
  generalize s1.e[i]? = x
  match x with
  | none => rfl
  | some none => rfl
  | some (some (.d _)) => rfl
  | some (some (.k _ _)) => rfl
  | some (some .p) => rfl
  | some (some (.l _)) =>
    show Ro.wp (Rs.st _ _) N R = Rs.wp _ _
    rw [wp_st]
    congr 1
    funext k s2
    generalize s2.e[i]? = x
    match x with
    | none => rfl
    | some none => rfl
    | some (some (.d _)) => rfl
    | some (some (.k _ _)) => rfl
    | some (some .p) => rfl
    | some (some (.l xs)) =>
      cases k with
      | int k =>
        show Ro.wp (match ixN xs.length k with
          | some j => .nx (s2.put i (some (.l (xs.set j d))))
          | none => .no) N R = owp (ixN xs.length k) _
        cases ixN xs.length k <;> rfl
      | _ => rfl
theorem wp_atL {i : Nat} : (mAtL i fb s).wp Q = lW (s.e[i]?) fun _ => (fb s).wp fun y s1 => lW (s1.e[i]?) fun xs => intW y fun k => owp (atI xs k) fun d => Q d s1 := by
  unfold mAtL
  generalize s.e[i]? = x
  match x with
  | none => rfl
  | some none => rfl
  | some (some (.d _)) => rfl
  | some (some (.k _ _)) => rfl
  | some (some .p) => rfl
  | some (some (.l _)) =>
    show Rs.wp (Rs.bind _ _) Q = Rs.wp _ _
    rw [wp_bind]
    congr 1
    funext y s1
    generalize s1.e[i]? = x
    match x with
    | none => rfl
    | some none => rfl
    | some (some (.d _)) => rfl
    | some (some (.k _ _)) => rfl
    | some (some .p) => rfl
    | some (some (.l xs)) =>
      cases y with
      | int k =>
        show Rs.wp (liftO (atI xs k) s1) Q = _
        rw [wp_liftO]
        rfl
      | _ => rfl
def llW (x : Option (Option LV)) (Q : List D → Prop) : Prop := match x with
  | some (some (.l xs)) => Q xs
  | some (some (.d (.lst xs))) => Q xs
  | _ => False
theorem llW_l {xs : List D} {Q : List D → Prop} : llW (some (some (.l xs))) Q = Q xs := rfl
theorem llW_d {xs : List D} {Q : List D → Prop} : llW (some (some (.d (.lst xs)))) Q = Q xs := rfl
theorem wp_lenX {i : Nat} : (mLenX i s).wp Q = llW (s.e[i]?) fun xs => Q (.int (xs.length : Nat)) s := by
  unfold mLenX llW
  generalize s.e[i]? = x
  split
  · rfl
  · rfl
  · first
    | rfl
    | (split <;> first | rfl | simp_all)
def endW (s : S) (Q : D → Prop) : Prop := isPW (s.e[0]?) (rdW s.p fun u ks vs ks2 vs2 => Q (rdObj u ks vs ks2 vs2))
theorem defN_of {np n : Nat} {h : S → Rs D} {g : S → Ro} {ds : List D} {Q : D → Prop} (hl : ds.length + 1 = np) (hh : (h (initN n ds)).wp fun u s => ∃ r p, s = ⟨none :: r, p⟩ ∧ plainE r = true ∧ (g ⟨some .p :: r, .rd u [] [] [] []⟩).wp (fun s => endW s Q) (fun _ _ => False)) : (mDefN np n h g ds).wp Q := by
  unfold mDefN
  rw [if_pos hl]
  cases e : h (initN n ds) with
  | ok u s =>
    rw [e] at hh
    obtain ⟨r, p, rfl, h1, h2⟩ := hh
    dsimp only
    rw [if_pos h1]
    cases e2 : g ⟨some .p :: r, .rd u [] [] [] []⟩ with
    | nx s2 =>
      rw [e2] at h2
      replace h2 : endW s2 Q := h2
      unfold endW at h2
      unfold endN
      dsimp only
      generalize s2.e[0]? = x at h2
      match x, h2 with
      | some (some .p), h2 =>
        replace h2 : rdW s2.p _ := h2
        generalize s2.p = p at h2
        cases p with
        | rd u ks vs ks2 vs2 => exact h2
        | _ => exact h2.elim
    | rt d s2 =>
      rw [e2] at h2
      exact h2.elim
    | _ =>
      rw [e2] at h2
      exact h2.elim
  | _ =>
    rw [e] at hh
    exact hh.elim
theorem owp_bTup {n : Nat} {bs : List D → S → Option S} {ds : List D} : owp (bTup n bs (.tup ds) s) N = (ds.length = n ∧ owp (bs ds s) N) := by
  show owp (if ds.length = n then bs ds s else none) N = _
  by_cases h : ds.length = n
  · rw [if_pos h]
    simp [h]
  · rw [if_neg h]
    simp [owp, h]
theorem owp_bCons {b : D → S → Option S} {bs : List D → S → Option S} {d : D} {ds : List D} : owp (bCons b bs (d :: ds) s) N = owp (b d s) fun s1 => owp (bs ds s1) N := by
  show owp (match b d s with
    | some s1 => bs ds s1
    | none => none) N = _
  cases b d s <;> rfl
theorem owp_bNil : owp (bNil [] s) N = N s := rfl
theorem owp_bName {i : Nat} {d : D} : owp (bName i d s) N = N (s.put i (some (.d d))) := rfl
/-- a comprehension over things named by indices -/
theorem comp_idx {α : Type} {b : D → S → Option S} {vs : List Nat} {f : α → D} (p : α → Bool) (g : α → D) {js : List α}
    (step : ∀ i ∈ js, owp (b (f i) (s.wipe vs)) fun s1 => (ft s1).wp fun c s2 => c = p i ∧ (c = true → (fa s2).wp fun y s3 => y = g i ∧ s3.back s vs = s) ∧ (c = false → s2.back s vs = s))
    (fin : L ((js.filter p).map g) s) : (compL b ft fa vs (js.map f) s).wp L := by
  refine compL_inv (fun i ys t => ys = ((js.take i).filter p).map g ∧ t = s) [] ⟨rfl, rfl⟩ ?_ ?_
  · rintro i d ys t hd ⟨rfl, rfl⟩
    obtain ⟨j, hj, rfl⟩ : ∃ j, js[i]? = some j ∧ f j = d := by simpa using hd
    have hm := List.mem_of_getElem? hj
    have ht : js.take (i + 1) = js.take i ++ [j] := by rw [List.take_add_one, hj]; rfl
    have st := step j hm
    cases e : b (f j) (t.wipe vs) with
    | none =>
      rw [e] at st
      exact st.elim
    | some s1 =>
      rw [e] at st
      replace st : (ft s1).wp _ := st
      show (ft s1).wp _
      cases e2 : ft s1 with
      | ok c s2 =>
        rw [e2] at st
        obtain ⟨h1, h2, h3⟩ := st
        subst h1
        refine ⟨fun hc => ?_, fun hc => ⟨?_, h3 hc⟩⟩
        · have h2 := h2 hc
          cases e3 : fa s2 with
          | ok y s3 =>
            rw [e3] at h2
            obtain ⟨rfl, h4⟩ := h2
            refine ⟨?_, h4⟩
            rw [ht, List.filter_append, List.map_append]
            simp [hc]
          | _ =>
            rw [e3] at h2
            exact h2.elim
        · rw [ht, List.filter_append, List.map_append]
          simp [hc]
      | _ =>
        rw [e2] at st
        exact st.elim
  · rintro ys t ⟨h1, rfl⟩
    simp at h1
    rw [h1]
    exact fin
theorem comp_all {α : Type} {b : D → S → Option S} {vs : List Nat} {f : α → D} (g : α → D) {js : List α}
    (step : ∀ i ∈ js, owp (b (f i) (s.wipe vs)) fun s1 => (fa s1).wp fun y s3 => y = g i ∧ s3.back s vs = s)
    (fin : L (js.map g) s) : (compL b mYes fa vs (js.map f) s).wp L := by
  refine comp_idx (fun _ => true) g (fun i hi => ?_) (by rw [List.filter_eq_self.mpr fun _ _ => rfl]; exact fin)
  have := step i hi
  cases e : b (f i) (s.wipe vs) with
  | none =>
    rw [e] at this
    exact this.elim
  | some s1 =>
    rw [e] at this
    exact ⟨rfl, fun _ => this, fun h => by cases h⟩
end
section
variable {Q : D → Prop} {i j : Int} {x y : Str} {xs ys : List D}
theorem owp_eqII : owp (eqD (.int i) (.int j)) Q = Q (.bl (i == j)) := rfl
theorem owp_neII : owp (neD (.int i) (.int j)) Q = Q (.bl (!(i == j))) := rfl
theorem char_lt (c : Char) : c.toNat < 1114112 := by
  have h := c.valid
  have : c.toNat = c.val.toNat := rfl
  rw [this]
  rcases h with h | ⟨_, h⟩
  · have : c.val.toNat < 55296 := h
    omega
  · exact h
theorem strOk_lit {s : String} : PyData.strOk (Str.ofString s) = true := by
  rw [Str.ofString_eq_toList]
  unfold PyData.strOk
  simp only [Array.all_eq_true_iff_forall_mem, List.mem_toArray, List.mem_map, decide_eq_true_eq]
  rintro x ⟨c, _, rfl⟩
  exact char_lt c
theorem shaped_str : SeqAt.shaped (.str x) = PyData.strOk x := by
  unfold SeqAt.shaped
  simp [PyData.canLay0, PyData.depth]
theorem eqB_str : eqB (.str x) (.str y) = if PyData.strOk x && PyData.strOk y then some (x == y) else none := by
  show (if SeqAt.shaped (.str x) && SeqAt.shaped (.str y) then some (PyData.eqv (.str x) (.str y)) else none) = _
  rw [shaped_str, shaped_str, PyData.eqv]
theorem owp_eqSS : owp (eqD (.str x) (.str y)) Q = ((PyData.strOk x = true ∧ PyData.strOk y = true) ∧ Q (.bl (x == y))) := by
  unfold eqD
  rw [eqB_str]
  cases PyData.strOk x <;> cases PyData.strOk y <;> simp [owp]
theorem owp_neSS : owp (neD (.str x) (.str y)) Q = ((PyData.strOk x = true ∧ PyData.strOk y = true) ∧ Q (.bl (!(x == y)))) := by
  unfold neD
  rw [eqB_str]
  cases PyData.strOk x <;> cases PyData.strOk y <;> simp [owp]
theorem owp_eqNS : owp (eqD .non (.str y)) Q = (PyData.strOk y = true ∧ Q (.bl false)) := by
  unfold eqD
  have : eqB .non (.str y) = if PyData.strOk y then some false else none := by
    show (if SeqAt.shaped .none && SeqAt.shaped (.str y) then some (PyData.eqv .none (.str y)) else none) = _
    rw [shaped_str, PyData.eqv]
    cases PyData.strOk y <;> rfl
  rw [this]
  cases PyData.strOk y <;> simp [owp]
theorem owp_isN {d : D} : owp (isND d .non) Q = Q (.bl d.isN) := rfl
theorem owp_notN {d : D} : owp (notND d .non) Q = Q (.bl !d.isN) := rfl
theorem ixN_nat {n k : Nat} : ixN n (k : Nat) = if k < n then some k else none := by
  unfold ixN
  by_cases h : k < n <;> simp [h]
theorem atI_nat {α : Type} {xs : List α} {k : Nat} : atI xs (k : Nat) = xs[k]? := by
  unfold atI
  rw [ixN_nat]
  by_cases h : k < xs.length
  · simp [h]
  · simp [h]
theorem owp_ixL0 : owp (ixD (.lst xs) (.int 0)) Q = owp (xs[0]?) Q := by rw [← atI_nat]; rfl
theorem owp_ixL1 : owp (ixD (.lst xs) (.int 1)) Q = owp (xs[1]?) Q := by rw [← atI_nat]; rfl
theorem owp_ixL2 : owp (ixD (.lst xs) (.int 2)) Q = owp (xs[2]?) Q := by rw [← atI_nat]; rfl
theorem owp_ixL3 : owp (ixD (.lst xs) (.int 3)) Q = owp (xs[3]?) Q := by rw [← atI_nat]; rfl
theorem owp_ixLN {k : Nat} : owp (ixD (.lst xs) (.int (k : Nat))) Q = owp (xs[k]?) Q := by rw [← atI_nat]; rfl
theorem owp_ixT0 : owp (ixD (.tup xs) (.int 0)) Q = owp (xs[0]?) Q := by rw [← atI_nat]; rfl
theorem owp_ixT1 : owp (ixD (.tup xs) (.int 1)) Q = owp (xs[1]?) Q := by rw [← atI_nat]; rfl
theorem owp_iterL {Q : List D → Prop} : owp (iterD (.lst xs)) Q = Q xs := rfl
theorem owp_iterT {Q : List D → Prop} : owp (iterD (.tup xs)) Q = Q xs := rfl
theorem owp_seqL {Q : List D → Prop} : owp (seqOf (.lst xs)) Q = Q xs := rfl
theorem owp_addL : owp (addD (.lst xs) (.lst ys)) Q = (xs.length + ys.length ≤ 100000 ∧ Q (.lst (xs ++ ys))) := owp_if
theorem owp_addT : owp (addD (.tup xs) (.tup ys)) Q = (xs.length + ys.length ≤ 100000 ∧ Q (.tup (xs ++ ys))) := owp_if
theorem owp_addS : owp (addD (.str x) (.str y)) Q = (x.length + y.length ≤ 100000 ∧ Q (.str (x ++ y))) := owp_if
theorem owp_lenT : owp (lenD [.tup xs]) Q = Q (.int xs.length) := rfl
theorem owp_tupleL : owp (tupleD [.lst xs]) Q = Q (.tup xs) := rfl
theorem owp_tupleT : owp (tupleD [.tup xs]) Q = Q (.tup xs) := rfl
theorem owp_dget {ks : List Key} {vs : List D} : owp (dgetD (.dic ks vs) (.str x)) Q = owp (findL (.inr x) ks vs) Q := rfl
theorem owp_din {ks : List Key} {vs : List D} : owp (dinD (.str x) (.dic ks vs)) Q = Q (.bl (findL (.inr x) ks vs).isSome) := rfl
theorem owp_dnotin {ks : List Key} {vs : List D} : owp (dnotInD (.str x) (.dic ks vs)) Q = Q (.bl (!(findL (.inr x) ks vs).isSome)) := rfl
theorem owp_keyS {Q : Key → Prop} : owp (D.str x).key Q = Q (.inr x) := rfl
theorem owp_keyI {Q : Key → Prop} : owp (D.int i).key Q = Q (.inl i) := rfl
theorem Rs.wp_mono {α : Type} {r : Rs α} {P Q : α → S → Prop} (h : r.wp P) (m : ∀ d s, P d s → Q d s) : r.wp Q := by
  cases r with
  | ok x => exact m _ _ h
  | _ => exact h.elim
theorem cut1 {x : D} {xs : List D} : cutD (x :: xs) (some 1) none = xs := by
  unfold cutD HT.sIx
  simp
theorem owp_slL1 {x : D} : owp (slD (.lst (x :: xs)) (some 1) none) Q = Q (.lst xs) := by
  show Q (.lst (cutD (x :: xs) (some 1) none)) = _
  rw [cut1]
theorem owp_slT1 {x : D} : owp (slD (.tup (x :: xs)) (some 1) none) Q = Q (.tup xs) := by
  show Q (.tup (cutD (x :: xs) (some 1) none)) = _
  rw [cut1]
theorem owp_isi {T : String} {d : D} : owp (isiD T d) Q = Q (.bl (d.isa T)) := rfl
theorem owp_neg : owp (negD (.int i)) Q = Q (.int (-i)) := rfl
theorem owp_keys {ks : List Key} {vs : List D} {Q : List D → Prop} : owp (keysD (.dic ks vs)) Q = Q (ks.map kD) := rfl
theorem owp_values {ks : List Key} {vs : List D} {Q : List D → Prop} : owp (valuesD (.dic ks vs)) Q = Q vs := rfl
theorem owp_items {ks : List Key} {vs : List D} {Q : List D → Prop} : owp (itemsD (.dic ks vs)) Q = Q (zipD (ks.map kD) vs) := rfl
theorem owp_lenK {ks : List Key} {vs : List D} : owp (lenDD [.dic ks vs]) Q = Q (.int ks.length) := rfl
theorem owp_tupK {ks : List Key} {vs : List D} : owp (tupleDD [.dic ks vs]) Q = Q (.tup (ks.map kD)) := rfl
theorem LVd_l : owp (LV.d? (.l xs)) Q = Q (.lst xs) := rfl
theorem LVd_k {ks : List Key} {vs : List D} : owp (LV.d? (.k ks vs)) Q = Q (.dic ks vs) := rfl
theorem intsOf_map {α : Type} {f : α → Int} : ∀ {l : List α}, intsOf (l.map fun a => .int (f a)) = some (l.map f)
  | [] => rfl
  | a :: l => by
    simp only [List.map_cons, intsOf]
    rw [intsOf_map]
theorem strsOf_map : ∀ {l : List Str}, strsOf (l.map D.str) = some l
  | [] => rfl
  | a :: l => by
    simp only [List.map_cons, strsOf]
    rw [strsOf_map]
theorem owp_sumT {α : Type} {f : α → Int} {l : List α} : owp (sumD [.tup (l.map fun a => .int (f a))]) Q = Q (.int (l.map f).sum) := by
  show owp (match intsOf _ with
    | some ns => some (.int ns.sum)
    | none => none) Q = _
  rw [intsOf_map]
  rfl
theorem owp_sumL {α : Type} {f : α → Int} {l : List α} : owp (sumD [.lst (l.map fun a => .int (f a))]) Q = Q (.int (l.map f).sum) := by
  show owp (match intsOf _ with
    | some ns => some (.int ns.sum)
    | none => none) Q = _
  rw [intsOf_map]
  rfl
end

end Ak
namespace Ak
open PySem PySem.Spec PyProof.Rows L2
local instance tbI_plain2 : Tb := tb0
local macro_rules | `(tactic| walk_at "z0") => `(tactic| simp only [wp_cal, wp_calP, calPW_p, wp_frz, wp_mkL, wp_mk, wp_drop, wp_asg, wp_iter, wp_for, wp_comp, wp_part, wp_noPart, intW_int, wp_sl, wp_and, wp_or, wp_not, wp_chain, strW_str, wp_s1, wp_s0, twoW_two, wp_par, wp_parMV, wp_parVM, wp_parMM, wp_rng1, owp_rng, wp_zip, owp_zipL, owp_zipT, wp_enum2, owp_enum2, wp_mkO, lW_l, kW_k, oneW_one, lstW_lst, wp_app, wp_ext, wp_dput, wp_opR, wp_opL, wp_CBO, objW_obj, wp_prop, wp_meth, bobjW_obj, wp_new, dW_d, wp_varP, wp_pureR, wp_pairs0, wp_pairs, wp_disp, owp_lenL, wp_popAt, wp_C, wp_var, wp_op, wp_un, wp_test, wp_if, wp_notT, wp_andT, wp_orT, wp_nil, wp_cons, wp_CB, wp_tup, wp_lst, wp_seq, wp_ret, wp_sNil, wp_set, wp_sIf, wp_potC, wp_potSetC, potsW_0, potsW_1, potsW_2, setW_0, setW_2, isPW_p, blW_bl, owp_some, varW_d, varW_l, varW_k, initP, initS, S.put, owp_cmp, owp_add, owp_sub, owp_mul, owp_fdiv, owp_mod, owp_pow, owp_int, owp_intB, owp_tup, owp_lst, List.length_cons, List.length_nil, List.map_cons, List.map_nil, List.cons_append, List.nil_append, List.append_nil, List.getElem?_cons_zero, List.getElem?_cons_succ, List.set_cons_zero, List.set_cons_succ, List.replicate_succ, List.replicate_zero, Nat.reduceAdd, Nat.reduceSub])
theorem take_wp {n : Nat} {q : Pot} {u : Int} {Q : D → Bw → Prop} (hq : PotOk n q) (hn : n < 100000) (hu : 0 < u) (hu2 : u < 1073741824) (h : ∀ r q', 0 ≤ r → r < u → PotOk (n + 1) q' → Q (.int r) (.pot q')) : (m_l_take (.pot q) [.int u]).wp Q := by
  unfold m_l_take g_l_take
  refine defP_of rfl ?_
  walk_at "z0"
  obtain ⟨ha, hb, hb2, hc, hc2⟩ := hq
  refine ⟨fun e => ⟨hu, ⟨hu, log2_lt hu hu2⟩, h _ _ (Int.emod_nonneg _ (by omega)) (Int.emod_lt_of_pos _ hu) ⟨Int.ediv_nonneg ha (by omega), hb, hb2, hc, by show q.c ≤ _; omega⟩⟩, fun e => ⟨by decide, by decide, owp_ixMem (by omega) (by show (q.c + 1) % 5 < 5; omega) fun z hz => ?_⟩⟩
  obtain ⟨pr, rfl, h1, h2⟩ : ∃ pr, z = .int pr ∧ 0 < pr ∧ pr < 2147483648 := by
    simp only [List.mem_cons, List.not_mem_nil, or_false] at hz
    rcases hz with e | e | e | e | e <;> exact ⟨_, e, by decide, by decide⟩
  walk_at "z0"
  have sc : small (q.c + 1) = true := small_of (by omega)
  have hp := cpow_gen (b := q.b) (k := 110097) (c := q.c + 1) (m := 69) hb hb2 (by omega) (by omega) (by decide) (by decide) (by decide) (by decide)
  generalize hX : (q.b + 110097 * (q.c + 1) * (q.c + 1) + 69) = X at hp ⊢
  obtain ⟨_, _, hp⟩ := hp
  have s1 : small (X ^ Int.toNat 3 % pr) = true := small_of (by have := Int.emod_nonneg (X ^ Int.toNat 3) (b := pr) (by omega); have := Int.emod_lt_of_pos (X ^ Int.toNat 3) h1; omega)
  rw [s1, sc]
  refine ⟨by simp, by simp, ⟨by decide, by decide, hp⟩, h1, by decide, by simp, by simp, by decide, ⟨by decide, by decide⟩, hu, h _ _ (Int.emod_nonneg _ (by omega)) (Int.emod_lt_of_pos _ hu) ⟨ha, hb, hb2, by show 0 ≤ q.c + 1; omega, by show q.c + 1 ≤ _; omega⟩⟩
theorem of_wp {n : Nat} {q : Pot} {xs : List D} {Q : D → Bw → Prop} (hq : PotOk n q) (hn : n < 100000) (h0 : 0 < xs.length) (h1 : xs.length < 1000) (h : ∀ x ∈ xs, ∀ q', PotOk (n + 1) q' → Q x (.pot q')) : (m_l_of (.pot q) [.lst xs]).wp Q := by
  unfold m_l_of g_l_of
  refine defP_of rfl ?_
  walk_at "z0"
  refine take_wp hq hn (by omega) (by omega) fun r q' r0 r1 hq' => ?_
  exact owp_ixMem r0 r1 fun x hx => h x hx q' hq'
def pool : List Str := ["a", "b", "all", "is", "of", "part", "some", "none", "told", "in", "zzzzzzzz", "x"]
def shapes : List (List Nat) := [[0, 0], [0, 0, 0], [0, 0, 1, 1], [0], [0, 1, 1], [0, 0, 0, 0], [0, 0, 1, 1, 2], [0, 0, 1, 1, 3, 3]]
def shD (sh : List Nat) : D := .lst (sh.map fun i => .int (i : Nat))
end Ak
namespace Ak
open PySem PySem.Spec PyProof.Rows L2
local instance tbI_plain3 : Tb := tb0
/-! ### lores by indices -/
def nm (ns : List Str) (i : Nat) : Str := (ns[i]?).getD ""
def nmD (ns : List Str) (i : Nat) : D := .str (nm ns i)
def up (sh : List Nat) (i : Nat) : Nat := (sh[i]?).getD 0
structure Tr (ns : List Str) (sh : List Nat) : Prop where
  hsh : sh ∈ shapes
  hp : ∀ x ∈ ns, x ∈ pool
  nd : ns.Nodup
  len : ns.length = sh.length + 1
section
variable {ns : List Str} {sh : List Nat} {u : D} {rs : Nat → D × D} {Q : D → Prop}
theorem shapes_up : ∀ sh ∈ shapes, ∀ i < sh.length, up sh i ≤ i := by decide
theorem shapes_len : ∀ sh ∈ shapes, 1 ≤ sh.length ∧ sh.length ≤ 9 := by decide
theorem Tr.at (t : Tr ns sh) {i : Nat} (hi : i < sh.length + 1) : ∃ h : i < ns.length, nm ns i = ns[i] := by
  have h : i < ns.length := by rw [t.len]; exact hi
  exact ⟨h, by unfold nm; simp [h]⟩
theorem Tr.inj (t : Tr ns sh) {i j : Nat} (hi : i < sh.length + 1) (hj : j < sh.length + 1) : nm ns i = nm ns j ↔ i = j := by
  obtain ⟨h1, e1⟩ := t.at hi
  obtain ⟨h2, e2⟩ := t.at hj
  rw [e1, e2]
  exact ⟨fun e => (List.getElem_inj t.nd).mp e, fun e => by subst e; rfl⟩
theorem Tr.mem (t : Tr ns sh) {i : Nat} (hi : i < sh.length + 1) : nm ns i ∈ pool := by
  obtain ⟨h1, e1⟩ := t.at hi
  rw [e1]
  exact t.hp _ (List.getElem_mem h1)
theorem Tr.all (t : Tr ns sh) : ns.map D.str = (List.range (sh.length + 1)).map (nmD ns) := by
  apply List.ext_getElem
  · simp [t.len]
  · intro i h1 h2
    simp at h1 h2
    simp [nmD, nm, h1]
theorem up_map : (List.range sh.length).map (up sh) = sh := by
  apply List.ext_getElem
  · simp
  · intro i h1 h2
    simp [up, h2]
theorem Tr.up_le (t : Tr ns sh) {i : Nat} (hi : i < sh.length) : up sh i ≤ i := shapes_up sh t.hsh i hi
theorem Tr.sh_lt (t : Tr ns sh) {j : Nat} (h : j ∈ sh) : j < sh.length + 1 := by
  rw [← up_map (sh := sh)] at h
  obtain ⟨i, hi, rfl⟩ := List.mem_map.mp h
  have := List.mem_range.mp hi
  have := t.up_le this
  omega
theorem Tr.inB (t : Tr ns sh) {js : List Nat} {i : Nat} (hi : i < sh.length + 1) (hj : ∀ j ∈ js, j < sh.length + 1) : inB (nmD ns i) (.lst (js.map (nmD ns))) = some (decide (i ∈ js)) := by
  have e1 : (nmD ns i).isFlat = true := rfl
  have e2 : (js.map (nmD ns)).all D.isFlat = true := by simp [nmD, D.isFlat, D.flat]
  show (if (nmD ns i).isFlat && (js.map (nmD ns)).all D.isFlat then some _ else none) = _
  rw [e1, e2]
  show some ((js.map (nmD ns)).any fun y => eqF y (nmD ns i)) = _
  congr 1
  rw [Bool.eq_iff_iff, List.any_map, List.any_eq_true]
  simp only [decide_eq_true_eq]
  constructor
  · rintro ⟨j, h1, h2⟩
    have h2 : (nm ns j == nm ns i) = true := h2
    rw [← (t.inj (hj j h1) hi).mp (by simpa using h2)]
    exact h1
  · intro h
    exact ⟨i, h, by show (nm ns i == nm ns i) = true; simp⟩
theorem Tr.owp_in (t : Tr ns sh) {js : List Nat} {i : Nat} (hi : i < sh.length + 1) (hj : ∀ j ∈ js, j < sh.length + 1) : owp (inD (nmD ns i) (.lst (js.map (nmD ns)))) Q = Q (.bl (decide (i ∈ js))) := by
  unfold inD
  rw [t.inB hi hj]
  rfl
theorem Tr.owp_notIn (t : Tr ns sh) {js : List Nat} {i : Nat} (hi : i < sh.length + 1) (hj : ∀ j ∈ js, j < sh.length + 1) : owp (notInD (nmD ns i) (.lst (js.map (nmD ns)))) Q = Q (.bl (!decide (i ∈ js))) := by
  unfold notInD
  rw [t.inB hi hj]
  rfl
def rowD (ns : List Str) (sh : List Nat) (rs : Nat → D × D) (i : Nat) : D := .tup [nmD ns (i + 1), nmD ns (up sh i), (rs i).1, (rs i).2]
def rowsD (ns : List Str) (sh : List Nat) (rs : Nat → D × D) : List D := (List.range sh.length).map (rowD ns sh rs)
def loreD (u : D) (ns : List Str) (sh : List Nat) (rs : Nat → D × D) : D := .dic [.inr "units", .inr "first", .inr "rows"] [u, nmD ns 0, .lst (rowsD ns sh rs)]
theorem lore_units : owp (dgetD (loreD u ns sh rs) (.str "units")) Q = Q u := rfl
theorem lore_first : owp (dgetD (loreD u ns sh rs) (.str "first")) Q = Q (nmD ns 0) := rfl
theorem lore_rows : owp (dgetD (loreD u ns sh rs) (.str "rows")) Q = Q (.lst (rowsD ns sh rs)) := rfl
def endsI (sh : List Nat) : List Nat := (List.range (sh.length + 1)).filter fun i => !decide (i ∈ sh)
theorem endsI_lt {j : Nat} (h : j ∈ endsI sh) : j < sh.length + 1 := List.mem_range.mp (List.mem_filter.mp h).1
end

end Ak
namespace Ak
open PySem PySem.Spec PyProof.Rows L2
local instance tbI_plain4 : Tb := tb0
theorem range_get {α : Type} {m i : Nat} {f : Nat → α} {d : α} (h : ((List.range m).map f)[i]? = some d) : i < m ∧ f i = d := by
  rw [List.getElem?_map] at h
  by_cases hi : i < m
  · rw [List.getElem?_eq_getElem (by simpa using hi)] at h
    simp at h
    exact ⟨hi, h⟩
  · rw [List.getElem?_eq_none (by simpa using hi)] at h
    simp at h
section
variable {ns : List Str} {sh : List Nat} {u : D} {rs : Nat → D × D} {Q : D → Prop} {p : Nat}
theorem flatW_in (t : Tr ns sh) {js : List Nat} {i : Nat} (hi : i < sh.length + 1) (hj : ∀ j ∈ js, j < sh.length + 1) : flatW (inD (nmD ns i) (.lst (js.map (nmD ns)))) Q = Q (.bl (decide (i ∈ js))) := by
  unfold flatW
  rw [t.owp_in hi hj]
  simp [D.isFlat, D.flat]
def stepK (sh : List Nat) (kn : List Nat) (i : Nat) : List Nat := if up sh i ∈ kn then kn ++ [i + 1] else kn
def knownI (sh : List Nat) (p k : Nat) : List Nat := (List.range k).foldl (stepK sh) [p]
theorem knownI_succ {k : Nat} : knownI sh p (k + 1) = stepK sh (knownI sh p k) k := by
  unfold knownI
  rw [List.range_succ, List.foldl_append]
  rfl
theorem knownI_lt {k : Nat} (hp : p < sh.length + 1) (hk : k ≤ sh.length) : ∀ j ∈ knownI sh p k, j < sh.length + 1 := by
  induction k with
  | zero =>
    intro j hj
    simp [knownI] at hj
    omega
  | succ k ih =>
    rw [knownI_succ]
    unfold stepK
    intro j hj
    split at hj
    · rcases List.mem_append.mp hj with h | h
      · exact ih (by omega) j h
      · simp at h
        omega
    · exact ih (by omega) j hj
theorem knownI_len {k : Nat} : (knownI sh p k).length ≤ k + 1 := by
  induction k with
  | zero => simp [knownI]
  | succ k ih =>
    rw [knownI_succ]
    unfold stepK
    split
    · simp; omega
    · omega
def endsOfI (sh : List Nat) (p : Nat) : List Nat := (endsI sh).filter fun e => decide (e ∈ knownI sh p sh.length)
theorem endsOfI_lt {j : Nat} (h : j ∈ endsOfI sh p) : j < sh.length + 1 := endsI_lt (List.mem_filter.mp h).1
theorem endsI_len : (endsI sh).length ≤ sh.length + 1 := by
  have := List.length_filter_le (fun i => !decide (i ∈ sh)) (List.range (sh.length + 1))
  simpa [endsI] using this
def wt (sh : List Nat) (p : Nat) (e : Nat) : Int := if e ∈ endsOfI sh p then 1 else 0
def numI (sh : List Nat) (c : Nat → Int) (p : Nat) : Int := ((List.range (endsI sh).length).map fun k => wt sh p ((endsI sh)[k]?.getD 0) * c k).sum
theorem idx_map {α : Type} {f : Nat → α} {l : List Nat} : l.map f = (List.range l.length).map fun k => f (l[k]?.getD 0) := by
  apply List.ext_getElem
  · simp
  · intro i h1 h2
    simp at h1
    simp [h1]
theorem zip_map {m : Nat} {f g : Nat → D} : zipD ((List.range m).map f) ((List.range m).map g) = (List.range m).map fun k => pairD (f k) (g k) := by
  unfold zipD
  rw [List.zipWith_map, List.zipWith_self]
theorem sum_le {α : Type} {f g : α → Int} : ∀ {l : List α}, (∀ a ∈ l, f a ≤ g a) → (l.map f).sum ≤ (l.map g).sum
  | [], _ => by simp
  | a :: l, h => by
    have := sum_le (f := f) (g := g) (l := l) fun b hb => h b (.tail _ hb)
    have := h a (.head _)
    simp only [List.map_cons, List.sum_cons]
    omega
theorem sum_const {α : Type} {a : Int} : ∀ {l : List α}, (l.map fun _ => a).sum = l.length * a
  | [] => by simp
  | x :: l => by
    simp only [List.map_cons, List.sum_cons, sum_const (l := l), List.length_cons]
    rw [Int.natCast_add, Int.add_mul]
    simp
    omega
theorem wt01 {e : Nat} : 0 ≤ wt sh p e ∧ wt sh p e ≤ 1 := by
  unfold wt
  split <;> decide
theorem shapes_wt : ∀ sh ∈ shapes, ∀ i < sh.length, ∀ k < (endsI sh).length, wt sh (i + 1) ((endsI sh)[k]?.getD 0) ≤ wt sh (up sh i) ((endsI sh)[k]?.getD 0) := by decide +kernel
def totI (sh : List Nat) (c : Nat → Int) : Int := ((List.range (endsI sh).length).map c).sum
theorem num_boundsB (t : Tr ns sh) {c : Nat → Int} {B : Int} (h0 : ∀ k, 0 ≤ c k) (h1 : ∀ k, c k ≤ B) : 0 ≤ numI sh c p ∧ numI sh c p ≤ totI sh c ∧ totI sh c ≤ 10 * B := by
  have l9 := (shapes_len sh t.hsh).2
  have l10 := endsI_len (sh := sh)
  refine ⟨?_, ?_, ?_⟩
  · have := sum_le (l := List.range (endsI sh).length) (f := fun _ => 0) (g := fun k => wt sh p ((endsI sh)[k]?.getD 0) * c k) fun k _ => Int.mul_nonneg wt01.1 (h0 k)
    have e : ((List.range (endsI sh).length).map fun _ => (0 : Int)).sum = 0 := by rw [sum_const]; simp
    rw [e] at this
    exact this
  · refine sum_le fun k _ => ?_
    have := Int.mul_le_mul_of_nonneg_right (wt01 (sh := sh) (p := p) (e := (endsI sh)[k]?.getD 0)).2 (h0 k)
    omega
  · have := sum_le (l := List.range (endsI sh).length) (f := c) (g := fun _ => B) fun k _ => h1 k
    have e : ((List.range (endsI sh).length).map fun _ => B).sum = (endsI sh).length * B := by
      rw [sum_const]
      simp
    rw [e] at this
    show ((List.range (endsI sh).length).map c).sum ≤ 10 * B
    have b0 : 0 ≤ B := Int.le_trans (h0 0) (h1 0)
    have := Int.mul_le_mul_of_nonneg_right (show ((endsI sh).length : Int) ≤ 10 by omega) b0
    omega
theorem num_bounds (t : Tr ns sh) {c : Nat → Int} (h0 : ∀ k, 0 ≤ c k) (h1 : ∀ k, c k ≤ 8) : 0 ≤ numI sh c p ∧ numI sh c p ≤ totI sh c ∧ totI sh c ≤ 80 := by
  have := num_boundsB (p := p) (B := 8) t h0 h1
  omega
theorem num_le (t : Tr ns sh) {c : Nat → Int} (h0 : ∀ k, 0 ≤ c k) {i : Nat} (hi : i < sh.length) : numI sh c (i + 1) ≤ numI sh c (up sh i) := by
  refine sum_le fun k hk => ?_
  exact Int.mul_le_mul_of_nonneg_right (shapes_wt sh t.hsh i hi k (List.mem_range.mp hk)) (h0 k)
end

end Ak
namespace Ak
open PySem PySem.Spec PyProof.Rows L2
local instance tbI_plain5 : Tb := tb0
inductive ShOk (u : Int) : D → Prop
  | non : ShOk u .non
  | none : ShOk u (.str "none")
  | some : ShOk u (.str "some")
  | int (k : Nat) (h : (k : Int) ≤ u) : ShOk u (.int k)
theorem owp_eqIS {i : Int} {y : Str} {Q : D → Prop} : owp (eqD (.int i) (.str y)) Q = (PyData.strOk y = true ∧ Q (.bl false)) := by
  unfold eqD
  have : eqB (.int i) (.str y) = if PyData.strOk y then some false else none := by
    show (if SeqAt.shaped (.int i) && SeqAt.shaped (.str y) then some (PyData.eqv (.int i) (.str y)) else none) = _
    rw [shaped_str, PyData.eqv]
    cases PyData.strOk y <;> rfl
  rw [this]
  cases PyData.strOk y <;> simp [owp]
def hows : List Str := ["near", "even", "down", "up"]
theorem ShOk.of {u k : Int} (h0 : 0 ≤ k) (h1 : k ≤ u) : ShOk u (.int k) := by
  have := ShOk.int (u := u) k.toNat (by omega)
  rw [show ((k.toNat : Nat) : Int) = k by omega] at this
  exact this
theorem div_facts {a w u : Int} (hw : 0 < w) (h0 : 0 ≤ a) (h1 : a ≤ u * w) : 0 ≤ a / w ∧ a / w ≤ u ∧ 0 ≤ a % w ∧ a % w < w ∧ (a % w ≠ 0 → a / w < u) := by
  have e := Int.mul_ediv_add_emod a w
  have r0 := Int.emod_nonneg a (b := w) (by omega)
  have r1 := Int.emod_lt_of_pos a hw
  refine ⟨Int.ediv_nonneg h0 (by omega), ?_, r0, r1, fun h => ?_⟩
  · exact Int.ediv_le_of_le_mul hw h1
  · apply Int.ediv_lt_of_lt_mul hw
    rcases Int.lt_or_eq_of_le h1 with h2 | h2
    · exact h2
    · rw [h2] at h
      simp at h
def rndI (how : Str) (a w : Int) : Int := if a % w = 0 ∨ how = "down" then a / w else if how = "up" then a / w + 1 else if 2 * (a % w) = w then (if how = "near" ∨ (a / w) % 2 = 1 then a / w + 1 else a / w) else if 2 * (a % w) > w then a / w + 1 else a / w
theorem rndI_ok {how : Str} {a w u : Int} (hw : 0 < w) (h0 : 0 ≤ a) (h1 : a ≤ u * w) : 0 ≤ rndI how a w ∧ rndI how a w ≤ u := by
  obtain ⟨f1, f2, f3, f4, f5⟩ := div_facts hw h0 h1
  unfold rndI
  split
  · exact ⟨f1, f2⟩
  · rename_i h
    have := f5 fun z => h (.inl z)
    repeat' split
    all_goals omega
theorem hows_strOk : ∀ x ∈ hows, PyData.strOk x = true := by simp [hows, strOk_lit]
theorem hows_ne : Str.ofString "near" ≠ Str.ofString "even" ∧ Str.ofString "near" ≠ Str.ofString "down" ∧ Str.ofString "near" ≠ Str.ofString "up" ∧ Str.ofString "even" ≠ Str.ofString "near" ∧ Str.ofString "even" ≠ Str.ofString "down" ∧ Str.ofString "even" ≠ Str.ofString "up" ∧ Str.ofString "down" ≠ Str.ofString "near" ∧ Str.ofString "down" ≠ Str.ofString "even" ∧ Str.ofString "down" ≠ Str.ofString "up" ∧ Str.ofString "up" ≠ Str.ofString "near" ∧ Str.ofString "up" ≠ Str.ofString "even" ∧ Str.ofString "up" ≠ Str.ofString "down" := by decide +kernel
/-- whether a share is right for so many of so many -/
def rtI (u : Int) (how : Str) (d : D) (many whole : Int) : Bool := match d with
  | .non => true
  | .str x => if whole = 0 then false else if x = "none" then many == 0 else decide (0 < u * many) && decide (u * many < whole)
  | .int s => if whole = 0 then false else rndI how (u * many) whole == s
  | _ => false
theorem some_ne_none : Str.ofString "some" ≠ Str.ofString "none" := by decide +kernel
local macro_rules | `(tactic| walk_at "z0") => `(tactic| simp only [wp_cal, wp_calP, calPW_p, wp_frz, wp_mkL, wp_mk, wp_drop, wp_asg, wp_iter, wp_for, wp_comp, wp_part, wp_noPart, intW_int, wp_sl, wp_and, wp_or, wp_not, wp_chain, strW_str, wp_s1, wp_s0, twoW_two, wp_par, wp_parMV, wp_parVM, wp_parMM, wp_rng1, owp_rng, wp_zip, owp_zipL, owp_zipT, wp_enum2, owp_enum2, wp_mkO, lW_l, kW_k, oneW_one, lstW_lst, wp_app, wp_ext, wp_dput, wp_opR, wp_opL, wp_CBO, objW_obj, wp_prop, wp_meth, bobjW_obj, wp_new, dW_d, wp_varP, wp_pureR, wp_pairs0, wp_pairs, wp_disp, owp_lenL, wp_popAt, wp_C, wp_var, wp_op, wp_un, wp_test, wp_if, wp_notT, wp_andT, wp_orT, wp_nil, wp_cons, wp_CB, wp_tup, wp_lst, wp_seq, wp_ret, wp_sNil, wp_set, wp_sIf, wp_potC, wp_potSetC, potsW_0, potsW_1, potsW_2, setW_0, setW_2, isPW_p, blW_bl, owp_some, varW_d, varW_l, varW_k, initP, initS, S.put, owp_cmp, owp_add, owp_sub, owp_mul, owp_fdiv, owp_mod, owp_pow, owp_int, owp_intB, owp_tup, owp_lst, List.length_cons, List.length_nil, List.map_cons, List.map_nil, List.cons_append, List.nil_append, List.append_nil, List.getElem?_cons_zero, List.getElem?_cons_succ, List.set_cons_zero, List.set_cons_succ, List.replicate_succ, List.replicate_zero, Nat.reduceAdd, Nat.reduceSub, Rv.wp_ok, Rp.wp_ok, wp_yes, wp_dNew, wp_ifT, wp_pop, wp_self, wp_sSelf, pobjW_obj, wp_rdU, rdW_rd, pkW_rd, wp_peek, wp_peekT, wp_rdPut, wp_methP, tlW_tup, wp_star, wp_setIx, wp_lenX, llW_l, llW_d, wp_atL, owp_bTup, owp_bCons, owp_bNil, owp_bName, owp_eqII, owp_neII, owp_eqSS, owp_neSS, owp_eqNS, owp_isN, owp_notN, owp_ixL0, owp_ixL1, owp_ixL2, owp_ixL3, owp_ixT0, owp_ixT1, owp_iterL, owp_iterT, owp_seqL, owp_addL, owp_addT, owp_addS, owp_lenT, owp_tupleL, owp_tupleT, owp_din, owp_dnotin, owp_isi, owp_neg, owp_keys, owp_values, owp_items, owp_lenK, owp_tupK, LVd_l, LVd_k, S.wipe, S.back, wipeE, restE, Bool.not_true, Bool.not_false, true_implies, false_implies, reduceCtorEq, true_and, and_true, Nat.reduceLeDiff, lore_units, lore_first, lore_rows, strOk_lit, owp_keyS, and_self, beq_iff_eq, beq_eq_false_iff_ne, decide_eq_true_eq, decide_eq_false_iff_not])
theorem units_wp {n : Nat} {q : Pot} {most : Int} {Q : D → Bw → Prop} (hq : PotOk n q) (hn : n + 2 < 100000) (m0 : 2 ≤ most) (m1 : most ≤ 100) (hQ : ∀ (u : Int) (how : Str) q', 2 ≤ u → u ≤ 100 → how ∈ hows → PotOk (n + 2) q' → Q (.tup [.int u, .str how]) (.pot q')) : (m_l_units (.pot q) [.int most]).wp Q := by
  unfold m_l_units g_l_units
  refine defP_of rfl ?_
  walk_at "z0"
  refine take_wp hq (by omega) (by omega) (by omega) fun r q1 r0 r1 hq1 => ?_
  walk_at "z0"
  refine of_wp hq1 (by omega) (by decide) (by decide) fun x hx q2 hq2 => ?_
  obtain ⟨how, hh, rfl⟩ : ∃ how ∈ hows, D.str how = x := by
    simp only [List.mem_cons, List.not_mem_nil, or_false] at hx
    rcases hx with rfl | rfl | rfl | rfl
    · exact ⟨_, .head _, rfl⟩
    · exact ⟨_, .tail _ (.head _), rfl⟩
    · exact ⟨_, .tail _ (.tail _ (.head _)), rfl⟩
    · exact ⟨_, .tail _ (.tail _ (.tail _ (.head _))), rfl⟩
  exact hQ _ how q2 (by omega) (by omega) hh hq2
/-- what a drawn lore holds -/
structure LoreOk (u : Int) (how : Str) (ns : List Str) (sh : List Nat) (rs : Nat → D × D) : Prop where
  t : Tr ns sh
  u0 : 2 ≤ u
  u1 : u ≤ 100
  hh : how ∈ hows
  r1 : ∀ i, ShOk u (rs i).1
  r2 : ∀ i, ShOk u (rs i).2
theorem lore_fold {u : D} {ns : List Str} {sh : List Nat} {rs : Nat → D × D} : D.dic [.inr "units", .inr "first", .inr "rows"] [u, nmD ns 0, .lst ((List.range sh.length).map (rowD ns sh rs))] = loreD u ns sh rs := rfl
theorem merge3 {a b c : D} : mergeL [] [] [.inr "units", .inr "first", .inr "rows"] [a, b, c] = ([.inr "units", .inr "first", .inr "rows"], [a, b, c]) := rfl
theorem put3K : putKs [.inr "units", .inr "first", .inr "rows"] (.inr "rows") = [.inr "units", .inr "first", .inr "rows"] := rfl
theorem put3V {a b c d : D} : putVs [.inr "units", .inr "first", .inr "rows"] [a, b, c] (.inr "rows") d = [a, b, d] := rfl
theorem names_cons {ns : List Str} {m : Nat} : (List.range (m + 1)).map (nmD ns) = nmD ns 0 :: (List.range m).map (fun i => nmD ns (i + 1)) := by
  rw [List.range_succ_eq_map]
  simp
theorem shD_idx {sh : List Nat} : shD sh = .lst ((List.range sh.length).map fun i => .int (up sh i : Nat)) := by
  unfold shD
  rw [idx_map]
  rfl
theorem range_snoc {α : Type} {f g : Nat → α} {i : Nat} {x : α} (h : ∀ k < i, g k = f k) (hx : g i = x) : (List.range i).map f ++ [x] = (List.range (i + 1)).map g := by
  rw [List.range_succ, List.map_append, ← hx]
  congr 1
  exact List.map_congr_left fun k hk => (h k (List.mem_range.mp hk)).symm
theorem shapes_ends : ∀ sh ∈ shapes, 1 ≤ (endsI sh).length ∧ (endsI sh).length ≤ 6 := by decide
/-- counts that are drawn -/
structure CtOk (B : Int) (sh : List Nat) (c : Nat → Int) : Prop where
  c0 : ∀ k, 0 ≤ c k
  c1 : ∀ k, c k ≤ B
  pos : 0 < totI sh c
/-- counts that tables take -/
structure CtW (sh : List Nat) (c : Nat → Int) : Prop where
  c0 : ∀ k, 0 ≤ c k
  c1 : ∀ k, c k ≤ 1000000000
  pos : 0 < totI sh c
  tot : totI sh c ≤ 1000000000
theorem CtOk.w {B : Int} {ns : List Str} {sh : List Nat} {c : Nat → Int} (t : Tr ns sh) (h : CtOk B sh c) (hB : B ≤ 100000000) : CtW sh c :=
  ⟨h.c0, fun k => Int.le_trans (h.c1 k) (by omega), h.pos, by have := (num_boundsB (p := 0) t h.c0 h.c1).2.2; omega⟩
def cD (sh : List Nat) (c : Nat → Int) : D := .tup ((List.range (endsI sh).length).map fun k => .int (c k))
def ShownAt (u : Int) (how : Str) (sh : List Nat) (rs : Nat → D × D) (c : Nat → Int) (i : Nat) : Prop := rtI u how (rs i).1 (numI sh c (i + 1)) (numI sh c (up sh i)) = true ∧ rtI u how (rs i).2 (numI sh c (i + 1)) (totI sh c) = true
def Shown (u : Int) (how : Str) (sh : List Nat) (rs : Nat → D × D) (c : Nat → Int) : Prop := ∀ i < sh.length, ShownAt u how sh rs c i
theorem set_range {f g : Nat → D} {m j : Nat} (h : ∀ k < m, k ≠ j → g k = f k) : ((List.range m).map f).set j (g j) = (List.range m).map g := by
  apply List.ext_getElem
  · simp
  · intro i h1 h2
    simp at h1
    rw [List.getElem_set]
    split
    · rename_i e
      subst e
      simp
    · rename_i e
      simp
      exact (h i h1 (fun z => e z.symm)).symm
end Ak
namespace Ak
open PySem PySem.Spec PyProof.Rows L2
local instance tbI_plain6 : Tb := tb0
/-! ### texts -/
def cl (x : Str) : List Nat := x.cps.toList
theorem cl_append {x y : Str} : cl (x ++ y) = cl x ++ cl y := by
  show (x.cps ++ y.cps).toList = _
  exact Array.toList_append
theorem cl_inj {x y : Str} (h : cl x = cl y) : x = y := by
  cases x
  cases y
  simp [cl] at h
  rw [h]
theorem cl_len {x : Str} : (cl x).length = x.length := by simp [cl, Str.length]
theorem len_app {x y : Str} : (x ++ y).length = x.length + y.length := by
  rw [← cl_len, cl_append, List.length_append, cl_len, cl_len]
theorem cut_eq {c : Nat} : ∀ {a b X Y : List Nat}, c ∉ a → c ∉ b → a ++ c :: X = b ++ c :: Y → a = b ∧ X = Y
  | [], [], _, _, _, _, e => ⟨rfl, by simpa using e⟩
  | [], y :: b, _, _, _, hb, e => by
    simp at e
    exact absurd (by simp [e.1]) hb
  | x :: a, [], _, _, ha, _, e => by
    simp at e
    exact absurd (by simp [e.1]) ha
  | x :: a, y :: b, _, _, ha, hb, e => by
    simp at e
    obtain ⟨rfl, e⟩ := e
    obtain ⟨h1, h2⟩ := cut_eq (fun z => ha (.tail _ z)) (fun z => hb (.tail _ z)) e
    exact ⟨by rw [h1], h2⟩
theorem join_cons {s a b : Str} {r : List Str} : Str.join s (a :: b :: r) = a ++ s ++ Str.join s (b :: r) := rfl
theorem cl_one {c : Nat} : cl ⟨#[c]⟩ = [c] := rfl
theorem join_inj {c : Nat} : ∀ (as bs : List Str), as ≠ [] → bs ≠ [] → (∀ a ∈ as, c ∉ cl a) → (∀ b ∈ bs, c ∉ cl b) → Str.join ⟨#[c]⟩ as = Str.join ⟨#[c]⟩ bs → as = bs
  | [], _, h, _, _, _, _ => absurd rfl h
  | _ :: _, [], _, h, _, _, _ => absurd rfl h
  | [a], [b], _, _, _, _, e => by rw [show a = b from e]
  | [a], b :: b' :: bs, _, _, ha, _, e => by
    rw [join_cons] at e
    replace e : a = _ := e
    refine absurd ?_ (ha a (.head _))
    rw [e, cl_append, cl_append, cl_one]
    simp
  | a :: a' :: as, [b], _, _, _, hb, e => by
    rw [join_cons] at e
    replace e : _ = b := e
    refine absurd ?_ (hb b (.head _))
    rw [← e, cl_append, cl_append, cl_one]
    simp
  | a :: a' :: as, b :: b' :: bs, _, _, ha, hb, e => by
    rw [join_cons, join_cons] at e
    have e2 := congrArg cl e
    rw [cl_append, cl_append, cl_append, cl_append, cl_one] at e2
    simp only [List.append_assoc, List.singleton_append] at e2
    obtain ⟨h1, h2⟩ := cut_eq (ha a (.head _)) (hb b (.head _)) e2
    rw [cl_inj h1, join_inj (a' :: as) (b' :: bs) (by simp) (by simp) (fun x hx => ha x (.tail _ hx)) (fun x hx => hb x (.tail _ hx)) (cl_inj h2)]
theorem split_join {c : Nat} {as : List Str} (ne : as ≠ []) (free : ∀ a ∈ as, c ∉ cl a) : Txt.split (Str.join ⟨#[c]⟩ as) ⟨#[c]⟩ = as :=
  join_inj _ _ (fun e => by
    have := split_pos (Str.join ⟨#[c]⟩ as) ⟨#[c]⟩
    rw [e] at this
    simp at this) ne (StrLaws.split_free _ c) free (StrLaws.join_split _ _)
theorem join_len {s : Str} {b : Nat} : ∀ {ws : List Str}, (∀ w ∈ ws, w.length ≤ b) → (Str.join s ws).length ≤ ws.length * (b + s.length)
  | [], _ => by simp [Str.join, Str.empty, Str.length]
  | [a], h => by
    have := h a (.head _)
    show a.length ≤ _
    simp
    omega
  | a :: a' :: r, h => by
    have h1 := h a (.head _)
    have h2 := join_len (s := s) (ws := a' :: r) fun w hw => h w (.tail _ hw)
    rw [join_cons, len_app, len_app]
    rw [List.length_cons, Nat.succ_mul]
    omega
theorem txt_join {s : Str} {l : List Str} : Txt.join s l = Str.join s l := by simpa using join_plain_closes s l
theorem lit_sp : Str.ofString " " = ⟨#[32]⟩ := by decide +kernel
theorem lit_nl : Str.ofString "\n" = ⟨#[10]⟩ := by decide +kernel
/-! ### texts that repr shows -/
theorem strOk_iff {x : Str} : PyData.strOk x = true ↔ ∀ c ∈ cl x, c < 1114112 := by
  unfold PyData.strOk cl
  simp only [Array.all_eq_true_iff_forall_mem, decide_eq_true_eq, Array.mem_toList_iff]
theorem strOk_app {x y : Str} (hx : PyData.strOk x = true) (hy : PyData.strOk y = true) : PyData.strOk (x ++ y) = true := by
  rw [strOk_iff] at hx hy ⊢
  intro c hc
  rw [cl_append] at hc
  rcases List.mem_append.mp hc with h | h
  · exact hx c h
  · exact hy c h
theorem strOk_join {s : Str} (hs : PyData.strOk s = true) : ∀ {ws : List Str}, (∀ w ∈ ws, PyData.strOk w = true) → PyData.strOk (Str.join s ws) = true
  | [], _ => by
    rw [strOk_iff]
    simp [Str.join, Str.empty, cl]
  | [a], h => h a (.head _)
  | a :: b :: r, h => by
    rw [join_cons]
    exact strOk_app (strOk_app (h a (.head _)) hs) (strOk_join hs fun w hw => h w (.tail _ hw))
theorem reprChar_lt {q c x : Nat} (hc : c < 1114112) (hx : x ∈ Builtin.Str.reprChar q c) : x < 1114112 := by
  have hd : ∀ n, x ∈ List.replicate (n - ((Nat.toDigits 16 c).map Char.toNat).length) 48 ++ (Nat.toDigits 16 c).map Char.toNat → x < 1114112 := by
    intro n h
    rcases List.mem_append.mp h with h | h
    · rw [(List.mem_replicate.mp h).2]
      decide
    · obtain ⟨d, _, rfl⟩ := List.mem_map.mp h
      exact char_lt d
  unfold Builtin.Str.reprChar at hx
  dsimp only at hx
  repeat' split at hx
  all_goals first
    | (simp at hx; omega)
    | (rcases List.mem_append.mp hx with h | h
       · simp at h
         omega
       · exact hd _ h)
theorem reprFold_lt {q : Nat} : ∀ (l : List Nat) (acc : Array Nat), (∀ c ∈ l, c < 1114112) → (∀ c ∈ acc, c < 1114112) → ∀ c ∈ l.foldl (fun out c => out ++ (Builtin.Str.reprChar q c).toArray) acc, c < 1114112
  | [], _, _, h => h
  | d :: l, acc, hl, h => by
    refine reprFold_lt l _ (fun c hc => hl c (.tail _ hc)) fun c hc => ?_
    rcases Array.mem_append.mp hc with h1 | h1
    · exact h c h1
    · exact reprChar_lt (hl d (.head _)) (by simpa using h1)
theorem strOk_repr {x : Str} (h : PyData.strOk x = true) : PyData.strOk (reprText x) = true := by
  rw [strOk_iff] at h
  have hq : reprQuote x < 1114112 := by
    unfold reprQuote
    split <;> decide
  have := reprFold_lt (q := reprQuote x) x.cps.toList #[reprQuote x] h (fun c hc => by
    simp at hc
    omega)
  unfold PyData.strOk reprText
  simp only [Array.all_eq_true_iff_forall_mem, decide_eq_true_eq]
  intro c hc
  rcases Array.mem_push.mp hc with h1 | h1
  · exact this c (by rw [Array.foldl_toList]; exact h1)
  · omega
def RepOk (n k : Nat) (d : D) : Prop := ∃ x, d.data = some x ∧ x.showable = true ∧ x.leavesShort 13 = true ∧ x.bulk ≤ n ∧ x.depth ≤ k ∧ PyData.strOk x.shown = true
theorem RepOk.repr {n k : Nat} {d : D} (h : RepOk n k d) (hn : n ≤ 100000) (hk : k ≤ 40) : ∃ x, reprD [d] = some (.str x) ∧ PyData.strOk x = true := by
  obtain ⟨x, h1, h2, h3, h4, h5, h6⟩ := h
  refine ⟨x.shown, ?_, h6⟩
  have l := PyData.shown_le_bulk 13 (by decide) x h3
  have : x.shown.length ≤ sizeLine := by
    unfold sizeLine
    omega
  have e : reprB x = true := by
    unfold reprB
    simp [h2, this, Nat.le_trans h5 hk]
  show (match d.data with
    | some x => if reprB x then some (D.str x.shown) else none
    | none => none) = _
  rw [h1]
  show (if reprB x then some (D.str x.shown) else none) = _
  rw [if_pos e]
theorem RepOk.non {n k : Nat} : RepOk n k .non := ⟨.none, rfl, rfl, rfl, by simp [PyData.bulk], by simp [PyData.depth], by
  show PyData.strOk (PyData.shown .none) = true
  exact strOk_lit⟩
theorem RepOk.bl {n k : Nat} {b : Bool} : RepOk n k (.bl b) := ⟨.bool b, rfl, rfl, rfl, by simp [PyData.bulk], by simp [PyData.depth], by
  cases b <;> exact strOk_lit⟩
theorem RepOk.str {n k : Nat} {x : Str} (h : PyData.strOk x = true) (hl : x.length ≤ n) : RepOk n k (.str x) := ⟨.str x, rfl, rfl, by
  rw [strOk_iff] at h
  simp only [PyData.leavesShort, List.all_eq_true, decide_eq_true_eq]
  intro c hc
  have := h c hc
  omega, by simp only [PyData.bulk]; exact hl, by simp [PyData.depth], strOk_repr h⟩
theorem RepOk.int {n k : Nat} {i : Int} (h0 : 0 ≤ i) (h1 : i ≤ 100000) : RepOk n k (.int i) := ⟨.int i, rfl, by
  simp only [PyData.showable, decide_eq_true_eq]
  rcases Int.lt_or_eq_of_le h0 with h | h
  · exact Nat.lt_of_lt_of_le (by
      rw [Nat.log2_lt (by omega)]
      show i.natAbs < 2 ^ 20
      omega) (by decide : 20 ≤ 1920)
  · rw [← h]
    decide, by
  simp only [PyData.leavesShort, decide_eq_true_eq]
  exact PyData.shown_int_le2 (by omega) (by omega), by simp [PyData.bulk], by simp [PyData.depth], by
  show PyData.strOk (Str.ofString (toString i)) = true
  exact strOk_lit⟩
theorem RepOk.all {n k : Nat} : ∀ {ds : List D}, (∀ d ∈ ds, RepOk n k d) → ∃ xs, D.dataAll ds = some xs ∧ PyData.showableAll xs = true ∧ PyData.leavesShortAll 13 xs = true ∧ PyData.bulkAll xs ≤ (n + 1) * ds.length ∧ PyData.depthAll xs ≤ k ∧ (∀ w ∈ PyData.shownAll xs, PyData.strOk w = true)
  | [], _ => ⟨[], rfl, rfl, rfl, by simp [PyData.bulkAll], by simp [PyData.depthAll], by simp [PyData.shownAll]⟩
  | d :: ds, h => by
    obtain ⟨xs, h1, h2, h3, h4, h5, h6⟩ := RepOk.all (ds := ds) fun x hx => h x (.tail _ hx)
    obtain ⟨y, k1, k2, k3, k4, k5, k6⟩ := h d (.head _)
    refine ⟨y :: xs, by simp [D.dataAll, k1, h1], by simp [PyData.showableAll, k2, h2], by simp [PyData.leavesShortAll, k3, h3], ?_, ?_, ?_⟩
    · simp only [PyData.bulkAll, List.length_cons, Nat.mul_succ]
      omega
    · simp only [PyData.depthAll]
      omega
    · intro w hw
      simp only [PyData.shownAll, List.mem_cons] at hw
      rcases hw with rfl | hw
      · exact k6
      · exact h6 w hw
theorem RepOk.tup {n k m : Nat} {ds : List D} (h : ∀ d ∈ ds, RepOk n k d) (hm : ds.length ≤ m) : RepOk ((n + 1) * m) (k + 1) (.tup ds) := by
  obtain ⟨xs, h1, h2, h3, h4, h5, h6⟩ := RepOk.all h
  refine ⟨.tuple xs, by simp [D.data, h1], by simpa [PyData.showable] using h2, by simpa [PyData.leavesShort] using h3, ?_, by simp only [PyData.depth]; omega, ?_⟩
  · simp only [PyData.bulk]
    exact Nat.le_trans h4 (Nat.mul_le_mul_left _ hm)
  · show PyData.strOk (tupleText (PyData.shownAll xs)) = true
    unfold tupleText
    exact strOk_app (strOk_app strOk_lit (strOk_join strOk_lit h6)) strOk_lit
theorem RepOk.mono {n k n' k' : Nat} {d : D} (h : RepOk n k d) (hn : n ≤ n') (hk : k ≤ k') : RepOk n' k' d := by
  obtain ⟨x, h1, h2, h3, h4, h5, h6⟩ := h
  exact ⟨x, h1, h2, h3, Nat.le_trans h4 hn, Nat.le_trans h5 hk, h6⟩
/-- the same thing shown twice -/
theorem repr_same {d : D} {n k : Nat} {Q : D → Prop} (h : RepOk n k d) (hn : n ≤ 100000) (hk : k ≤ 40) (hQ : Q (.bl false)) : owp (reprD [d]) fun x => owp (reprD [d]) fun y => owp (neD x y) Q := by
  obtain ⟨x, e, ok⟩ := h.repr hn hk
  rw [e, owp_some, owp_some, owp_neSS]
  simp [ok, hQ]
theorem wp_noEx {g : S → Ro} {s : S} {N : S → Prop} {R : D → S → Prop} : (noEx g s).wp N R = (g s).wp N R := by
  unfold noEx
  cases g s <;> rfl
theorem isa_it {l : List D} : D.isa (.tup l) "tuple" = true := rfl
theorem isN_nm {ns : List Str} {j : Nat} : (nmD ns j).isN = false := rfl
theorem isN_int {k : Int} : D.isN (.int k) = false := rfl
theorem repr_sameE {d : D} {n k : Nat} {Q : D → Prop} (h : RepOk n k d) (hn : n ≤ 100000) (hk : k ≤ 40) (hQ : Q (.bl true)) : owp (reprD [d]) fun x => owp (reprD [d]) fun y => owp (eqD x y) Q := by
  obtain ⟨x, e, ok⟩ := h.repr hn hk
  rw [e, owp_some, owp_some, owp_eqSS]
  simp [ok, hQ]
theorem isN_str {x : Str} : (D.str x).isN = false := rfl
theorem isN_non : D.non.isN = true := rfl
theorem isa_ss {x : Str} : (D.str x).isa "str" = true := rfl
theorem isa_ii {i : Int} : (D.int i).isa "int" = true := rfl
theorem isa_ib {i : Int} : (D.int i).isa "bool" = false := rfl
theorem wp_calX {m : List D → Rv} {fr : S → Rs (List D)} {s : S} {Q : D → S → Prop} : (mCalX m fr s).wp Q = (fr s).wp fun ds s1 => (m ds).wp fun d => Q d s1 := by
  unfold mCalX
  rw [wp_bind]
  congr 1
  funext ds s1
  cases m ds <;> rfl

end Ak
namespace Ak
open PySem PySem.Spec PyProof.Rows L2
local instance tbI_q1 : Tb := tb0
/-! ### fractions and stretches -/
section
variable {Q : D → Prop}
theorem owp_abs {i : Int} : owp (absD [.int i]) Q = Q (.int (if i < 0 then -i else i)) := rfl
theorem nat_mod {x y : Nat} : ((x : Int) % (y : Int)) = ((x % y : Nat) : Int) := by simp
def gI (a b : Nat) : Nat → Nat
  | 0 => 0
  | 1 => a
  | _ => Nat.gcd a b
local macro_rules | `(tactic| walk_at "z0") => `(tactic| simp only [wp_cal, wp_calP, calPW_p, wp_frz, wp_mkL, wp_mk, wp_drop, wp_asg, wp_iter, wp_for, wp_comp, wp_part, wp_noPart, intW_int, wp_sl, wp_and, wp_or, wp_not, wp_chain, strW_str, wp_s1, wp_s0, twoW_two, wp_par, wp_parMV, wp_parVM, wp_parMM, wp_rng1, owp_rng, wp_zip, owp_zipL, owp_zipT, wp_enum2, owp_enum2, wp_mkO, lW_l, kW_k, oneW_one, lstW_lst, wp_app, wp_ext, wp_dput, wp_opR, wp_opL, wp_CBO, objW_obj, wp_prop, wp_meth, bobjW_obj, wp_new, dW_d, wp_varP, wp_pureR, wp_pairs0, wp_pairs, wp_disp, owp_lenL, wp_popAt, wp_C, wp_var, wp_op, wp_un, wp_test, wp_if, wp_notT, wp_andT, wp_orT, wp_nil, wp_cons, wp_CB, wp_tup, wp_lst, wp_seq, wp_ret, wp_sNil, wp_set, wp_sIf, wp_potC, wp_potSetC, potsW_0, potsW_1, potsW_2, setW_0, setW_2, isPW_p, blW_bl, owp_some, varW_d, varW_l, varW_k, initP, initS, S.put, owp_cmp, owp_add, owp_sub, owp_mul, owp_fdiv, owp_mod, owp_pow, owp_int, owp_intB, owp_tup, owp_lst, List.length_cons, List.length_nil, List.map_cons, List.map_nil, List.cons_append, List.nil_append, List.append_nil, List.getElem?_cons_zero, List.getElem?_cons_succ, List.set_cons_zero, List.set_cons_succ, List.replicate_succ, List.replicate_zero, Nat.reduceAdd, Nat.reduceSub, Rv.wp_ok, Rp.wp_ok, wp_yes, wp_dNew, wp_ifT, wp_pop, wp_self, wp_sSelf, pobjW_obj, wp_rdU, rdW_rd, pkW_rd, wp_peek, wp_peekT, wp_rdPut, wp_methP, tlW_tup, wp_star, wp_setIx, wp_lenX, llW_l, llW_d, wp_atL, owp_bTup, owp_bCons, owp_bNil, owp_bName, owp_eqII, owp_neII, owp_eqSS, owp_neSS, owp_eqNS, owp_isN, owp_notN, owp_ixL0, owp_ixL1, owp_ixL2, owp_ixL3, owp_ixT0, owp_ixT1, owp_iterL, owp_iterT, owp_seqL, owp_addL, owp_addT, owp_addS, owp_lenT, owp_tupleL, owp_tupleT, owp_din, owp_dnotin, owp_isi, owp_neg, owp_keys, owp_values, owp_items, owp_lenK, owp_tupK, LVd_l, LVd_k, S.wipe, S.back, wipeE, restE, Bool.not_true, Bool.not_false, true_implies, false_implies, reduceCtorEq, true_and, and_true, Nat.reduceLeDiff, lore_units, lore_first, lore_rows, strOk_lit, owp_keyS, and_self, beq_iff_eq, beq_eq_false_iff_ne, decide_eq_true_eq, decide_eq_false_iff_not])
theorem divisor_eq {a b : Nat} (ha : a < 9000) (hb : b < 9000) : m_divisor_of [.lst [.int (a : Nat), .int (b : Nat)]] = .ok (.int (Nat.gcd a b : Nat)) := by
  apply Rv.of_wp
  unfold m_divisor_of g_divisor_of
  refine def_of rfl ?_
  try walk_at "z0"
  refine forL_inv (fun i s => ∃ c d : Option LV, s = ⟨[some (.d (.lst [.int (a : Nat), .int (b : Nat)])), some (.d (.int (gI a b i : Nat))), c, d], .pot ⟨0, 0, 0⟩⟩) ⟨none, none, rfl⟩ ?_ ?_
  · rintro i d s hd ⟨c, e, rfl⟩
    have hi : i < 2 := (List.getElem?_eq_some_iff.mp hd).1
    obtain ⟨z, hz, rfl⟩ : ∃ z : Nat, z < 9000 ∧ d = .int (z : Nat) := by
      rcases i with _ | _ | i
      · exact ⟨a, ha, (Option.some.inj hd).symm⟩
      · exact ⟨b, hb, (Option.some.inj hd).symm⟩
      · omega
    have hr : Nat.gcd (gI a b i) z = gI a b (i + 1) := by
      rcases i with _ | _ | i
      · have e2 : (a : Int) = z := by simpa using hd
        have : a = z := by omega
        subst this
        simp [gI]
      · have e2 : (b : Int) = z := by simpa using hd
        have : b = z := by omega
        subst this
        simp [gI]
      · omega
    try walk_at "z0"
    simp only [owp_abs]
    try walk_at "z0"
    rw [if_neg (by omega)]
    rw [← hr]
    generalize gI a b i = x0
    refine whileL_inv (fun m s => ∃ x y : Nat, Nat.gcd x y = Nat.gcd x0 z ∧ y < m ∧ s = ⟨[some (.d (.lst [.int (a : Nat), .int (b : Nat)])), some (.d (.int (x : Nat))), some (.d (.int (z : Nat))), some (.d (.int (y : Nat)))], .pot ⟨0, 0, 0⟩⟩) ⟨x0, z, rfl, by omega, rfl⟩ ?_
    rintro m s ⟨x, y, hg, hm, rfl⟩
    try walk_at "z0"
    refine ⟨fun h => ⟨m - 1, by omega, ?_⟩, fun h => ⟨by omega, ?_⟩⟩
    · refine ⟨by omega, y, x % y, ?_, ?_, ?_⟩
      · rw [Nat.gcd_comm y (x % y), ← Nat.gcd_rec, Nat.gcd_comm]
        exact hg
      · have := Nat.mod_lt x (y := y) (by omega)
        omega
      · rw [nat_mod]
    · have hy : y = 0 := by omega
      subst hy
      rw [← hg]
      simp only [Nat.gcd_zero_right]
      exact ⟨_, _, rfl⟩
  · rintro s ⟨c, d, rfl⟩
    try walk_at "z0"
    rfl
def frI (a b : Nat) : D := .tup [.int ((a / Nat.gcd a b : Nat) : Int), .int ((b / Nat.gcd a b : Nat) : Int)]
theorem nat_div {x y : Nat} : ((x : Int) / (y : Int)) = ((x / y : Nat) : Int) := by simp
theorem fraction_eq {a b : Nat} (ha : a < 9000) (hb : b < 9000) (h0 : 0 < b) : m_fraction [.int (a : Nat), .int (b : Nat)] = .ok (frI a b) := by
  apply Rv.of_wp
  unfold m_fraction g_fraction
  refine def_of rfl ?_
  try walk_at "z0"
  rw [divisor_eq ha hb]
  have hg : 0 < Nat.gcd a b := Nat.gcd_pos_of_pos_right a h0
  have hg2 : Nat.gcd a b ≤ b := Nat.gcd_le_right a h0
  have lg := log2_lt (u := (Nat.gcd a b : Nat)) (by omega) (by omega)
  try walk_at "z0"
  refine ⟨⟨by omega, lg⟩, ⟨by omega, lg⟩, ?_⟩
  rw [nat_div, nat_div]
  rfl
end

end Ak
namespace Ak
open PySem PySem.Spec PyProof.Rows L2
local instance tbI_q9x : Tb := tb0
/-! ### defs that raise, by a wish (they do not) -/
theorem defX_of {np n : Nat} {g : S → Ro} {ds : List D} {Q : D → Prop} (hl : ds.length = np) (h : (g (initS n ds)).wp (fun _ => Q .non) (fun d _ => Q d)) : (mDefX np n g ds).wp Q := by
  unfold mDefX
  rw [if_pos hl]
  cases e : g (initS n ds) with
  | rt d s =>
    rw [e] at h
    exact h
  | nx s =>
    rw [e] at h
    exact h
  | bk s =>
    rw [e] at h
    exact h.elim
  | ct s =>
    rw [e] at h
    exact h.elim
  | ex c d s =>
    rw [e] at h
    exact h.elim
  | no =>
    rw [e] at h
    exact h.elim
/-- an error's wish is not kept: not raised -/
theorem wp_sXc {c : Str} {fe : S → Rs D} {s : S} {N : S → Prop} {R : D → S → Prop} (h : False) : ((sXc c fe) s).wp N R := h.elim

end Ak
namespace Ak
open PySem PySem.Spec PyProof.Rows L2
local instance tbI_qa : Tb := tb0
/-! ### errors, by a wish -/
theorem wp_Xc {c : Str} {fe : S → Rs D} {s : S} {Q : D → S → Prop} : (mXc c fe s).wp Q = (fe s).wp fun d s1 => (owp d.dataR fun y => reprB y = true) ∧ Q (.exc c d) s1 := by
  unfold mXc
  rw [wp_bind]
  congr 1
  funext d s1
  cases d.dataR with
  | none => simp [Rs.wp, owp]
  | some y =>
    by_cases h : reprB y = true
    · simp [Rs.wp, owp, h]
    · simp [Rs.wp, owp, h]
theorem owp_valX {c : Str} {d : D} {Q : D → Prop} : owp (valX (.exc c d)) Q = Q d := rfl
theorem owp_isiX {c c' : Str} {xs : List Str} {d : D} {Q : D → Prop} : owp (isiX c xs (.exc c' d)) Q = (xs.contains c' = true ∧ Q (.bl (subX c' c))) := by
  unfold isiX
  exact owp_if
theorem owp_isiV {c' : Str} {xs : List Str} {d : D} {Q : D → Prop} : owp (isiV xs (.exc c' d)) Q = (xs.contains c' = true ∧ Q (.bl true)) := by
  unfold isiV
  exact owp_if
theorem owp_reprR {d : D} {Q : D → Prop} : owp (reprR [d]) Q = owp d.dataR fun y => reprB y = true ∧ Q (.str y.shown) := by
  unfold reprR
  dsimp only
  cases d.dataR with
  | none => rfl
  | some y => exact owp_if
/-! ### values of any kind -/
def okV (d : D) : Bool := match d.dataR with
  | some y => reprB y && PyData.strOk y.shown
  | none => false
theorem okV_get {d : D} (h : okV d = true) : ∃ y, d.dataR = some y ∧ reprB y = true ∧ PyData.strOk y.shown = true := by
  unfold okV at h
  cases e : d.dataR with
  | none =>
    rw [e] at h
    cases h
  | some y =>
    rw [e] at h
    rw [Bool.and_eq_true] at h
    exact ⟨y, rfl, h.1, h.2⟩
def odds : List D := [.non, .bl true, .bl false, .int 0, .int 1, .int (-1), .int (10 ^ 8), .str "", .str "a", .str "some", .str "near", .tup [], .lst [], .dic [] [], .tup [.int 0], .tup [.tup []], .lst [.int 0],
  .tup [.int 100, .str "near"], .tup [.tup [.str "a", .int 1]], .tup [.tup [.tup [.str "a", .int 1]], .str "more"], .tup [.int 0, .int 1], .tup [.tup [.int 0, .tup [.int 1, .int 1]]], .str "never", .tup [.int 1, .int 1, .int 1]]
theorem odds_ok : (odds.all fun a => okV a && ((odds.all fun b => okV (.tup [a, .lst [b]])) && okV (.dic [.inr "a"] [a]))) = true := by decide +kernel
theorem odd_wp {n : Nat} {q : Pot} {Q : D → Bw → Prop} (hq : PotOk n q) (hn : n < 100000) (h : ∀ x ∈ odds, ∀ q', PotOk (n + 1) q' → Q x (.pot q')) : (m_l_odd (.pot q) []).wp Q := by
  unfold m_l_odd g_l_odd
  refine defP_of rfl ?_
  try simp only [wp_cal, wp_calP, calPW_p, wp_frz, wp_mkL, wp_mk, wp_drop, wp_asg, wp_iter, wp_for, wp_comp, wp_part, wp_noPart, intW_int, wp_sl, wp_and, wp_or, wp_not, wp_chain, strW_str, wp_s1, wp_s0, twoW_two, wp_par, wp_parMV, wp_parVM, wp_parMM, wp_rng1, owp_rng, wp_zip, owp_zipL, owp_zipT, wp_enum2, owp_enum2, wp_mkO, lW_l, kW_k, oneW_one, lstW_lst, wp_app, wp_ext, wp_dput, wp_opR, wp_opL, wp_CBO, objW_obj, wp_prop, wp_meth, bobjW_obj, wp_new, dW_d, wp_varP, wp_pureR, wp_pairs0, wp_pairs, wp_disp, owp_lenL, wp_popAt, wp_C, wp_var, wp_op, wp_un, wp_test, wp_if, wp_notT, wp_andT, wp_orT, wp_nil, wp_cons, wp_CB, wp_tup, wp_lst, wp_seq, wp_ret, wp_sNil, wp_set, wp_sIf, wp_potC, wp_potSetC, potsW_0, potsW_1, potsW_2, setW_0, setW_2, isPW_p, blW_bl, owp_some, varW_d, varW_l, varW_k, initP, initS, S.put, owp_cmp, owp_add, owp_sub, owp_mul, owp_fdiv, owp_mod, owp_pow, owp_int, owp_intB, owp_tup, owp_lst, List.length_cons, List.length_nil, List.map_cons, List.map_nil, List.cons_append, List.nil_append, List.append_nil, List.getElem?_cons_zero, List.getElem?_cons_succ, List.set_cons_zero, List.set_cons_succ, List.replicate_succ, List.replicate_zero, Nat.reduceAdd, Nat.reduceSub, Rv.wp_ok, Rp.wp_ok, wp_yes, wp_dNew, wp_ifT, wp_pop, wp_self, wp_sSelf, pobjW_obj, wp_rdU, rdW_rd, pkW_rd, wp_peek, wp_peekT, wp_rdPut, wp_methP, tlW_tup, wp_star, wp_setIx, wp_lenX, llW_l, llW_d, wp_atL, owp_bTup, owp_bCons, owp_bNil, owp_bName, owp_eqII, owp_neII, owp_eqSS, owp_neSS, owp_eqNS, owp_isN, owp_notN, owp_ixL0, owp_ixL1, owp_ixL2, owp_ixL3, owp_ixT0, owp_ixT1, owp_iterL, owp_iterT, owp_seqL, owp_addL, owp_addT, owp_addS, owp_lenT, owp_tupleL, owp_tupleT, owp_din, owp_dnotin, owp_isi, owp_neg, owp_keys, owp_values, owp_items, owp_lenK, owp_tupK, LVd_l, LVd_k, S.wipe, S.back, wipeE, restE, Bool.not_true, Bool.not_false, true_implies, false_implies, reduceCtorEq, true_and, and_true, Nat.reduceLeDiff, strOk_lit, owp_keyS, and_self, beq_iff_eq, beq_eq_false_iff_ne, decide_eq_true_eq, decide_eq_false_iff_not]
  refine ⟨⟨by decide, by decide, Nat.lt_of_lt_of_le (show (10 : Int).natAbs < 2 ^ 4 by decide) (Nat.pow_le_pow_right (by decide) (by decide))⟩, ?_⟩
  exact of_wp hq hn (by simp) (by simp) h
theorem neB_same {d : D} {Q : D → Prop} (h : eqB d d = some true) (hQ : Q (.bl false)) : owp (neD d d) Q := by
  unfold neD
  rw [h]
  exact hQ
theorem reprR_ne {d : D} {Q : D → Prop} (h : okV d = true) (hQ : Q (.bl false)) : owp (reprR [d]) fun x => owp (reprR [d]) fun y => owp (neD x y) Q := by
  obtain ⟨y, h1, h2, h3⟩ := okV_get h
  simp only [owp_reprR, h1, owp_some, h2, true_and, owp_neSS]
  simp [h3, hQ]
theorem reprR_eq {d : D} {Q : D → Prop} (h : okV d = true) (hQ : Q (.bl true)) : owp (reprR [d]) fun x => owp (reprR [d]) fun y => owp (eqD x y) Q := by
  obtain ⟨y, h1, h2, h3⟩ := okV_get h
  simp only [owp_reprR, h1, owp_some, h2, true_and, owp_eqSS]
  simp [h3, hQ]

end Ak
namespace Ak
open PySem PySem.Spec PyProof.Rows L2
local instance tbI_qb : Tb := tb0
/-! ### values that repr takes, by a measure -/
mutual
def D.bk : D → Nat
  | .str x => x.length
  | .tup xs => D.bks xs
  | .lst xs => D.bks xs
  | _ => 0
def D.bks : List D → Nat
  | [] => 0
  | x :: xs => D.bk x + 1 + D.bks xs
end
mutual
def D.dp : D → Nat
  | .tup xs => D.dps xs + 1
  | .lst xs => D.dps xs + 1
  | .dic _ _ => 1
  | _ => 0
def D.dps : List D → Nat
  | [] => 0
  | x :: xs => max (D.dp x) (D.dps xs)
end
mutual
def D.nc : D → Bool
  | .non => true
  | .bl _ => true
  | .int i => decide (-1000000000 ≤ i ∧ i ≤ 1000000000)
  | .str x => PyData.strOk x
  | .tup xs => D.ncs xs
  | .lst xs => D.ncs xs
  | .dic ks vs => ks.isEmpty && vs.isEmpty
  | _ => false
def D.ncs : List D → Bool
  | [] => true
  | x :: xs => D.nc x && D.ncs xs
end
theorem strOk_from : ∀ (ts : List Str) (k : Nat) (acc : Str), PyData.strOk acc = true → (∀ w ∈ ts, PyData.strOk w = true) → PyData.strOk (textFrom k acc ts) = true
  | [], _, _, h, _ => h
  | t :: ts, k, acc, h, hw => by
    unfold textFrom
    refine strOk_from ts _ _ (strOk_app (strOk_app h ?_) (hw t (.head _))) fun w hw2 => hw w (.tail _ hw2)
    exact strOk_lit
mutual
theorem nc_data : ∀ {d : D}, d.nc = true → ∃ y, d.dataR = some y ∧ y.showable = true ∧ y.leavesShort 13 = true ∧ y.bulk = d.bk ∧ y.depth = d.dp ∧ PyData.strOk y.shown = true
  | .non, _ => ⟨.none, rfl, rfl, rfl, rfl, rfl, strOk_lit⟩
  | .bl b, _ => ⟨.bool b, rfl, rfl, rfl, rfl, rfl, by cases b <;> exact strOk_lit⟩
  | .int i, h => by
    have h2 : -1000000000 ≤ i ∧ i ≤ 1000000000 := of_decide_eq_true h
    refine ⟨.int i, rfl, ?_, decide_eq_true (PyData.shown_int_le (by omega)), rfl, rfl, (show PyData.strOk (Str.ofString (toString i)) = true from strOk_lit)⟩
    simp only [PyData.showable, decide_eq_true_eq]
    by_cases z : i.natAbs = 0
    · rw [z]
      decide
    · exact Nat.lt_of_lt_of_le (by
        rw [Nat.log2_lt z]
        show i.natAbs < 2 ^ 30
        omega) (by decide : 30 ≤ 1920)
  | .str x, h => by
    have ok : PyData.strOk x = true := h
    refine ⟨.str x, rfl, rfl, ?_, rfl, rfl, strOk_repr ok⟩
    rw [strOk_iff] at ok
    simp only [PyData.leavesShort, List.all_eq_true, decide_eq_true_eq]
    intro c hc
    have := ok c hc
    omega
  | .tup xs, h => by
    obtain ⟨ys, h1, h2, h3, h4, h5, h6⟩ := ncs_data (ds := xs) h
    refine ⟨.tuple ys, by simp [D.dataR, h1], by simpa [PyData.showable] using h2, by simpa [PyData.leavesShort] using h3, by simpa [PyData.bulk, D.bk] using h4, by simp [PyData.depth, D.dp, h5], ?_⟩
    show PyData.strOk (tupleText (PyData.shownAll ys)) = true
    unfold tupleText
    exact strOk_app (strOk_app strOk_lit (strOk_join strOk_lit h6)) strOk_lit
  | .lst xs, h => by
    obtain ⟨ys, h1, h2, h3, h4, h5, h6⟩ := ncs_data (ds := xs) h
    refine ⟨.list ys, by simp [D.dataR, h1], by simpa [PyData.showable] using h2, by simpa [PyData.leavesShort] using h3, by simpa [PyData.bulk, D.bk] using h4, by simp [PyData.depth, D.dp, h5], ?_⟩
    show PyData.strOk (listText (PyData.shownAll ys)) = true
    unfold listText
    exact strOk_app (strOk_from _ _ _ strOk_lit h6) strOk_lit
  | .dic ks vs, h => by
    have h2 : (ks.isEmpty && vs.isEmpty) = true := h
    rw [Bool.and_eq_true] at h2
    obtain ⟨h3, h4⟩ := h2
    cases ks with
    | cons _ _ => cases h3
    | nil =>
      cases vs with
      | cons _ _ => cases h4
      | nil => exact ⟨.dict [], rfl, rfl, rfl, rfl, rfl, by decide +kernel⟩
  | .obj _ _ _, h => by cases h
  | .exc _ _, h => by cases h
theorem ncs_data : ∀ {ds : List D}, D.ncs ds = true → ∃ ys, D.dataRs ds = some ys ∧ PyData.showableAll ys = true ∧ PyData.leavesShortAll 13 ys = true ∧ PyData.bulkAll ys = D.bks ds ∧ PyData.depthAll ys = D.dps ds ∧ ∀ w ∈ PyData.shownAll ys, PyData.strOk w = true
  | [], _ => ⟨[], rfl, rfl, rfl, rfl, rfl, fun _ h => by cases h⟩
  | d :: ds, h => by
    have h2 : (D.nc d && D.ncs ds) = true := h
    rw [Bool.and_eq_true] at h2
    obtain ⟨y, k1, k2, k3, k4, k5, k6⟩ := nc_data (d := d) h2.1
    obtain ⟨ys, h1, h3, h4, h5, h6, h7⟩ := ncs_data (ds := ds) h2.2
    refine ⟨y :: ys, by simp [D.dataRs, k1, h1], by simp [PyData.showableAll, k2, h3], by simp [PyData.leavesShortAll, k3, h4], by simp [PyData.bulkAll, D.bks, k4, h5], by simp [PyData.depthAll, D.dps, k5, h6], fun w hw => ?_⟩
    rcases List.mem_cons.mp (show w ∈ y.shown :: PyData.shownAll ys from hw) with rfl | hw
    · exact k6
    · exact h7 w hw
end
theorem nc_ok {d : D} (h : d.nc = true) (hb : d.bk ≤ 1000000) (hd : d.dp ≤ 40) : okV d = true := by
  obtain ⟨y, h1, h2, h3, h4, h5, h6⟩ := nc_data h
  have l := PyData.shown_fits_bulk (B := 13) (by decide) (by decide) h3 (by rw [h4]; exact Nat.le_trans hb (by decide))
  unfold okV
  rw [h1]
  show (reprB y && PyData.strOk y.shown) = true
  rw [h6, Bool.and_true]
  unfold reprB
  simp [h2, l, h5, hd]

end Ak
namespace Ak
open PySem PySem.Spec PyProof.Rows L2
local instance tbI_qc : Tb := tb0
/-! ### small looks at values of any kind -/
def isIB : D → Bool
  | .int _ => true
  | _ => false
theorem nc_mem {ds : List D} (h : D.ncs ds = true) : ∀ d ∈ ds, d.nc = true := by
  induction ds with
  | nil => exact fun d hd => by cases hd
  | cons a ds ih =>
    have h2 : (D.nc a && D.ncs ds) = true := h
    rw [Bool.and_eq_true] at h2
    intro d hd
    rcases List.mem_cons.mp hd with rfl | hd
    · exact h2.1
    · exact ih h2.2 d hd
theorem comp_allD {b : D → S → Option S} {s : S} {L : List D → S → Prop} {fa : S → Rs D} {vs : List Nat} (g : D → D) {ds : List D} (step : ∀ i ∈ ds, owp (b i (s.wipe vs)) fun s1 => (fa s1).wp fun y s3 => y = g i ∧ s3.back s vs = s) (fin : L (ds.map g) s) : (compL b mYes fa vs ds s).wp L := by
  have h := comp_all (b := b) (vs := vs) (fa := fa) (f := id) (js := ds) (L := L) (s := s) g step fin
  rw [List.map_id] at h
  exact h
local macro_rules | `(tactic| walk_at "z0") => `(tactic| simp only [wp_cal, wp_calP, calPW_p, wp_frz, wp_mkL, wp_mk, wp_drop, wp_asg, wp_iter, wp_for, wp_comp, wp_part, wp_noPart, intW_int, wp_sl, wp_and, wp_or, wp_not, wp_chain, strW_str, wp_s1, wp_s0, twoW_two, wp_par, wp_parMV, wp_parVM, wp_parMM, wp_rng1, owp_rng, wp_zip, owp_zipL, owp_zipT, wp_enum2, owp_enum2, wp_mkO, lW_l, kW_k, oneW_one, lstW_lst, wp_app, wp_ext, wp_dput, wp_opR, wp_opL, wp_CBO, objW_obj, wp_prop, wp_meth, bobjW_obj, wp_new, dW_d, wp_varP, wp_pureR, wp_pairs0, wp_pairs, wp_disp, owp_lenL, wp_popAt, wp_C, wp_var, wp_op, wp_un, wp_test, wp_if, wp_notT, wp_andT, wp_orT, wp_nil, wp_cons, wp_CB, wp_tup, wp_lst, wp_seq, wp_ret, wp_sNil, wp_set, wp_sIf, wp_potC, wp_potSetC, potsW_0, potsW_1, potsW_2, setW_0, setW_2, isPW_p, blW_bl, owp_some, varW_d, varW_l, varW_k, initP, initS, S.put, owp_cmp, owp_add, owp_sub, owp_mul, owp_fdiv, owp_mod, owp_pow, owp_int, owp_intB, owp_tup, owp_lst, List.length_cons, List.length_nil, List.map_cons, List.map_nil, List.cons_append, List.nil_append, List.append_nil, List.getElem?_cons_zero, List.getElem?_cons_succ, List.set_cons_zero, List.set_cons_succ, List.replicate_succ, List.replicate_zero, Nat.reduceAdd, Nat.reduceSub, Rv.wp_ok, Rp.wp_ok, wp_yes, wp_dNew, wp_ifT, wp_pop, wp_self, wp_sSelf, pobjW_obj, wp_rdU, rdW_rd, pkW_rd, wp_peek, wp_peekT, wp_rdPut, wp_methP, tlW_tup, wp_star, wp_setIx, wp_lenX, llW_l, llW_d, wp_atL, owp_bTup, owp_bCons, owp_bNil, owp_bName, owp_eqII, owp_neII, owp_eqSS, owp_neSS, owp_eqNS, owp_isN, owp_notN, owp_ixL0, owp_ixL1, owp_ixL2, owp_ixL3, owp_ixT0, owp_ixT1, owp_iterL, owp_iterT, owp_seqL, owp_addL, owp_addT, owp_addS, owp_lenT, owp_tupleL, owp_tupleT, owp_din, owp_dnotin, owp_isi, owp_neg, owp_keys, owp_values, owp_items, owp_lenK, owp_tupK, LVd_l, LVd_k, S.wipe, S.back, wipeE, restE, Bool.not_true, Bool.not_false, true_implies, false_implies, reduceCtorEq, true_and, and_true, Nat.reduceLeDiff, lore_units, lore_first, lore_rows, strOk_lit, owp_keyS, and_self, beq_iff_eq, beq_eq_false_iff_ne, decide_eq_true_eq, decide_eq_false_iff_not, wp_noEx, wp_calX, isa_it, isa_ii, isa_ib, isa_ss, isN_nm, isN_non, isN_str, isN_int])
theorem is_integer_gen {d : D} (h : d.nc = true) : m_is_integer [d] = .ok (.bl (isIB d)) := by
  apply Rv.of_wp
  unfold m_is_integer g_is_integer
  refine def_of rfl ?_
  try walk_at "z0"
  cases d <;> refine ⟨fun z => ?_, fun z => ?_⟩ <;> first | rfl | trivial | (exact absurd (z.symm.trans rfl : true = false) (by decide)) | (exact absurd (z.symm.trans rfl : false = true) (by decide)) | (exact absurd h (by decide)) | skip
def btB (a b : Int) : D → Bool
  | .int i => decide (a ≤ i) && decide (i ≤ b)
  | _ => false
theorem is_between_gen {d : D} {a b : Int} (h : d.nc = true) : m_is_between [d, .int a, .int b] = .ok (.bl (btB a b d)) := by
  apply Rv.of_wp
  unfold m_is_between g_is_between
  refine def_of rfl ?_
  try walk_at "z0"
  rw [is_integer_gen h]
  try walk_at "z0"
  cases d with
  | int i =>
    refine ⟨fun _ => ?_, fun z => absurd z (by simp [isIB])⟩
    try walk_at "z0"
    refine ⟨fun h1 => by simp [btB, h1], fun h1 => by simp [btB, h1]⟩
  | _ => exact ⟨fun z => absurd z (by simp [isIB]), fun _ => rfl⟩
theorem is_tuple_no {d : D} {a b : Int} (h : d.nc = true) (n : ∀ xs, d ≠ .tup xs) : m_is_tuple [d, .int a, .int b] = .ok (.bl false) := by
  apply Rv.of_wp
  unfold m_is_tuple g_is_tuple
  refine def_of rfl ?_
  try walk_at "z0"
  cases d <;> refine ⟨fun z => ?_, fun z => ?_⟩ <;> first | (exact absurd rfl (n _)) | rfl | trivial | (exact absurd (z.symm.trans rfl : true = false) (by decide)) | (exact absurd (z.symm.trans rfl : false = true) (by decide)) | (exact absurd h (by decide)) | skip
theorem isa_no {d : D} (h : d.nc = true) (n : ∀ xs, d ≠ .tup xs) : d.isa "tuple" = false := by
  cases d <;> first | rfl | (exact absurd rfl (n _)) | (exact absurd h (by decide))
theorem rs_eqn {α : Type} {r : Rs α} {a : α} {s : S} (h : r.wp fun d s1 => d = a ∧ s1 = s) : r = .ok a s := by
  cases r with
  | ok d s1 =>
    obtain ⟨rfl, rfl⟩ := h
    rfl
  | _ => exact h.elim
theorem ro_eqn {r : Ro} {s : S} (h : r.wp (fun s1 => s1 = s) (fun _ _ => False)) : r = .nx s := by
  cases r with
  | nx s1 =>
    have : s1 = s := h
    rw [this]
  | rt d s1 => exact absurd h id
  | _ => exact h.elim
theorem seq_nx {g1 g2 : S → Ro} {s s1 : S} (h : g1 s = .nx s1) : sSeq g1 g2 s = g2 s1 := by
  unfold sSeq
  rw [h]
  rfl
theorem seq_ex {g1 g2 : S → Ro} {s s1 : S} {c : Str} {d : D} (h : g1 s = .ex c d s1) : sSeq g1 g2 s = .ex c d s1 := by
  unfold sSeq
  rw [h]
  rfl
theorem defX_ex {np n : Nat} {g : S → Ro} {ds : List D} {c : Str} {d : D} {s : S} (hl : ds.length = np) (h : g (initS n ds) = .ex c d s) : mDefX np n g ds = .ex c d := by
  unfold mDefX
  rw [if_pos hl, h]
theorem drop_ex {m : List D → Rv} {fr : S → Rs (List D)} {s s1 : S} {ds : List D} {c : Str} {d : D} (hf : fr s = .ok ds s1) (h : m ds = .ex c d) : sDrop (mCalX m fr) s = .ex c d s1 := by
  unfold sDrop mCalX
  rw [hf]
  show ((match m ds with
    | .ok d => Rs.ok d s1
    | .ex c d => .ex c d s1
    | .no => .no).st _) = _
  rw [h]
  rfl
theorem drop_ok {m : List D → Rv} {fr : S → Rs (List D)} {s s1 : S} {ds : List D} {d : D} (hf : fr s = .ok ds s1) (h : m ds = .ok d) : sDrop (mCalX m fr) s = .nx s1 := by
  unfold sDrop mCalX
  rw [hf]
  show ((match m ds with
    | .ok d => Rs.ok d s1
    | .ex c d => .ex c d s1
    | .no => .no).st _) = _
  rw [h]
  rfl
/-- a test, then raise -/
theorem if_ex {ft : S → Rs Bool} {c : Str} {i : Nat} {g : S → Ro} {s : S} {d : D} (ht : ft s = .ok true s) (hv : s.e[i]? = some (some (.d d))) (ky : okV d = true) : sIf ft (sXc c (mVar i)) g s = .ex c d s := by
  obtain ⟨y, y1, y2, _⟩ := okV_get ky
  unfold sIf
  rw [ht]
  show sXc c (mVar i) s = _
  unfold sXc mVar
  rw [hv]
  show (match d.dataR with
    | some y => if reprB y then Ro.ex c d s else .no
    | none => .no) = _
  rw [y1]
  exact if_pos y2
theorem thO_cal {m : List D → Rv} {fr : S → Rs (List D)} {s s1 : S} {ds : List D} (h : fr s.pure = .ok ds s1) : thO (mCalX m fr) s = m ds := by
  unfold thO mCalX
  rw [h]
  show (match (match m ds with
    | .ok d => Rs.ok d s1
    | .ex c d => .ex c d s1
    | .no => .no) with
    | .ok d _ => Rv.ok d
    | .ex c d _ => .ex c d
    | .no => .no) = _
  cases m ds <;> rfl
theorem hand_of {np n : Nat} {g : Rv → S → Ro} {r : Rv} {ds : List D} {Q : D → Prop} (hl : ds.length + 1 = np) (h : (g r (initN n ds)).wp (fun _ => Q .non) (fun d _ => Q d)) : (mHand np n g r ds).wp Q := by
  unfold mHand
  rw [if_pos hl]
  cases e : g r (initN n ds) with
  | rt d s =>
    rw [e] at h
    exact h
  | nx s =>
    rw [e] at h
    exact h
  | bk s =>
    rw [e] at h
    exact h.elim
  | ct s =>
    rw [e] at h
    exact h.elim
  | ex c d s =>
    rw [e] at h
    exact h.elim
  | no =>
    rw [e] at h
    exact h.elim

end Ak
namespace Ak
open PySem PySem.Spec PyProof.Rows L2
local instance tbI_qd : Tb := tb0
/-! ### units, shares, counts: both looks -/
def wdB (ws : List Str) : D → Bool
  | .str x => ws.any fun y => eqF (D.str y) (.str x)
  | _ => false
abbrev howL : List Str := [Str.ofString "near", Str.ofString "even", Str.ofString "down", Str.ofString "up"]
abbrev nsL : List Str := [Str.ofString "none", Str.ofString "some"]
theorem in_how {x : Str} : inD (.str x) (.tup [.str "near", .str "even", .str "down", .str "up"]) = some (.bl (wdB howL (.str x))) := rfl
theorem in_ns {x : Str} : inD (.str x) (.tup [.str "none", .str "some"]) = some (.bl (wdB nsL (.str x))) := rfl
local macro_rules | `(tactic| walk_at "z0") => `(tactic| simp only [wp_cal, wp_calP, calPW_p, wp_frz, wp_mkL, wp_mk, wp_drop, wp_asg, wp_iter, wp_for, wp_comp, wp_part, wp_noPart, intW_int, wp_sl, wp_and, wp_or, wp_not, wp_chain, strW_str, wp_s1, wp_s0, twoW_two, wp_par, wp_parMV, wp_parVM, wp_parMM, wp_rng1, owp_rng, wp_zip, owp_zipL, owp_zipT, wp_enum2, owp_enum2, wp_mkO, lW_l, kW_k, oneW_one, lstW_lst, wp_app, wp_ext, wp_dput, wp_opR, wp_opL, wp_CBO, objW_obj, wp_prop, wp_meth, bobjW_obj, wp_new, dW_d, wp_varP, wp_pureR, wp_pairs0, wp_pairs, wp_disp, owp_lenL, wp_popAt, wp_C, wp_var, wp_op, wp_un, wp_test, wp_if, wp_notT, wp_andT, wp_orT, wp_nil, wp_cons, wp_CB, wp_tup, wp_lst, wp_seq, wp_ret, wp_sNil, wp_set, wp_sIf, wp_potC, wp_potSetC, potsW_0, potsW_1, potsW_2, setW_0, setW_2, isPW_p, blW_bl, owp_some, varW_d, varW_l, varW_k, initP, initS, S.put, owp_cmp, owp_add, owp_sub, owp_mul, owp_fdiv, owp_mod, owp_pow, owp_int, owp_intB, owp_tup, owp_lst, List.length_cons, List.length_nil, List.map_cons, List.map_nil, List.cons_append, List.nil_append, List.append_nil, List.getElem?_cons_zero, List.getElem?_cons_succ, List.set_cons_zero, List.set_cons_succ, List.replicate_succ, List.replicate_zero, Nat.reduceAdd, Nat.reduceSub, Rv.wp_ok, Rp.wp_ok, wp_yes, wp_dNew, wp_ifT, wp_pop, wp_self, wp_sSelf, pobjW_obj, wp_rdU, rdW_rd, pkW_rd, wp_peek, wp_peekT, wp_rdPut, wp_methP, tlW_tup, wp_star, wp_setIx, wp_lenX, llW_l, llW_d, wp_atL, owp_bTup, owp_bCons, owp_bNil, owp_bName, owp_eqII, owp_neII, owp_eqSS, owp_neSS, owp_eqNS, owp_isN, owp_notN, owp_ixL0, owp_ixL1, owp_ixL2, owp_ixL3, owp_ixT0, owp_ixT1, owp_iterL, owp_iterT, owp_seqL, owp_addL, owp_addT, owp_addS, owp_lenT, owp_tupleL, owp_tupleT, owp_din, owp_dnotin, owp_isi, owp_neg, owp_keys, owp_values, owp_items, owp_lenK, owp_tupK, LVd_l, LVd_k, S.wipe, S.back, wipeE, restE, Bool.not_true, Bool.not_false, true_implies, false_implies, reduceCtorEq, true_and, and_true, Nat.reduceLeDiff, lore_units, lore_first, lore_rows, strOk_lit, owp_keyS, and_self, beq_iff_eq, beq_eq_false_iff_ne, decide_eq_true_eq, decide_eq_false_iff_not, wp_noEx, wp_calX, isa_it, isa_ii, isa_ib, isa_ss, isN_nm, isN_non, isN_str, isN_int])
theorem is_word_how {d : D} (h : d.nc = true) : m_is_word [d, .tup [.str "near", .str "even", .str "down", .str "up"]] = .ok (.bl (wdB howL d)) := by
  apply Rv.of_wp
  unfold m_is_word g_is_word
  refine def_of rfl ?_
  try walk_at "z0"
  cases d <;> refine ⟨fun z => ?_, fun z => ?_⟩ <;> first | rfl | trivial | (exact absurd (z.symm.trans rfl : true = false) (by decide)) | (exact absurd (z.symm.trans rfl : false = true) (by decide)) | (exact absurd h (by decide)) | skip
theorem is_word_ns {d : D} (h : d.nc = true) : m_is_word [d, .tup [.str "none", .str "some"]] = .ok (.bl (wdB nsL d)) := by
  apply Rv.of_wp
  unfold m_is_word g_is_word
  refine def_of rfl ?_
  try walk_at "z0"
  cases d <;> refine ⟨fun z => ?_, fun z => ?_⟩ <;> first | rfl | trivial | (exact absurd (z.symm.trans rfl : true = false) (by decide)) | (exact absurd (z.symm.trans rfl : false = true) (by decide)) | (exact absurd h (by decide)) | skip
def unB : D → Bool
  | .tup [a, b] => btB 2 100 a && wdB howL b
  | _ => false
theorem unB_no {d : D} (h : ∀ xs, d ≠ .tup xs) : unB d = false := by
  cases d <;> first | rfl | (exact absurd rfl (h _))
theorem unB_len {xs : List D} (h : xs.length ≠ 2) : unB (.tup xs) = false := by
  match xs, h with
  | [], _ => rfl
  | [_], _ => rfl
  | [_, _], h => exact absurd rfl h
  | _ :: _ :: _ :: _, _ => rfl
theorem l_is_int_gen {d : D} {a b : Int} (h : d.nc = true) : m_l_is_int [d, .int a, .int b] = .ok (.bl (btB a b d)) := by
  apply Rv.of_wp
  unfold m_l_is_int g_l_is_int
  refine def_of rfl ?_
  try walk_at "z0"
  cases d with
  | int i =>
    refine ⟨fun _ => ⟨fun _ => ?_, fun z => absurd z (by rw [isa_ib]; decide)⟩, fun z => absurd z (by rw [isa_ii]; decide)⟩
    try walk_at "z0"
    refine ⟨fun h1 => by simp [btB, h1], fun h1 => by simp [btB, h1]⟩
  | bl b => exact ⟨fun _ => ⟨fun z => absurd (z.symm.trans rfl : true = false) (by decide), fun _ => rfl⟩, fun z => absurd (z.symm.trans rfl : false = true) (by decide)⟩
  | obj _ _ _ => cases h
  | exc _ _ => cases h
  | _ => exact ⟨fun z => absurd (z.symm.trans rfl : true = false) (by decide), fun _ => rfl⟩
theorem is_tuple_lenP {l : List D} {a b : Int} : m_is_tuple [.tup l, .int a, .int b] = .ok (.bl (decide (a ≤ l.length) && decide (l.length ≤ b))) := by
  apply Rv.of_wp
  unfold m_is_tuple g_is_tuple
  refine def_of rfl ?_
  try walk_at "z0"
  by_cases h : a ≤ (l.length : Int) <;> simp [h]
theorem is_units_gen {d : D} (h : d.nc = true) : m_is_units [d] = .ok (.bl (unB d)) := by
  apply Rv.of_wp
  unfold m_is_units g_is_units
  refine def_of rfl ?_
  by_cases ht : ∀ xs, d ≠ .tup xs
  · rw [unB_no ht]
    try walk_at "z0"
    rw [is_tuple_no h ht]
    try walk_at "z0"
  · obtain ⟨xs, rfl⟩ : ∃ xs, d = .tup xs := Classical.not_forall_not.mp ht
    try walk_at "z0"
    rw [is_tuple_lenP]
    try walk_at "z0"
    by_cases hl : xs.length = 2
    · match xs, hl with
      | [a, b], _ =>
        have hab : a.nc = true ∧ b.nc = true := by
          have z : (D.nc a && (D.nc b && true)) = true := h
          simpa using z
        refine ⟨fun _ => ?_, fun z => (by simp at z)⟩
        try walk_at "z0"
        rw [is_between_gen hab.1]
        try walk_at "z0"
        refine ⟨fun h1 => ?_, fun h1 => by simp [unB, h1]⟩
        rw [is_word_how hab.2]
        show D.bl (wdB howL b) = D.bl (btB 2 100 a && wdB howL b)
        rw [h1]
        rfl
    · rw [unB_len hl]
      refine ⟨fun z => ?_, fun _ => rfl⟩
      exfalso
      simp at z
      omega
theorem l_is_units_gen {d : D} (h : d.nc = true) : m_l_is_units [d] = .ok (.bl (unB d)) := by
  apply Rv.of_wp
  unfold m_l_is_units g_l_is_units
  refine def_of rfl ?_
  by_cases ht : ∀ xs, d ≠ .tup xs
  · rw [unB_no ht]
    try walk_at "z0"
    rw [isa_no h ht]
    exact ⟨fun _ => trivial, fun z => absurd z (by decide)⟩
  · obtain ⟨xs, rfl⟩ : ∃ xs, d = .tup xs := Classical.not_forall_not.mp ht
    try walk_at "z0"
    by_cases hl : xs.length = 2
    · match xs, hl with
      | [a, b], _ =>
        have hab : a.nc = true ∧ b.nc = true := by
          have z : (D.nc a && (D.nc b && true)) = true := h
          simpa using z
        refine ⟨fun z => absurd z (by simp), fun _ => ?_⟩
        try walk_at "z0"
        rw [l_is_int_gen hab.1]
        try walk_at "z0"
        refine ⟨fun h1 => by simp at h1; simp [unB, h1], fun h1 => ?_⟩
        have h2 : btB 2 100 a = true := by simpa using h1
        have hb := hab.2
        cases b <;> refine ⟨fun z => ?_, fun z => ?_⟩ <;> first | (exact absurd (z.symm.trans rfl : true = false) (by decide)) | (exact absurd (z.symm.trans rfl : false = true) (by decide)) | (exact absurd hb (by decide)) | (simp [unB, h2, wdB]; done) | skip
        rw [in_how]
        try walk_at "z0"
        simp [unB, h2]
    · rw [unB_len hl]
      refine ⟨fun _ => rfl, fun z => ?_⟩
      exfalso
      simp at z
      omega
def shB (k : Int) : D → Bool
  | .str x => wdB nsL (.str x)
  | .int i => decide (0 ≤ i) && decide (i ≤ k)
  | _ => false
theorem is_share_gen {u : Int} {how d : D} (h : d.nc = true) : m_is_share [.tup [.int u, how], d] = .ok (.bl (shB u d)) := by
  apply Rv.of_wp
  unfold m_is_share g_is_share
  refine def_of rfl ?_
  try walk_at "z0"
  rw [is_word_ns h]
  try walk_at "z0"
  refine ⟨fun h1 => ?_, fun h1 => ?_⟩
  · cases d with
    | str x =>
      show D.bl true = D.bl (wdB nsL (.str x))
      rw [h1]
    | _ => cases h1
  · rw [is_between_gen h]
    cases d with
    | str x =>
      show D.bl false = D.bl (wdB nsL (.str x))
      rw [h1]
    | _ => rfl
theorem ck_units {d : D} (h : d.nc = true) (ky : okV d = true) : m_check_units [d] = if unB d = true then .ok .non else .ex "BadUnits" d := by
  cases e : unB d with
  | true =>
    rw [if_pos rfl]
    apply Rv.of_wp
    unfold m_check_units g_check_units
    refine defX_of rfl ?_
    try walk_at "z0"
    rw [is_units_gen h, e]
    try walk_at "z0"
  | false =>
    rw [if_neg (by decide)]
    refine defX_ex (s := initS 1 [d]) rfl (if_ex (rs_eqn ?_) rfl ky)
    try walk_at "z0"
    rw [is_units_gen h, e]
    rfl
theorem ck_share {u : Int} {how d : D} (h : d.nc = true) (ky : okV d = true) : m_check_share [.tup [.int u, how], d] = if shB u d = true then .ok .non else .ex "BadShare" d := by
  cases e : shB u d with
  | true =>
    rw [if_pos rfl]
    apply Rv.of_wp
    unfold m_check_share g_check_share
    refine defX_of rfl ?_
    try walk_at "z0"
    rw [is_share_gen h, e]
    try walk_at "z0"
  | false =>
    rw [if_neg (by decide)]
    refine defX_ex (s := initS 2 [.tup [.int u, how], d]) rfl (if_ex (rs_eqn ?_) rfl ky)
    try walk_at "z0"
    rw [is_share_gen h, e]
    rfl

end Ak
namespace Ak
open PySem PySem.Spec PyProof.Rows L2
local instance tbI_qe : Tb := tb0
/-! ### rounding, stretches, without errors and with -/
theorem owp_divmod {i j : Int} {Q : D → Prop} : owp (divmodD [.int i, .int j]) Q = ((0 < j ∧ j < 1073741824) ∧ Q (.tup [.int (i / j), .int (i % j)])) := owp_if
local macro_rules | `(tactic| walk_at "z0") => `(tactic| simp only [wp_cal, wp_calP, calPW_p, wp_frz, wp_mkL, wp_mk, wp_drop, wp_asg, wp_iter, wp_for, wp_comp, wp_part, wp_noPart, intW_int, wp_sl, wp_and, wp_or, wp_not, wp_chain, strW_str, wp_s1, wp_s0, twoW_two, wp_par, wp_parMV, wp_parVM, wp_parMM, wp_rng1, owp_rng, wp_zip, owp_zipL, owp_zipT, wp_enum2, owp_enum2, wp_mkO, lW_l, kW_k, oneW_one, lstW_lst, wp_app, wp_ext, wp_dput, wp_opR, wp_opL, wp_CBO, objW_obj, wp_prop, wp_meth, bobjW_obj, wp_new, dW_d, wp_varP, wp_pureR, wp_pairs0, wp_pairs, wp_disp, owp_lenL, wp_popAt, wp_C, wp_var, wp_op, wp_un, wp_test, wp_if, wp_notT, wp_andT, wp_orT, wp_nil, wp_cons, wp_CB, wp_tup, wp_lst, wp_seq, wp_ret, wp_sNil, wp_set, wp_sIf, wp_potC, wp_potSetC, potsW_0, potsW_1, potsW_2, setW_0, setW_2, isPW_p, blW_bl, owp_some, varW_d, varW_l, varW_k, initP, initS, S.put, owp_cmp, owp_add, owp_sub, owp_mul, owp_fdiv, owp_mod, owp_pow, owp_int, owp_intB, owp_tup, owp_lst, List.length_cons, List.length_nil, List.map_cons, List.map_nil, List.cons_append, List.nil_append, List.append_nil, List.getElem?_cons_zero, List.getElem?_cons_succ, List.set_cons_zero, List.set_cons_succ, List.replicate_succ, List.replicate_zero, Nat.reduceAdd, Nat.reduceSub, Rv.wp_ok, Rp.wp_ok, wp_yes, wp_dNew, wp_ifT, wp_pop, wp_self, wp_sSelf, pobjW_obj, wp_rdU, rdW_rd, pkW_rd, wp_peek, wp_peekT, wp_rdPut, wp_methP, tlW_tup, wp_star, wp_setIx, wp_lenX, llW_l, llW_d, wp_atL, owp_bTup, owp_bCons, owp_bNil, owp_bName, owp_eqII, owp_neII, owp_eqSS, owp_neSS, owp_eqNS, owp_isN, owp_notN, owp_ixL0, owp_ixL1, owp_ixL2, owp_ixL3, owp_ixT0, owp_ixT1, owp_iterL, owp_iterT, owp_seqL, owp_addL, owp_addT, owp_addS, owp_lenT, owp_tupleL, owp_tupleT, owp_din, owp_dnotin, owp_isi, owp_neg, owp_keys, owp_values, owp_items, owp_lenK, owp_tupK, LVd_l, LVd_k, S.wipe, S.back, wipeE, restE, Bool.not_true, Bool.not_false, true_implies, false_implies, reduceCtorEq, true_and, and_true, Nat.reduceLeDiff, lore_units, lore_first, lore_rows, strOk_lit, owp_keyS, and_self, beq_iff_eq, beq_eq_false_iff_ne, decide_eq_true_eq, decide_eq_false_iff_not])
theorem rounded_eq {how : Str} {a w : Int} (hh : how ∈ hows) (hw : 0 < w) (lw : w < 1073741824) : m_rounded [.str how, .int a, .int w] = .ok (.int (rndI how a w)) := by
  apply Rv.of_wp
  unfold m_rounded g_rounded
  refine def_of rfl ?_
  have hs := hows_strOk how hh
  have sm : small 2 = true := rfl
  walk_at "z0"
  rw [owp_divmod]
  refine ⟨⟨hw, lw⟩, ?_⟩
  walk_at "z0"
  have hr0 := Int.emod_nonneg a (b := w) (by omega)
  have hm2 := Int.emod_two_eq (a / w)
  unfold rndI
  generalize a / w = q at *
  generalize a % w = r at *
  obtain ⟨n1, n2, n3, n4, n5, n6, n7, n8, n9, n10, n11, n12⟩ := hows_ne
  simp only [hs, hw, sm, and_self, true_and, Bool.true_or]
  simp only [hows, List.mem_cons, List.not_mem_nil, or_false] at hh
  by_cases hr : r = 0
  · subst hr
    rcases hh with rfl | rfl | rfl | rfl <;> simp
  by_cases h2 : 2 * r = w <;> by_cases h3 : 2 * r > w
  all_goals rcases hh with rfl | rfl | rfl | rfl <;> simp_all <;> omega
theorem frac_eq {a b : Int} (a0 : 0 ≤ a) (a1 : a < 9000) (b0 : 0 < b) (b1 : b < 9000) : m_fraction [.int a, .int b] = .ok (frI a.toNat b.toNat) := by
  obtain ⟨x, rfl⟩ : ∃ x : Nat, a = x := ⟨a.toNat, by omega⟩
  obtain ⟨y, rfl⟩ : ∃ y : Nat, b = y := ⟨b.toNat, by omega⟩
  rw [fraction_eq (by omega) (by omega) (by omega)]
  simp
theorem none_ne : Str.ofString "some" ≠ Str.ofString "none" := by decide +kernel
def hvI (how : Str) (s : Int) : Int × Bool × Int × Bool := if how = Str.ofString "down" then (2 * s, true, 2 * s + 2, false) else if how = Str.ofString "up" then (2 * s - 2, false, 2 * s, true) else (2 * s - 1, decide (how = Str.ofString "near") || decide (s % 2 = 0), 2 * s + 1, decide (how = Str.ofString "even") && decide (s % 2 = 0))
def stX (u : Int) (h : Int × Bool × Int × Bool) : D := .tup [frI (if h.1 < 0 then 0 else h.1).toNat (2 * u).toNat, .bl (if h.1 < 0 then true else h.2.1), frI (if 2 * u < h.2.2.1 then 2 * u else h.2.2.1).toNat (2 * u).toNat, .bl (if 2 * u < h.2.2.1 then true else h.2.2.2)]
def stI (u : Int) (how : Str) : D → D
  | .int s => stX u (hvI how s)
  | .str x => if x = Str.ofString "none" then .tup [.tup [.int 0, .int 1], .bl true, .tup [.int 0, .int 1], .bl true] else .tup [.tup [.int 0, .int 1], .bl false, .tup [.int 1, .int u], .bl false]
  | d => d
theorem stI_int {u : Int} {how : Str} {s : Int} : stI u how (.int s) = stX u (hvI how s) := rfl
theorem halves_eq {how : Str} {s : Int} (hh : how ∈ hows) : m_halves [.str how, .int s] = .ok (.tup [.int (hvI how s).1, .bl (hvI how s).2.1, .int (hvI how s).2.2.1, .bl (hvI how s).2.2.2]) := by
  apply Rv.of_wp
  unfold m_halves g_halves
  refine def_of rfl ?_
  have hs : PyData.strOk how = true := hows_strOk _ hh
  have sm : small 2 = true := rfl
  unfold hvI
  try walk_at "z0"
  simp only [hs, sm, Bool.true_or, true_and]
  refine ⟨fun h => ?_, fun h => ⟨fun h2 => ?_, fun h2 => ⟨by decide, ?_⟩⟩⟩
  · rw [if_pos h]
  · rw [if_neg h, if_pos h2]
  · rw [if_neg h, if_neg h2]
    by_cases h3 : how = Str.ofString "near"
    · subst h3
      simp [hows_ne]
    · by_cases h4 : how = Str.ofString "even"
      · subst h4
        simp [hows_ne]
        exact Bool.beq_eq_decide_eq ..
      · simp [h3, h4]
        exact Bool.beq_eq_decide_eq ..
theorem hv_bounds {how : Str} {s : Int} (s0 : 0 ≤ s) (s1 : s ≤ 100) : (hvI how s).1 ≤ 300 ∧ 0 ≤ (hvI how s).2.2.1 ∧ (hvI how s).2.2.1 ≤ 300 := by
  unfold hvI
  split
  · dsimp only
    omega
  · split
    · dsimp only
      omega
    · dsimp only
      omega
theorem eqs_iff {y x : Str} : eqF (D.str y) (.str x) = true ↔ y = x := by
  show (decide (y = x)) = true ↔ _
  simp
theorem wdB_iff {ws : List Str} {d : D} : wdB ws d = true ↔ ∃ x ∈ ws, d = .str x := by
  cases d with
  | str x =>
    show (ws.any fun y => eqF (D.str y) (.str x)) = true ↔ _
    rw [List.any_eq_true]
    refine ⟨fun ⟨y, h1, h2⟩ => ⟨y, h1, by rw [eqs_iff.mp h2]⟩, fun ⟨y, h1, h2⟩ => ⟨y, h1, ?_⟩⟩
    cases h2
    exact eqs_iff.mpr rfl
  | _ => exact ⟨(fun z => nomatch z), fun z => by obtain ⟨_, _, z⟩ := z; cases z⟩
theorem unB_get {d : D} (h : unB d = true) : ∃ (u : Int) (how : Str), d = .tup [.int u, .str how] ∧ 2 ≤ u ∧ u ≤ 100 ∧ how ∈ hows := by
  cases d with
  | tup xs =>
    match xs, h with
    | [a, b], h =>
      have h2 : (btB 2 100 a && wdB howL b) = true := h
      rw [Bool.and_eq_true] at h2
      obtain ⟨x, hx, rfl⟩ := wdB_iff.mp h2.2
      cases a with
      | int i =>
        have h3 : (decide (2 ≤ i) && decide (i ≤ 100)) = true := h2.1
        simp only [Bool.and_eq_true, decide_eq_true_eq] at h3
        exact ⟨i, x, rfl, h3.1, h3.2, hx⟩
      | _ => exact absurd h2.1 (fun z => nomatch z)
    | [], h => cases h
    | [_], h => cases h
    | _ :: _ :: _ :: _, h => cases h
  | _ => cases h
theorem unB_tup {u : Int} {how : Str} (h0 : 2 ≤ u) (h1 : u ≤ 100) (hh : how ∈ hows) : unB (.tup [.int u, .str how]) = true := by
  show (btB 2 100 (.int u) && wdB howL (.str how)) = true
  rw [show wdB howL (.str how) = true from wdB_iff.mpr ⟨how, hh, rfl⟩, Bool.and_true]
  show (decide (2 ≤ u) && decide (u ≤ 100)) = true
  simp [h0, h1]
theorem btB_get {a b : Int} {d : D} (h : btB a b d = true) : ∃ i : Int, d = .int i ∧ a ≤ i ∧ i ≤ b := by
  cases d with
  | int i =>
    have h3 : (decide (a ≤ i) && decide (i ≤ b)) = true := h
    simp only [Bool.and_eq_true, decide_eq_true_eq] at h3
    exact ⟨i, rfl, h3.1, h3.2⟩
  | _ => cases h
theorem shB_get {u : Int} {d : D} (h : shB u d = true) : d = .str "none" ∨ d = .str "some" ∨ ∃ i : Int, d = .int i ∧ 0 ≤ i ∧ i ≤ u := by
  cases d with
  | str x =>
    have h2 : wdB nsL (.str x) = true := h
    obtain ⟨y, hy, e⟩ := wdB_iff.mp h2
    cases e
    simp only [List.mem_cons, List.not_mem_nil, or_false] at hy
    rcases hy with rfl | rfl
    · exact .inl rfl
    · exact .inr (.inl rfl)
  | int i =>
    have h3 : (decide (0 ≤ i) && decide (i ≤ u)) = true := h
    simp only [Bool.and_eq_true, decide_eq_true_eq] at h3
    exact .inr (.inr ⟨i, rfl, h3.1, h3.2⟩)
  | _ => cases h
section
variable {u : Int} {how : Str} {d : D}
local macro_rules | `(tactic| walk_at "z1") => `(tactic| simp only [wp_cal, wp_calP, calPW_p, wp_frz, wp_mkL, wp_mk, wp_drop, wp_asg, wp_iter, wp_for, wp_comp, wp_part, wp_noPart, intW_int, wp_sl, wp_and, wp_or, wp_not, wp_chain, strW_str, wp_s1, wp_s0, twoW_two, wp_par, wp_parMV, wp_parVM, wp_parMM, wp_rng1, owp_rng, wp_zip, owp_zipL, owp_zipT, wp_enum2, owp_enum2, wp_mkO, lW_l, kW_k, oneW_one, lstW_lst, wp_app, wp_ext, wp_dput, wp_opR, wp_opL, wp_CBO, objW_obj, wp_prop, wp_meth, bobjW_obj, wp_new, dW_d, wp_varP, wp_pureR, wp_pairs0, wp_pairs, wp_disp, owp_lenL, wp_popAt, wp_C, wp_var, wp_op, wp_un, wp_test, wp_if, wp_notT, wp_andT, wp_orT, wp_nil, wp_cons, wp_CB, wp_tup, wp_lst, wp_seq, wp_ret, wp_sNil, wp_set, wp_sIf, wp_potC, wp_potSetC, potsW_0, potsW_1, potsW_2, setW_0, setW_2, isPW_p, blW_bl, owp_some, varW_d, varW_l, varW_k, initP, initS, S.put, owp_cmp, owp_add, owp_sub, owp_mul, owp_fdiv, owp_mod, owp_pow, owp_int, owp_intB, owp_tup, owp_lst, List.length_cons, List.length_nil, List.map_cons, List.map_nil, List.cons_append, List.nil_append, List.append_nil, List.getElem?_cons_zero, List.getElem?_cons_succ, List.set_cons_zero, List.set_cons_succ, List.replicate_succ, List.replicate_zero, Nat.reduceAdd, Nat.reduceSub, Rv.wp_ok, Rp.wp_ok, wp_yes, wp_dNew, wp_ifT, wp_pop, wp_self, wp_sSelf, pobjW_obj, wp_rdU, rdW_rd, pkW_rd, wp_peek, wp_peekT, wp_rdPut, wp_methP, tlW_tup, wp_star, wp_setIx, wp_lenX, llW_l, llW_d, wp_atL, owp_bTup, owp_bCons, owp_bNil, owp_bName, owp_eqII, owp_neII, owp_eqSS, owp_neSS, owp_eqNS, owp_isN, owp_notN, owp_ixL0, owp_ixL1, owp_ixL2, owp_ixL3, owp_ixT0, owp_ixT1, owp_iterL, owp_iterT, owp_seqL, owp_addL, owp_addT, owp_addS, owp_lenT, owp_tupleL, owp_tupleT, owp_din, owp_dnotin, owp_isi, owp_neg, owp_keys, owp_values, owp_items, owp_lenK, owp_tupK, LVd_l, LVd_k, S.wipe, S.back, wipeE, restE, Bool.not_true, Bool.not_false, true_implies, false_implies, reduceCtorEq, true_and, and_true, Nat.reduceLeDiff, lore_units, lore_first, lore_rows, strOk_lit, owp_keyS, and_self, beq_iff_eq, beq_eq_false_iff_ne, decide_eq_true_eq, decide_eq_false_iff_not, wp_noEx, wp_calX, isa_it, isa_ii, isa_ib, isa_ss, isN_nm, isN_non, isN_str, isN_int])
theorem stretch_ok (h0 : 2 ≤ u) (h1 : u ≤ 100) (hh : how ∈ hows) (hd : shB u d = true) (nc : d.nc = true) (ky : okV d = true) (ku : okV (.tup [.int u, .str how]) = true) : m_stretch [.tup [.int u, .str how], d] = .ok (stI u how d) := by
  have nu : D.nc (.tup [.int u, .str how]) = true := by
    show (D.nc (.int u) && (D.nc (.str how) && true)) = true
    rw [show D.nc (.int u) = true from decide_eq_true (by omega), show D.nc (.str how) = true from hows_strOk _ hh]
    rfl
  have cu := ck_units nu ku
  rw [if_pos (unB_tup h0 h1 hh)] at cu
  have cs := ck_share (u := u) (how := .str how) nc ky
  rw [if_pos hd] at cs
  apply Rv.of_wp
  unfold m_stretch g_stretch
  refine defX_of rfl ?_
  have sm : small 2 = true := rfl
  try walk_at "z1"
  rw [cu]
  try walk_at "z1"
  rw [cs]
  try walk_at "z1"
  clear cu cs
  rcases shB_get hd with rfl | rfl | ⟨k, rfl, k0, k1⟩
  · try walk_at "z1"
    unfold stI
    simp
  · try walk_at "z1"
    unfold stI
    simp [none_ne]
  · simp only [owp_eqIS]
    try walk_at "z1"
    rw [halves_eq hh]
    obtain ⟨b1, b2, b3⟩ := hv_bounds (how := how) (s := k) (by omega) (by omega)
    rw [stI_int]
    generalize hvI how k = hv at *
    obtain ⟨lo, il, hi, ih⟩ := hv
    dsimp only at *
    try walk_at "z1"
    simp only [sm, Bool.true_or, true_and]
    refine ⟨fun a => ⟨fun b => ?_, fun b => ?_⟩, fun a => ⟨fun b => ?_, fun b => ?_⟩⟩
    · rw [frac_eq (by omega) (by omega) (by omega) (by omega), frac_eq (by omega) (by omega) (by omega) (by omega)]
      simp [stX, a, b, Rv.wp]
    · rw [frac_eq (by omega) (by omega) (by omega) (by omega), frac_eq (by omega) (by omega) (by omega) (by omega)]
      simp [stX, a, b, Rv.wp]
    · rw [frac_eq (by omega) (by omega) (by omega) (by omega), frac_eq (by omega) (by omega) (by omega) (by omega)]
      simp [stX, a, b, Rv.wp]
    · rw [frac_eq (by omega) (by omega) (by omega) (by omega), frac_eq (by omega) (by omega) (by omega) (by omega)]
      simp [stX, a, b, Rv.wp]
end
theorem stretch_badU {d e : D} (h : unB e = false) (nc : e.nc = true) (ky : okV e = true) : m_stretch [e, d] = .ex "BadUnits" e := by
  have cu := ck_units nc ky
  rw [if_neg (by rw [h]; decide)] at cu
  unfold m_stretch g_stretch
  refine defX_ex (s := initS 8 [e, d]) rfl (seq_ex (drop_ex (ds := [e]) ?_ cu))
  rfl
theorem stretch_badS {u : Int} {how : Str} {d : D} (h0 : 2 ≤ u) (h1 : u ≤ 100) (hh : how ∈ hows) (hd : shB u d = false) (nc : d.nc = true) (ky : okV d = true) (ku : okV (.tup [.int u, .str how]) = true) : m_stretch [.tup [.int u, .str how], d] = .ex "BadShare" d := by
  have nu : D.nc (.tup [.int u, .str how]) = true := by
    show (D.nc (.int u) && (D.nc (.str how) && true)) = true
    rw [show D.nc (.int u) = true from decide_eq_true (by omega), show D.nc (.str how) = true from hows_strOk _ hh]
    rfl
  have cu := ck_units nu ku
  rw [if_pos (unB_tup h0 h1 hh)] at cu
  have cs := ck_share (u := u) (how := .str how) nc ky
  rw [if_neg (by rw [hd]; decide)] at cs
  unfold m_stretch g_stretch
  refine defX_ex (s := initS 8 [.tup [.int u, .str how], d]) rfl ?_
  rw [seq_nx (drop_ok (ds := [.tup [.int u, .str how]]) (by rfl) cu)]
  exact seq_ex (drop_ex (ds := [.tup [.int u, .str how], d]) (by rfl) cs)

end Ak
namespace Ak
open PySem PySem.Spec PyProof.Rows L2
local instance tbI_qf : Tb := tb0
/-! ### bent values -/
theorem bks_len : ∀ ds : List D, ds.length ≤ D.bks ds
  | [] => Nat.le_refl _
  | d :: ds => by
    have := bks_len ds
    show ds.length + 1 ≤ D.bk d + 1 + D.bks ds
    omega
section
variable {s : S} {fa : S → Rs D} {fo : S → Rs (Option Int)} {Q : D → S → Prop} {N : S → Prop} {R : D → S → Prop} {P : D → Prop}
theorem wp_rev {P : D → S → Prop} : (mRev fa fo s).wp P = (fa s).wp fun x s1 => (fo s1).wp fun o s2 => o = some (-1) ∧ owp (revD x) fun z => P z s2 := by
  unfold mRev
  rw [wp_bind]
  congr 1
  funext x s1
  rw [wp_bind]
  congr 1
  funext o s2
  by_cases h : o = some (-1)
  · rw [if_pos h, wp_liftO]
    simp [h]
  · rw [if_neg h]
    simp [h, Rs.wp]
theorem owp_revT {xs : List D} : owp (revD (.tup xs)) P = P (.tup xs.reverse) := rfl
end
theorem owp_ixTN {xs : List D} {k : Nat} {Q : D → Prop} : owp (ixD (.tup xs) (.int (k : Nat))) Q = owp (xs[k]?) Q := by rw [← atI_nat]; rfl
mutual
def D.bv : D → Bool
  | .int i => decide (-100000000 ≤ i ∧ i ≤ 100000000)
  | .str x => decide (x ∈ hows)
  | .tup xs => D.bvs xs
  | _ => false
def D.bvs : List D → Bool
  | [] => true
  | x :: xs => D.bv x && D.bvs xs
end
theorem ncs_app : ∀ {a b : List D}, D.ncs (a ++ b) = (D.ncs a && D.ncs b)
  | [], _ => by simp [D.ncs]
  | x :: a, b => by simp [D.ncs, ncs_app (a := a) (b := b), Bool.and_assoc]
theorem bks_app : ∀ {a b : List D}, D.bks (a ++ b) = D.bks a + D.bks b
  | [], _ => by simp [D.bks]
  | x :: a, b => by
    simp only [List.cons_append, D.bks, bks_app (a := a) (b := b)]
    omega
theorem dps_app : ∀ {a b : List D}, D.dps (a ++ b) = max (D.dps a) (D.dps b)
  | [], _ => by simp [D.dps]
  | x :: a, b => by simp only [List.cons_append, D.dps, dps_app (a := a) (b := b), Nat.max_assoc]
theorem sub_facts {l xs : List D} (h : l.Sublist xs) : (D.ncs xs = true → D.ncs l = true) ∧ D.bks l ≤ D.bks xs ∧ D.dps l ≤ D.dps xs := by
  induction h with
  | slnil => exact ⟨id, Nat.le_refl _, Nat.le_refl _⟩
  | cons a _ ih =>
    simp only [D.ncs, D.bks, D.dps, Bool.and_eq_true]
    exact ⟨fun z => ih.1 z.2, by omega, by omega⟩
  | cons_cons a _ ih =>
    simp only [D.ncs, D.bks, D.dps, Bool.and_eq_true]
    exact ⟨fun z => ⟨z.1, ih.1 z.2⟩, by omega, by omega⟩
theorem rev_facts : ∀ {xs : List D}, D.ncs xs.reverse = D.ncs xs ∧ D.bks xs.reverse = D.bks xs ∧ D.dps xs.reverse = D.dps xs
  | [] => ⟨rfl, rfl, rfl⟩
  | x :: xs => by
    obtain ⟨a, b, c⟩ := rev_facts (xs := xs)
    rw [List.reverse_cons, ncs_app, bks_app, dps_app, a, b, c]
    simp only [D.ncs, D.bks, D.dps, Bool.and_true]
    exact ⟨Bool.and_comm _ _, by omega, by omega⟩
theorem cut_sub {xs : List D} {lo hi : Option Int} : (cutD xs lo hi).Sublist xs := (List.take_sublist _ _).trans (List.drop_sublist _ _)
theorem cut_to {xs : List D} {k : Nat} (h : k ≤ xs.length) : cutD xs none (some (k : Int)) = xs.take k := by
  unfold cutD
  rw [HT.sIx_none, HT.sIx_nat, Nat.min_eq_left h, List.drop_zero, Nat.sub_zero]
theorem cut_from {xs : List D} {k : Nat} (h : k ≤ xs.length) : cutD xs (some (k : Int)) none = xs.drop k := by
  unfold cutD
  rw [HT.sIx_none, HT.sIx_nat, Nat.min_eq_left h]
  exact List.take_of_length_le (by rw [List.length_drop]; omega)
theorem owp_slT {xs : List D} {lo hi : Option Int} {Q : D → Prop} : owp (slD (.tup xs) lo hi) Q = Q (.tup (cutD xs lo hi)) := rfl
theorem owp_listT {xs : List D} {Q : D → Prop} : owp (listD [.tup xs]) Q = Q (.lst xs) := rfl
theorem owp_strI {i : Int} {Q : D → Prop} : owp (strD [.int i]) Q = (i.natAbs.log2 < 1920 ∧ Q (.str (toString i))) := owp_if
mutual
theorem bv_nc : ∀ {d : D}, d.bv = true → d.nc = true ∧ ∃ y, d.data = some y ∧ y.canLay0 = true ∧ y.depth = d.dp
  | .int i, h => by
    have h2 : -100000000 ≤ i ∧ i ≤ 100000000 := of_decide_eq_true h
    exact ⟨decide_eq_true (by omega), _, rfl, rfl, rfl⟩
  | .str x, h => by
    have h2 : x ∈ hows := of_decide_eq_true h
    exact ⟨hows_strOk _ h2, _, rfl, hows_strOk _ h2, rfl⟩
  | .tup xs, h => by
    obtain ⟨h1, ys, h2, h3, h4⟩ := bvs_nc (ds := xs) h
    exact ⟨h1, .tuple ys, by simp [D.data, h2], by simpa [PyData.canLay0] using h3, by simp [PyData.depth, D.dp, h4]⟩
  | .non, h => nomatch h
  | .bl _, h => nomatch h
  | .lst _, h => nomatch h
  | .dic _ _, h => nomatch h
  | .obj _ _ _, h => nomatch h
  | .exc _ _, h => nomatch h
theorem bvs_nc : ∀ {ds : List D}, D.bvs ds = true → D.ncs ds = true ∧ ∃ ys, D.dataAll ds = some ys ∧ PyData.canLayAll0 ys = true ∧ PyData.depthAll ys = D.dps ds
  | [], _ => ⟨rfl, [], rfl, rfl, rfl⟩
  | d :: ds, h => by
    have h2 : (D.bv d && D.bvs ds) = true := h
    rw [Bool.and_eq_true] at h2
    obtain ⟨n1, y, a1, a2, a3⟩ := bv_nc (d := d) h2.1
    obtain ⟨n2, ys, b1, b2, b3⟩ := bvs_nc (ds := ds) h2.2
    exact ⟨by simp [D.ncs, n1, n2], y :: ys, by simp [D.dataAll, a1, b1], by simp [PyData.canLayAll0, a2, b2], by simp [PyData.depthAll, D.dps, a3, b3]⟩
end
theorem bvs_mem {ds : List D} (h : D.bvs ds = true) : ∀ d ∈ ds, d.bv = true := by
  induction ds with
  | nil => exact fun d hd => by cases hd
  | cons a ds ih =>
    have h2 : (D.bv a && D.bvs ds) = true := h
    rw [Bool.and_eq_true] at h2
    intro d hd
    rcases List.mem_cons.mp hd with rfl | hd
    · exact h2.1
    · exact ih h2.2 d hd
theorem bvs_app : ∀ {a b : List D}, D.bvs (a ++ b) = (D.bvs a && D.bvs b)
  | [], _ => by simp [D.bvs]
  | x :: a, b => by simp [D.bvs, bvs_app (a := a) (b := b), Bool.and_assoc]
theorem neD_nil {xs : List D} (h : D.bvs xs = true) (hd : D.dps xs ≤ 60) : neD (.tup xs) (.tup []) = some (.bl (!xs.isEmpty)) := by
  obtain ⟨_, ys, h2, h3, h4⟩ := bvs_nc h
  have e1 : (D.tup xs).data = some (.tuple ys) := by simp [D.data, h2]
  have e2 : (D.tup []).data = some (.tuple []) := by simp [D.data, D.dataAll]
  have e3 : SeqAt.shaped (.tuple ys) = true := by
    have c : (PyData.tuple ys).canLay0 = true := by simp [PyData.canLay0, h3]
    have d : (PyData.tuple ys).depth = PyData.depthAll ys + 1 := by simp [PyData.depth]
    simp only [SeqAt.shaped, Bool.and_eq_true, decide_eq_true_eq]
    exact ⟨c, by omega⟩
  have e4 : SeqAt.shaped (.tuple []) = true := by simp [SeqAt.shaped, PyData.canLay0, PyData.depth, PyData.canLayAll0, PyData.depthAll]
  have e5 : PyData.eqv (.tuple ys) (.tuple []) = xs.isEmpty := by
    cases xs with
    | nil =>
      cases ys with
      | nil => rfl
      | cons _ _ => simp [D.dataAll] at h2
    | cons x xs =>
      cases ys with
      | nil =>
        exfalso
        simp only [D.dataAll] at h2
        split at h2
        · split at h2
          · cases h2
          · cases h2
        · cases h2
      | cons _ _ => rfl
  unfold neD eqB
  rw [e1, e2]
  simp only [e3, e4, e5, Bool.and_self, if_true]
theorem strI_ok {i : Int} (h : i.natAbs < 10 ^ 12) : PyData.strOk (toString i : String) = true ∧ (Str.ofString (toString i)).length ≤ 13 := ⟨strOk_lit, PyData.shown_int_le h⟩
section
variable {n : Nat} {q : Pot} {Q : D → Bw → Prop} {v : D}
structure BOk (v d : D) : Prop where
  nc : d.nc = true
  bk : d.bk ≤ 2 * v.bk + 300
  dp : d.dp ≤ v.dp + 4
  ln : ∀ ds xs, d = .tup ds → v = .tup xs → ds.length ≤ 2 * xs.length + 1
theorem bok_int {j : Int} (h : -1000000000 ≤ j ∧ j ≤ 1000000000) : BOk v (.int j) := ⟨decide_eq_true h, Nat.zero_le _, Nat.zero_le _, fun _ _ z => nomatch z⟩
theorem bok_non : BOk v .non := ⟨rfl, Nat.zero_le _, Nat.zero_le _, fun _ _ z => nomatch z⟩
theorem bok_bl {b : Bool} : BOk v (.bl b) := ⟨rfl, Nat.zero_le _, Nat.zero_le _, fun _ _ z => nomatch z⟩
theorem bok_str {x : Str} (h : PyData.strOk x = true) (l : x.length ≤ 300) : BOk v (.str x) := ⟨h, Nat.le_trans l (Nat.le_add_left _ _), Nat.zero_le _, fun _ _ z => nomatch z⟩
theorem bok_tup {xs ys : List D} (hn : D.ncs ys = true) (hb : D.bks ys ≤ 2 * D.bks xs + 300) (hd : D.dps ys ≤ D.dps xs + 4) (hl : ys.length ≤ 2 * xs.length + 1) : BOk (.tup xs) (.tup ys) :=
  ⟨hn, hb, Nat.le_trans (Nat.add_le_add_right hd 1) (Nat.le_of_eq (Nat.add_right_comm _ _ _)), fun a b z1 z2 => by
    cases z1
    cases z2
    exact hl⟩
theorem bok_lst {xs ys : List D} (hn : D.ncs ys = true) (hb : D.bks ys ≤ 2 * D.bks xs + 300) (hd : D.dps ys ≤ D.dps xs + 4) : BOk (.tup xs) (.lst ys) :=
  ⟨hn, hb, Nat.le_trans (Nat.add_le_add_right hd 1) (Nat.le_of_eq (Nat.add_right_comm _ _ _)), fun a b z1 _ => nomatch z1⟩
theorem isaI_t {i : Int} : D.isa (.int i) "tuple" = false := rfl
theorem isaI_s {i : Int} : D.isa (.int i) "str" = false := rfl
theorem isaI_b {i : Int} : D.isa (.int i) "bool" = false := rfl
theorem isaI_i {i : Int} : D.isa (.int i) "int" = true := rfl
theorem isaS_t {x : Str} : D.isa (.str x) "tuple" = false := rfl
theorem isaS_s {x : Str} : D.isa (.str x) "str" = true := rfl
theorem owp_slS {x : Str} {lo hi : Option Int} {Q : D → Prop} (h : x.length ≤ 100000) : owp (slD (.str x) lo hi) Q = Q (.str (cutS x lo hi)) := by
  show owp (if x.length ≤ 100000 then some (.str (cutS x lo hi)) else none) Q = _
  rw [if_pos h]
  rfl
theorem owp_upS {x : Str} {Q : D → Prop} (h : x.length ≤ 100000) : owp (upperD x) Q = Q (.str (Txt.upper x)) := by
  unfold upperD
  rw [if_pos h]
  rfl
local macro_rules | `(tactic| walk_at "z0") => `(tactic| simp only [wp_cal, wp_calP, calPW_p, wp_frz, wp_mkL, wp_mk, wp_drop, wp_asg, wp_iter, wp_for, wp_comp, wp_part, wp_noPart, intW_int, wp_sl, wp_and, wp_or, wp_not, wp_chain, strW_str, wp_s1, wp_s0, twoW_two, wp_par, wp_parMV, wp_parVM, wp_parMM, wp_rng1, owp_rng, wp_zip, owp_zipL, owp_zipT, wp_enum2, owp_enum2, wp_mkO, lW_l, kW_k, oneW_one, lstW_lst, wp_app, wp_ext, wp_dput, wp_opR, wp_opL, wp_CBO, objW_obj, wp_prop, wp_meth, bobjW_obj, wp_new, dW_d, wp_varP, wp_pureR, wp_pairs0, wp_pairs, wp_disp, owp_lenL, wp_popAt, wp_C, wp_var, wp_op, wp_un, wp_test, wp_if, wp_notT, wp_andT, wp_orT, wp_nil, wp_cons, wp_CB, wp_tup, wp_lst, wp_seq, wp_ret, wp_sNil, wp_set, wp_sIf, wp_potC, wp_potSetC, potsW_0, potsW_1, potsW_2, setW_0, setW_2, isPW_p, blW_bl, owp_some, varW_d, varW_l, varW_k, initP, initS, S.put, owp_cmp, owp_add, owp_sub, owp_mul, owp_fdiv, owp_mod, owp_pow, owp_int, owp_intB, owp_tup, owp_lst, List.length_cons, List.length_nil, List.map_cons, List.map_nil, List.cons_append, List.nil_append, List.append_nil, List.getElem?_cons_zero, List.getElem?_cons_succ, List.set_cons_zero, List.set_cons_succ, List.replicate_succ, List.replicate_zero, Nat.reduceAdd, Nat.reduceSub, Rv.wp_ok, Rp.wp_ok, wp_yes, wp_dNew, wp_ifT, wp_pop, wp_self, wp_sSelf, pobjW_obj, wp_rdU, rdW_rd, pkW_rd, wp_peek, wp_peekT, wp_rdPut, wp_methP, tlW_tup, wp_star, wp_setIx, wp_lenX, llW_l, llW_d, wp_atL, owp_bTup, owp_bCons, owp_bNil, owp_bName, owp_eqII, owp_neII, owp_eqSS, owp_neSS, owp_eqNS, owp_isN, owp_notN, owp_ixL0, owp_ixL1, owp_ixL2, owp_ixL3, owp_ixT0, owp_ixT1, owp_iterL, owp_iterT, owp_seqL, owp_addL, owp_addT, owp_addS, owp_lenT, owp_tupleL, owp_tupleT, owp_din, owp_dnotin, owp_isi, owp_neg, owp_keys, owp_values, owp_items, owp_lenK, owp_tupK, LVd_l, LVd_k, S.wipe, S.back, wipeE, restE, Bool.not_true, Bool.not_false, true_implies, false_implies, reduceCtorEq, true_and, and_true, Nat.reduceLeDiff, strOk_lit, owp_keyS, and_self, beq_iff_eq, beq_eq_false_iff_ne, decide_eq_true_eq, decide_eq_false_iff_not])
local macro_rules | `(tactic| walk_at "z1") => `(tactic| simp only [wp_cal, wp_calP, calPW_p, wp_frz, wp_mkL, wp_mk, wp_drop, wp_asg, wp_iter, wp_for, wp_comp, wp_part, wp_noPart, intW_int, wp_sl, wp_and, wp_or, wp_not, wp_chain, strW_str, wp_s1, wp_s0, twoW_two, wp_par, wp_parMV, wp_parVM, wp_parMM, wp_rng1, owp_rng, wp_zip, owp_zipL, owp_zipT, wp_enum2, owp_enum2, wp_mkO, lW_l, kW_k, oneW_one, lstW_lst, wp_app, wp_ext, wp_dput, wp_opR, wp_opL, wp_CBO, objW_obj, wp_prop, wp_meth, bobjW_obj, wp_new, dW_d, wp_varP, wp_pureR, wp_pairs0, wp_pairs, wp_disp, owp_lenL, wp_popAt, wp_C, wp_var, wp_op, wp_un, wp_test, wp_if, wp_notT, wp_andT, wp_orT, wp_nil, wp_cons, wp_CB, wp_tup, wp_lst, wp_seq, wp_ret, wp_sNil, wp_set, wp_sIf, wp_potC, wp_potSetC, potsW_0, potsW_1, potsW_2, setW_0, setW_2, isPW_p, blW_bl, owp_some, varW_d, varW_l, varW_k, initP, initS, S.put, owp_cmp, owp_add, owp_sub, owp_mul, owp_fdiv, owp_mod, owp_pow, owp_int, owp_intB, owp_tup, owp_lst, List.length_cons, List.length_nil, List.map_cons, List.map_nil, List.cons_append, List.nil_append, List.append_nil, List.getElem?_cons_zero, List.getElem?_cons_succ, List.set_cons_zero, List.set_cons_succ, List.replicate_succ, List.replicate_zero, Nat.reduceAdd, Nat.reduceSub, Rv.wp_ok, Rp.wp_ok, wp_yes, wp_dNew, wp_ifT, wp_pop, wp_self, wp_sSelf, pobjW_obj, wp_rdU, rdW_rd, pkW_rd, wp_peek, wp_peekT, wp_rdPut, wp_methP, tlW_tup, wp_star, wp_setIx, wp_lenX, llW_l, llW_d, wp_atL, owp_bTup, owp_bCons, owp_bNil, owp_bName, owp_eqII, owp_neII, owp_eqSS, owp_neSS, owp_eqNS, owp_isN, owp_notN, owp_ixL0, owp_ixL1, owp_ixL2, owp_ixL3, owp_ixT0, owp_ixT1, owp_iterL, owp_iterT, owp_seqL, owp_addL, owp_addT, owp_addS, owp_lenT, owp_tupleL, owp_tupleT, owp_din, owp_dnotin, owp_isi, owp_neg, owp_keys, owp_values, owp_items, owp_lenK, owp_tupK, LVd_l, LVd_k, S.wipe, S.back, wipeE, restE, Bool.not_true, Bool.not_false, true_implies, false_implies, reduceCtorEq, true_and, and_true, Nat.reduceLeDiff, lore_units, lore_first, lore_rows, strOk_lit, owp_keyS, and_self, beq_iff_eq, beq_eq_false_iff_ne, decide_eq_true_eq, decide_eq_false_iff_not, wp_noEx, wp_calX, isa_it, isa_ii, isa_ib, isa_ss, isN_nm, isN_non, isN_str, isN_int])
theorem bentv_wp : ∀ (k n : Nat) (q : Pot) (v : D) (Q : D → Bw → Prop), v.bv = true → v.dp < k → k ≤ 50 → v.bk ≤ 10000 → PotOk n q → n + 2 * k + 10 < 100000 → (∀ d q', BOk v d → PotOk (n + 2 * k) q' → Q d (.pot q')) → (mN_l_bent k (.pot q) [v]).wp Q := by
  intro k
  induction k with
  | zero => exact fun n q v Q _ h => absurd h (Nat.not_lt_zero _)
  | succ k ih =>
    intro n q v Q bv hk hk2 hbk hq hn h
    unfold mN_l_bent g_l_bent
    refine defP_of rfl ?_
    have nv := bv_nc bv
    cases v with
    | int i =>
      have hi : -100000000 ≤ i ∧ i ≤ 100000000 := of_decide_eq_true bv
      try walk_at "z0"
      simp only [isaI_t, isaI_s, isaI_b, isaI_i]
      try walk_at "z1"
      rw [owp_strI]
      refine ⟨by
        by_cases h0 : i.natAbs = 0
        · rw [h0]
          decide
        · exact Nat.lt_of_lt_of_le (by
            rw [Nat.log2_lt h0]
            show i.natAbs < 2 ^ 30
            omega) (by decide : 30 ≤ 1920), ?_⟩
      refine of_wp hq (by omega) (by simp) (by simp) fun x hx q1 hq1 => h _ _ ?_ (hq1.mono (by omega))
      simp only [List.mem_cons, List.not_mem_nil, or_false] at hx
      have st := strI_ok (i := i) (by omega)
      rcases hx with rfl | rfl | rfl | rfl | rfl | rfl | rfl | rfl | rfl | rfl
      · exact bok_int (by omega)
      · exact bok_int (by omega)
      · exact bok_bl
      · exact bok_str st.1 (Nat.le_trans st.2 (by decide))
      · exact bok_int (by omega)
      · exact bok_int (by omega)
      · exact bok_int (by omega)
      · exact bok_int (by omega)
      · exact bok_non
      · refine ⟨?_, ?_, ?_, fun _ _ _ z => nomatch z⟩
        · show (D.nc (.int i) && true) = true
          rw [nv.1]
          rfl
        · show D.bk (.int i) + 1 + 0 ≤ _
          show 0 + 1 + 0 ≤ 2 * 0 + 300
          decide
        · show max 0 0 + 1 ≤ 0 + 4
          decide
    | str x =>
      have hx0 : x ∈ hows := of_decide_eq_true bv
      have hx : x = Str.ofString "near" ∨ x = Str.ofString "even" ∨ x = Str.ofString "down" ∨ x = Str.ofString "up" := by simpa only [hows, List.mem_cons, List.not_mem_nil, or_false] using hx0
      have hl : x.length ≤ 100 := by
        rcases hx with rfl | rfl | rfl | rfl <;> decide +kernel
      try walk_at "z0"
      simp only [isaS_t, isaS_s]
      try walk_at "z1"
      simp only [owp_slS (show x.length ≤ 100000 by omega), owp_upS (show x.length ≤ 100000 by omega)]
      try walk_at "z1"
      have lx : (Str.ofString "x").length = 1 := by decide +kernel
      have lb : (Str.ofString " ").length = 1 := by decide +kernel
      rw [lx, lb]
      refine ⟨by omega, ?_⟩
      first | refine ⟨by omega, ?_⟩ | skip
      refine of_wp hq (by omega) (by simp) (by simp) fun y hy q1 hq1 => h _ _ ?_ (hq1.mono (by omega))
      simp only [List.mem_cons, List.not_mem_nil, or_false] at hy
      clear h ih hk hbk nv
      clear hx0
      rcases hx with rfl | rfl | rfl | rfl <;> rcases hy with rfl | rfl | rfl | rfl | rfl | rfl | rfl | rfl | rfl <;>
        first | exact bok_non | exact bok_int (by decide) | (exact bok_str (by decide +kernel) (by decide +kernel)) | exact ⟨by decide +kernel, by decide +kernel, by decide +kernel, fun _ _ z => nomatch z⟩
    | tup xs =>
      have bs : D.bvs xs = true := bv
      have hd : D.dps xs + 1 < k + 1 := hk
      have hb : D.bks xs ≤ 10000 := hbk
      have hl := bks_len xs
      have ns := (bvs_nc bs).1
      have fin : ∀ (d : D), d ∈ [D.lst xs, .tup (cutD xs (some 1) none), .tup (cutD xs none (some (-1))), .tup (xs ++ cutD xs (some (-1)) none), .tup xs.reverse, .tup [], .tup (xs ++ [.int 0]), .non] → BOk (.tup xs) d := by
        intro d hd
        simp only [List.mem_cons, List.not_mem_nil, or_false] at hd
        have s1 := sub_facts (cut_sub (xs := xs) (lo := some 1) (hi := none))
        have s2 := sub_facts (cut_sub (xs := xs) (lo := none) (hi := some (-1)))
        have s3 := sub_facts (cut_sub (xs := xs) (lo := some (-1)) (hi := none))
        have l1 := (cut_sub (xs := xs) (lo := some 1) (hi := none)).length_le
        have l2 := (cut_sub (xs := xs) (lo := none) (hi := some (-1))).length_le
        have l3 := (cut_sub (xs := xs) (lo := some (-1)) (hi := none)).length_le
        have r := rev_facts (xs := xs)
        rcases hd with rfl | rfl | rfl | rfl | rfl | rfl | rfl | rfl
        · exact bok_lst ns (by omega) (by omega)
        · exact bok_tup (s1.1 ns) (by omega) (by omega) (by omega)
        · exact bok_tup (s2.1 ns) (by omega) (by omega) (by omega)
        · refine bok_tup ?_ ?_ ?_ ?_
          · rw [ncs_app, ns, s3.1 ns]
            rfl
          · rw [bks_app]
            omega
          · rw [dps_app]
            omega
          · rw [List.length_append]
            omega
        · exact bok_tup (by rw [r.1, ns]) (by omega) (by omega) (by rw [List.length_reverse]; omega)
        · exact bok_tup rfl (Nat.zero_le _) (Nat.zero_le _) (Nat.zero_le _)
        · refine bok_tup ?_ ?_ ?_ ?_
          · rw [ncs_app, ns]
            rfl
          · rw [bks_app]
            show D.bks xs + (0 + 1 + 0) ≤ _
            omega
          · rw [dps_app]
            show max (D.dps xs) (max 0 0) ≤ _
            omega
          · rw [List.length_append]
            show xs.length + 1 ≤ _
            omega
        · exact bok_non
      try walk_at "z1"
      rw [neD_nil bs (by omega)]
      try walk_at "z1"
      refine ⟨fun hne => ?_, fun he => ?_⟩
      · refine take_wp hq (by omega) (by decide) (by decide) fun r q1 r0 r1 hq1 => ?_
        try walk_at "z1"
        refine ⟨fun hr => ?_, fun hr => ?_⟩
        · have hx : 0 < xs.length := by
            cases xs with
            | nil => cases hne
            | cons _ _ => exact Nat.succ_pos _
          refine take_wp hq1 (by omega) (by omega) (by omega) fun a q2 a0 a1 hq2 => ?_
          obtain ⟨a, rfl⟩ : ∃ m : Nat, a = m := ⟨a.toNat, by omega⟩
          have ha : a < xs.length := by omega
          try walk_at "z1"
          rw [owp_slT, owp_ixTN, List.getElem?_eq_getElem ha, owp_some]
          have split : xs = xs.take a ++ xs[a] :: xs.drop (a + 1) := by
            rw [← List.drop_eq_getElem_cons, List.take_append_drop]
          have hm := List.getElem_mem ha
          have eb : D.bks xs = D.bks (xs.take a) + (D.bk xs[a] + 1 + D.bks (xs.drop (a + 1))) := by
            conv => lhs; rw [split]
            rw [bks_app]
            rfl
          have ed : D.dps xs = max (D.dps (xs.take a)) (max (D.dp xs[a]) (D.dps (xs.drop (a + 1)))) := by
            conv => lhs; rw [split]
            rw [dps_app]
            rfl
          refine ih (n + 2) q2 xs[a] _ (bvs_mem bs _ hm) (by omega) (by omega) (by omega) hq2 (by omega) fun d q3 b3 hq3 => ?_
          have t1 := List.length_take_le a xs
          have t2 : (xs.drop (a + 1)).length ≤ xs.length := by rw [List.length_drop]; omega
          have u1 := sub_facts (List.take_sublist a xs)
          have u2 := sub_facts (List.drop_sublist (a + 1) xs)
          try walk_at "z1"
          rw [cut_to (by omega)]
          try walk_at "z1"
          refine ⟨by omega, ?_⟩
          rw [show ((a : Int) + 1) = ((a + 1 : Nat) : Int) by omega, owp_slT, cut_from (by omega)]
          try walk_at "z1"
          refine ⟨by rw [List.length_append]; simp only [List.length_cons, List.length_nil]; omega, ?_⟩
          refine h _ _ (bok_tup ?_ ?_ ?_ ?_) (hq3.mono (by omega))
          · rw [List.append_assoc, ncs_app, u1.1 ns]
            show (D.nc d && D.ncs (xs.drop (a + 1))) = true
            rw [b3.nc, u2.1 ns]
            rfl
          · have := b3.bk
            rw [List.append_assoc, bks_app]
            show D.bks (xs.take a) + (D.bk d + 1 + D.bks (xs.drop (a + 1))) ≤ _
            omega
          · have := b3.dp
            rw [List.append_assoc, dps_app]
            show max (D.dps (xs.take a)) (max (D.dp d) (D.dps (xs.drop (a + 1)))) ≤ _
            omega
          · simp only [List.length_append, List.length_cons, List.length_nil, List.length_drop]
            omega
        · try walk_at "z1"
          simp only [owp_listT, owp_slT]
          try walk_at "z1"
          have l3 := (cut_sub (xs := xs) (lo := some (-1)) (hi := none)).length_le
          refine ⟨by omega, ?_⟩
          simp only [wp_rev]
          try walk_at "z1"
          simp only [owp_revT]
          try walk_at "z1"
          exact ⟨by omega, of_wp hq1 (by omega) (by simp) (by simp) fun d hd q2 hq2 => h _ _ (fin d hd) (hq2.mono (by omega))⟩
      · try walk_at "z1"
        simp only [owp_listT, owp_slT]
        try walk_at "z1"
        have l3 := (cut_sub (xs := xs) (lo := some (-1)) (hi := none)).length_le
        refine ⟨by omega, ?_⟩
        simp only [wp_rev]
        try walk_at "z1"
        simp only [owp_revT]
        try walk_at "z1"
        exact ⟨by omega, of_wp hq (by omega) (by simp) (by simp) fun d hd q2 hq2 => h _ _ (fin d hd) (hq2.mono (by omega))⟩
    | _ => cases bv
end

end Ak
namespace Ak
open PySem PySem.Spec PyProof.Rows L2
local instance tbI_qg : Tb := tb0
/-! ### what shown raises -/
structure Vk (d : D) : Prop where
  nc : d.nc = true
  ky : okV d = true
theorem vk_units {u : Int} {how : Str} (h0 : 2 ≤ u) (h1 : u ≤ 100) (hh : how ∈ hows) : Vk (.tup [.int u, .str how]) := by
  have hx : how = Str.ofString "near" ∨ how = Str.ofString "even" ∨ how = Str.ofString "down" ∨ how = Str.ofString "up" := by simpa only [hows, List.mem_cons, List.not_mem_nil, or_false] using hh
  have nu : D.nc (.tup [.int u, .str how]) = true := by
    show (D.nc (.int u) && (D.nc (.str how) && true)) = true
    rw [show D.nc (.int u) = true from decide_eq_true (by omega), show D.nc (.str how) = true from hows_strOk _ hh]
    rfl
  refine ⟨nu, nc_ok nu ?_ ?_⟩
  · show 0 + 1 + (how.length + 1 + 0) ≤ _
    have : how.length ≤ 10 := by rcases hx with rfl | rfl | rfl | rfl <;> decide +kernel
    omega
  · show max 0 (max 0 0) + 1 ≤ _
    decide
local macro_rules | `(tactic| walk_at "z0") => `(tactic| simp only [wp_cal, wp_calP, calPW_p, wp_frz, wp_mkL, wp_mk, wp_drop, wp_asg, wp_iter, wp_for, wp_comp, wp_part, wp_noPart, intW_int, wp_sl, wp_and, wp_or, wp_not, wp_chain, strW_str, wp_s1, wp_s0, twoW_two, wp_par, wp_parMV, wp_parVM, wp_parMM, wp_rng1, owp_rng, wp_zip, owp_zipL, owp_zipT, wp_enum2, owp_enum2, wp_mkO, lW_l, kW_k, oneW_one, lstW_lst, wp_app, wp_ext, wp_dput, wp_opR, wp_opL, wp_CBO, objW_obj, wp_prop, wp_meth, bobjW_obj, wp_new, dW_d, wp_varP, wp_pureR, wp_pairs0, wp_pairs, wp_disp, owp_lenL, wp_popAt, wp_C, wp_var, wp_op, wp_un, wp_test, wp_if, wp_notT, wp_andT, wp_orT, wp_nil, wp_cons, wp_CB, wp_tup, wp_lst, wp_seq, wp_ret, wp_sNil, wp_set, wp_sIf, wp_potC, wp_potSetC, potsW_0, potsW_1, potsW_2, setW_0, setW_2, isPW_p, blW_bl, owp_some, varW_d, varW_l, varW_k, initP, initS, S.put, owp_cmp, owp_add, owp_sub, owp_mul, owp_fdiv, owp_mod, owp_pow, owp_int, owp_intB, owp_tup, owp_lst, List.length_cons, List.length_nil, List.map_cons, List.map_nil, List.cons_append, List.nil_append, List.append_nil, List.getElem?_cons_zero, List.getElem?_cons_succ, List.set_cons_zero, List.set_cons_succ, List.replicate_succ, List.replicate_zero, Nat.reduceAdd, Nat.reduceSub, Rv.wp_ok, Rp.wp_ok, wp_yes, wp_dNew, wp_ifT, wp_pop, wp_self, wp_sSelf, pobjW_obj, wp_rdU, rdW_rd, pkW_rd, wp_peek, wp_peekT, wp_rdPut, wp_methP, tlW_tup, wp_star, wp_setIx, wp_lenX, llW_l, llW_d, wp_atL, owp_bTup, owp_bCons, owp_bNil, owp_bName, owp_eqII, owp_neII, owp_eqSS, owp_neSS, owp_eqNS, owp_isN, owp_notN, owp_ixL0, owp_ixL1, owp_ixL2, owp_ixL3, owp_ixT0, owp_ixT1, owp_iterL, owp_iterT, owp_seqL, owp_addL, owp_addT, owp_addS, owp_lenT, owp_tupleL, owp_tupleT, owp_din, owp_dnotin, owp_isi, owp_neg, owp_keys, owp_values, owp_items, owp_lenK, owp_tupK, LVd_l, LVd_k, S.wipe, S.back, wipeE, restE, Bool.not_true, Bool.not_false, true_implies, false_implies, reduceCtorEq, true_and, and_true, Nat.reduceLeDiff, lore_units, lore_first, lore_rows, strOk_lit, owp_keyS, and_self, beq_iff_eq, beq_eq_false_iff_ne, decide_eq_true_eq, decide_eq_false_iff_not, wp_noEx, wp_calX, isa_it, isa_ii, isa_ib, isa_ss, isN_nm, isN_non, isN_str, isN_int])
theorem shown_good {u : Int} {how : Str} {many whole : Int} (h0 : 2 ≤ u) (h1 : u ≤ 100) (hh : how ∈ hows) (m0 : 0 ≤ many) (m1 : many ≤ whole) (w0 : 1 ≤ whole) (w1 : whole ≤ 1000000000) : m_shown [.tup [.int u, .str how], .int many, .int whole] = .ok (.int (rndI how (u * many) whole)) := by
  have vu := vk_units h0 h1 hh
  have cu := ck_units vu.nc vu.ky
  rw [if_pos (unB_tup h0 h1 hh)] at cu
  have nm : D.nc (.int many) = true := decide_eq_true (by omega)
  have nw : D.nc (.int whole) = true := decide_eq_true (by omega)
  apply Rv.of_wp
  unfold m_shown g_shown
  refine defX_of rfl ?_
  have sm : small u = true := small_of (by omega)
  try walk_at "z0"
  rw [cu]
  try walk_at "z0"
  rw [is_integer_gen nw]
  try walk_at "z0"
  refine ⟨fun z => absurd z (by simp [isIB]), fun _ => ⟨fun z => absurd z (by omega), fun _ => ?_⟩⟩
  rw [is_between_gen nm]
  try walk_at "z0"
  refine ⟨fun z => absurd z (by simp [btB]; omega), fun _ => ?_⟩
  rw [rounded_eq hh (by omega) (by omega)]
  simp [sm, Rv.wp]
theorem shown_badU {e m w : D} (h : unB e = false) (ve : Vk e) : m_shown [e, m, w] = .ex "BadUnits" e := by
  have cu := ck_units ve.nc ve.ky
  rw [if_neg (by rw [h]; decide)] at cu
  unfold m_shown g_shown
  refine defX_ex (s := initS 3 [e, m, w]) rfl (seq_ex (drop_ex (ds := [e]) ?_ cu))
  rfl
theorem shown_badW {u : Int} {how : Str} {m w : D} (h0 : 2 ≤ u) (h1 : u ≤ 100) (hh : how ∈ hows) (h : btB 1 1000000000 w = false) (vw : Vk w) : m_shown [.tup [.int u, .str how], m, w] = .ex "BadCount" w := by
  have vu := vk_units h0 h1 hh
  have cu := ck_units vu.nc vu.ky
  rw [if_pos (unB_tup h0 h1 hh)] at cu
  unfold m_shown g_shown
  refine defX_ex (s := initS 3 [.tup [.int u, .str how], m, w]) rfl ?_
  rw [seq_nx (drop_ok (ds := [.tup [.int u, .str how]]) (by rfl) cu)]
  refine seq_ex (if_ex (rs_eqn ?_) rfl vw.ky)
  try walk_at "z0"
  rw [is_integer_gen vw.nc]
  have nw := vw.nc
  cases w with
  | int i =>
    have nw2 : -1000000000 ≤ i ∧ i ≤ 1000000000 := of_decide_eq_true nw
    have h3 : i < 1 := by
      by_cases z : i < 1
      · exact z
      · exfalso
        have : btB 1 1000000000 (.int i) = true := by
          show (decide (1 ≤ i) && decide (i ≤ 1000000000)) = true
          simp
          omega
        rw [h] at this
        cases this
    try walk_at "z0"
    refine ⟨fun z => absurd z (by simp [isIB]), fun _ => ?_⟩
    simp [h3]
  | _ =>
    try walk_at "z0"
    exact ⟨fun _ => trivial, fun z => absurd z (by simp [isIB])⟩
theorem shown_badM {u whole : Int} {how : Str} {m : D} (h0 : 2 ≤ u) (h1 : u ≤ 100) (hh : how ∈ hows) (w0 : 1 ≤ whole) (w1 : whole ≤ 1000000000) (h : btB 0 whole m = false) (vm : Vk m) : m_shown [.tup [.int u, .str how], m, .int whole] = .ex "BadCount" m := by
  have vu := vk_units h0 h1 hh
  have cu := ck_units vu.nc vu.ky
  rw [if_pos (unB_tup h0 h1 hh)] at cu
  have nw : D.nc (.int whole) = true := decide_eq_true (by omega)
  unfold m_shown g_shown
  refine defX_ex (s := initS 3 [.tup [.int u, .str how], m, .int whole]) rfl ?_
  rw [seq_nx (drop_ok (ds := [.tup [.int u, .str how]]) (by rfl) cu), seq_nx (s1 := initS 3 [.tup [.int u, .str how], m, .int whole]) (ro_eqn ?_)]
  · refine seq_ex (if_ex (rs_eqn ?_) rfl vm.ky)
    try walk_at "z0"
    rw [is_between_gen vm.nc, h]
    try walk_at "z0"
  · try walk_at "z0"
    rw [is_integer_gen nw]
    try walk_at "z0"
    exact ⟨fun z => absurd z (by simp [isIB]), fun _ => ⟨fun z => absurd z (by omega), fun _ => trivial⟩⟩
/-! ### what is due -/
def dueS (e m w : D) : Str × D := if unB e = false then ("units", e) else if btB 1 1000000000 w = false then ("count", w) else match w with
  | .int i => if btB 0 i m = true then ("", .non) else ("count", m)
  | _ => ("", .non)
def dueT (e d : D) : Str × D := if unB e = false then ("units", e) else match e with
  | .tup [.int u, _] => if shB u d = true then ("", .non) else ("share", d)
  | _ => ("", .non)
theorem shown_due_eq {e m w : D} (ve : Vk e) (vm : Vk m) (vw : Vk w) : m_l_shown_due [e, m, w] = .ok (.tup [.str (dueS e m w).1, (dueS e m w).2]) := by
  apply Rv.of_wp
  unfold m_l_shown_due g_l_shown_due
  refine def_of rfl ?_
  unfold dueS
  try walk_at "z0"
  rw [l_is_units_gen ve.nc]
  try walk_at "z0"
  refine ⟨fun h => by rw [if_pos (show unB e = false by simpa using h)], fun h => ?_⟩
  replace h : unB e = true := by simpa using h
  rw [if_neg (by rw [h]; decide)]
  refine ⟨⟨by decide, by decide, Nat.lt_of_lt_of_le (show (10 : Int).natAbs < 2 ^ 4 by decide) (Nat.pow_le_pow_right (by decide) (by decide))⟩, ?_⟩
  rw [show ((10 : Int) ^ Int.toNat 9) = 1000000000 by decide, l_is_int_gen vw.nc]
  try walk_at "z0"
  refine ⟨fun h2 => by rw [if_pos (show btB 1 1000000000 w = false by simpa using h2)], fun h2 => ?_⟩
  replace h2 : btB 1 1000000000 w = true := by simpa using h2
  rw [if_neg (by rw [h2]; decide)]
  obtain ⟨i, rfl, i0, i1⟩ := btB_get h2
  rw [l_is_int_gen vm.nc]
  try walk_at "z0"
  refine ⟨fun h3 => by rw [if_pos h3], fun h3 => ?_⟩
  rw [if_neg (by rw [h3]; decide)]
theorem stretch_due_eq {e d : D} (ve : Vk e) (vd : Vk d) : m_l_stretch_due [e, d] = .ok (.tup [.str (dueT e d).1, (dueT e d).2]) := by
  apply Rv.of_wp
  unfold m_l_stretch_due g_l_stretch_due
  refine def_of rfl ?_
  unfold dueT
  try walk_at "z0"
  rw [l_is_units_gen ve.nc]
  try walk_at "z0"
  refine ⟨fun h => by rw [if_pos (show unB e = false by simpa using h)], fun h => ?_⟩
  replace h : unB e = true := by simpa using h
  rw [if_neg (by rw [h]; decide)]
  obtain ⟨u, how, rfl, h0, h1, hh⟩ := unB_get h
  dsimp only
  have nd := vd.nc
  cases d with
  | str x =>
    refine ⟨fun _ => ?_, fun z => absurd z (by rw [isa_ss]; decide)⟩
    rw [in_ns]
    try walk_at "z0"
    refine ⟨fun h3 => by rw [if_pos (show shB u (.str x) = true from h3)], fun h3 => ?_⟩
    rw [if_neg (by rw [show shB u (.str x) = false from h3]; decide)]
  | int i =>
    refine ⟨fun z => absurd (z.symm.trans rfl : true = false) (by decide), fun _ => ?_⟩
    try walk_at "z0"
    rw [l_is_int_gen nd]
    try walk_at "z0"
    refine ⟨fun h3 => by rw [if_pos (show shB u (.int i) = true from h3)], fun h3 => ?_⟩
    rw [if_neg (by rw [show shB u (.int i) = false from h3]; decide)]
  | _ =>
    refine ⟨fun z => absurd (z.symm.trans rfl : true = false) (by decide), fun _ => ?_⟩
    try walk_at "z0"
    rw [l_is_int_gen nd]
    try walk_at "z0"
    refine ⟨(fun h3 => by cases h3), fun h3 => ?_⟩
    rfl
/-! ### is due -/
theorem wp_mTl {xs : List Str} {r : Rv} {s : S} {Q : D → S → Prop} : (mTl xs r s).wp Q = match mTold xs r [] with
    | .ok d => Q d s
    | _ => False := by
  unfold mTl
  cases mTold xs r [] <;> rfl
theorem wp_th3 {m : Rv → List D → Rv} {fb : S → Rs D} {fr : S → Rs (List D)} {s : S} {n : Nat} {Q : D → S → Prop} : (mTh n m fb fr s).wp Q = (fr s).wp fun ds s1 => if ds.length + 1 = n then (match m (thO fb s1) ds with
    | .ok d => Q d s1
    | _ => False) else False := by
  unfold mTh
  rw [wp_bind]
  congr 1
  funext ds s1
  by_cases h : ds.length + 1 = n
  · rw [if_pos h, if_pos h]
    cases m (thO fb s1) ds <;> rfl
  · rw [if_neg h, if_neg h]
    rfl
theorem due_ok {d : D} : m_l_is_due (.ok d) [.str "", .non] = .ok (.bl true) := by
  apply Rv.of_wp
  unfold m_l_is_due g_l_is_due
  refine hand_of rfl ?_
  simp only [initN]
  try walk_at "z0"
  simp only [wp_mTl, mTold]
  try walk_at "z0"
  exact fun z => absurd rfl z
def isW (word : Str) : D → D
  | .str y => .bl (decide (word = y))
  | _ => .non
theorem due_ex {c word : Str} {v : D} (ky : okV v = true) (h : (c = "BadUnits" ∧ word = "units") ∨ (c = "BadCount" ∧ word = "count") ∨ (c = "BadShare" ∧ word = "share")) : m_l_is_due (.ex c v) [.str word, v] = .ok (.bl true) := by
  have em : mTold xsL (.ex c v) [] = .ok (.tup [.exc c v, .non]) := by
    show (if c ∈ xsL then Rv.ok (.tup [.exc c v, .non]) else .no) = _
    exact if_pos (by rcases h with ⟨rfl, _⟩ | ⟨rfl, _⟩ | ⟨rfl, _⟩ <;> exact List.contains_iff_mem.mp (by decide +kernel))
  have ew : ∀ {Q : D → Prop}, owp (eqD (.lst [.bl (subX c "BadUnits"), .bl (subX c "BadCount"), .bl (subX c "BadShare")]) (.lst ([D.str (Str.ofString "units"), D.str (Str.ofString "count"), D.str (Str.ofString "share")].map (isW word)))) Q = Q (.bl true) := by
    intro Q
    show owp (eqD (.lst [.bl (subX c "BadUnits"), .bl (subX c "BadCount"), .bl (subX c "BadShare")]) (.lst [.bl (decide (word = "units")), .bl (decide (word = "count")), .bl (decide (word = "share"))])) Q = _
    rcases h with ⟨rfl, rfl⟩ | ⟨rfl, rfl⟩ | ⟨rfl, rfl⟩
    · rw [show subX "BadUnits" "BadUnits" = true from by decide, show subX "BadUnits" "BadCount" = false from by decide, show subX "BadUnits" "BadShare" = false from by decide, decide_eq_true (show Str.ofString "units" = Str.ofString "units" from rfl), decide_eq_false (show ¬ Str.ofString "units" = Str.ofString "count" from by decide +kernel), decide_eq_false (show ¬ Str.ofString "units" = Str.ofString "share" from by decide +kernel)]
      rfl
    · rw [show subX "BadCount" "BadUnits" = false from by decide, show subX "BadCount" "BadCount" = true from by decide, show subX "BadCount" "BadShare" = false from by decide, decide_eq_true (show Str.ofString "count" = Str.ofString "count" from rfl), decide_eq_false (show ¬ Str.ofString "count" = Str.ofString "units" from by decide +kernel), decide_eq_false (show ¬ Str.ofString "count" = Str.ofString "share" from by decide +kernel)]
      rfl
    · rw [show subX "BadShare" "BadUnits" = false from by decide, show subX "BadShare" "BadCount" = false from by decide, show subX "BadShare" "BadShare" = true from by decide, decide_eq_true (show Str.ofString "share" = Str.ofString "share" from rfl), decide_eq_false (show ¬ Str.ofString "share" = Str.ofString "units" from by decide +kernel), decide_eq_false (show ¬ Str.ofString "share" = Str.ofString "count" from by decide +kernel)]
      rfl
  have hc : xsL.contains c = true := by rcases h with ⟨rfl, _⟩ | ⟨rfl, _⟩ | ⟨rfl, _⟩ <;> decide +kernel
  have hw : PyData.strOk word = true := by rcases h with ⟨_, rfl⟩ | ⟨_, rfl⟩ | ⟨_, rfl⟩ <;> exact strOk_lit
  have hne : word ≠ Str.ofString "" := by rcases h with ⟨_, rfl⟩ | ⟨_, rfl⟩ | ⟨_, rfl⟩ <;> decide +kernel
  apply Rv.of_wp
  unfold m_l_is_due g_l_is_due
  refine hand_of rfl ?_
  simp only [initN]
  try walk_at "z0"
  simp only [wp_mTl, em]
  try walk_at "z0"
  rw [owp_isiX]
  refine ⟨hc, ?_⟩
  rw [owp_isiX]
  refine ⟨hc, ?_⟩
  rw [owp_isiX]
  refine ⟨hc, hw, fun z => absurd z hne, fun _ => ?_⟩
  refine comp_allD (isW word) (fun i hi => ?_) ?_
  · simp only [List.mem_cons, List.not_mem_nil, or_false] at hi
    rcases hi with rfl | rfl | rfl
    all_goals
      try walk_at "z0"
      refine ⟨hw, ?_⟩
      show D.bl _ = D.bl _
      congr 1
  · rw [ew]
    try walk_at "z0"
    rw [owp_valX]
    exact reprR_eq ky rfl
/-! ### the two questions -/
theorem shown_is {e m w : D} (ve : Vk e) (vm : Vk m) (vw : Vk w) : m_l_is_due (m_shown [e, m, w]) [.str (dueS e m w).1, (dueS e m w).2] = .ok (.bl true) := by
  unfold dueS
  by_cases hu : unB e = false
  · rw [if_pos hu, shown_badU hu ve]
    exact due_ex ve.ky (.inl ⟨rfl, rfl⟩)
  rw [if_neg hu]
  obtain ⟨u, how, rfl, h0, h1, hh⟩ := unB_get (by simpa using hu)
  by_cases hw : btB 1 1000000000 w = false
  · rw [if_pos hw, shown_badW h0 h1 hh hw vw]
    exact due_ex vw.ky (.inr (.inl ⟨rfl, rfl⟩))
  rw [if_neg hw]
  obtain ⟨i, rfl, i0, i1⟩ := btB_get (by simpa using hw)
  dsimp only
  by_cases hm : btB 0 i m = true
  · rw [if_pos hm]
    obtain ⟨j, rfl, j0, j1⟩ := btB_get hm
    rw [shown_good h0 h1 hh j0 j1 i0 i1]
    exact due_ok
  · rw [if_neg hm, shown_badM h0 h1 hh i0 i1 (by simpa using hm) vm]
    exact due_ex vm.ky (.inr (.inl ⟨rfl, rfl⟩))
theorem stretch_is {e d : D} (ve : Vk e) (vd : Vk d) : m_l_is_due (m_stretch [e, d]) [.str (dueT e d).1, (dueT e d).2] = .ok (.bl true) := by
  unfold dueT
  by_cases hu : unB e = false
  · rw [if_pos hu, stretch_badU hu ve.nc ve.ky]
    exact due_ex ve.ky (.inl ⟨rfl, rfl⟩)
  rw [if_neg hu]
  obtain ⟨u, how, rfl, h0, h1, hh⟩ := unB_get (by simpa using hu)
  dsimp only
  by_cases hm : shB u d = true
  · rw [if_pos hm, stretch_ok h0 h1 hh hm vd.nc vd.ky ve.ky]
    exact due_ok
  · rw [if_neg hm, stretch_badS h0 h1 hh (by simpa using hm) vd.nc vd.ky ve.ky]
    exact due_ex vd.ky (.inr (.inr ⟨rfl, rfl⟩))

end Ak
namespace Ak
open PySem PySem.Spec PyProof.Rows L2
local instance tbI_qh : Tb := tb0
/-! ### drawn values -/
theorem vk_odd : ∀ x ∈ odds, Vk x := by
  intro x hx
  refine ⟨?_, ?_⟩
  · simp only [odds, List.mem_cons, List.not_mem_nil, or_false] at hx
    rcases hx with rfl | rfl | rfl | rfl | rfl | rfl | rfl | rfl | rfl | rfl | rfl | rfl | rfl | rfl | rfl | rfl | rfl | rfl | rfl | rfl | rfl | rfl | rfl | rfl <;> decide +kernel
  · have h := List.all_eq_true.mp odds_ok x hx
    rw [Bool.and_eq_true] at h
    exact h.1
theorem vk_of {d : D} (h : d.nc = true) (hb : d.bk ≤ 1000) (hd : d.dp ≤ 40) : Vk d := ⟨h, nc_ok h (by omega) hd⟩
theorem vk_bent {u : Int} {how : Str} {d : D} (hh : how ∈ hows) (b : BOk (.tup [.int u, .str how]) d) : Vk d := by
  have hx : how = Str.ofString "near" ∨ how = Str.ofString "even" ∨ how = Str.ofString "down" ∨ how = Str.ofString "up" := by simpa only [hows, List.mem_cons, List.not_mem_nil, or_false] using hh
  have hl : how.length ≤ 10 := by rcases hx with rfl | rfl | rfl | rfl <;> decide +kernel
  have b1 := b.bk
  have b2 := b.dp
  have e1 : D.bk (.tup [.int u, .str how]) = 0 + 1 + (how.length + 1 + 0) := rfl
  have e2 : D.dp (.tup [.int u, .str how]) = 1 := rfl
  rw [e1] at b1
  rw [e2] at b2
  exact vk_of b.nc (by omega) (by omega)
theorem bv_units {u : Int} {how : Str} (h0 : 2 ≤ u) (h1 : u ≤ 100) (hh : how ∈ hows) : D.bv (.tup [.int u, .str how]) = true := by
  show (decide (-100000000 ≤ u ∧ u ≤ 100000000) && (decide (how ∈ hows) && true)) = true
  rw [decide_eq_true (by omega), decide_eq_true hh]
  rfl
/-! ### right -/
section
variable {n : Nat} {q : Pot} {Q : D → Bw → Prop}
local macro_rules | `(tactic| walk_at "z0") => `(tactic| simp only [wp_cal, wp_calP, calPW_p, wp_frz, wp_mkL, wp_mk, wp_drop, wp_asg, wp_iter, wp_for, wp_comp, wp_part, wp_noPart, intW_int, wp_sl, wp_and, wp_or, wp_not, wp_chain, strW_str, wp_s1, wp_s0, twoW_two, wp_par, wp_parMV, wp_parVM, wp_parMM, wp_rng1, owp_rng, wp_zip, owp_zipL, owp_zipT, wp_enum2, owp_enum2, wp_mkO, lW_l, kW_k, oneW_one, lstW_lst, wp_app, wp_ext, wp_dput, wp_opR, wp_opL, wp_CBO, objW_obj, wp_prop, wp_meth, bobjW_obj, wp_new, dW_d, wp_varP, wp_pureR, wp_pairs0, wp_pairs, wp_disp, owp_lenL, wp_popAt, wp_C, wp_var, wp_op, wp_un, wp_test, wp_if, wp_notT, wp_andT, wp_orT, wp_nil, wp_cons, wp_CB, wp_tup, wp_lst, wp_seq, wp_ret, wp_sNil, wp_set, wp_sIf, wp_potC, wp_potSetC, potsW_0, potsW_1, potsW_2, setW_0, setW_2, isPW_p, blW_bl, owp_some, varW_d, varW_l, varW_k, initP, initS, S.put, owp_cmp, owp_add, owp_sub, owp_mul, owp_fdiv, owp_mod, owp_pow, owp_int, owp_intB, owp_tup, owp_lst, List.length_cons, List.length_nil, List.map_cons, List.map_nil, List.cons_append, List.nil_append, List.append_nil, List.getElem?_cons_zero, List.getElem?_cons_succ, List.set_cons_zero, List.set_cons_succ, List.replicate_succ, List.replicate_zero, Nat.reduceAdd, Nat.reduceSub, Rv.wp_ok, Rp.wp_ok, wp_yes, wp_dNew, wp_ifT, wp_pop, wp_self, wp_sSelf, pobjW_obj, wp_rdU, rdW_rd, pkW_rd, wp_peek, wp_peekT, wp_rdPut, wp_methP, tlW_tup, wp_star, wp_setIx, wp_lenX, llW_l, llW_d, wp_atL, owp_bTup, owp_bCons, owp_bNil, owp_bName, owp_eqII, owp_neII, owp_eqSS, owp_neSS, owp_eqNS, owp_isN, owp_notN, owp_ixL0, owp_ixL1, owp_ixL2, owp_ixL3, owp_ixT0, owp_ixT1, owp_iterL, owp_iterT, owp_seqL, owp_addL, owp_addT, owp_addS, owp_lenT, owp_tupleL, owp_tupleT, owp_din, owp_dnotin, owp_isi, owp_neg, owp_keys, owp_values, owp_items, owp_lenK, owp_tupK, LVd_l, LVd_k, S.wipe, S.back, wipeE, restE, Bool.not_true, Bool.not_false, true_implies, false_implies, reduceCtorEq, true_and, and_true, Nat.reduceLeDiff, lore_units, lore_first, lore_rows, strOk_lit, owp_keyS, and_self, beq_iff_eq, beq_eq_false_iff_ne, decide_eq_true_eq, decide_eq_false_iff_not, wp_noEx, wp_calX, isa_it, isa_ii, isa_ib, isa_ss, isN_nm, isN_non, isN_str, isN_int])
theorem right_wp (hq : PotOk n q) (hn : n + 1000 < 100000) (h : ∀ q', Q (.bl true) (.pot q')) : (m_l_right (.pot q) []).wp Q := by
  unfold m_l_right g_l_right
  refine defP_of rfl ?_
  try walk_at "z0"
  refine ⟨by decide, ?_⟩
  refine forL_inv (fun i s => ∃ (q' : Pot) (es : List (Option LV)), PotOk (n + 30 * i) q' ∧ es.length = 10 ∧ s = ⟨some .p :: es, .pot q'⟩) ⟨q, _, hq, rfl, rfl⟩ ?_ ?_
  · rintro i d s hd ⟨q1, es, hq1, le, rfl⟩
    have hi : i < 16 := by
      have := (List.getElem?_eq_some_iff.mp hd).1
      simpa [rangeD] using this
    match es, le with
    | [a1, a2, a3, a4, a5, a6, a7, a8, a9, a10], _ =>
    try walk_at "z0"
    refine units_wp hq1 (by omega) (by decide) (by decide) fun u how q2 h0 h1 hh hq2 => ?_
    have vu := vk_units h0 h1 hh
    have bk : D.bk (.tup [.int u, .str how]) ≤ 10000 := by
      have hx : how = Str.ofString "near" ∨ how = Str.ofString "even" ∨ how = Str.ofString "down" ∨ how = Str.ofString "up" := by simpa only [hows, List.mem_cons, List.not_mem_nil, or_false] using hh
      show 0 + 1 + (how.length + 1 + 0) ≤ _
      have : how.length ≤ 10 := by rcases hx with rfl | rfl | rfl | rfl <;> decide +kernel
      omega
    have p10 : (0 : Int) ≤ 8 ∧ (8 : Int) ≤ 100 ∧ (10 : Int).natAbs < 2 ^ 4096 := ⟨by decide, by decide, Nat.lt_of_lt_of_le (show (10 : Int).natAbs < 2 ^ 4 by decide) (Nat.pow_le_pow_right (by decide) (by decide))⟩
    try walk_at "z0"
    refine bentv_wp 6 (n + 30 * i + 2) q2 (.tup [.int u, .str how]) _ (bv_units h0 h1 hh) (show 1 < 6 by decide) (by decide) bk hq2 (by omega) fun b1 q3 bb hq3 => ?_
    have vb := vk_bent hh bb
    refine odd_wp hq3 (by omega) fun o1 ho1 q4 hq4 => ?_
    have em : mulD (.lst [D.tup [.int u, .str how]]) (.int 12) = some (.lst (List.replicate 12 (D.tup [.int u, .str how]))) := rfl
    rw [em, owp_some]
    try walk_at "z0"
    refine of_wp hq4 (by omega) (by simp) (by simp) fun e he q5 hq5 => ?_
    have ve : Vk e := by
      simp only [List.mem_cons, List.not_mem_nil, or_false] at he
      rcases he with rfl | rfl | rfl | rfl | rfl | rfl | rfl | rfl | rfl | rfl | rfl | rfl | rfl | rfl | rfl | rfl | rfl | rfl | rfl | rfl | rfl | rfl | rfl | rfl | rfl | rfl | rfl | rfl
      all_goals first | exact vu | exact vb | exact vk_odd _ ho1 | exact vk_of (by decide +kernel) (by decide +kernel) (by decide +kernel)
    clear he
    refine ⟨p10, odd_wp hq5 (by omega) fun o2 ho2 q6 hq6 => ?_⟩
    refine of_wp hq6 (by omega) (by simp) (by simp) fun w hw q7 hq7 => ?_
    have vw : Vk w := by
      simp only [List.mem_cons, List.not_mem_nil, or_false] at hw
      rcases hw with rfl | rfl | rfl | rfl | rfl | rfl | rfl | rfl | rfl | rfl | rfl
      all_goals first | exact vk_odd _ ho2 | exact vk_of (by decide +kernel) (by decide +kernel) (by decide +kernel)
    clear hw
    refine ⟨p10, odd_wp hq7 (by omega) fun o3 ho3 q8 hq8 => ?_⟩
    refine of_wp hq8 (by omega) (by simp) (by simp) fun m hm q9 hq9 => ?_
    have vm : Vk m := by
      simp only [List.mem_cons, List.not_mem_nil, or_false] at hm
      rcases hm with rfl | rfl | rfl | rfl | rfl | rfl | rfl | rfl | rfl | rfl | rfl | rfl
      all_goals first | exact vk_odd _ ho3 | exact vk_of (by decide +kernel) (by decide +kernel) (by decide +kernel)
    clear hm
    rw [shown_due_eq ve vm vw]
    simp only [Rv.wp_ok]
    rw [wp_th3]
    try walk_at "z0"
    rw [thO_cal (ds := [e, m, w]) (s1 := S.pure _) (by rfl), shown_is ve vm vw]
    try walk_at "z0"
    refine odd_wp hq9 (by omega) fun o4 ho4 q10 hq10 => ?_
    try walk_at "z0"
    refine of_wp hq10 (by omega) (by simp) (by simp) fun x hx q11 hq11 => ?_
    have vx : Vk x := by
      simp only [List.mem_cons, List.not_mem_nil, or_false] at hx
      rcases hx with rfl | rfl | rfl | rfl | rfl | rfl | rfl | rfl | rfl | rfl | rfl | rfl | rfl | rfl
      all_goals first | exact vk_odd _ ho4 | exact vk_of (by decide +kernel) (by decide +kernel) (by decide +kernel) | exact vk_of (decide_eq_true (by omega)) (Nat.zero_le _) (Nat.zero_le _)
    clear hx
    try walk_at "z0"
    rw [stretch_due_eq ve vx]
    simp only [Rv.wp_ok]
    try walk_at "z0"
    rw [wp_th3]
    try walk_at "z0"
    rw [thO_cal (ds := [e, x]) (s1 := S.pure _) (by rfl), stretch_is ve vx]
    try walk_at "z0"
    exact ⟨q11, _, hq11.mono (by omega), rfl, rfl⟩
  · rintro s ⟨q', es, _, _, rfl⟩
    try walk_at "z0"
    exact h q'
end
theorem right_plain : ∀ q : Pot, Fresh q → ∃ p', m_l_right (.pot q) [] = .ok (.bl true) p' := by
  intro q fr
  have key : (m_l_right (.pot q) []).wp fun d _ => d = .bl true := right_wp fr.ok (by decide) fun _ => rfl
  cases e : m_l_right (.pot q) [] with
  | ok d p' =>
    rw [e] at key
    exact ⟨p', by rw [show d = .bl true from key]⟩
  | _ =>
    rw [e] at key
    exact key.elim

end Ak
namespace Ak
open PySem PySem.Spec PyProof.Rows L2
variable [Tb]
/-! ### the walk of readings -/
local macro_rules | `(tactic| walk_at "go1") => `(tactic| (first
  | with_reducible refine w_seq ?_ | with_reducible refine w_next ?_ | with_reducible refine w_set ?_ | with_reducible refine w_asgS ?_ | with_reducible refine w_ret ?_ | with_reducible refine w_drop ?_ | with_reducible refine w_ifS ?_
  | with_reducible refine w_op ?_ | with_reducible refine w_un ?_ | ((with_reducible apply w_var); (· exact rfl)) | with_reducible refine w_c ?_
  | with_reducible refine w_add ?_ | with_reducible refine w_sub ?_ | with_reducible refine w_lt ?_ | with_reducible refine w_le ?_ | with_reducible refine w_gt ?_ | with_reducible refine w_ge ?_ | with_reducible refine w_neg ?_ | with_reducible refine w_isN ?_ | with_reducible refine w_notN ?_
  | ((with_reducible refine w_eq ?_ ?_); (· exact rfl)) | ((with_reducible refine w_ne ?_ ?_); (· exact rfl))
  | with_reducible refine w_test ?_ | with_reducible refine w_B ?_ | with_reducible refine w_or ?_ | with_reducible refine w_and ?_ | with_reducible refine w_not ?_ | with_reducible refine w_andV ?_ | with_reducible refine w_orV ?_ | with_reducible refine w_notV ?_
  | with_reducible refine w_ifE ?_ | with_reducible refine w_chain ?_ | with_reducible refine w_cb ?_ | with_reducible refine w_nil ?_ | with_reducible refine w_cons ?_ | with_reducible refine w_tup ?_ | with_reducible refine w_lst ?_ | with_reducible refine w_call ?_
  | with_reducible refine w_int1 ?_ | with_reducible refine w_abs ?_ | with_reducible refine w_max2 ?_ | with_reducible refine w_min2 ?_
  | with_reducible refine w_mknx ?_ | with_reducible refine w_mkrt ?_ | with_reducible refine w_mkbk ?_ | with_reducible refine w_mkct ?_ | with_reducible refine w_ifT ?_ | with_reducible refine w_ifF ?_ | with_reducible refine w_ifNT ?_ | with_reducible refine w_ifNF ?_
  | with_reducible refine w_lc ?_ | with_reducible refine w_lrg ?_ | with_reducible refine w_rg1 ?_ | with_reducible refine w_rg2 ?_ | with_reducible refine w_exI ?_ | with_reducible refine w_exI2 ?_
  | with_reducible refine w_sl ?_ | with_reducible refine w_part ?_ | with_reducible refine w_noPart ?_ | with_reducible refine w_lcE ?_ | with_reducible refine w_lcZ ?_ | with_reducible refine w_yes ?_
  | with_reducible refine w_bl ?_ | with_reducible refine w_asgT ?_ | with_reducible refine w_gcons ?_ | with_reducible refine w_gnil ?_ | with_reducible refine w_par ?_ | with_reducible refine w_pair ?_
  | ((with_reducible refine w_ixL (v := ?vv) (sqL (by assumption)) ?ee ?_); (case ee => exact rfl)) | ((with_reducible refine w_ixT (v := ?vv) (sqT (by assumption)) ?ee ?_); (case ee => exact rfl))
  | ((with_reducible refine w_ixL (v := ?vv) (by assumption) ?ee ?_); (case ee => exact rfl)) | ((with_reducible refine w_ixT (v := ?vv) (by assumption) ?ee ?_); (case ee => exact rfl))
  | ((with_reducible refine w_ifDT ?_ ?_); (· first | omega | decide +kernel)) | ((with_reducible refine w_ifDF ?_ ?_); (· first | omega | decide +kernel | exact ne_IS | exact ne_SI | exact ne_IN | exact ne_SN | exact ne_RN))
  | ((with_reducible refine w_mod ?_ ?_); (· omega)) | ((with_reducible refine w_fdiv ?_ ?_ ?_); (· omega); (· omega))
  | ((with_reducible refine w_mulL ?_ ?_ ?_); (· omega); (· omega)) | ((with_reducible refine w_mulR ?_ ?_ ?_); (· omega); (· omega))
  | with_reducible refine w_lenL (sqL (by assumption)) ?_ | with_reducible refine w_lenL (by assumption) ?_ | with_reducible refine w_lenT (sqT (by assumption)) ?_ | with_reducible refine w_lenT (by assumption) ?_))
local macro_rules | `(tactic| walk_at "go") => `(tactic| repeat walk_at "go1")
def spLaw (K : PySem.W.Frag) : Sp := fun vs H Q _ => ∃ (a : Addr) (ns : List Int), vs = [.ref a] ∧ SqL K H a (ns.map V.int) ∧ Sub mkF H ∧ ∀ H', Q (.bl true) H'
section
variable {P : Program} {w : World} {K : PySem.W.Frag} {mg : Str → Option Value} {base : Heap}
theorem ok_law (T : Txt P K mg base) {fd : FuncData} (F : FnP K "law" s_law (He.ga K "law") fd) : FnG P w K mg base 11 (He.ga K "law") fd ["_law_script"] (spLaw K) := by
  have C_l_cells := C_l_cells (P := P) (w := w) (base := base) T
  have C_l_pot := C_l_pot (P := P) (w := w) (base := base) T
  have C_l_right := (C_l_right (P := P) (w := w) (base := base) T).weak fun _ _ _ _ z => spRight_of right_plain z
  refine okG F sc_law (fun vs H Q E h => ?_) (fun cdv A outer s H vs Q E hr hgd h => ?_)
  · obtain ⟨p, xs, rfl, _⟩ := h
    rfl
  · obtain ⟨a, ns, rfl, hS, sub, q⟩ := h
    refine ⟨_, PSs.nox (pss_one (ps_ret (pe_callB (x_all (K := K) rfl rfl) (by rfl) T.z_all (by decide +kernel) (pa_cons (pe_lc (own := [("_law_place", 1)]) (g := gName 1) rfl sc_law.nd (xi_list (K := K) rfl (pe_cal C_l_cells (hr.mono (by decide)) hgd (by rfl) (pa_cons (pv 0) (pa_cons pe_int pa_nil)))) (blkOk_by (own := [("_law_place", 1)]) (N := ["_law_script", "_law_place"]) (sc := defScope s_law) (by decide +kernel)) (fun _ _ _ _ _ => (pg_name (i := 1) sc_law.nd rfl (.inl rfl))) (fun _ _ _ _ _ => pts_nil) (fun _ _ _ _ _ => (pe_cal C_l_right (hr.mono (by decide)) hgd (by rfl) (pa_cons (pe_cal C_l_pot (hr.mono (by decide)) hgd (by rfl) (pa_cons (pv 0) (pa_cons (pv 1) pa_nil))) pa_nil)))) pa_nil)))), ?_⟩
    try dsimp only [cxOf, Cx.nox, Cx.wish]
    rw [st_law]; walk_at "go"
    refine ⟨a, _, ns, rfl, hS, by decide, by decide, fun l H1 n nl s1 hn hl => ?_⟩
    have hz : (rgV 0 n).length ≤ 1000 := by
      rw [rgV_length]
      omega
    refine w_lcLK (xs := rgV 0 n) (sqL hl) (by omega) (sub.same s1) ?_ ?_
    · intro i x H2 Nx hx k2 sub2 nx
      obtain ⟨k, rfl, k0, k1⟩ : ∃ k : Int, x = .int k ∧ 0 ≤ k ∧ k ≤ 100 := by
        have hx2 : ((List.range (n - 0).toNat).map fun i => V.int (0 + (i : Nat)))[i]? = some x := hx
        rw [List.getElem?_map] at hx2
        cases e : (List.range (n - 0).toNat)[i]? with
        | none =>
          rw [e] at hx2
          cases hx2
        | some j =>
          rw [e] at hx2
          have hj := List.mem_range.mp (List.mem_of_getElem? e)
          exact ⟨_, (Option.some.inj hx2).symm, by omega, by omega⟩
      refine ⟨rfl, ?_⟩
      walk_at "go"
      refine ⟨a, k, ns, rfl, k2.seq (s1.seq hS), k0, k1, fun p H3 ys np s3 hp hP => ?_⟩
      have sub3 := sub2.same s3
      refine ⟨p, ys, rfl, hp, hP, sub3, fun H4 b4 sub4 => ?_⟩
      refine nx _ (fun c o hc => ?_) sub4
      refine b4 c o (fun z => ?_) (s3 _ _ hc)
      rw [z, np] at hc
      cases hc
    · intro D H3 ys hD hy
      walk_at "go"
      exact w_allT (sqL hD) hy (q _)
end

end Ak
namespace Ak
open PySem PySem.Spec PyProof.Rows L2
variable [Tb]
set_option maxHeartbeats 0
theorem txt_of {P : Program} {K : PySem.W.Frag} {h : Heap} {mg : Str → Option Value} {w : World} {h2 : Heap} {base : Heap} (TBs : ∀ p ∈ tf, LamX.TabB base mg (He.cT K p).1 (He.cT K p).2) (TMs : ∀ p ∈ tf, ((He.cT K p).2, lamQ p.1) ∈ Tb.t) (hfile : ((P.main.file : Str) == fileT) = true) (htop : (P.main.scope.names.lookup ("super" : Str)).isSome = false) (X : K.In h) (G : h.Ns mainGlobals mg) (cx : SaysP fa fn ex pr tf w h2 K) : Txt P K mg base := by
  have c := cx.d
  have m : ex K = true := cx.more
  unfold ex at m
  obtain ⟨m11, u11⟩ := Bool.and_eq_true_iff.mp m
  obtain ⟨m10, u10⟩ := Bool.and_eq_true_iff.mp m11
  obtain ⟨m9, u9⟩ := Bool.and_eq_true_iff.mp m10
  obtain ⟨m8, u8⟩ := Bool.and_eq_true_iff.mp m9
  obtain ⟨m7, u7⟩ := Bool.and_eq_true_iff.mp m8
  obtain ⟨m6, u6⟩ := Bool.and_eq_true_iff.mp m7
  obtain ⟨m5, u5⟩ := Bool.and_eq_true_iff.mp m6
  obtain ⟨m4, u4⟩ := Bool.and_eq_true_iff.mp m5
  obtain ⟨m3, u3⟩ := Bool.and_eq_true_iff.mp m4
  obtain ⟨m2, u2⟩ := Bool.and_eq_true_iff.mp m3
  obtain ⟨m1, u1⟩ := Bool.and_eq_true_iff.mp m2
  exact { d_is_integer := c.def_ 0, g_is_integer := He.glo_ok X G (c.fact 0), d_is_between := c.def_ 1, g_is_between := He.glo_ok X G (c.fact 1), d_is_tuple := c.def_ 2, g_is_tuple := He.glo_ok X G (c.fact 2), d_is_word := c.def_ 3, g_is_word := He.glo_ok X G (c.fact 3), d_divisor_of := c.def_ 4, g_divisor_of := He.glo_ok X G (c.fact 4), d_fraction := c.def_ 5, g_fraction := He.glo_ok X G (c.fact 5), d_is_units := c.def_ 6, g_is_units := He.glo_ok X G (c.fact 6), d_check_units := c.def_ 7, g_check_units := He.glo_ok X G (c.fact 7), d_is_share := c.def_ 8, g_is_share := He.glo_ok X G (c.fact 8), d_check_share := c.def_ 9, g_check_share := He.glo_ok X G (c.fact 9), d_rounded := c.def_ 10, g_rounded := He.glo_ok X G (c.fact 10), d_shown := c.def_ 11, g_shown := He.glo_ok X G (c.fact 11), d_halves := c.def_ 12, g_halves := He.glo_ok X G (c.fact 12), d_stretch := c.def_ 13, g_stretch := He.glo_ok X G (c.fact 13), d_l_pot := c.def_ 14, g_l_pot := He.glo_ok X G (c.fact 14), d_l_take := c.def_ 15, g_l_take := He.glo_ok X G (c.fact 15), d_l_of := c.def_ 16, g_l_of := He.glo_ok X G (c.fact 16), d_l_cells := c.def_ 17, g_l_cells := He.glo_ok X G (c.fact 17), d_l_units := c.def_ 18, g_l_units := He.glo_ok X G (c.fact 18), d_l_is_int := c.def_ 19, g_l_is_int := He.glo_ok X G (c.fact 19), d_l_told := c.def_ 20, g_l_told := He.glo_ok X G (c.fact 20), d_l_odd := c.def_ 21, g_l_odd := He.glo_ok X G (c.fact 21), d_l_bent := c.def_ 22, g_l_bent := He.glo_ok X G (c.fact 22), d_l_is_units := c.def_ 23, g_l_is_units := He.glo_ok X G (c.fact 23), d_l_is_due := c.def_ 24, g_l_is_due := He.glo_ok X G (c.fact 24), d_l_shown_due := c.def_ 25, g_l_shown_due := He.glo_ok X G (c.fact 25), d_l_stretch_due := c.def_ 26, g_l_stretch_due := He.glo_ok X G (c.fact 26), d_l_right := c.def_ 27, g_l_right := He.glo_ok X G (c.fact 27), d_law := c.def_ 28, g_law := He.glo_ok X G (c.fact 28), g_AskedError := He.glo_ok X G (c.fact 29), g_BadUnits := He.glo_ok X G (c.fact 30), g_BadCount := He.glo_ok X G (c.fact 31), g_BadShare := He.glo_ok X G (c.fact 32), xi := cx.xi 0 (d := ⟨"!", fileT, "", defArgs s_AskedError___init__, defBody s_AskedError___init__, defScope s_AskedError___init__⟩) rfl rfl hfile, top := htop, c_PAIR := He.int_ok X G (c.fact 33), c_NEAR := He.str_ok X G (c.fact 34), c_EVEN := He.str_ok X G (c.fact 35), c_DOWN := He.str_ok X G (c.fact 36), c_UP := He.str_ok X G (c.fact 37), c_HOWS := He.glo_ok X G (c.fact 38), c_NONE := He.str_ok X G (c.fact 39), c_SOME := He.str_ok X G (c.fact 40), c_LEAST_UNITS := He.int_ok X G (c.fact 41), c_MOST_UNITS := He.int_ok X G (c.fact 42), z_abs := He.free_ok X G (c.fact 43), z_all := He.free_ok X G (c.fact 44), z_bool := He.free_ok X G (c.fact 45), z_divmod := He.free_ok X G (c.fact 46), z_int := He.free_ok X G (c.fact 47), z_isinstance := He.free_ok X G (c.fact 48), z_len := He.free_ok X G (c.fact 49), z_list := He.free_ok X G (c.fact 50), z_max := He.free_ok X G (c.fact 51), z_min := He.free_ok X G (c.fact 52), z_range := He.free_ok X G (c.fact 53), z_repr := He.free_ok X G (c.fact 54), z_str := He.free_ok X G (c.fact 55), z_super := He.free_ok X G (c.fact 56), z_tuple := He.free_ok X G (c.fact 57), tb_l_right := TBs _ (.head _), tm_l_right := TMs _ (.head _), x_AskedError := xcB_ok m1, y_AskedError := isxB_ok u1, x_BadUnits := xcB_ok u2, y_BadUnits := isxB_ok u3, x_BadCount := xcB_ok u4, y_BadCount := isxB_ok u5, x_BadShare := xcB_ok u6, y_BadShare := isxB_ok u7, xm := xsB_ok u8, yv := u9, sys := sysB_ok u10, t_HOWS := fun H => He.tupB_ok u11 H }
omit [Tb] in
theorem law_fd {K : PySem.W.Frag} {h : Heap} {mg : Str → Option Value} {w : World} {h2 : Heap} (X : K.In h) (G : h.Ns mainGlobals mg) (cx : SaysP fa fn ex pr tf w h2 K) : mg "law" = some (.ref (He.ga K "law")) ∧ ∃ fd, FnP K "law" s_law (He.ga K "law") fd :=
  have c := cx.d
  ⟨He.glo_ok X G (c.fact 28), c.def_ 28⟩
end Ak
open PySem PySem.W PySem.Calls PyProof.Rows
theorem PySem.Challenge.cw_anyasked_k04_units_shares_and_counts_ref_holds : PySem.Challenge.rw_anyasked_k04_units_shares_and_counts_ref.Holds := by
  w_on; o_law
  refine HandSHeadRun.head_any (r := OpenLaw.row PySem.Challenge.rw_anyasked_k04_units_shares_and_counts_ref) (q := view (OpenLaw.row PySem.Challenge.rw_anyasked_k04_units_shares_and_counts_ref).prog [46]) (H := Ak.hk) (ob := Ak.ob) (M := 40000) (loose := Ak.names) (d := HandSHeadRun.topDef (OpenLaw.row PySem.Challenge.rw_anyasked_k04_units_shares_and_counts_ref).prog 46) (kwd := []) Ak.ob_eq
    (by kernel_rfl) (fun s => by kernel_rfl) Ak.run (by kernel_rfl) (by kernel_rfl) (by kernel_rfl) (by rfl) (by first | assumption | decide +kernel) (by decide +kernel) ⟨rfl, rfl, rfl, rfl, rfl, by decide +kernel⟩ ?hw ?hc
  case hw => w_witness2
  case hc =>
    refine Ak.walk_GT (l := PySem.Challenge.rw_anyasked_k04_units_shares_and_counts_ref) (n := 63) (k := 11) (x := "_law_script") rfl (by decide) (by kernel_rfl) ⟨rfl, by decide, by decide⟩ ?F
    intro w mg fa h Y G hmg0
    obtain ⟨K, KX, c⟩ := Y
    have hmg : mg ("law" : PySem.Str) = some (.ref fa) := by
      have e : (HandSHeadRun.topDef (OpenLaw.row PySem.Challenge.rw_anyasked_k04_units_shares_and_counts_ref).prog 46).name = ("law" : PySem.Str) := by kernel_rfl
      rw [← e]
      exact hmg0
    obtain ⟨g_law, fd, F⟩ := Ak.law_fd KX G c
    have e := hmg.symm.trans g_law
    cases e
    let inst : Ak.Tb := ⟨[(Ak.lamP K "_law_right", Ak.lamQ "_law_right")], fun p hp q hq _ => by rw [List.mem_singleton.mp hp, List.mem_singleton.mp hq]⟩
    have b := L2.FunD.bindsA (ps := ["_law_script"]) F fun _ _ _ _ _ _ us hl => match us, hl with | [_], _ => rfl
    refine ⟨K, fd, Ak.spLaw K, Ak.tf.map (He.cT K), KX, fun p hp => ?_, fun p hp => ?_, fun p hp => ?_, fun s v => b s [v] rfl, fun H a ns hl hH hS => ⟨a, ns, rfl, hS, Ak.mkF_sub fun p hp => ?_, fun _ => rfl⟩, fun base _ _ TB => Ak.ok_law (Ak.txt_of (base := base) (P := OpenLaw.prog PySem.Challenge.rw_anyasked_k04_units_shares_and_counts_ref) (fun p hp => TB _ (List.mem_map.mpr ⟨p, hp, rfl⟩)) (fun p hp => ?_) (by decide +kernel) (by decide +kernel) KX G c) F⟩
    · obtain ⟨q, hq, rfl⟩ := List.mem_map.mp hp
      exact c.empty q hq
    · obtain ⟨q, hq, rfl⟩ := List.mem_map.mp hp
      exact c.out q hq
    · obtain ⟨q, hq, rfl⟩ := List.mem_map.mp hp
      exact c.hd q hq
    · rw [List.mem_singleton.mp hp]
      exact LamX.TabS.nil (hH _ (.head _))
    · rw [List.mem_singleton.mp hp]
      exact .head _

