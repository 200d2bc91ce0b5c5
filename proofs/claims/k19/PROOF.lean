import PyProof.Rows.All
import Wide.All
import OpenK.AllK
import Wide.FinOn
import KE.KStateDown
import Lean
import HandS.ForMost
import HandS.Exc
import HandS.ExcOwn
import HandS.TryOnly
import HandS.Walk
import HandS.Property
import HandS.TupAny
import HandS.WordsExc
import HandS.Wide
import HandS.WideBits
import HandS.Conv
import HandS.IsInst
import HandS.RaiseMore
import HandS.FStrTup
import KE.KTupSum
import HandS.Defaults
import HandS.Head0
import HandS.Head1
import HandS.Head2
import HandS.HeadEnd
import HandS.HeadHook1
import HandS.HeadHook2
import HandS.HeadHook3
import HandS.HeadHook4
import HandS.Star
import HandS.Zip
import HandS.TupMul
import HandS.Deep
import HandS.TupLe
import HandS.Lambda
import HandS.EndTab
import HandS.NestedK
import PySem.Challenge.RW_anyasked_k19_whole_what_fits_by_own_look
set_option Elab.async false
set_option linter.all false
set_option maxRecDepth 100000
set_option maxHeartbeats 4000000

namespace Ak
open PySem PySem.Spec PyProof.Rows L2
/-! ### defs whose callers repr nothing just now: what is known of the stack -/
structure FnG (P : Program) (w : World) (K : PySem.W.Frag) (mg : Str → Option Value) (base : Heap) (k : Nat) (f : Addr) (fd : FuncData) (ps : List Str) (sp : Sp) : Prop where
  many : ∀ vs H Q E, sp vs H Q E → vs.length = ps.length
  goes : ∀ (A : Around) (outer : List Env) (s : Shared) (H : Hp) (args : Args) (us : List Value) (vs : List V) (Q : VK) (E : XK), Room k A → A.guards = some [] → Env0 P w K mg base A outer s H → BindsTo s fd args (ps.zip us) → Vals vs us → sp vs H Q E →
    codeAny (model P w) A (.call (.ref f) args) (CR (L2.CX P w) outer P w H s Q E) s
theorem FnG.up {P : Program} {w : World} {K : PySem.W.Frag} {mg : Str → Option Value} {base : Heap} {j k : Nat} {f : Addr} {fd : FuncData} {ps : List Str} {sp : Sp} (F : FnG P w K mg base j f fd ps sp) (le : j ≤ k) : FnG P w K mg base k f fd ps sp :=
  ⟨F.many, fun A outer s H args us vs Q E room => F.goes A outer s H args us vs Q E (room.mono le)⟩
section
variable {P : Program} {w : World} {K : PySem.W.Frag} {mg : Str → Option Value} {base : Heap}
theorem okG {x qual : Str} {params : Arguments} {body : List Stmt} {scope : Scope} {dvs : List V} {kws : List (Str × V)} {f : Addr} {fd : FuncData} {N ps : List Str} {k : Nat} {sp : Sp} (F : FunD K x qual params body scope dvs kws f fd) (S : FnScope N ps scope) (many : ∀ vs H Q E, sp vs H Q E → vs.length = ps.length)
    (walk : ∀ (cdv : Value) (A : Around) (outer : List Env) (s : Shared) (H : Hp) (vs : List V) (Q : VK) (E : XK), Room k (A.deeper (envOfC qual scope s.heap.objs.size f cdv)) → A.guards = some [] → sp vs H Q E →
      ∃ t, PSs (cxOf (L2.CX P w) P w K mg base N qual scope f cdv A outer s H E) body t ∧ t { nx := fun _ H' => Q .non H', rt := Q } (L2.start N vs) H) : FnG P w K mg base (k + 1) f fd ps sp := by
  obtain ⟨oc, od, dV, kV, doc, pm, an, cdv, ct, osl, rfl, there, code, _⟩ := F.ex
  refine ⟨many, fun A outer s H args us vs Q E room gd e0 bound rel want => ?_⟩
  have KX : K.In s.heap := e0.mod.kin.keeps fun b o z => (e0.bs b o z).1
  have nolim : s.heap.NoLimit := e0.mod.nolimit.keeps fun b o z => (e0.bs b o z).1
  have kinds : ((ps.zip us).all fun y => scope.names.lookup y.1 == some .local || scope.names.lookup y.1 == some .cell) = true := by
    rw [List.all_eq_true]
    intro y hy
    rcases S.par y.1 (List.of_mem_zip (a := y.1) (b := y.2) hy).1 with z | z
    · rw [z]
      rfl
    · rw [z]
      rfl
  refine Att.call_fn (binds := ps.zip us) KX nolim there code room.depth bound kinds (fun s1 inC => ?_) S.co S.gen S.kind
  obtain ⟨t, runs, goal⟩ := walk cdv A outer s H vs Q E (room.deeper _) gd want
  have J := inv_start (CX := L2.CX P w) (E := E) S room.hd e0 (many _ _ _ _ want) rel inC
  refine wpAny_mono (runs.run [] s1 (L2.start N vs) H _ J goal) (fun fl s2 z => ?_) (fun e s2 z => z)
  cases fl with
  | ret u =>
    obtain ⟨v, σ2, H2, J2, r2, q2⟩ := z
    exact ⟨v, H2, J2.os, J2.bare, J2.base, J2.hok, r2, q2⟩
  | next =>
    obtain ⟨σ2, H2, J2, q2⟩ := z
    exact ⟨.non, H2, J2.os, J2.bare, J2.base, J2.hok, rfl, q2⟩
  | brk =>
    obtain ⟨_, _, _, no⟩ := z
    exact no.elim
  | cont =>
    obtain ⟨_, _, _, no⟩ := z
    exact no.elim
end
/-! ### calls of defs by their names -/
structure Cal (P : Program) (w : World) (K : PySem.W.Frag) (mg : Str → Option Value) (base : Heap) (k : Nat) (x : Str) (ps : List Str) (sp : Sp) : Prop where
  ex : ∃ f fd, FnG P w K mg base k f fd ps sp ∧ mg x = some (.ref f) ∧ PySem.W.keepIn K (.ref f) = true ∧ Binds K fd ps []
section
variable {X : Cx}
theorem runG {k : Nat} {f : Addr} {fd : FuncData} {ps : List Str} {sp : Sp} {pins : List (Addr × Obj)} {σ : L2.St} {H : Hp} {s : Shared} {Q : VK} {E : XK} {us : List Value} {vs : List V} (G : FnG X.prog X.w X.K X.mg X.base k f fd ps sp) (room : Room k X.A) (gd : X.A.guards = some []) (b : Binds X.K fd ps [])
    (px : Passes (L2.CX X.prog X.w) X E) (I : Inv X pins σ H s) (rel : Vals vs us) (want : sp vs H Q E) : wpAny (model X.prog X.w) X.A (call (.ref f) us) (EP X pins σ Q) X.xe s := by
  have hl : us.length = ps.length := rel.length.symm.trans (G.many _ _ _ _ want)
  have bt : BindsTo s fd ⟨us, []⟩ (ps.zip us) := by
    have z := b s us I.kIn (by rw [List.append_nil]; exact hl)
    rw [List.append_nil] at z
    exact z
  refine wpAny_call (codeAny_mono (G.goes X.A X.stack s H ⟨us, []⟩ us vs Q E room gd I.env0 bt rel want) fun out s2 z => ?_)
  match out, z with
  | .error e, z => exact px pins σ H s e s2 I z
  | .ok (.ret u), z => exact I.after z
  | .ok .next, z => exact z.elim
  | .ok .brk, z => exact z.elim
  | .ok .cont, z => exact z.elim
/-- a call whose errors are wanted as E -/
theorem pe_calE {k : Nat} {x : Str} {ps : List Str} {sp : Sp} {E : XK} {e : Expr} {es : List Expr} {t : TA} {p pos : Pos} (px : Passes (L2.CX X.prog X.w) X E) (C : Cal X.prog X.w X.K X.mg X.base k x ps sp) (room : Room k X.A) (gd : X.A.guards = some []) (gl : Gl X x) (args : PA X (e :: es) t)
    (n1 : (x == ("__debug__" : Str)) = false := by decide) (n2 : starEach (e :: es) X.env = (false, eval e X.env) :: starEach es X.env := by rfl) (n3 : (backTo pos (starEach es X.env)).any (·.1) = false := by rfl) :
    PE X (.Call (.Name x p) (e :: es) [] pos) (tCall sp [] E t) := by
  obtain ⟨f, fd, G, at_, kp, b⟩ := C.ex
  refine ⟨fun pins s σ H Q I want => wpAny_Call_Name_kw (ld_glob I gl at_ ?_ n1)⟩
  refine PySem.W.callWith_K (h₀ := X.base) I.ok.mod.kin kp (thn (args.run pos pins s σ H _ I want) fun us s1 z => ?_) n2 n3
  obtain ⟨vs, H1, I1, rel, q⟩ := z
  refine ⟨I1.kIn, runG G room gd b px I1 rel ?_⟩
  have q2 : sp (vs ++ []) H1 Q E := q
  rw [List.append_nil] at q2
  exact q2
theorem pe_cal {k : Nat} {x : Str} {ps : List Str} {sp : Sp} {e : Expr} {es : List Expr} {t : TA} {p pos : Pos} (C : Cal X.prog X.w X.K X.mg X.base k x ps sp) (room : Room k X.A) (gd : X.A.guards = some []) (gl : Gl X x) (args : PA X (e :: es) t)
    (n1 : (x == ("__debug__" : Str)) = false := by decide) (n2 : starEach (e :: es) X.env = (false, eval e X.env) :: starEach es X.env := by rfl) (n3 : (backTo pos (starEach es X.env)).any (·.1) = false := by rfl) :
    PE X (.Call (.Name x p) (e :: es) [] pos) (tCall sp [] E0 t) := pe_calE passL C room gd gl args n1 n2 n3
/-! ### repr of data -/
mutual
theorem dp_noDict {K : PySem.W.Frag} {H : Hp} : ∀ (d : PyData) (v : V), Dp K H v d → d.hasDict = false
  | _, _, .non => rfl
  | _, _, .bl _ => rfl
  | _, _, .int _ => rfl
  | _, _, .str _ => rfl
  | _, _, .lst _ h => by
    simp only [PyData.hasDict]
    exact dp_noDictAll _ _ h
  | _, _, .tup _ h => by
    simp only [PyData.hasDict]
    exact dp_noDictAll _ _ h
theorem dp_noDictAll {K : PySem.W.Frag} {H : Hp} : ∀ (ds : List PyData) (vs : List V), DpAll K H vs ds → PyData.hasDictAll ds = false
  | _, _, .nil => rfl
  | _, _, .cons h r => by
    simp only [PyData.hasDictAll, dp_noDict _ _ h, dp_noDictAll _ _ r, Bool.or_false]
end
/-- a value that repr takes -/
structure Shw (K : PySem.W.Frag) (H : Hp) (x : V) (d : PyData) : Prop where
  dp : Dp K H x d
  ok : d.showable = true
  sz : d.shown.length ≤ sizeLine
  dep : d.depth ≤ 40
def rReprD (K : PySem.W.Frag) : List V → Hp → VK → Prop := fun xs H Q => ∃ x d, xs = [x] ∧ Shw K H x d ∧ Q (.str d.shown) H
theorem call_repr_data {prog : Program} {w : World} {A : Around} {E : Value → Shared → Prop} {s : Shared} {Q : Value → Shared → Prop} {v : Value} {d : PyData} {as : List Addr} (r : Reads s.heap v d as) (hs : d.showable = true) (hd : d.hasDict = false) (hz : d.shown.length ≤ sizeLine) (gd : A.guards = some []) (hu : A.units + (d.depth + 2) < cLine)
    (q : ∀ h' u tk, (∀ b o, s.heap.get? b = some o → h'.get? b = some o) → Q (.str d.shown u) { s with heap := h', toks := tk }) : wpAny (model prog w) A (call (.builtin "repr") [v]) Q E s := by
  cases r with
  | none => exact PySem.P.repr_of_none (q s.heap _ _ fun _ _ z => z)
  | bool b => exact PySem.P.repr_of_bool (by simpa only [PyData.shown] using q s.heap _ _ fun _ _ z => z)
  | int i t => exact PySem.P.repr_of_int (by simpa [PyData.showable] using hs) (by simpa only [PyData.shown] using q s.heap _ _ fun _ _ z => z)
  | str x t => exact PySem.P.repr_of_str (by simpa only [PyData.shown] using q s.heap _ _ fun _ _ z => z) (by simpa only [PyData.shown] using hz)
  | tuple h1 h2 h3 h4 =>
    rename_i a o items n xs
    have hz2 : (tupleText (PyData.shownAll xs)).length ≤ sizeLine := by simpa only [PyData.shown] using hz
    obtain ⟨bs, hb, hk⟩ := ReprAllK.of_readsAll (prog := prog) (w := w) h4 (by simpa [PyData.showable] using hs) (fun z => by rw [show PyData.hasDictAll xs = false by simpa [PyData.hasDict] using hd] at z; cases z) (fun t ht => Nat.le_trans (tupleText_mem_le ht) hz2)
    have rr : Reads s.heap (.ref a) (.tuple xs) _ := .tuple h1 h2 h3 h4
    have na : a ∉ bs := not_mem_of_deeper rr (by simp only [PyData.depth]; omega) hb
    simp only [PyData.depth] at hu
    refine call_repr_slot (by omega) ⟨_, h1, h2⟩ F.slot_tuple_repr (call_tuple_reprK h1 h2 h3 na hk gd (fun b _ => Clear.nil b) (by show A.units + 1 + _ < _; omega) (fun _ _ z => z) (fun h' u tk k => ⟨_, _, rfl, ?_⟩) hz2)
    simpa only [PyData.shown] using q h' u tk k
  | list h1 h2 h3 h4 =>
    rename_i a o items n xs as
    have hz2 : (listText (PyData.shownAll xs)).length ≤ sizeLine := by simpa only [PyData.shown] using hz
    obtain ⟨bs, hb, hk⟩ := ReprAllK.of_readsAll (prog := prog) (w := w) h4 (by simpa [PyData.showable] using hs) (fun z => by rw [show PyData.hasDictAll xs = false by simpa [PyData.hasDict] using hd] at z; cases z) (fun t ht => Nat.le_trans (listText_mem_le ht) hz2)
    have rr : Reads s.heap (.ref a) (.list xs) _ := .list h1 h2 h3 h4
    have na : a ∉ bs := not_mem_of_deeper rr (by simp only [PyData.depth]; omega) hb
    simp only [PyData.depth] at hu
    obtain ⟨l⟩ := items
    cases l with
    | nil =>
      have h4' : ReadsAll s.heap [] xs _ := h4
      cases h4'
      refine call_repr_slot (by omega) ⟨_, h1, h2⟩ F.slot_list_repr.toG (call_list_repr_empty ⟨_, h1, h2⟩ h1 h3 ⟨_, _, rfl, ?_⟩)
      simpa only [PyData.shown, PyData.shownAll, listText_nil] using q s.heap _ _ fun _ _ z => z
    | cons y l =>
      refine call_repr_slot (by omega) ⟨_, h1, h2⟩ F.slot_list_repr.toG (call_list_reprK h1 h2 h3 na (by simpa using hk.length_eq) (fun i y e => hk.item i y (by simpa using e)) gd (fun b _ => Clear.nil b) (by show A.units + 1 + _ < _; omega) (fun _ _ z => z) (fun h' u tk k => ⟨_, _, rfl, ?_⟩) hz2)
      simpa only [PyData.shown] using q h' u tk k
  | dict h1 h2 h3 h4 h5 =>
    simp only [PyData.hasDict] at hd
    cases hd
theorem c_reprD {k : Nat} (room : Room k X.A) (gd : X.A.guards = some []) : CallR X (.builtin "repr") (rReprD X.K) := by
  intro pins s σ H xs us Q I rel want
  obtain ⟨x, d, rfl, sh, q⟩ := want
  obtain ⟨u, rfl, ru⟩ := vals1 rel
  obtain ⟨as, rd⟩ := Dp.reads I d x u sh.dp ru
  have hu := room.units
  have hd := sh.dep
  exact call_repr_data rd sh.ok (dp_noDict _ _ sh.dp) sh.sz gd (by omega) fun h' t tk k => ⟨.str d.shown, H, I.kept k, ⟨t, rfl⟩, q⟩
end

section
variable {X : Cx}
theorem pe_con {x : Str} {v : V} {u : Tok → Value} {pos : Pos} (hm : ∃ t, X.mg x = some (u t)) (hg : Gl X x) (r : ∀ t, RelV v (u t) := by intro t; exact ⟨t, rfl⟩) (hd : (x == ("__debug__" : Str)) = false := by decide) : PE X (.Name x pos) (tC v) := by
  obtain ⟨t, e⟩ := hm
  exact pe_glob hg e (r t) hd
theorem pe_ci {x : Str} {i : Int} {pos : Pos} (hm : ∃ t, X.mg x = some (.int i t)) (hg : Gl X x) (hd : (x == ("__debug__" : Str)) = false := by decide) : PE X (.Name x pos) (tC (.int i)) := by
  obtain ⟨t, e⟩ := hm
  exact pe_glob hg e ⟨t, rfl⟩ hd
theorem pe_cs {x s : Str} {pos : Pos} (hm : ∃ t, X.mg x = some (.str s t)) (hg : Gl X x) (hd : (x == ("__debug__" : Str)) = false := by decide) : PE X (.Name x pos) (tC (.str s)) := by
  obtain ⟨t, e⟩ := hm
  exact pe_glob hg e ⟨t, rfl⟩ hd
/-! ### rules whose readings name the written part K -/
section
variable {K : PySem.W.Frag}
theorem x_repr {k : Nat} (e : X.K = K) (room : Room k X.A) (gd : X.A.guards = some []) : CallR X (.builtin "repr") (rReprD K) := by subst e; exact c_reprD room gd
theorem x_ix (e : X.K = K) : IxR X (rIx K) := by subst e; exact ix_seq
theorem x_isi (e : X.K = K) : CallR X (.builtin "isinstance") (rIsi K) := by subst e; exact call_isi
theorem x_all (e : X.K = K) (hc : X.calm = true) : CallR X (.builtin "all") (rAll K) := by subst e; exact cr_all hc
theorem x_any (e : X.K = K) (hc : X.calm = true) : CallR X (.builtin "any") (rAny K) := by subst e; exact cr_any hc
theorem x_sum (e : X.K = K) (hc : X.calm = true) : CallR X (.builtin "sum") (rSum K) := by subst e; exact cr_sum hc
theorem x_in (e : X.K = K) : OpR X (compareOp .In) (rIn K false) := by subst e; exact op_in_seq
theorem x_notIn (e : X.K = K) : OpR X (compareOp .NotIn) (rIn K true) := by subst e; exact op_notIn_seq
def rLenS (K : PySem.W.Frag) : List V → Hp → VK → Prop := fun xs H Q => ∃ p ys, xs = [.ref p] ∧ (SqL K H p ys ∨ SqT K H p ys) ∧ Q (.int ys.length) H
theorem x_len (e : X.K = K) : CallR X (.builtin "len") (rLenS K) := by subst e; exact call_len_seq
theorem xi_list {tg it : Expr} {tl : TE} (e : X.K = K) (h : PE X it tl) : PI X tg it (iList K tl) := by subst e; exact pi_list h
theorem xi_tup {tg it : Expr} {tl : TE} (e : X.K = K) (h : PE X it tl) : PI X tg it (iTup K tl) := by subst e; exact pi_tup h
def iSeq (K : PySem.W.Frag) (tl : TE) : TI := fun σ H R => iList K tl σ H R ∨ iTup K tl σ H R
theorem xi_seq {tg it : Expr} {tl : TE} (e : X.K = K) (h : PE X it tl) : PI X tg it (iSeq K tl) := ⟨fun pins s σ H R I z => by
  rcases z with z | z
  · exact (xi_list e h).run pins s σ H R I z
  · exact (xi_tup e h).run pins s σ H R I z⟩
theorem xg_tup {es : List Expr} {k : Nat} {t : TGs} {n : Nat} {pos : Pos} (e : X.K = K) (hc : X.calm = true) (h : PGs X es t) (hn : (assignEach es X.env).length = n := by rfl) (hst : (assignEach es X.env).findIdx? (·.1) = none := by rfl) : PG X (.Tuple es k pos) (gTup K n t) := by subst e; exact pg_tup hc h hn hst
end
/-! ### operators on greater ints -/
def CPowW (i j : Int) : Prop := 0 ≤ j ∧ j ≤ 100 ∧ i.natAbs < 2 ^ 4096
theorem op_powW : OpR X (binaryOp .Pow) (rI CPowW fun i j => .int (i ^ j.toNat)) := opI fun i j _ _ _ _ _ hc q => by
  obtain ⟨h1, h2, h3⟩ := hc
  have b : Builtin.Int.intBits i ≤ 4096 := by
    have hl : i.natAbs.log2 < 4096 := PySem.Flt.log2_lt_of (by decide) h3
    unfold Builtin.Int.intBits
    split <;> omega
  refine pow_int h1 ?_ q
  have b2 : (Builtin.Int.intBits i : Int) ≤ 4096 := by omega
  have : (Builtin.Int.intBits i : Int) * j ≤ 4096 * 100 := Int.mul_le_mul b2 h2 h1 (by decide)
  exact Int.le_trans this (by decide)
/-! ### readings by names -/
def rAddI : R2 := rI0 fun i j => .int (i + j)
theorem o_add : OpR X (binaryOp .Add) rAddI := op_add
def rSubI : R2 := rI0 fun i j => .int (i - j)
theorem o_sub : OpR X (binaryOp .Sub) rSubI := op_sub
def rMulI : R2 := rI (fun i j => IntMulOk i j) fun i j => .int (i * j)
theorem o_mul : OpR X (binaryOp .Mult) rMulI := opI fun _ _ _ _ _ _ _ ok q => mul_int q ok
def rFdivI : R2 := rI CDivW fun i j => .int (i / j)
theorem o_fdiv : OpR X (binaryOp .FloorDiv) rFdivI := op_fdivW
def rModI : R2 := rI (fun _ j => 0 < j) fun i j => .int (i % j)
theorem o_mod : OpR X (binaryOp .Mod) rModI := op_mod
def rPowI : R2 := rI CPowW fun i j => .int (i ^ j.toNat)
theorem o_pow : OpR X (binaryOp .Pow) rPowI := op_powW
def rLtI : R2 := rI0 fun i j => .bl (decide (i < j))
theorem o_lt : OpR X (compareOp .Lt) rLtI := op_lt
def rLeI : R2 := rI0 fun i j => .bl (decide (i ≤ j))
theorem o_le : OpR X (compareOp .LtE) rLeI := op_le
def rGtI : R2 := rI0 fun i j => .bl (decide (j < i))
theorem o_gt : OpR X (compareOp .Gt) rGtI := op_gt
def rGeI : R2 := rI0 fun i j => .bl (decide (j ≤ i))
theorem o_ge : OpR X (compareOp .GtE) rGeI := op_ge
def rIsN : R2 := fun x y H Q => y = .non ∧ Q (.bl (decide (x = .non))) H
theorem o_isN : OpR X (compareOp .Is) rIsN := op_isN
def rNotN : R2 := fun x y H Q => y = .non ∧ Q (.bl (!decide (x = .non))) H
theorem o_notN : OpR X (compareOp .IsNot) rNotN := op_notN
def rCatL : R2 := rCat
theorem o_cat : OpR X (binaryOp .Add) rCatL := op_cat
def rNegI : V → Hp → VK → Prop := rU fun i => .int (-i)
theorem u_neg : UnR X (unaryOp .USub) rNegI := un_neg
def rInt1 : List V → Hp → VK → Prop := fun xs H Q => (∃ i, xs = [.int i] ∧ Q (.int i) H) ∨ ∃ k, xs = [.bl k] ∧ Q (.int (if k then 1 else 0)) H
theorem c_int1 : CallR X (.type "int") rInt1 := call_int1
def rAbs : List V → Hp → VK → Prop := fun xs H Q => ∃ i, xs = [.int i] ∧ Q (.int (if i < 0 then -i else i)) H
theorem c_abs : CallR X (.builtin "abs") rAbs := call_abs
def rMax2 : List V → Hp → VK → Prop := fun xs H Q => ∃ i j, xs = [.int i, .int j] ∧ Q (.int (if j > i then j else i)) H
theorem c_max2 (hc : X.calm = true) : CallR X (.builtin "max") rMax2 := call_max2 hc
def rMin2 : List V → Hp → VK → Prop := fun xs H Q => ∃ i j, xs = [.int i, .int j] ∧ Q (.int (if j < i then j else i)) H
theorem c_min2 (hc : X.calm = true) : CallR X (.builtin "min") rMin2 := call_min2 hc
def rDivmod : List V → Hp → VK → Prop := fun xs H Q => ∃ i j, xs = [.int i, .int j] ∧ CDivP i j ∧ ∀ p, H p = none → Q (.ref p) (upd H p (.tup [.int (i / j), .int (i % j)]))
theorem c_divmod : CallR X (.builtin "divmod") rDivmod := call_divmodW
end
/-! ### steps of readings -/
def NewT (xs : List V) (H : Hp) (Q : VK) : Prop := xs.length ≤ sizeLine ∧ ∀ p, H p = none → Q (.ref p) (upd H p (.tup xs))
def NewR (a b : Int) (H : Hp) (Q : VK) : Prop := RgOk a b ∧ ∀ q, H q = none → Q (.ref q) (upd H q (.lst (rgV a b)))
def NewL (xs : List V) (H : Hp) (Q : VK) : Prop := xs.length ≤ sizeLine ∧ ∀ p, H p = none → Q (.ref p) (upd H p (.lst xs))
section
variable {σ : L2.St} {H : Hp} {Q : VK} {D : Ends} {ta tb tc te : TE} {tt tu : TT} {t1 t2 : TS} {i j : Int} {v x y : V} {K : PySem.W.Frag} {n : Nat} {p : Addr} {xs : List V}
theorem w_seq (h : t1 { D with nx := t2 D } σ H) : tSeq t1 t2 D σ H := h
theorem w_next (h : D.nx σ H) : tNext D σ H := h
theorem w_set {k : Nat} (h : te σ H fun x H1 => D.nx (σ.set k (some x)) H1) : tAsg te (gName k) D σ H := h
theorem w_asgS {ti to : TE} {s : TSet} (h : te σ H fun x H1 => to σ H1 fun o H2 => ti σ H2 fun i H3 => s o i x H3 fun H4 => D.nx σ H4) : tAsg te (gSub to ti s) D σ H := h
theorem w_ret (h : te σ H D.rt) : tRet te D σ H := h
theorem w_drop (h : te σ H fun _ H1 => D.nx σ H1) : tDrop te D σ H := h
theorem w_ifS (h : tt σ H fun b H1 => if b = true then t1 D σ H1 else t2 D σ H1) : tIfS tt t1 t2 D σ H := h
theorem w_op {r : R2} (h : ta σ H fun x H1 => tb σ H1 fun y H2 => r x y H2 Q) : tOp r ta tb σ H Q := h
theorem w_un {r : V → Hp → VK → Prop} (h : ta σ H fun x H1 => r x H1 Q) : tUn r ta σ H Q := h
theorem w_var (h : σ[n]? = some (some v)) (q : Q v H) : tVar n σ H Q := ⟨v, h, q⟩
theorem w_c (q : Q v H) : tC v σ H Q := q
theorem w_I0 {g : Int → Int → V} (q : Q (g i j) H) : rI0 g (.int i) (.int j) H Q := ⟨i, j, rfl, rfl, q⟩
theorem w_I {C : Int → Int → Prop} {g : Int → Int → V} (c : C i j) (q : Q (g i j) H) : rI C g (.int i) (.int j) H Q := ⟨i, j, rfl, rfl, c, q⟩
theorem w_U {g : Int → V} (q : Q (g i) H) : rU g (.int i) H Q := ⟨i, rfl, q⟩
theorem w_add (q : Q (.int (i + j)) H) : rAddI (.int i) (.int j) H Q := ⟨i, j, rfl, rfl, q⟩
theorem w_sub (q : Q (.int (i - j)) H) : rSubI (.int i) (.int j) H Q := ⟨i, j, rfl, rfl, q⟩
theorem w_mulL (h1 : -18446744073709551616 < i) (h2 : i < 18446744073709551616) (q : Q (.int (i * j)) H) : rMulI (.int i) (.int j) H Q := ⟨i, j, rfl, rfl, CMul.ok (.inl ⟨h1, h2⟩), q⟩
theorem w_mulR (h1 : -18446744073709551616 < j) (h2 : j < 18446744073709551616) (q : Q (.int (i * j)) H) : rMulI (.int i) (.int j) H Q := ⟨i, j, rfl, rfl, CMul.ok (.inr ⟨h1, h2⟩), q⟩
theorem w_mulW (h : CMulW i j) (q : Q (.int (i * j)) H) : rMulI (.int i) (.int j) H Q := ⟨i, j, rfl, rfl, h.ok, q⟩
theorem log_small {i : Int} (h0 : 0 ≤ i) (h : i < 1073741824) : i.natAbs.log2 < 1920 := PySem.Flt.log2_lt_of (by decide) (Nat.lt_of_lt_of_le (show i.natAbs < 2 ^ 30 by omega) (Nat.pow_le_pow_right (i := 30) (j := 1920) (by decide) (by decide)))
theorem w_fdiv (h1 : 0 < j) (h2 : j < 1073741824) (q : Q (.int (i / j)) H) : rFdivI (.int i) (.int j) H Q := ⟨i, j, rfl, rfl, ⟨h1, Nat.lt_trans (log_small (Int.le_of_lt h1) h2) (by decide)⟩, q⟩
theorem w_fdivW (h : CDivW i j) (q : Q (.int (i / j)) H) : rFdivI (.int i) (.int j) H Q := ⟨i, j, rfl, rfl, h, q⟩
theorem w_mod (h1 : 0 < j) (q : Q (.int (i % j)) H) : rModI (.int i) (.int j) H Q := ⟨i, j, rfl, rfl, h1, q⟩
theorem w_modG (h1 : 0 < j) (q : ∀ r, 0 ≤ r → r < j → Q (.int r) H) : rModI (.int i) (.int j) H Q := ⟨i, j, rfl, rfl, h1, q _ (Int.emod_nonneg i (by omega)) (Int.emod_lt_of_pos i h1)⟩
theorem w_pow (h1 : CPowW i j) (q : Q (.int (i ^ j.toNat)) H) : rPowI (.int i) (.int j) H Q := ⟨i, j, rfl, rfl, h1, q⟩
theorem w_lt (q : Q (.bl (decide (i < j))) H) : rLtI (.int i) (.int j) H Q := ⟨i, j, rfl, rfl, q⟩
theorem w_le (q : Q (.bl (decide (i ≤ j))) H) : rLeI (.int i) (.int j) H Q := ⟨i, j, rfl, rfl, q⟩
theorem w_gt (q : Q (.bl (decide (j < i))) H) : rGtI (.int i) (.int j) H Q := ⟨i, j, rfl, rfl, q⟩
theorem w_ge (q : Q (.bl (decide (j ≤ i))) H) : rGeI (.int i) (.int j) H Q := ⟨i, j, rfl, rfl, q⟩
theorem w_isN (q : Q (.bl (decide (x = .non))) H) : rIsN x .non H Q := ⟨rfl, q⟩
theorem w_notN (q : Q (.bl (!decide (x = .non))) H) : rNotN x .non H Q := ⟨rfl, q⟩
theorem w_neg (q : Q (.int (-i)) H) : rNegI (.int i) H Q := ⟨i, rfl, q⟩
theorem w_bl {b : Bool} {R : Bool → Prop} (q : R b) : ∃ k, V.bl b = V.bl k ∧ R k := ⟨b, rfl, q⟩
theorem same_new {q : Addr} {o : HO} (hq : H q = none) : Same H (upd H q o) := fun b u e => by
  rw [upd_ne (ne_of_none e hq)]
  exact e
theorem w_divmod (h1 : 0 < j) (h2 : j < 1073741824) (q : ∀ p H', H p = none → H' p = some (.tup [.int (i / j), .int (i % j)]) → Same H H' → Q (.ref p) H') : rDivmod [.int i, .int j] H Q := ⟨i, j, rfl, ⟨h1, PyProof.noPylong_small (by omega)⟩, fun p hp => q p _ hp upd_same (same_new hp)⟩
theorem w_eq (h : scal x y = true) (q : Q (.bl (decide (x = y))) H) : rEq x y H Q := ⟨h, q⟩
theorem w_ne (h : scal x y = true) (q : Q (.bl (!decide (x = y))) H) : rNe x y H Q := ⟨h, q⟩
theorem w_test {R : Bool → Hp → Prop} (h : te σ H fun x H' => ∃ k, x = .bl k ∧ R k H') : tTest te σ H R := h
theorem w_B {R : Bool → Hp → Prop} (h : te σ H fun x H' => ∃ k, x = .bl k ∧ R k H') : tB te σ H R := h
theorem w_or {R : Bool → Hp → Prop} (h : tt σ H fun c H1 => if c = true then R true H1 else tu σ H1 R) : tOr tt tu σ H R := h
theorem w_and {R : Bool → Hp → Prop} (h : tt σ H fun c H1 => if c = true then tu σ H1 R else R false H1) : tAnd tt tu σ H R := h
theorem w_not {R : Bool → Hp → Prop} (h : tt σ H fun c H1 => R (!c) H1) : tNot tt σ H R := h
theorem w_andV (h : ta σ H fun x H1 => ∃ c, x = .bl c ∧ if c = true then tb σ H1 Q else Q (.bl false) H1) : tAndV ta tb σ H Q := h
theorem w_orV (h : ta σ H fun x H1 => ∃ c, x = .bl c ∧ if c = true then Q (.bl true) H1 else tb σ H1 Q) : tOrV ta tb σ H Q := h
theorem w_notV (h : ta σ H fun x H1 => ∃ c, x = .bl c ∧ Q (.bl (!c)) H1) : tNotV ta σ H Q := h
theorem w_ifE (h : tt σ H fun c H1 => if c = true then ta σ H1 Q else tb σ H1 Q) : tIf tt ta tb σ H Q := h
theorem w_chain {r r' : R2} (h : ta σ H fun x H1 => tb σ H1 fun y H2 => r x y H2 fun z H3 => ∃ k, z = .bl k ∧ (if k = true then tc σ H3 fun w H4 => r' y w H4 Q else Q (.bl false) H3)) : tChain r r' ta tb tc σ H Q := h
theorem w_cb {r : List V → Hp → VK → Prop} {tA : TA} (h : tA σ H fun vs H1 => r vs H1 Q) : tCB r tA σ H Q := h
theorem w_nil {R : List V → Hp → Prop} (h : R [] H) : tNil σ H R := h
theorem w_cons {tA : TA} {R : List V → Hp → Prop} (h : ta σ H fun x H1 => tA σ H1 fun xs H2 => R (x :: xs) H2) : tCons ta tA σ H R := h
theorem w_tup {tA : TA} (h : tA σ H fun xs H1 => NewT xs H1 Q) : tTup tA σ H Q := h
theorem w_lst {tA : TA} (h : tA σ H fun xs H1 => NewL xs H1 Q) : tLst tA σ H Q := h
theorem w_call {sp : Sp} {E : XK} {tA : TA} (h : tA σ H fun vs H1 => sp (vs ++ []) H1 Q E) : tCall sp [] E tA σ H Q := h
theorem w_int1 (q : Q (.int i) H) : rInt1 [.int i] H Q := .inl ⟨i, rfl, q⟩
theorem w_int1b {b : Bool} (q : Q (.int (if b then 1 else 0)) H) : rInt1 [.bl b] H Q := .inr ⟨b, rfl, q⟩
theorem w_int1G {b : Bool} (q : ∀ k, 0 ≤ k → k ≤ 1 → Q (.int k) H) : rInt1 [.bl b] H Q := .inr ⟨b, rfl, q _ (by cases b <;> decide) (by cases b <;> decide)⟩
theorem w_abs (q : Q (.int (if i < 0 then -i else i)) H) : rAbs [.int i] H Q := ⟨i, rfl, q⟩
theorem w_max2 (q : Q (.int (if j > i then j else i)) H) : rMax2 [.int i, .int j] H Q := ⟨i, j, rfl, q⟩
theorem w_min2 (q : Q (.int (if j < i then j else i)) H) : rMin2 [.int i, .int j] H Q := ⟨i, j, rfl, q⟩
theorem w_lenL (h : SqL K H p xs) (q : Q (.int xs.length) H) : rLenS K [.ref p] H Q := ⟨p, xs, rfl, .inl h, q⟩
theorem w_lenT (h : SqT K H p xs) (q : Q (.int xs.length) H) : rLenS K [.ref p] H Q := ⟨p, xs, rfl, .inr h, q⟩
theorem w_reprD {d : PyData} (h : Shw K H x d) (q : Q (.str d.shown) H) : rReprD K [x] H Q := ⟨x, d, rfl, h, q⟩
theorem shw_int (h : i.natAbs.log2 < 1920) : Shw K H (.int i) (.int i) := ⟨.int i, by simp only [PyData.showable]; exact decide_eq_true h, by simp only [PyData.shown]; exact PySem.int_text_fits h, by simp only [PyData.depth]; omega⟩
theorem w_repr (h : i.natAbs.log2 < 1920) (q : Q (.str (toString i)) H) : rReprD K [.int i] H Q := w_reprD (shw_int h) (by simpa only [PyData.shown] using q)
theorem w_ixL (h : SqL K H p xs) (e : atI xs i = some v) (q : Q v H) : rIx K (.ref p) (.int i) H Q := .inl ⟨p, xs, i, v, rfl, rfl, h, e, q⟩
theorem w_ixT (h : SqT K H p xs) (e : atI xs i = some v) (q : Q v H) : rIx K (.ref p) (.int i) H Q := .inr (.inl ⟨p, xs, i, v, rfl, rfl, h, e, q⟩)
theorem w_setL {k : Nat} {R : Hp → Prop} (h : H p = some (.lst xs)) (e : ixN xs.length i = some k) (q : R (upd H p (.lst (xs.set k v)))) : rSetL (.ref p) (.int i) v H R := ⟨p, xs, i, k, rfl, rfl, h, e, q⟩
theorem w_asgT {K : PySem.W.Frag} {m : Nat} {t : TGs} (h : te σ H fun v H1 => ∃ a xs, v = .ref a ∧ SqT K H1 a xs ∧ xs.length = m ∧ t xs σ H1 D.nx) : tAsg te (gTup K m t) D σ H := h
theorem w_gcons {k : Nat} {t : TGs} {r : List V} {R : L2.St → Hp → Prop} (h : t r (σ.set k (some v)) H R) : gCons (gName k) t (v :: r) σ H R := ⟨v, r, rfl, h⟩
theorem w_gnil {R : L2.St → Hp → Prop} (h : R σ H) : gNil [] σ H R := ⟨rfl, h⟩
theorem w_par {a b : Nat} {tA : TA} (h : tA σ H fun vs H1 => ∃ v w, vs = [v, w] ∧ D.nx ((σ.set a (some v)).set b (some w)) H1) : tPar a b tA D σ H := h
theorem w_pair {R : V → V → Prop} (q : R x y) : ∃ v w, [x, y] = [v, w] ∧ R v w := ⟨x, y, rfl, q⟩
theorem w_mknx {a bb cc : L2.St → Hp → Prop} {b : VK} (h : a σ H) : (Ends.mk a b bb cc).nx σ H := h
theorem w_mkrt {a bb cc : L2.St → Hp → Prop} {b : VK} (h : b v H) : (Ends.mk a b bb cc).rt v H := h
theorem w_mkbk {a bb cc : L2.St → Hp → Prop} {b : VK} (h : bb σ H) : (Ends.mk a b bb cc).bk σ H := h
theorem w_mkct {a bb cc : L2.St → Hp → Prop} {b : VK} (h : cc σ H) : (Ends.mk a b bb cc).ct σ H := h
theorem w_if {c : Prop} [Decidable c] {A B : Prop} (h1 : c → A) (h2 : ¬ c → B) : if decide c = true then A else B := by
  by_cases h : c
  · rw [if_pos (decide_eq_true h)]
    exact h1 h
  · rw [if_neg (by simpa using h)]
    exact h2 h
theorem w_ifT {A B : Prop} (h : A) : if true = true then A else B := by
  rw [if_pos rfl]
  exact h
theorem w_ifF {A B : Prop} (h : B) : if false = true then A else B := by
  rw [if_neg Bool.false_ne_true]
  exact h
theorem w_ifNT {A B : Prop} (h : B) : if (!true) = true then A else B := w_ifF h
theorem w_ifNF {A B : Prop} (h : A) : if (!false) = true then A else B := w_ifT h
theorem ne_IS {s : Str} : ¬ V.int i = V.str s := by intro e; cases e
theorem ne_SI {s : Str} : ¬ V.str s = V.int i := by intro e; cases e
theorem ne_IN : ¬ V.int i = V.non := by intro e; cases e
theorem ne_SN {s : Str} : ¬ V.str s = V.non := by intro e; cases e
theorem ne_RN : ¬ V.ref p = V.non := by intro e; cases e
theorem w_ifDT {c : Prop} [Decidable c] {A B : Prop} (h : c) (a : A) : if decide c = true then A else B := w_if (fun _ => a) (fun n => absurd h n)
theorem w_ifDF {c : Prop} [Decidable c] {A B : Prop} (h : ¬ c) (b : B) : if decide c = true then A else B := w_if (fun z => absurd z h) (fun _ => b)
theorem w_ifI {A B : Prop} (h1 : i = j → A) (h2 : i ≠ j → B) : if decide (V.int i = V.int j) = true then A else B := w_if (fun e => h1 (V.int.inj e)) (fun e => h2 fun z => e (by rw [z]))
theorem w_ifNI {A B : Prop} (h1 : i ≠ j → A) (h2 : i = j → B) : if (!decide (V.int i = V.int j)) = true then A else B := by
  by_cases h : i = j
  · rw [if_neg (by simp [h])]
    exact h2 h
  · rw [if_pos (by simp [h])]
    exact h1 h
theorem w_ifN {c : Prop} [Decidable c] {A B : Prop} (h1 : ¬ c → A) (h2 : c → B) : if (!decide c) = true then A else B := by
  by_cases h : c
  · rw [if_neg (by simp [h])]
    exact h2 h
  · rw [if_pos (by simp [h])]
    exact h1 h
theorem w_newT (hl : Nat.ble xs.length 1000 = true) (h : ∀ p H', H p = none → H' p = some (.tup xs) → Same H H' → Q (.ref p) H') : NewT xs H Q := ⟨Nat.le_of_lt (small1000 (Nat.le_of_ble_eq_true hl)), fun p hp => h p _ hp upd_same (same_new hp)⟩
theorem w_newL (hl : Nat.ble xs.length 1000 = true) (h : ∀ p H', H p = none → H' p = some (.lst xs) → Same H H' → Q (.ref p) H') : NewL xs H Q := ⟨Nat.le_of_lt (small1000 (Nat.le_of_ble_eq_true hl)), fun p hp => h p _ hp upd_same (same_new hp)⟩
theorem w_lrg {te : L2.St → Hp → (Int → Int → Hp → Prop) → Prop} (h : te σ H fun a b H1 => NewR a b H1 Q) : tLstRg te σ H Q := h
theorem w_rg1 {R : Int → Int → Hp → Prop} (h : ta σ H fun x H1 => ∃ n, x = .int n ∧ R 0 n H1) : tRg1 ta σ H R := h
theorem w_rg2 {R : Int → Int → Hp → Prop} (h : ta σ H fun x H1 => tb σ H1 fun y H2 => ∃ i j, x = .int i ∧ y = .int j ∧ R i j H2) : tRg2 ta tb σ H R := h
theorem w_exI {R : Int → Prop} (q : R i) : ∃ n, V.int i = .int n ∧ R n := ⟨i, rfl, q⟩
theorem w_exI2 {R : Int → Int → Prop} (q : R i j) : ∃ n m, V.int i = .int n ∧ V.int j = .int m ∧ R n m := ⟨i, j, rfl, rfl, q⟩
theorem w_newR {a b : Int} (h0 : 0 ≤ a) (h1 : a ≤ 10000) (h2 : b ≤ 10000) (h3 : 0 ≤ b) (h : ∀ p H', H p = none → H' p = some (.lst (rgV a b)) → Same H H' → Q (.ref p) H') : NewR a b H Q := ⟨RgOk.of_le h0 (by omega) (by omega) h3, fun p hp => h p _ hp upd_same (same_new hp)⟩
theorem w_cat {p1 p2 : Addr} {ys : List V} (h1 : H p1 = some (.lst xs)) (h2 : H p2 = some (.lst ys)) (hl : xs.length + ys.length ≤ 100000) (h : ∀ p H', H p = none → H' p = some (.lst (xs ++ ys)) → Same H H' → Q (.ref p) H') : rCatL (.ref p1) (.ref p2) H Q :=
  ⟨p1, p2, xs, ys, rfl, rfl, h1, h2, Nat.le_trans hl (by decide), fun p hp => h p _ hp upd_same (same_new hp)⟩
theorem w_setG {k : Nat} {R : Hp → Prop} (h : H p = some (.lst xs)) (e : ixN xs.length i = some k) (q : ∀ H', H' p = some (.lst (xs.set k v)) → (∀ b o, b ≠ p → H b = some o → H' b = some o) → R H') : rSetL (.ref p) (.int i) v H R :=
  ⟨p, xs, i, k, rfl, rfl, h, e, q _ upd_same fun b o n hb => by rw [upd_ne n]; exact hb⟩
theorem atI_ex {m : Int} (h0 : 0 ≤ m) (h1 : m < xs.length) : ∃ v, atI xs m = some v ∧ v ∈ xs := by
  have hl : m.toNat < xs.length := by omega
  refine ⟨xs[m.toNat], ?_, List.getElem_mem hl⟩
  unfold atI ixN
  rw [if_pos h0, if_pos h1]
  simp [hl]
theorem sqL (h : H p = some (.lst xs)) : SqL K H p xs := .inl (.inl h)
theorem sqT (h : H p = some (.tup xs)) : SqT K H p xs := .inl (.inl h)
end


/-! ### loops and comprehensions -/
section
variable {σ : L2.St} {H : Hp} {Q : VK} {D : Ends} {K : PySem.W.Frag}
theorem w_forR {n j : Nat} {tb : TS} {tA : TA} (Pv : Nat → L2.St → Hp → Prop) (hA : ∀ R : List V → Hp → Prop, R [.int n] H → tA σ H R) (hn : n ≤ 1000000) (h0 : Pv 0 σ H)
    (hs : ∀ i σ' H', i < n → Pv i σ' H' → tb { D with nx := Pv (i + 1), ct := Pv (i + 1), bk := D.nx } (σ'.set j (some (.int (i : Int)))) H') (hd : ∀ σ' H', Pv n σ' H' → D.nx σ' H') : tFor (iRng1 tA) (gName j) tb D σ H := by
  refine hA _ ⟨(n : Int), rfl, by omega, by omega, ?_⟩
  have e : ((n : Int)).toNat = n := by omega
  rw [e]
  refine for_range (lo := 0) (n := n) Pv h0 (fun i σ' H' hi p => ?_) hd
  show tb { D with nx := Pv (i + 1), ct := Pv (i + 1), bk := D.nx } (σ'.set j (some (.int ((0 : Int) + (i : Int))))) H'
  rw [Int.zero_add]
  exact hs i σ' H' hi p
def LcAt (K : PySem.W.Frag) (x : V) (g : TG) (tt : TT) (te : TE) (vs : List Nat) (σ : L2.St) (H : Hp) (Q : VK) : Prop := tLc (iList K (tC x)) g tt te vs σ H Q
theorem w_lc {tl te : TE} {g : TG} {tt : TT} {vs : List Nat} (h : tl σ H fun x H1 => LcAt K x g tt te vs σ H1 Q) : tLc (iList K tl) g tt te vs σ H Q := h
/-- a comprehension without a test over a list that stands still; what it makes leaves the heap as it was, but for new things -/
theorem w_lcL {a : Addr} {xs : List V} {g : TG} {te : TE} {vs : List Nat} (f : Nat → V → Prop) (ha : SqL K H a xs) (hz : xs.length ≤ 1000000)
    (step : ∀ i x H' (Nx : VK), xs[i]? = some x → Same H H' → (∀ y H3, Same H' H3 → f i y → Nx y H3) → g x (wipe σ vs) H' fun σ2 H2 => wipe σ2 vs = wipe σ vs ∧ te σ2 H2 Nx)
    (q : ∀ D H' ys, H D = none → Same H H' → H' D = some (.lst ys) → ys.length = xs.length → (∀ i y, ys[i]? = some y → f i y) → Q (.ref D) H') : LcAt K (.ref a) g tYes te vs σ H Q := by
  refine ⟨a, rfl, ⟨xs, ha⟩, fun D hD => ?_⟩
  refine lc_list (K := K) (a := a) (xs := xs) (fun i H' => Same H H' ∧ ∃ acc, H' D = some (.lst acc) ∧ acc.length = i ∧ ∀ j y, acc[j]? = some y → f j y) ⟨same_new hD, [], upd_same, rfl, fun j y e => by simp at e⟩ (fun i H' _ h => h.1.seq ha) (fun i x H' hx h => ?_) (fun H' h => ?_)
  · obtain ⟨s1, acc, hacc, hlen, hf⟩ := h
    refine step i x H' _ hx s1 (fun y H3 s3 fy => ?_)
    have hi : i < xs.length := (List.getElem?_eq_some_iff.mp hx).1
    refine ⟨acc, s3 _ _ hacc, Nat.lt_of_le_of_lt (show acc.length ≤ 1000000 by omega) (by decide), fun b o hb => ?_, acc ++ [y], upd_same, by simp [hlen], fun j z e => ?_⟩
    · rw [upd_ne (ne_of_none hb hD)]
      exact s3 _ _ (s1 _ _ hb)
    · by_cases hj : j < acc.length
      · rw [List.getElem?_append_left hj] at e
        exact hf j z e
      · rw [List.getElem?_append_right (by omega)] at e
        have hj2 : j - acc.length = 0 := by
          rcases Nat.eq_zero_or_pos (j - acc.length) with h | h
          · exact h
          · rw [List.getElem?_eq_none (show [y].length ≤ j - acc.length from h)] at e
            cases e
        rw [hj2] at e
        have ez : y = z := Option.some.inj e
        have : j = i := by omega
        rw [this, ← ez]
        exact fy
  · obtain ⟨s1, acc, hacc, hlen, hf⟩ := h
    exact q D H' acc hD s1 hacc hlen hf
theorem w_allT {a : Addr} {ys : List V} (h : SqL K H a ys) (ht : ∀ (i : Nat) (y : V), ys[i]? = some y → y = .bl true) (q : Q (.bl true) H) : rAll K [.ref a] H Q := by
  have e : ys = (List.replicate ys.length true).map V.bl := by
    apply List.ext_getElem?
    intro i
    cases hy : ys[i]? with
    | none =>
      have := List.getElem?_eq_none_iff.mp hy
      rw [List.getElem?_eq_none (by simpa using this)]
    | some y =>
      have hlt := (List.getElem?_eq_some_iff.mp hy).1
      rw [ht i y hy, List.getElem?_map, List.getElem?_replicate, if_pos hlt]
      rfl
  rw [e] at h
  refine ⟨a, _, rfl, h, ?_⟩
  have e2 : (List.replicate ys.length true).all id = true := by simp
  rw [e2]
  exact q
end
/-! ### comprehensions over any walk, slices, == of data -/
section
variable {X : Cx} {K : PySem.W.Frag}
theorem x_eqD (e : X.K = K) (hu : X.A.units + 64 < cLine) : OpR X (compareOp .Eq) (rEqD K) := by subst e; exact op_eqD hu
theorem x_neD (e : X.K = K) (hu : X.A.units + 64 < cLine) : OpR X (compareOp .NotEq) (rNeD K) := by subst e; exact op_neD hu
theorem x_slL (e : X.K = K) : SlR X (rSlL K) := by subst e; exact sl_list
theorem x_slT (e : X.K = K) : SlR X (rSlA K) := by subst e; exact sl_tupA
theorem xi_enum {e : Expr} {ta : TA} {p pos tpos : Pos} {elts : List Expr} {kk : Nat} (ek : X.K = K) (hg : Gl X "enumerate") (hm : X.mg "enumerate" = none) (ha : PA X [e] ta) (hs : starEach [e] X.env = [(false, eval e X.env)] := by rfl) : PI X (.Tuple elts kk tpos) (.Call (.Name "enumerate" p) [e] [] pos) (iEnum K ta) := by subst ek; exact pi_enum hg hm ha hs
theorem xi_zip {e e2 : Expr} {ta : TA} {p pos tpos : Pos} {elts : List Expr} {kk : Nat} (ek : X.K = K) (hg : Gl X "zip") (hm : X.mg "zip" = none) (ha : PA X [e, e2] ta) (hs : starEach [e, e2] X.env = (false, eval e X.env) :: starEach [e2] X.env := by rfl) (hpl : (backTo pos (starEach [e2] X.env)).any (·.1) = false := by rfl) : PI X (.Tuple elts kk tpos) (.Call (.Name "zip" p) [e, e2] [] pos) (iZip K ta) := by subst ek; exact pi_zip hg hm ha hs hpl
end
section
variable {σ : L2.St} {H : Hp} {Q : VK} {D : Ends} {K : PySem.W.Frag}
theorem w_sl {r : V → Option Int → Option Int → Hp → VK → Prop} {te : TE} {tl th : TO} (h : te σ H fun x H1 => tl σ H1 fun l H2 => th σ H2 fun u H3 => r x l u H3 Q) : tSl r te tl th σ H Q := h
theorem w_part {te : TE} {R : Option Int → Hp → Prop} (h : te σ H fun x H1 => ∃ i, x = .int i ∧ R (some i) H1) : tPart te σ H R := h
theorem w_noPart {R : Option Int → Hp → Prop} (h : R none H) : tNoPart σ H R := h
theorem w_slL {a : Addr} {xs : List V} {lo hi : Option Int} (h : SqL K H a xs) (q : ∀ p H', H p = none → H' p = some (.lst (cutV xs lo hi)) → Same H H' → Q (.ref p) H') : rSlL K (.ref a) lo hi H Q := ⟨a, xs, rfl, h, fun p hp => q p _ hp upd_same (same_new hp)⟩
theorem w_slT {a : Addr} {xs : List V} {lo hi : Option Int} (h : SqT K H a xs) (n : ¬ (HT.sIx xs.length 0 lo = 0 ∧ HT.sIx xs.length xs.length hi = xs.length)) (q : ∀ p H', H p = none → H' p = some (.tup (cutV xs lo hi)) → Same H H' → Q (.ref p) H') : rSlA K (.ref a) lo hi H Q := ⟨a, xs, rfl, h, fun z => absurd z n, fun _ p hp => q p _ hp upd_same (same_new hp)⟩
theorem w_eqD {x y : V} {d e : PyData} (hx : Dp K H x d) (hy : Dp K H y e) (s1 : SeqAt.shaped d = true) (s2 : SeqAt.shaped e = true) (q : Q (.bl (PyData.eqv d e)) H) : rEqD K x y H Q := ⟨d, e, hx, hy, s1, s2, q⟩
theorem w_neD {x y : V} {d e : PyData} (hx : Dp K H x d) (hy : Dp K H y e) (s1 : SeqAt.shaped d = true) (s2 : SeqAt.shaped e = true) (q : Q (.bl (!PyData.eqv d e)) H) : rNeD K x y H Q := ⟨d, e, hx, hy, s1, s2, q⟩
/-- both sides the same data -/
theorem w_eqS {x y : V} {d : PyData} (hx : Dp K H x d) (hy : Dp K H y d) (s1 : SeqAt.shaped d = true) (q : Q (.bl true) H) : rEqD K x y H Q := ⟨d, d, hx, hy, s1, s1, by rw [SeqAt.eqv_refl d (SeqAt.canLay_of_shaped s1)]; exact q⟩
theorem w_neS {x y : V} {d : PyData} (hx : Dp K H x d) (hy : Dp K H y d) (s1 : SeqAt.shaped d = true) (q : Q (.bl false) H) : rNeD K x y H Q := ⟨d, d, hx, hy, s1, s1, by rw [SeqAt.eqv_refl d (SeqAt.canLay_of_shaped s1)]; exact q⟩
/-- what is left of a comprehension when it has been said over what it walks -/
def LcJ (J : It) (g : TG) (tt : TT) (te : TE) (vs : List Nat) (σ : L2.St) (H : Hp) (Q : VK) : Prop := tLc (fun _ H R => R J H) g tt te vs σ H Q
theorem w_lcE {tA : TA} {g : TG} {tt : TT} {te : TE} {vs : List Nat} (h : tA σ H fun ws H1 => ∃ a xs, ws = [.ref a] ∧ SqL K H1 a xs ∧ LcJ (Ite K a) g tt te vs σ H1 Q) : tLc (iEnum K tA) g tt te vs σ H Q := h
theorem w_lcZ {tA : TA} {g : TG} {tt : TT} {te : TE} {vs : List Nat} (h : tA σ H fun ws H1 => ∃ a b xs ys, ws = [.ref a, .ref b] ∧ SqL K H1 a xs ∧ SqL K H1 b ys ∧ LcJ (Itz K a b) g tt te vs σ H1 Q) : tLc (iZip K tA) g tt te vs σ H Q := h
theorem w_lcI {a : Addr} {xs : List V} {g : TG} {tt : TT} {te : TE} {vs : List Nat} (h : SqL K H a xs) (q : LcJ (Itl K a) g tt te vs σ H Q) : LcAt K (.ref a) g tt te vs σ H Q := ⟨a, rfl, ⟨xs, h⟩, q⟩
theorem w_lcRg {n : Nat} {tA : TA} {g : TG} {tt : TT} {te : TE} {vs : List Nat} (hA : ∀ R : List V → Hp → Prop, R [.int n] H → tA σ H R) (hn : n ≤ 1000000) (q : LcJ (Itr 0 n) g tt te vs σ H Q) : tLc (iRng1 tA) g tt te vs σ H Q := by
  refine hA _ ⟨(n : Int), rfl, by omega, by omega, ?_⟩
  have e : ((n : Int)).toNat = n := by omega
  rw [e]
  exact q
/-- I i l: behind i turns l has been made; the new list itself may be anything -/
theorem w_lcW {J : It} {n : Nat} {G : Hp → Prop} {Y : Nat → Hp → V → Hp → Prop} (w : Walk J n G Y) {g : TG} {tt : TT} {te : TE} {vs : List Nat} (I : Nat → List V → Hp → Prop) (hn : n ≤ 1000000)
    (i0 : ∀ A, H A = none → I 0 [] (upd H A (.lst []))) (keep : ∀ A i l H' ys zs, H A = none → H' A = some (.lst ys) → I i l H' → I i l (upd H' A (.lst zs))) (hG : ∀ i l H', I i l H' → G H') (hlen : ∀ i l H', I i l H' → l.length ≤ i)
    (step : ∀ A i x H1 H2 acc (Nx : V → Hp → Prop) (Sk : Hp → Prop), H A = none → i < n → I i acc H1 → H1 A = some (.lst acc) → Y i H1 x H2 → (∀ y H3, H3 A = some (.lst acc) → I (i + 1) (acc ++ [y]) H3 → Nx y H3) → (∀ H3, H3 A = some (.lst acc) → I (i + 1) acc H3 → Sk H3) →
      g x (wipe σ vs) H2 fun σ2 H3 => wipe σ2 vs = wipe σ vs ∧ tt σ2 H3 fun b H4 => if b = true then te σ2 H4 Nx else Sk H4)
    (q : ∀ A H' l, H A = none → H' A = some (.lst l) → I n l H' → Q (.ref A) H') : LcJ J g tt te vs σ H Q := by
  intro A hA
  refine lc_it w (fun i H' => ∃ l, H' A = some (.lst l) ∧ I i l H') ⟨[], upd_same, i0 A hA⟩ (fun i H' _ h => ?_) (fun i x H1 H2 hi h y => ?_) (fun H' h => ?_)
  · obtain ⟨l, _, h⟩ := h
    exact hG _ _ _ h
  · obtain ⟨acc, hacc, h⟩ := h
    refine step A i x H1 H2 acc _ _ hA hi h hacc y (fun v H3 e3 h3 => ?_) (fun H3 e3 h3 => ⟨acc, e3, h3⟩)
    have hl := hlen _ _ _ h
    exact ⟨acc, e3, Nat.lt_of_le_of_lt (show acc.length ≤ 1000000 by omega) (by decide), acc ++ [v], upd_same, keep A _ _ H3 _ _ hA e3 h3⟩
  · obtain ⟨l, h1, h2⟩ := h
    exact q A H' l hA h1 h2
theorem w_yes {R : Bool → Hp → Prop} (h : R true H) : tYes σ H R := h
theorem acc_snoc {Pr : Nat → V → Prop} {acc : List V} {i : Nat} {y : V} (hl : acc.length = i) (h : ∀ j z, acc[j]? = some z → Pr j z) (hy : Pr i y) : ∀ j z, (acc ++ [y])[j]? = some z → Pr j z := fun j z e => by
  by_cases hj : j < acc.length
  · rw [List.getElem?_append_left hj] at e
    exact h j z e
  · rw [List.getElem?_append_right (by omega)] at e
    have hj2 : j - acc.length = 0 := by
      rcases Nat.eq_zero_or_pos (j - acc.length) with h | h
      · exact h
      · rw [List.getElem?_eq_none (show [y].length ≤ j - acc.length from h)] at e
        cases e
    rw [hj2] at e
    have ez : y = z := Option.some.inj e
    have : j = i := by omega
    rw [this, ← ez]
    exact hy
theorem same_upd {H H' : Hp} {A : Addr} {zs : List V} (h : H A = none) (s : Same H H') : Same H (upd H' A (.lst zs)) := fun b o e => by
  rw [upd_ne (ne_of_none e h)]
  exact s _ _ e
theorem same_pair {H H' : Hp} {T : Addr} {o : HO} (h : H T = none) (e : H' = upd H T o) : Same H H' := by
  rw [e]
  exact same_new h
end


/-! ### the end: a law's def over such promises -/
theorem law_G {P : Program} {w : World} {K : PySem.W.Frag} {mg mb : Str → Option Value} {k : Nat} {fa a : Addr} {fd : FuncData} {x : Str} {sp : Sp} {s₁ : Shared} {vs : List Value} {ns : List Int}
    (KX : K.In s₁.heap) (hns : s₁.heap.Ns mainGlobals mg) (hb : s₁.heap.Ns builtinsNs mb) (hbb : ∀ x : Str, x ≠ "__name__" → mb x = bootBuiltins x) (nolim : s₁.heap.NoLimit) (gens : s₁.gens = #[])
    (obj : s₁.heap.get? a = some { cls := .type "list", data := .seq vs.toArray }) (nums : IntsAre vs ns) (len : ns.length ≤ sizeLine) (room : Room k callerA)
    (F : ∀ base : Heap, K.In base → base.Ns mainGlobals mg → FnG P w K mg base k fa fd [x] sp) (bind : ∀ (s : Shared) (u : Value), BindsTo s fd ⟨[u], []⟩ [(x, u)])
    (want : ∀ H : Hp, SqL K H a (ns.map V.int) → sp [.ref a] H (fun v _ => v = .bl true) fun _ _ _ => False) :
    codeAny (model P w) callerA (.call (.ref fa) ⟨[.ref a], []⟩) (fun r s' => r = .ok (.ret (.bool true)) ∧ OldK s₁.heap s'.heap ∧ s'.os = s₁.os ∧ AllBare s'.gens) s₁ := by
  have rel := vals_ints nums
  -- what is tracked: the script, as it stands, or nothing (it is one of the module's own)
  obtain ⟨H, only, script, ok, own⟩ : ∃ H : Hp, (∀ b u, H b = some u → b = a ∧ ∃ o zs, u = .frz o (.lst zs)) ∧ SqL K H a (ns.map V.int) ∧ HOk P w H s₁.heap ∧ ∀ b, H b ≠ none → K.lookup b = none := by
    cases known : K.lookup a with
    | some o =>
      have z := KX a o known
      rw [obj] at z
      cases z
      exact ⟨fun _ => none, (fun b u z => nomatch (show (none : Option HO) = some u from z)), .inr ⟨_, vs.toArray, _, known, rfl, rfl, rfl, by rw [List.size_toArray, nums.length]; exact len, by simpa using rel⟩, (fun b u z => nomatch (show (none : Option HO) = some u from z)), fun b z => absurd rfl z⟩
    | none =>
      let ob : Obj := { cls := .type "list", data := .seq vs.toArray }
      have one : ∀ b u, (if b = a then some (HO.frz ob (.lst (ns.map V.int))) else none) = some u → b = a ∧ u = .frz ob (.lst (ns.map V.int)) := fun b u z => by
        by_cases q : b = a
        · rw [if_pos q] at z
          exact ⟨q, (Option.some.inj z).symm⟩
        · rw [if_neg q] at z
          cases z
      refine ⟨fun b => if b = a then some (.frz ob (.lst (ns.map V.int))) else none, fun b u z => ?_, .inl (.inr ⟨ob, if_pos rfl⟩), fun b u z => ?_, fun b z => ?_⟩
      · obtain ⟨q1, q2⟩ := one b u z
        exact ⟨q1, _, _, q2⟩
      · obtain ⟨q1, q2⟩ := one b u z
        subst q1 q2
        exact ⟨obj, by rw [List.length_map]; exact len, vs, _, rel, obj⟩
      · have z2 : (if b = a then some (HO.frz ob (.lst (ns.map V.int))) else none) ≠ none := z
        by_cases q : b = a
        · rw [q]
          exact known
        · rw [if_neg q] at z2
          exact absurd rfl z2
  have untold : ∀ {b : Addr} {o : Obj} {es : Array DictEntry} {n : Nat}, s₁.heap.get? b = some o → o.data = .dict es n → H b = none := fun {b o es n} z d => by
    cases q : H b with
    | none => rfl
    | some u =>
      obtain ⟨q1, _⟩ := only b u q
      rw [q1, obj] at z
      cases z
      have d2 : Data.seq vs.toArray _ = Data.dict es n := d
      cases d2
  have names : ∀ {b : Addr} {m : Str → Option Value}, s₁.heap.Ns b m → (hidT s₁.heap H).Ns b m := fun {b m} ⟨o, es, n, z, d, r⟩ => ⟨o, es, n, hidT_get z (untold z d), d, r⟩
  have KB : K.In (hidT s₁.heap H) := fun b o z => hidT_get (KX b o z) (by
    cases q : H b with
    | none => rfl
    | some u =>
      rw [own b (by rw [q]; simp)] at z
      cases z)
  obtain ⟨mc, l1, l2⟩ := nolim
  have M : Mod K mg (hidT s₁.heap H) := ⟨KB, names hns, ⟨mb, names hb, hbb⟩, ⟨mc, names l1, l2⟩⟩
  have e0 : Env0 P w K mg (hidT s₁.heap H) callerA [] s₁ H := ⟨rfl, M, fun _ _ z => of_hidT z, Nat.le_of_eq (hidT_size _ _), trivial, (fun b z => nomatch (show b ∈ ([] : List Addr) from z)), ok, .of_eq gens⟩
  refine codeAny_mono ((F _ KB (names hns)).goes callerA [] s₁ H ⟨[.ref a], []⟩ [.ref a] [.ref a] _ _ room rfl e0 (bind s₁ (.ref a)) (.cons rfl .nil) (want H script)) fun out s2 z => ?_
  match out, z with
  | .error e, z =>
    obtain ⟨_, _, _, _, _, _, _, _, _, _, _, _, no⟩ := z
    exact no.elim
  | .ok .next, z => exact z.elim
  | .ok .brk, z => exact z.elim
  | .ok .cont, z => exact z.elim
  | .ok (.ret u), z =>
    obtain ⟨v, H2, os, bare, un, ok2, r2, q⟩ := z
    have q2 : v = .bl true := q
    subst q2
    obtain rfl : u = Value.bool true := r2
    refine ⟨rfl, OldK.of_keep fun b o there => ?_, os, bare⟩
    cases q : H b with
    | none => exact un.keep b o there q (fun z => nomatch (show b ∈ ([] : List Addr) from z)) (by simp)
    | some u =>
      obtain ⟨_, ob, zs, rfl⟩ := only b u q
      obtain ⟨e1, _⟩ := ok b _ q
      obtain ⟨e2, _⟩ := ok2 b _ (un.frzs b ob _ q)
      rw [there] at e1
      cases e1
      exact e2
theorem walk_G {l : PySem.W.OpenLaw} {n k : Nat} {q : Program} {loose : List Str} {XP : (Str → Option Value) → Heap → Prop} {YP : World → Heap → Prop} {d : DefRec} {x : Str}
    (hn : l.most = some n) (hn2 : n ≤ sizeLine) (hdf : d.params.defaults = []) (room : Room k callerA)
    (F : ∀ (w : World) (mg : Str → Option Value) (fa : Addr) (h : Heap), YP w h → h.Ns mainGlobals mg → mg d.name = some (.ref fa) →
      ∃ (K : PySem.W.Frag) (fd : FuncData) (sp : Sp), K.In h ∧ (∀ (s : Shared) (u : Value), BindsTo s fd ⟨[u], []⟩ [(x, u)]) ∧
        (∀ (H : Hp) (a : Addr) (ns : List Int), ns.length ≤ n → SqL K H a (ns.map V.int) → sp [.ref a] H (fun v _ => v = .bl true) fun _ _ _ => False) ∧
        ∀ base : Heap, K.In base → base.Ns mainGlobals mg → FnG l.prog w K mg base k fa fd [x] sp) :
    PySem.W.WalkO q loose XP YP l.row.toRowW d [] (fun f vs => PySem.call f vs) := by
  refine Att.attach_call hn hdf fun w s0 s1 mg mb fa o pm cd doc a vs ns G Y _ _ _ at_ obj nums len gens => ?_
  obtain ⟨K, fd, sp, KX, bind, want, hF⟩ := F w mg fa _ Y G.T.g at_
  exact law_G KX G.T.g G.T.b G.T.builtins G.T.nolimit gens obj nums (Nat.le_trans len hn2) room hF bind fun H z => want H a ns len z

/-! ### methods, new instances, properties: calls by promises -/
theorem make_guards {A : Around} {C : Addr} {us : List Value} {kw : List (Str × Value)} : (A.under (.builtin "type.__call__" ⟨.ref C :: us, kw⟩)).guards = A.guards := by
  first | rfl | simp [Around.under, Code.weight, Code.isCreation, Code.isGuard, Code.isCaller, Code.frames, Code.isFrame, guardIds]
structure MCal (P : Program) (w : World) (K : PySem.W.Frag) (mg : Str → Option Value) (base : Heap) (k : Nat) (C : Addr) (m : Str) (ps : List Str) (sp : Sp) : Prop where
  c : Cls K C
  ex : ∃ f fd, FnG P w K mg base k f fd ps sp ∧ Meth K C m f ∧ Binds K fd ps [] ∧ PySem.W.fnIn K f = true
structure NCal (P : Program) (w : World) (K : PySem.W.Frag) (mg : Str → Option Value) (base : Heap) (k : Nat) (x : Str) (C : Addr) (ps : List Str) (sp : Sp) : Prop where
  ex : ∃ f fd, FnG P w K mg base k f fd ps sp ∧ Mk K C f ∧ mg x = some (.ref C) ∧ Binds K fd ps []
structure PCal (P : Program) (w : World) (K : PySem.W.Frag) (mg : Str → Option Value) (base : Heap) (k : Nat) (C : Addr) (n : Str) (ps : List Str) (sp : Sp) : Prop where
  c : Cls K C
  ex : ∃ p f fd, FnG P w K mg base k f fd ps sp ∧ PropOf K C n p f ∧ Binds K fd ps []
section
variable {X : Cx} {k : Nat} {C : Addr} {m x : Str} {ps : List Str} {sp : Sp} {e o : Expr} {es : List Expr} {ta : TE} {t : TA} {p pos apos : Pos}
theorem pe_mcal {pl : Sem Bool} (he : PE X o ta) (M : MCal X.prog X.w X.K X.mg X.base k C m ps sp) (room : Room k X.A) (gd : X.A.guards = some []) (args : PA X (e :: es) t)
    (hst : starEach (e :: es) X.env = (false, eval e X.env) :: starEach es X.env := by rfl) (hpl : (backTo pos (starEach es X.env)).any (·.1) = false := by rfl)
    (ht : eval (.Call (.Attribute o m apos) (e :: es) [] pos) X.env = (do
      let ov ← eval o X.env
      standAt apos.atName
      let (f, first) ← holding [ov] (getMethod ov m pl)
      callWith pos f first (backTo pos (starEach (e :: es) X.env)) (backToKw pos (keywordEach [] X.env))) := by rfl) :
    PE X (.Call (.Attribute o m apos) (e :: es) [] pos) (tMeth C m sp [] E0 ta t) := by
  obtain ⟨f, fd, G, hm, b, _⟩ := M.ex
  refine ⟨fun pins s σ H Q I want => PySem.W.methodCall_KW (pl := pl) (thn (he.run pins s σ H _ I want) fun u s1 z => ?_) ht⟩
  obtain ⟨y, H1, I1, ry, a, dx, fs, ey, ea, l, q⟩ := z
  subst ey
  obtain rfl : u = Value.ref a := ry
  refine getmeth_ok I1 ea M.c hm l (PySem.W.callWith_K (first := [.ref a]) (h₀ := X.base) I.ok.mod.kin hm.kp (thn (args.run pos pins s1 σ H1 _ I1 q) fun us s2 z2 => ?_) hst hpl)
  obtain ⟨vs, H2, I2, r, q2⟩ := z2
  rw [List.append_nil] at q2
  exact ⟨I2.kIn, runG (us := .ref a :: us) (vs := .ref a :: vs) G room gd b passL I2 (.cons rfl r) q2⟩
theorem pe_mcal0 {pl : Sem Bool} (he : PE X o ta) (M : MCal X.prog X.w X.K X.mg X.base k C m ps sp) (room : Room k X.A) (gd : X.A.guards = some [])
    (ht : eval (.Call (.Attribute o m apos) [] [] pos) X.env = (do
      let ov ← eval o X.env
      standAt apos.atName
      let (f, first) ← holding [ov] (getMethod ov m pl)
      callWith pos f first (backTo pos (starEach [] X.env)) (backToKw pos (keywordEach [] X.env))) := by rfl) :
    PE X (.Call (.Attribute o m apos) [] [] pos) (tMeth C m sp [] E0 ta tNil) := by
  obtain ⟨f, fd, G, hm, b, _⟩ := M.ex
  refine ⟨fun pins s σ H Q I want => PySem.W.methodCall_KW (pl := pl) (thn (he.run pins s σ H _ I want) fun u s1 z => ?_) ht⟩
  obtain ⟨y, H1, I1, ry, a, dx, fs, ey, ea, l, q⟩ := z
  subst ey
  obtain rfl : u = Value.ref a := ry
  exact getmeth_ok I1 ea M.c hm l (PySem.W.callWith_K0 (first := [.ref a]) I1.kIn hm.kp (runG (us := [.ref a]) (vs := [.ref a]) G room gd b passL I1 (.cons rfl .nil) q))
theorem pe_ncal (M : NCal X.prog X.w X.K X.mg X.base k x C ps sp) (room : Room (k + 1) X.A) (gd : X.A.guards = some []) (gl : Gl X x) (args : PA X (e :: es) t)
    (n1 : (x == ("__debug__" : Str)) = false := by decide) (n2 : starEach (e :: es) X.env = (false, eval e X.env) :: starEach es X.env := by rfl) (n3 : (backTo pos (starEach es X.env)).any (·.1) = false := by rfl) :
    PE X (.Call (.Name x p) (e :: es) [] pos) (tMake C sp [] E0 t) := by
  obtain ⟨f, fd, G, mk, at_, b⟩ := M.ex
  refine ⟨fun pins s0 σ H0 Q I0 want => wpAny_Call_Name_kw (ld_glob I0 gl at_ ?_ n1)⟩
  refine PySem.W.callWith_K (h₀ := X.base) I0.ok.mod.kin mk.kp (thn (args.run pos pins s0 σ H0 _ I0 want) fun us s z => ?_) n2 n3
  obtain ⟨vs, H, I, r, q⟩ := z
  refine ⟨I.kIn, ?_⟩
  have want2 := q (s.heap.objs.size + 1) s.heap.objs.size (I.hok.fresh (Nat.le_succ _)) (I.hok.fresh (Nat.le_refl _)) (Nat.ne_of_lt (Nat.lt_succ_self _))
  rw [List.append_nil] at want2
  have I2 := Inv.made (C := C) I
  have r2 : Vals (V.ref (s.heap.objs.size + 1) :: vs) (Value.ref (s.heap.objs.size + 1) :: us) := .cons rfl r
  have hl : (Value.ref (s.heap.objs.size + 1) :: us).length = ps.length := r2.length.symm.trans (G.many _ _ _ _ want2)
  have bt := b { s with heap := (s.heap.push PySem.W.emptyDict).push (PySem.W.instObj C s.heap.objs.size) } (Value.ref (s.heap.objs.size + 1) :: us) I2.kIn (by rw [List.append_nil]; exact hl)
  rw [List.append_nil] at bt
  refine wpAny_call (make_map (f := f) I.kIn mk.makes mk.init (beq_iff_eq.mp mk.fn) (codeAny_mono (G.goes _ X.stack _ _ ⟨Value.ref (s.heap.objs.size + 1) :: us, []⟩ _ _ _ E0 (room.make C us []) (make_guards.trans gd) (I2.env0.make C us []) bt r2 want2) fun out s' z => ?_))
  match out, z with
  | .error er, z => exact passL pins σ _ _ er s' I2 z
  | .ok (.ret u), z =>
    obtain ⟨v, H', I3, rv, ev, q3⟩ := I2.after z
    subst ev
    exact ⟨rv, ⟨V.ref (s.heap.objs.size + 1), H', I3, rfl, q3⟩⟩
  | .ok .next, z => exact z.elim
  | .ok .brk, z => exact z.elim
  | .ok .cont, z => exact z.elim
theorem pe_pcal {n : Str} (he : PE X e ta) (M : PCal X.prog X.w X.K X.mg X.base k C n ps sp) (room : Room (k + 1) X.A) (gd : X.A.guards = some []) (hab : attributeBase e n X.env (eval e X.env) = eval e X.env := by rfl) : PE X (.Attribute e n pos) (tProp C sp [] E0 ta) := by
  obtain ⟨p, f, fd, G, hp, b⟩ := M.ex
  refine ⟨fun pins s0 σ H0 Q I0 want => attr_of hab (thn (he.run pins s0 σ H0 _ I0 want) fun u s z => ?_)⟩
  obtain ⟨y, H, I, ry, a, dx, fs, ey, ea, q⟩ := z
  subst ey
  obtain rfl : u = Value.ref a := ry
  obtain ⟨mA, O, _, _, _, _⟩ := ins_get I.hok ea
  obtain ⟨od, J, _⟩ := O.look
  obtain ⟨rest, hrec⟩ := hp.rec_
  have I1 := I.tok (s.toks + 1)
  have hl : ([Value.ref a] : List Value).length = ps.length := G.many _ _ _ _ q
  have hc : (PySem.W.clsIn X.K C).isSome = true := by
    obtain ⟨cd, hc, _⟩ := PySem.W.any_some M.c.hd
    rw [hc]
    rfl
  have bt := b { s with toks := s.toks + 1 } [.ref a] I1.kIn (by rw [List.append_nil]; exact hl)
  rw [List.append_nil] at bt
  refine PySem.W.get_bind I.kIn J (PySem.W.plainGet_of (M.c.get n)).1 (PySem.W.findObj_data hc hp.at_ hp.get hp.tak) (PySem.W.plainGet_of (M.c.get n)).2 (wpAny_call (PySem.W.prop_get (s := { s with toks := s.toks + 1 }) I.kIn hrec ?_))
  refine codeAny_mono (G.goes X.A.in1 X.stack { s with toks := s.toks + 1 } H ⟨[.ref a], []⟩ [.ref a] [.ref a] Q E0 room.in1 gd I1.env0.in1 bt (.cons rfl .nil) q) fun out s' z => ?_
  match out, z with
  | .error er, z => exact False.elim (passL pins σ H { s with toks := s.toks + 1 } er s' (I1.wish fun _ _ => False) z)
  | .ok (.ret u), z =>
    obtain ⟨v, H', I3, rv, q3⟩ := I1.after z
    show wpAny _ _ (handedOut u) _ _ _
    rw [PySem.W.handedOut_of (handed_of rv)]
    exact wpAny_pure ⟨v, H', I3, rv, q3⟩
  | .ok .next, z => exact z.elim
  | .ok .brk, z => exact z.elim
  | .ok .cont, z => exact z.elim
end

/-! ### own __contains__, __getitem__, __len__ -/
theorem fn_there {K : PySem.W.Frag} {x qual : Str} {params : Arguments} {body : List Stmt} {scope : Scope} {dvs : List V} {kws : List (Str × V)} {f : Addr} {fd : FuncData} (F : FunD K x qual params body scope dvs kws f fd) : PySem.W.fnIn K f = true := by
  obtain ⟨oc, od, dV, kV, doc, pm, an, cdv, ct, osl, _, there, _⟩ := F.ex
  unfold PySem.W.fnIn
  rw [there]
def rInO (C : Addr) (sp : Sp) (neg : Bool) : R2 := fun x y H Q => ∃ a dx fs, y = .ref a ∧ H a = some (.ins C dx fs) ∧ sp [.ref a, x] H (fun v H' => ∃ b, v = .bl b ∧ Q (.bl (if neg then !b else b)) H') E0
def rIxO (C : Addr) (sp : Sp) : R2 := fun x y H Q => ∃ a dx fs, x = .ref a ∧ H a = some (.ins C dx fs) ∧ sp [.ref a, y] H Q E0
def rLenO (C : Addr) (sp : Sp) : List V → Hp → VK → Prop := fun xs H Q => ∃ a dx fs, xs = [.ref a] ∧ H a = some (.ins C dx fs) ∧ sp [.ref a] H (fun v H' => ∃ n : Int, v = .int n ∧ 0 ≤ n ∧ n < 9223372036854775808 ∧ Q (.int n) H') E0
section
variable {X : Cx} {k : Nat} {C : Addr} {ps : List Str} {sp : Sp}
theorem runI {f : Addr} {fd : FuncData} {pins : List (Addr × Obj)} {σ : L2.St} {H : Hp} {s : Shared} {Q : VK} {us : List Value} {vs : List V} (G : FnG X.prog X.w X.K X.mg X.base k f fd ps sp) (room : Room (k + 1) X.A) (gd : X.A.guards = some []) (b : Binds X.K fd ps [])
    (I : Inv X pins σ H s) (rel : Vals vs us) (want : sp vs H Q E0) : wpAny (model X.prog X.w) X.A.in1 (call (.ref f) us) (EP X pins σ Q) X.xe s := by
  have hl : us.length = ps.length := rel.length.symm.trans (G.many _ _ _ _ want)
  have bt : BindsTo s fd ⟨us, []⟩ (ps.zip us) := by
    have z := b s us I.kIn (by rw [List.append_nil]; exact hl)
    rw [List.append_nil] at z
    exact z
  refine wpAny_call (codeAny_mono (G.goes X.A.in1 X.stack s H ⟨us, []⟩ us vs Q E0 room.in1 gd I.env0.in1 bt rel want) fun out s2 z => ?_)
  match out, z with
  | .error e, z => exact passL pins σ H s e s2 I z
  | .ok (.ret u), z => exact I.after z
  | .ok .next, z => exact z.elim
  | .ok .brk, z => exact z.elim
  | .ok .cont, z => exact z.elim
theorem o_inO (M : MCal X.prog X.w X.K X.mg X.base k C "__contains__" ps sp) (room : Room k X.A) (gd : X.A.guards = some []) : OpR X (compareOp .In) (rInO C sp false) := by
  intro pins s σ H x y v u Q I rx ry h
  obtain ⟨a, dx, fs, rfl, ea, q⟩ := h
  obtain rfl : u = Value.ref a := ry
  obtain ⟨f, fd, G, hm, b, _⟩ := M.ex
  obtain ⟨mA, O, _, _, _, _⟩ := ins_get I.hok ea
  obtain ⟨od, J, _⟩ := O.look
  obtain ⟨mm, fr⟩ := I.fr
  refine PySem.W.in_K fr I.ok.mod.kin J hm.at_ hm.fn (wpAny_mono (runG (us := [.ref a, v]) (vs := [.ref a, x]) G room gd b passL I (.cons rfl (.cons rx .nil)) q) (fun r s' z => ?_) fun _ _ z => z)
  obtain ⟨z, H', I', rz, bb, rfl, q'⟩ := z
  obtain rfl : r = Value.bool bb := rz
  exact wpAny_pure ⟨.bl bb, H', I', rfl, q'⟩
theorem o_notInO (M : MCal X.prog X.w X.K X.mg X.base k C "__contains__" ps sp) (room : Room k X.A) (gd : X.A.guards = some []) : OpR X (compareOp .NotIn) (rInO C sp true) := by
  intro pins s σ H x y v u Q I rx ry h
  obtain ⟨a, dx, fs, rfl, ea, q⟩ := h
  obtain rfl : u = Value.ref a := ry
  obtain ⟨f, fd, G, hm, b, _⟩ := M.ex
  obtain ⟨mA, O, _, _, _, _⟩ := ins_get I.hok ea
  obtain ⟨od, J, _⟩ := O.look
  obtain ⟨mm, fr⟩ := I.fr
  refine PySem.W.notIn_K fr I.ok.mod.kin J hm.at_ hm.fn (wpAny_mono (runG (us := [.ref a, v]) (vs := [.ref a, x]) G room gd b passL I (.cons rfl (.cons rx .nil)) q) (fun r s' z => ?_) fun _ _ z => z)
  obtain ⟨z, H', I', rz, bb, rfl, q'⟩ := z
  obtain rfl : r = Value.bool bb := rz
  exact wpAny_pure ⟨.bl (!bb), H', I', rfl, q'⟩
theorem pe_ixO {a b : Expr} {ta tb : TE} {pos : Pos} (M : MCal X.prog X.w X.K X.mg X.base k C "__getitem__" ps sp) (room : Room (k + 1) X.A) (gd : X.A.guards = some []) (ha : PE X a ta) (hb : PE X b tb) (hs : ∀ v u, subscripted b true v u = runValue (.builtin "lifetime.subscript" ⟨[v, u], []⟩) := by intro _ _; rfl) : PE X (.Subscript a b pos) (tOp (rIxO C sp) ta tb) := by
  refine ⟨fun pins s0 σ H0 Q I0 want => Subscript_ (binT ha hb I0 want fun v u s x y H I rx ry h => ?_)⟩
  obtain ⟨p, dx, fs, rfl, ea, q⟩ := h
  obtain rfl : v = Value.ref p := rx
  obtain ⟨f, fd, G, hm, b, fn⟩ := M.ex
  obtain ⟨mA, O, _, _, _, _⟩ := ins_get I.hok ea
  obtain ⟨od, J, _⟩ := O.look
  obtain ⟨mm, fr⟩ := I.fr
  exact PySem.W.sub_K fr I.ok.mod.kin J hm.at_ fn hm.fn (runI (us := [.ref p, u]) (vs := [.ref p, y]) G room gd b I (.cons rfl (.cons ry .nil)) q) (hs _ _)
theorem c_lenO (M : MCal X.prog X.w X.K X.mg X.base k C "__len__" ps sp) (room : Room (k + 1) X.A) (gd : X.A.guards = some []) : CallR X (.builtin "len") (rLenO C sp) := by
  intro pins s σ H xs us Q I rel h
  obtain ⟨a, dx, fs, rfl, ea, q⟩ := h
  obtain ⟨u, rfl, ru⟩ := vals1 rel
  obtain rfl : u = Value.ref a := ru
  obtain ⟨f, fd, G, hm, b, _⟩ := M.ex
  obtain ⟨mA, O, _, _, _, _⟩ := ins_get I.hok ea
  obtain ⟨od, J, _⟩ := O.look
  obtain ⟨mm, fr⟩ := I.fr
  refine PySem.W.len_K fr I.ok.mod.kin J hm.at_ hm.fn (wpAny_mono (runI (us := [.ref a]) (vs := [.ref a]) G room gd b I (.cons rfl .nil) q) (fun r s' z => ?_) fun _ _ z => z)
  obtain ⟨z, H', I', rz, n, rfl, n0, n1, q'⟩ := z
  obtain ⟨t, rfl⟩ := rz
  exact ⟨⟨n0, by omega⟩, .int n, H', I'.tok _, ⟨_, rfl⟩, q'⟩
end

/-! ### enumerate(list, start) -/
section
variable {prog : Program} {w : World} {A : Around} {E : Value → Shared → Prop} {s : Shared}
theorem enS_next {en it l : Addr} {i : Nat} {c : Int} {its : Array Value} {x old : Value} {Q : Value → Shared → Prop} (he : IsEnum s.heap en it c old) (hit : s.heap.IsListIter it l i) (hl : s.heap.IsList l its) (hx : its[i]? = some x) (ne : en ≠ it)
    (q : ∀ h', IsEnumOut h' en it (c + 1) x s.heap.objs.size → h'.IsListIter it l (i + 1) → h'.get? s.heap.objs.size = some { cls := .type "tuple", data := .seq #[.int c s.toks, x] } → h'.objs.size = s.heap.objs.size + 1 → (∀ b o, b ≠ en → b ≠ it → s.heap.get? b = some o → h'.get? b = some o) → Q (.ref s.heap.objs.size) { s with heap := h', toks := s.toks + 1 }) :
    wpAny (model prog w) A (Builtin.«enumerate.__next__» ⟨[.ref en], []⟩) (fun fin s' => ∃ v, fin = .done (.ret v) ∧ Q v s') E s := by
  obtain ⟨hp, g, d, tk, os⟩ := s
  have lt0 : en < hp.objs.size := Heap.lt_size he
  show wpAny _ _ (field (.ref en) 2 >>= _) _ _ _
  refine wpAny_bind (wpAny_field he rfl (x := .ref it) rfl (wpAny_bind (wpAny_nextOf_list_item hit hl hx fun ha ita sa => ?_)))
  replace sa : Heap.SameBut it hp ha := sa
  have ea : IsEnum ha en it c old := (sa.2 en ne).trans he
  show wpAny _ _ (field (.ref en) 3 >>= _) _ _ ⟨ha, g, d, tk, os⟩
  refine wpAny_bind (wpAny_field ea rfl (x := rawInt c) rfl ?_)
  show wpAny _ _ (field (.ref en) 4 >>= _) _ _ ⟨ha, g, d, tk, os⟩
  refine wpAny_bind (wpAny_field ea rfl (x := .none) rfl ?_)
  show wpAny _ _ (mkInt c >>= _) _ _ ⟨ha, g, d, tk, os⟩
  refine wpAny_bind (wpAny_mkInt ?_)
  show wpAny _ _ (setField (.ref en) 3 (rawInt (c + 1)) >>= _) _ _ ⟨ha, g, d, tk + 1, os⟩
  refine wpAny_bind (wpAny_setField_rec ea (by simp) fun hb eb sb => ?_)
  replace sb : Heap.SameBut en ha hb := sb
  replace eb : IsEnum hb en it (c + 1) old := eb
  show wpAny _ _ (setField (.ref en) 4 .none >>= _) _ _ ⟨hb, g, d, tk + 1, os⟩
  refine wpAny_bind (wpAny_setField_rec eb (by simp) fun hc ec sc => ?_)
  replace sc : Heap.SameBut en hb hc := sc
  replace ec : IsEnum hc en it (c + 1) old := ec
  show wpAny _ _ (newTuple [.int c tk, x] >>= _) _ _ ⟨hc, g, d, tk + 1, os⟩
  refine wpAny_bind (wpAny_newTuple ?_)
  have z3 : hc.objs.size = hp.objs.size := by rw [sc.1, sb.1, sa.1]
  have ed : IsEnum (hc.push { cls := .type "tuple", data := .seq #[.int c tk, x] }) en it (c + 1) old := Heap.get?_push_of_some _ ec
  generalize e4 : hc.push { cls := .type "tuple", data := .seq #[.int c tk, x] } = hd at ed
  have td : hd.get? hp.objs.size = some { cls := .type "tuple", data := .seq #[.int c tk, x] } := by
    rw [← e4, ← z3]
    exact Heap.get?_push_size _ rfl
  have zd : hd.objs.size = hp.objs.size + 1 := by rw [← e4, Heap.size_push, z3]
  have kd : ∀ b o, b ≠ en → b ≠ it → hp.get? b = some o → hd.get? b = some o := fun b o n1 n2 z => by
    rw [← e4]
    exact Heap.get?_push_of_some _ (sc.extBut b o n1 (sb.extBut b o n1 (sa.extBut b o n2 z)))
  have id4 : hd.IsListIter it l (i + 1) := by
    rw [← e4]
    obtain ⟨o, ho, r⟩ := (ita.extBut sb.extBut ne.symm).extBut sc.extBut ne.symm
    exact ⟨o, Heap.get?_push_of_some _ ho, r⟩
  show wpAny _ _ (Builtin.SmallTypes.ownedTupleIsFree (.ref en) >>= _) _ _ ⟨hd, g, d, tk + 1, os⟩
  rw [z3]
  clear e4 ec sc eb sb ea sa ita z3 hc hb ha
  refine wpAny_bind ?_
  unfold Builtin.SmallTypes.ownedTupleIsFree
  refine wpAny_bind (wpAny_field ed rfl (x := .none) rfl (wpAny_pure ?_))
  simp only [if_true]
  refine wpAny_bind (wpAny_rule (wpAny_bind (wpAny_field ed rfl (x := old) rfl (wpAny_bind (wpAny_setField_rec ed (by simp) fun hf ef sf => ?_)))))
  replace sf : Heap.SameBut en hd hf := sf
  replace ef : IsEnum hf en it (c + 1) x := ef
  show wpAny _ _ (Builtin.SmallTypes.ownedTupleHandOut (.ref en) (.ref hp.objs.size) >>= _) _ _ ⟨hf, g, d, tk + 1, os⟩
  refine wpAny_bind ?_
  unfold Builtin.SmallTypes.ownedTupleHandOut
  refine wpAny_bind (wpAny_setField_rec ef (by simp) fun hi ei si => ?_)
  replace si : Heap.SameBut en hf hi := si
  replace ei : IsEnumOut hi en it (c + 1) x hp.objs.size := ei
  refine wpAny_setField_rec ei (by simp) fun hj ej sj => ?_
  replace sj : Heap.SameBut en hi hj := sj
  replace ej : IsEnumOut hj en it (c + 1) x hp.objs.size := ej
  refine wpAny_bind (wpAny_letGo (wpAny_pure ⟨_, rfl, q hj ej ?_ ?_ ?_ ?_⟩))
  · exact ((id4.extBut sf.extBut ne.symm).extBut si.extBut ne.symm).extBut sj.extBut ne.symm
  · exact sj.extBut _ _ (Nat.ne_of_gt lt0) (si.extBut _ _ (Nat.ne_of_gt lt0) (sf.extBut _ _ (Nat.ne_of_gt lt0) td))
  · rw [sj.1, si.1, sf.1, zd]
  · exact fun b o n1 n2 z => sj.extBut b o n1 (si.extBut b o n1 (sf.extBut b o n1 (kd b o n1 n2 z)))
theorem enS_item {en it l : Addr} {i : Nat} {c : Int} {its : Array Value} {x old : Value} {Q : Option Value → Shared → Prop} (he : IsEnum s.heap en it c old) (hit : s.heap.IsListIter it l i) (hl : s.heap.IsList l its) (hx : its[i]? = some x) (ne : en ≠ it)
    (q : ∀ h', IsEnumOut h' en it (c + 1) x s.heap.objs.size → h'.IsListIter it l (i + 1) → h'.get? s.heap.objs.size = some { cls := .type "tuple", data := .seq #[.int c s.toks, x] } → h'.objs.size = s.heap.objs.size + 1 → (∀ b o, b ≠ en → b ≠ it → s.heap.get? b = some o → h'.get? b = some o) → Q (some (.ref s.heap.objs.size)) { s with heap := h', toks := s.toks + 1 }) :
    wpAny (model prog w) A (pyNext (.ref en)) Q E s := by
  have ty : s.TypeIs (.ref en) "enumerate" := ⟨_, he, rfl⟩
  unfold pyNext
  refine wpAny_bind (wpAny_attempt (wpAny_callSpecial?_slot (name := Str.ofString "__next__") ty F.slot_enumerate_next (wpAny_call_entry F.slot_enumerate_next ty F.entry_enumerate_next ?_ (F.args_enumerate_next_1 _))))
  exact enS_next he hit hl hx ne fun h' a b c d k => wpAny_pure (q h' a b c d k)
theorem enS_end {en it l : Addr} {i : Nat} {c : Int} {its : Array Value} {old : Value} {Q : Option Value → Shared → Prop} (hh : A.handled = none) (he : IsEnum s.heap en it c old) (hit : s.heap.IsListIter it l i) (hl : s.heap.IsList l its) (hx : its[i]? = none)
    (q : ∀ h', Heap.ExtBut it s.heap h' → Q none { s with heap := h' }) : wpAny (model prog w) A (pyNext (.ref en)) Q E s := by
  have ty : s.TypeIs (.ref en) "enumerate" := ⟨_, he, rfl⟩
  unfold pyNext
  refine wpAny_bind (wpAny_attempt (wpAny_callSpecial?_slot (name := Str.ofString "__next__") ty F.slot_enumerate_next (wpAny_call_entry F.slot_enumerate_next ty F.entry_enumerate_next ?_ (F.args_enumerate_next_1 _))))
  show wpAny _ _ (field (.ref en) 2 >>= _) _ _ _
  refine wpAny_bind (wpAny_field he rfl (x := .ref it) rfl (wpAny_bind (wpAny_nextOf_list_end hh hit hl hx fun h' x k z => ?_)))
  obtain ⟨o, ho, hc⟩ := z
  exact wpAny_bind (wpAny_isInstance (T := "StopIteration") (b := true) ⟨o, ho, hc⟩ isSubtype_stop (wpAny_pure (q _ k)))
theorem enS_new (l : Addr) (its : Array Value) (n : Nat) (dct : Option Addr) (sl : Array (Option Value)) (t : Tok) :
    Meets (Builtin.«enumerate.__new__» ⟨[.type "enumerate", .ref l, .int 2 t], []⟩) (fun _ R s => s.heap.get? l = some { cls := .type "list", dict := dct, data := .seq its n, slots := sl } ∧
      R (.ok (.ret (.ref (s.heap.push { cls := .type "list_iterator", data := .fields #[.ref l, .int 0 0] }).objs.size))) { s with heap := (s.heap.push { cls := .type "list_iterator", data := .fields #[.ref l, .int 0 0] }).push { cls := .type "enumerate", data := .fields #[.none, .bool false, .ref s.heap.objs.size, rawInt 2, .none, .none] } }) :=
  .of_wp fun prog w A R s h => by
    obtain ⟨hp, g, d, tk, os⟩ := s
    obtain ⟨hl, h⟩ := h
    have hs := sub_enumerate
    have hL : Heap.IsList (Shared.heap ⟨hp, g, d, tk, os⟩) l its := ⟨_, hl, rfl, n, rfl⟩
    wp_walk using AutoSeq1.wpAny_loadPart' hl
    refine wpAny_stack_any fun st => wpAny_pure ?_
    split
    · rename_i c _ _ _ _ _
      cases (c == Value.type "enumerate") <;> (wp_walk using AutoSeq1.wpAny_loadPart' hl, wpAny_pyIter_list hL; exact ⟨_, rfl, h⟩)
    · wp_walk using AutoSeq1.wpAny_loadPart' hl, wpAny_pyIter_list hL
      exact ⟨_, rfl, h⟩
end
section
variable {prog : Program} {w : World} {A : Around} {E : Value → Shared → Prop} {s : Shared}
theorem enS_call {l : Addr} {its : Array Value} {t : Tok} {Q : Value → Shared → Prop} (hL : s.heap.IsList l its)
    (q : ∀ h', IsEnum h' (s.heap.objs.size + 1) s.heap.objs.size 2 .none → h'.IsListIter s.heap.objs.size l 0 → h'.objs.size = s.heap.objs.size + 2 → (∀ b o, s.heap.get? b = some o → h'.get? b = some o) → Q (.ref (s.heap.objs.size + 1)) { s with heap := h' }) :
    wpAny (model prog w) A (call (.type "enumerate") [.ref l, .int 2 t]) Q E s := by
  obtain ⟨⟨c, dct, dt, sl⟩, hl, hc, n, hd⟩ := hL
  have hc2 : c = .type "list" := hc
  have hd2 : dt = .seq its n := hd
  subst hc2 hd2
  refine callType_new F.called_enumerate (by decide) (by kernel_rfl) (by kernel_rfl) (fun obj => F.args_object_init_3 obj _ _) F.entry_enumerate_new (enS_new l its n dct sl t) ⟨hl, ?_⟩
  have z1 : (s.heap.push { cls := .type "list_iterator", data := .fields #[.ref l, .int 0 0] }).objs.size = s.heap.objs.size + 1 := Heap.size_push ..
  show _ ∧ _
  rw [z1]
  have he : IsEnum ((s.heap.push { cls := .type "list_iterator", data := .fields #[.ref l, .int 0 0] }).push { cls := .type "enumerate", data := .fields #[.none, .bool false, .ref s.heap.objs.size, rawInt 2, .none, .none] }) (s.heap.objs.size + 1) s.heap.objs.size 2 .none := by
    have z := Heap.get?_push_size (s.heap.push { cls := .type "list_iterator", data := .fields #[.ref l, .int 0 0] }) (o := { cls := .type "enumerate", data := .fields #[.none, .bool false, .ref s.heap.objs.size, rawInt 2, .none, .none] }) rfl
    rw [z1] at z
    exact z
  exact ⟨⟨_, he, rfl⟩, q _ he ⟨_, Heap.get?_push_of_some _ (Heap.get?_push_size _ rfl), rfl, rfl⟩ (by rw [Heap.size_push, z1]) fun b o y => Heap.get?_push_of_some _ (Heap.get?_push_of_some _ y)⟩
end
/-- the list at a, each item in a new pair behind 2 + its place -/
def It2 (K : PySem.W.Frag) (a : Addr) : It :=
  ⟨fun i H => ∃ (xs : List V) (x : V), SqL K H a xs ∧ xs[i]? = some x, fun i H v H' => ∃ T x, v = .ref T ∧ H T = none ∧ H' = upd H T (.tup [.int (2 + (i : Nat)), x]) ∧ ∀ xs, SqL K H a xs → xs[i]? = some x, fun i H => ∃ xs : List V, SqL K H a xs ∧ xs.length ≤ i⟩
theorem turn_enS {P : Program} {w : World} {K : PySem.W.Frag} {elts : List Expr} {kk : Nat} {tpos : Pos} (a en it : Addr) :
    Turn P w K (.Tuple elts kk tpos) (It2 K a) [en, it] en (fun i h => (∃ old, IsEnum h en it (2 + ((i : Nat) : Int)) old) ∧ h.IsListIter it a i ∧ en ≠ it) where
  mem := by simp
  obj := fun i h st b hb => by
    obtain ⟨⟨old, he⟩, ⟨o, ho, hc, hd⟩, _⟩ := st
    have z : b = en ∨ b = it := by simpa using hb
    rcases z with rfl | rfl
    · exact ⟨_, he, fun v q => nomatch q⟩
    · exact ⟨o, ho, fun v q => by rw [hd] at q; cases q⟩
  keep := fun i h h' st k => by
    obtain ⟨⟨old, he⟩, hi, ne⟩ := st
    exact ⟨⟨old, k en (by simp) _ he⟩, hi.at fun o q => k it (by simp) o q, ne⟩
  item := by
    intro X hP hw hK hc i pins s σ H E I hf st hg
    subst hP hw hK
    obtain ⟨⟨old, he⟩, hit, ne⟩ := st
    obtain ⟨xs, x, hq, hx⟩ := hg
    obtain ⟨its, rv, p, hz⟩ := I.list hq
    obtain ⟨u, hu, ru⟩ := rv.get hx
    have l1 : en < s.heap.objs.size := Heap.lt_size he
    have l2 : it < s.heap.objs.size := by
      obtain ⟨_, q, _⟩ := hit
      exact Heap.lt_size q
    refine enS_item he hit p.isList (x := u) (by simpa using hu) ne fun h' ho hit' hT hsz hk => ⟨_, rfl, wpAny_letOwnedTupleGo_enum (s := { s with heap := h', toks := s.toks + 1 }) ho fun h2 he2 sb => ?_⟩
    have hT2 : h2.get? s.heap.objs.size = some { cls := .type "tuple", data := .seq #[.int (2 + (i : Int)) s.toks, u] } := (sb.2 _ (Nat.ne_of_gt l1)).trans hT
    have new : ObjOk X.prog X.w (upd H s.heap.objs.size (.tup [.int (2 + (i : Nat)), x])) h2 s.heap.objs.size (.tup [.int (2 + (i : Nat)), x]) := ⟨by show 2 ≤ sizeLine; decide, [.int (2 + (i : Int)) s.toks, u], .cons ⟨_, rfl⟩ (.cons ru .nil), ⟨_, hT2, rfl, _, rfl⟩⟩
    have I1 : Inv X pins σ (upd H s.heap.objs.size (.tup [.int (2 + (i : Nat)), x])) { s with heap := h2, toks := s.toks + 1 } :=
      I.turnedNew (ch := [en, it]) (fun b ob hb q => (sb.2 b (fun z => hb (by simp [z]))).trans (hk b ob (fun z => hb (by simp [z])) (fun z => hb (by simp [z])) q)) hf (Nat.le_refl _) new
    refine ⟨.ref s.heap.objs.size, _, I1, rfl, ⟨_, x, rfl, I.hok.fresh (Nat.le_refl _), rfl, fun ys hy => by rw [I.list_inj hy hq]; exact hx⟩, ⟨⟨u, ?_⟩, hit'.at fun o q => (sb.2 it ne.symm).trans q, ne⟩, fun b hb => ?_⟩
    · have z : 2 + ((i + 1 : Nat) : Int) = 2 + (i : Int) + 1 := by omega
      rw [z]
      exact he2
    · have lt : b < s.heap.objs.size := by
        have z : b = en ∨ b = it := by simpa using hb
        rcases z with z | z <;> (rw [z]; assumption)
      rw [upd_ne (Nat.ne_of_lt lt)]
      exact (hf b hb).1
  done := by
    intro X hP hw hK hc i pins s σ H E I hf st hg
    subst hP hw hK
    obtain ⟨⟨old, he⟩, hit, ne⟩ := st
    obtain ⟨xs, hq, hx⟩ := hg
    obtain ⟨its, rv, p, hz⟩ := I.list hq
    obtain ⟨f0, f1, f2, f3, f4, f5⟩ := hf it (by simp)
    have hl := rv.length
    exact enS_end (I.ok.hd hc) he hit p.isList (by simp; omega) fun h' eb => ⟨rfl, I.turned (t' := s.toks) (fun b o hb q => eb b o hb q) f0 f1 f3 f4 f5⟩
  self := fun A i s Q E st h => by
    obtain ⟨⟨_, he⟩, _⟩ := st
    exact wpAny_pyIter_enum he h
def iEn2 (K : PySem.W.Frag) (ta : TA) : TI := fun σ H R => ta σ H fun vs H1 => ∃ a xs, vs = [.ref a, .int 2] ∧ SqL K H1 a xs ∧ R (It2 K a) H1
theorem xi_en2 {X : Cx} {K : PySem.W.Frag} {e e2 : Expr} {ta : TA} {p pos tpos : Pos} {elts : List Expr} {kk : Nat} (ek : X.K = K) (hg : Gl X "enumerate") (hm : X.mg "enumerate" = none) (ha : PA X [e, e2] ta) (hs : starEach [e, e2] X.env = (false, eval e X.env) :: starEach [e2] X.env := by rfl) (hpl : (backTo pos (starEach [e2] X.env)).any (·.1) = false := by rfl) :
    PI X (.Tuple elts kk tpos) (.Call (.Name "enumerate" p) [e, e2] [] pos) (iEn2 K ta) := by
  subst ek
  refine ⟨fun pins s σ H R I h => Call_ (ld_blt I hg hm boot_enumerate (PyProof.Rows.callWith_type1 (thn (ha.run pos pins s σ H _ I h) fun us s1 z => ?_) hs hpl))⟩
  obtain ⟨vs, H1, I1, r1, a, xs, rfl, hq, q⟩ := z
  cases r1 with
  | cons r rr => cases rr with
    | cons r' rr =>
      cases rr
      cases r
      obtain ⟨t, rfl⟩ := r'
      obtain ⟨its, rv, p', hz⟩ := I1.list hq
      refine enS_call p'.isList fun h' he hit hsz hk => wpAny_pyIter_enum he ?_
      have I2 : Inv X pins σ H1 { s1 with heap := h' } := I1.kept (t' := s1.toks) hk
      refine ⟨s1.heap.objs.size + 1, [s1.heap.objs.size + 1, s1.heap.objs.size], _, _, H1, rfl, I2, turn_enS a (s1.heap.objs.size + 1) s1.heap.objs.size, ⟨⟨.none, he⟩, hit, Nat.succ_ne_self _⟩, fun b hb => ?_, q⟩
      have z : b = s1.heap.objs.size + 1 ∨ b = s1.heap.objs.size := by simpa using hb
      have le : s1.heap.objs.size ≤ b := by
        rcases z with z | z
        · rw [z]
          exact Nat.le_succ _
        · rw [z]
          exact Nat.le_refl _
      exact I1.fpOk le (I1.hok.fresh le)
theorem walk_enS {K : PySem.W.Frag} {a : Addr} {xs : List V} : Walk (It2 K a) xs.length (fun H => SqL K H a xs) (YPair (fun i => some (.int (2 + (i : Nat)))) (fun i => xs[i]?)) := by
  refine ⟨fun i _ hi q => ⟨xs, xs[i], q, by simp [hi]⟩, fun _ q => ⟨xs, q, Nat.le_refl _⟩, fun i H v H' _ q y => ?_⟩
  obtain ⟨T, x, h1, h2, h3, h4⟩ := y
  exact ⟨T, .int (2 + (i : Nat)), x, h1, h2, h3, rfl, h4 xs q⟩

/-! ### words[1::2] of at most four words -/
def OddOf (xs ys : List V) : Prop := (xs = [] ∧ ys = []) ∨ (∃ a b, xs = [a, b] ∧ ys = [b]) ∨ ∃ a b c d, xs = [a, b, c, d] ∧ ys = [b, d]
theorem bnd2 : sliceBounds (some 1) none (some 2) 2 = (1, 2, 2) := by decide
theorem bnd4 : sliceBounds (some 1) none (some 2) 4 = (1, 4, 2) := by decide
theorem rng2 : sliceRange 1 2 2 = [1] := by decide
theorem rng4 : sliceRange 1 4 2 = [1, 3] := by decide
theorem pick2 (a b : Value) : slicePick #[a, b] (some 1) none (some 2) = #[b] := by
  unfold slicePick
  show ((sliceRange (sliceBounds (some 1) none (some 2) 2).1 (sliceBounds (some 1) none (some 2) 2).2.1 (sliceBounds (some 1) none (some 2) 2).2.2).filterMap (#[a, b][·]?)).toArray = _
  rw [bnd2, rng2]
  rfl
theorem pick4 (a b c d : Value) : slicePick #[a, b, c, d] (some 1) none (some 2) = #[b, d] := by
  unfold slicePick
  show ((sliceRange (sliceBounds (some 1) none (some 2) 4).1 (sliceBounds (some 1) none (some 2) 4).2.1 (sliceBounds (some 1) none (some 2) 4).2.2).filterMap (#[a, b, c, d][·]?)).toArray = _
  rw [bnd4, rng4]
  rfl
theorem pick_odd {xs ys : List V} {its : List Value} (o : OddOf xs ys) (r : Vals xs its) : ∃ us : List Value, slicePick its.toArray (some 1) none (some 2) = us.toArray ∧ Vals ys us ∧ ys.length ≤ 2 := by
  rcases o with ⟨rfl, rfl⟩ | ⟨a, b, rfl, rfl⟩ | ⟨a, b, c, d, rfl, rfl⟩
  · cases r
    exact ⟨[], rfl, .nil, by decide⟩
  · cases r with
    | cons r1 r => cases r with
      | cons r2 r =>
        cases r
        exact ⟨[_], pick2 _ _, .cons r2 .nil, by show 1 ≤ 2; decide⟩
  · cases r with
    | cons r1 r => cases r with
      | cons r2 r => cases r with
        | cons r3 r => cases r with
          | cons r4 r =>
            cases r
            exact ⟨[_, _], pick4 _ _ _ _, .cons r2 (.cons r4 .nil), by show 2 ≤ 2; decide⟩
def tOdd (K : PySem.W.Frag) (te : TE) : TE := fun σ H Q => te σ H fun x H1 => ∃ a xs ys, x = .ref a ∧ SqL K H1 a xs ∧ OddOf xs ys ∧ ∀ p, H1 p = none → Q (.ref p) (upd H1 p (.lst ys))
theorem xe_odd {X : Cx} {K : PySem.W.Frag} {e : Expr} {te : TE} {k1 k2 : Nat} {p1 p2 p3 pos : Pos} (ek : X.K = K) (he : PE X e te) : PE X (.Subscript e (.Slice (some (.Constant (.int 1) k1 p1)) none (some (.Constant (.int 2) k2 p2)) p3) pos) (tOdd K te) := by
  subst ek
  refine ⟨fun pins s σ H Q I h => Subscript_ (thn (he.run pins s σ H _ I h) fun v s1 z => ?_)⟩
  obtain ⟨x, H1, I1, r1, a, xs, ys, rfl, hx, od, q⟩ := z
  cases r1
  have c1 : PO X (some (.Constant (.int 1) k1 p1)) (tPart (tC (.int 1))) := po_some pe_int
  have c2 : PO X (some (.Constant (.int 2) k2 p2)) (tPart (tC (.int 2))) := po_some pe_int
  refine wpAny_Slice (thn (c1.run pins s1 σ H1 (fun o H2 => o = some 1 ∧ H2 = H1) I1 ⟨1, rfl, rfl, rfl⟩) fun vl s2 z2 => ?_)
  obtain ⟨l, H2, I2, pl, rfl, rfl⟩ := z2
  refine thn (po_none.run pins s2 σ H2 (fun o H3 => o = none ∧ H3 = H2) I2 ⟨rfl, rfl⟩) fun vu s3 z3 => ?_
  obtain ⟨u, H3, I3, pu, rfl, rfl⟩ := z3
  refine thn (c2.run pins s3 σ H3 (fun o H4 => o = some 2 ∧ H4 = H3) I3 ⟨2, rfl, rfl, rfl⟩) fun vs s4 z4 => ?_
  obtain ⟨o, H4, I4, ps, rfl, rfl⟩ := z4
  have I5 : Inv X pins σ H4 { s4 with heap := s4.heap.push { cls := .type "slice", data := .fields #[vl, vu, vs] } } := I4.kept (t' := s4.toks) fun b ob q => Heap.get?_push_of_some _ q
  obtain ⟨its, r, ht, hz⟩ := I5.list hx
  obtain ⟨us, e1, r2, le⟩ := pick_odd od r
  have hlen := r.length
  show wpAny (model X.prog X.w) X.A (subscriptTail e (.Slice (some (.Constant (.int 1) k1 p1)) none (some (.Constant (.int 2) k2 p2)) p3) (.ref a) (.ref s4.heap.objs.size)) (EP X pins σ Q) X.xe { s4 with heap := s4.heap.push { cls := .type "slice", data := .fields #[vl, vu, vs] } }
  refine tail_any (ops := [.ref a, .ref s4.heap.objs.size]) ht.isList.typeIs PySem.slot_list_getitem.lookup ?_ (by with_unfolding_all rfl)
  refine wpAny_getItem_list_slice ht.isList (Heap.IsSliceOf.new _ vl vu vs) pl pu ps (by decide) ?_ (by rw [List.size_toArray]; omega)
  rw [e1]
  refine ⟨.ref _, _, I5.laid (t' := s4.toks) (o := .lst ys) (fun b ob q => Heap.get?_push_of_some _ q) (Nat.le_refl _) ?_, rfl, q _ (I5.hok.fresh (Nat.le_refl _))⟩
  exact ⟨Nat.le_of_lt (small1000 (by omega)), us, 0, r2, Heap.get?_push_size _ rfl⟩
theorem w_odd {σ : L2.St} {H : Hp} {Q : VK} {K : PySem.W.Frag} {te : TE} (h : te σ H fun x H1 => ∃ a xs ys, x = .ref a ∧ SqL K H1 a xs ∧ OddOf xs ys ∧ ∀ p, H1 p = none → Q (.ref p) (upd H1 p (.lst ys))) : tOdd K te σ H Q := h

/-! ### a dict of the module whose keys are ints -/
def keyI (e : DictEntry) : Option Int × Int := (match e.key with | .int i _ => some i | _ => none, e.hash)
def idB (K : PySem.W.Frag) (x : Str) (ks : List Int) : Bool := match K.lookup (He.ga K x) with
  | some ⟨.type c, none, .dict es _, sl⟩ => decide (c = "dict") && (decide (sl.size = 0) && (decide (es.toList.map keyI = ks.map fun k => (some k, hashInt k)) && !(He.ga K x == sysModules)))
  | _ => false
structure IDict (K : PySem.W.Frag) (x : Str) (ks : List Int) : Prop where
  at_ : ∃ es n, K.lookup (He.ga K x) = some ⟨.type "dict", none, .dict es n, #[]⟩ ∧ es.toList.map keyI = ks.map fun k => (some k, hashInt k)
  low : (He.ga K x == sysModules) = false
theorem idB_ok {K : PySem.W.Frag} {x : Str} {ks : List Int} (h : idB K x ks = true) : IDict K x ks := by
  unfold idB at h
  split at h
  · rename_i c es n sl e
    obtain ⟨h1, h2⟩ := Bool.and_eq_true_iff.mp h
    obtain ⟨h2, h3⟩ := Bool.and_eq_true_iff.mp h2
    obtain ⟨h3, h4⟩ := Bool.and_eq_true_iff.mp h3
    have e1 := of_decide_eq_true h1
    have e2 : sl = #[] := Array.eq_empty_of_size_eq_zero (of_decide_eq_true h2)
    subst e1 e2
    exact ⟨⟨es, n, e, of_decide_eq_true h3⟩, by simpa using h4⟩
  · cases h
theorem keyI_of {e : DictEntry} {k : Int} (h : keyI e = (some k, hashInt k)) : ∃ t, e.key = .int k t ∧ e.hash = hashInt k := by
  unfold keyI at h
  obtain ⟨h1, h2⟩ := Prod.mk.inj h
  split at h1
  · rename_i i t z
    cases h1
    exact ⟨t, z, h2⟩
  · cases h1
theorem keys_of : ∀ {l : List DictEntry} {ks : List Int}, l.map keyI = ks.map (fun k => (some k, hashInt k)) → ∀ e ∈ l, ∃ k ∈ ks, ∃ t, e.key = .int k t ∧ e.hash = hashInt k
  | [], _, _, _, h => by cases h
  | d :: l, [], h, _, _ => by cases h
  | d :: l, k :: ks, h, e, m => by
    rw [List.map_cons, List.map_cons] at h
    obtain ⟨h1, h2⟩ := List.cons.inj h
    cases m with
    | head => exact ⟨k, .head _, keyI_of h1⟩
    | tail _ m =>
      obtain ⟨j, mj, z⟩ := keys_of h2 e m
      exact ⟨j, .tail _ mj, z⟩
theorem find_ids : ∀ {l : List DictEntry} {ks : List Int} (i : Int), l.map keyI = ks.map (fun k => (some k, hashInt k)) → (l.find? fun e => Value.isInt i e.key).isSome = decide (i ∈ ks)
  | [], [], i, _ => by simp
  | [], _ :: _, _, h => by cases h
  | d :: l, [], _, h => by cases h
  | d :: l, k :: ks, i, h => by
    rw [List.map_cons, List.map_cons] at h
    obtain ⟨h1, h2⟩ := List.cons.inj h
    obtain ⟨t, e, _⟩ := keyI_of h1
    have ih := find_ids i h2
    rw [List.find?_cons]
    by_cases z : i = k
    · subst z
      have : Value.isInt i d.key = true := by rw [e]; simp [Value.isInt]
      rw [this]
      simp
    · have : Value.isInt i d.key = false := by rw [e]; simpa [Value.isInt] using fun y => z y.symm
      rw [this, ih]
      simp [z]
/-- where the tuple at a key of such a dict stands -/
def idA (K : PySem.W.Frag) (x : Str) (k : Int) : Addr := match K.lookup (He.ga K x) with
  | some ⟨_, _, .dict es _, _⟩ => (match (findBy Value.isInt es k : Option Value) with | some (.ref a) => a | _ => 0)
  | _ => 0
def idR (K : PySem.W.Frag) (x : Str) (k : Int) : Bool := match K.lookup (He.ga K x) with
  | some ⟨_, _, .dict es _, _⟩ => decide ((findBy Value.isInt es k : Option Value) = some (.ref (idA K x k)))
  | _ => false
/-- a tuple of the written part -/
def tupA (K : PySem.W.Frag) (a : Addr) (vs : List V) : Bool := match K.lookup a with
  | some ⟨.type c, _, .seq its _, _⟩ => decide (c = "tuple") && (decide (its.size ≤ sizeLine) && He.relAll vs its.toList)
  | _ => false
theorem tupA_ok {K : PySem.W.Frag} {a : Addr} {vs : List V} (h : tupA K a vs = true) (H : Hp) : SqT K H a vs := by
  unfold tupA at h
  split at h
  · rename_i c d its n sl e
    obtain ⟨h1, h2⟩ := Bool.and_eq_true_iff.mp h
    obtain ⟨h2, h3⟩ := Bool.and_eq_true_iff.mp h2
    exact .inr ⟨_, its, n, e, congrArg Value.type (of_decide_eq_true h1), rfl, of_decide_eq_true h2, He.relAll_ok h3⟩
  · cases h
def rInId (K : PySem.W.Frag) (nm : Str) (ks : List Int) (neg : Bool) : R2 := fun x y H Q => ∃ i, x = .int i ∧ y = .ref (He.ga K nm) ∧ Q (.bl (if neg then !decide (i ∈ ks) else decide (i ∈ ks))) H
def rIxId (K : PySem.W.Frag) (nm : Str) : R2 := fun x y H Q => ∃ i, x = .ref (He.ga K nm) ∧ y = .int i ∧ idR K nm i = true ∧ Q (.ref (idA K nm i)) H
section
variable {X : Cx} {K : PySem.W.Frag} {nm : Str} {ks : List Int}
theorem map_id {h : Heap} {es : Array DictEntry} {n : Nat} (k : K.In h) (l : K.lookup (He.ga K nm) = some ⟨.type "dict", none, .dict es n, #[]⟩) (e : es.toList.map keyI = ks.map fun k => (some k, hashInt k)) : h.MapOf (PySem.intKind X.prog X.w) (He.ga K nm) (fun k => findBy Value.isInt es k) := by
  refine ⟨_, es, n, k _ _ l, ⟨rfl, rfl, rfl⟩, rfl, fun d hd => ?_, fun _ => rfl⟩
  obtain ⟨k, _, t, h1, h2⟩ := keys_of e d (Array.mem_toList_iff.mpr hd)
  exact ⟨k, by rw [h1]; exact PySem.intKind_is X.prog X.w k t, h2⟩
theorem find_id {es : Array DictEntry} (i : Int) (e : es.toList.map keyI = ks.map fun k => (some k, hashInt k)) : (findBy Value.isInt es i).isSome = decide (i ∈ ks) := by
  obtain ⟨l⟩ := es
  unfold findBy
  rw [List.find?_toArray, Option.isSome_map]
  exact find_ids i e
theorem x_inId (ek : X.K = K) (D : IDict K nm ks) : OpR X (compareOp .In) (rInId K nm ks false) := by
  subst ek
  intro pins s σ H x y v u Q I rx ry h
  obtain ⟨i, rfl, rfl, q⟩ := h
  obtain ⟨t, rfl⟩ := rx
  cases ry
  obtain ⟨es, n, l, e⟩ := D.at_
  refine wpAny_in_of (PySem.intKind_is X.prog X.w i t) D.low (map_id (X := X) I.kIn l e) ?_
  rw [find_id i e]
  exact ⟨.bl _, H, I.tok _, rfl, q⟩
theorem x_notInId (ek : X.K = K) (D : IDict K nm ks) : OpR X (compareOp .NotIn) (rInId K nm ks true) := by
  subst ek
  intro pins s σ H x y v u Q I rx ry h
  obtain ⟨i, rfl, rfl, q⟩ := h
  obtain ⟨t, rfl⟩ := rx
  cases ry
  obtain ⟨es, n, l, e⟩ := D.at_
  refine wpAny_notIn_of (PySem.intKind_is X.prog X.w i t) D.low (map_id (X := X) I.kIn l e) ?_
  rw [find_id i e]
  exact ⟨.bl _, H, I.tok _, rfl, q⟩
theorem x_ixId (ek : X.K = K) (D : IDict K nm ks) : IxR X (rIxId K nm) := by
  subst ek
  intro value slice pins s σ H x y v u Q I rx ry h hs
  obtain ⟨i, rfl, rfl, hr, q⟩ := h
  obtain ⟨t, rfl⟩ := ry
  cases rx
  obtain ⟨es, n, l, e⟩ := D.at_
  have hv : (findBy Value.isInt es i : Option Value) = some (.ref (idA X.K nm i)) := by
    unfold idR at hr
    rw [l] at hr
    exact of_decide_eq_true hr
  have m := map_id (X := X) I.kIn l e
  exact tail_any (ops := [.ref (He.ga X.K nm), .int i t]) m.typeIs PySem.F.slot_dict_getitem.lookup (wpAny_getItem_of (PySem.intKind_is X.prog X.w i t) m hv ⟨.ref _, H, I.tok _, rfl, q⟩) hs
end

/-! ### the head's facts with properties -/
structure PrD where
  cls : Str
  fld : Str
  qual : Str
  params : Arguments
  body : List Stmt
  scope : Scope
/-- where a property's getter stands -/
def prA (K : PySem.W.Frag) (x f : Str) : Addr := match PySem.W.findIn K (.ref (He.ga K x)) f with
  | some (some (.ref p)) => p
  | _ => 0
def prG (K : PySem.W.Frag) (x f : Str) : Addr := match PySem.W.recIn K (prA K x f) "property" with
  | some (.ref g :: _) => g
  | _ => 0
def prW (K : PySem.W.Frag) (d : PrD) : He.FnW := match K.lookup (prG K d.cls d.fld) with
  | some ⟨_, _, .func fd, _⟩ => some (fd.name, fd.qualname, fd.params, fd.body, fd.scope, fd.globals, fd.closure, fd.builtins)
  | _ => none
def PrD.val (d : PrD) : He.FnW := some (d.fld, d.qual, d.params, .stmts d.body, d.scope, mainGlobals, [], builtinsNs)
def PrD.ok (K : PySem.W.Frag) (d : PrD) : Bool :=
  He.eqO (PySem.W.findIn K (.ref (He.ga K d.cls)) d.fld) (some (some (.ref (prA K d.cls d.fld)))) && (He.eqO (PySem.W.specialIn K (.ref (prA K d.cls d.fld)) "__get__") (some (some (.builtin "property.__get__"))) && (decide (PySem.W.takesIn K (.ref (prA K d.cls d.fld)) = some true) &&
  ((match PySem.W.recIn K (prA K d.cls d.fld) "property" with | some (.ref g :: _) => decide (g = prG K d.cls d.fld) | _ => false) && (PySem.W.keepIn K (.ref (prG K d.cls d.fld)) && (match K.lookup (prG K d.cls d.fld) with | some ⟨_, _, .func fd, _⟩ => PySem.W.codeIn K fd.code d.qual && (He.dflB K fd.defaults [] && He.kwdB K fd.kwdefaults []) | _ => false)))))
theorem PrD.good {K : PySem.W.Frag} {d : PrD} (e : prW K d = d.val) (c : d.ok K = true) : PropOf K (He.ga K d.cls) d.fld (prA K d.cls d.fld) (prG K d.cls d.fld) ∧ ∃ fd, FunD K d.fld d.qual d.params d.body d.scope [] [] (prG K d.cls d.fld) fd := by
  obtain ⟨c1, c⟩ := Bool.and_eq_true_iff.mp c
  obtain ⟨c2, c⟩ := Bool.and_eq_true_iff.mp c
  obtain ⟨c3, c⟩ := Bool.and_eq_true_iff.mp c
  obtain ⟨c4, c⟩ := Bool.and_eq_true_iff.mp c
  obtain ⟨c5, c6⟩ := Bool.and_eq_true_iff.mp c
  refine ⟨⟨He.eqO_ok c1, He.eqO_ok c2, of_decide_eq_true c3, ?_⟩, ?_⟩
  · split at c4
    · rename_i g r z
      have zg := of_decide_eq_true c4
      exact ⟨r, by rw [z, zg]⟩
    · cases c4
  · unfold prW at e
    cases q : K.lookup (prG K d.cls d.fld) with
    | none =>
      rw [q] at c6
      cases c6
    | some o =>
      obtain ⟨oc, od, dt, osl⟩ := o
      rw [q] at c6 e
      cases dt with
      | func fd =>
        obtain ⟨n1, n2, n3, n4, n5, n6, n7, n8, n9, n10, n11, n12, n13, n14, n15⟩ := fd
        have e2 : (some (n1, n2, n3, n4, n5, n6, n7, n15) : He.FnW) = some (d.fld, d.qual, d.params, .stmts d.body, d.scope, mainGlobals, [], builtinsNs) := e
        simp only [Option.some.injEq, Prod.mk.injEq] at e2
        obtain ⟨h1, h2, h3, h4, h5, h6, h7, h8⟩ := e2
        subst h1 h2 h3 h4 h5 h6 h7 h8
        have c7 : (PySem.W.codeIn K n13 d.qual && (He.dflB K n8 [] && He.kwdB K n9 [])) = true := c6
        obtain ⟨k1, k2⟩ := Bool.and_eq_true_iff.mp c7
        obtain ⟨k3, k4⟩ := Bool.and_eq_true_iff.mp k2
        exact ⟨_, ⟨oc, od, n8, n9, n10, n11, n12, n13, n14, osl, rfl, q, k1, He.dflB_ok k3, He.kwdB_ok k4⟩, c5⟩
      | _ => cases c6
/-- what is looked at: all addresses below n -/
def frZ (g : Addr → Option Obj) (n : Nat) : PySem.W.Frag := He.frT g (List.range n)
def mapV : List He.DefD → List He.FnW
  | [] => []
  | d :: r => d.val :: mapV r
theorem mapV_eq : ∀ l : List He.DefD, mapV l = l.map He.DefD.val
  | [] => rfl
  | d :: r => congrArg (d.val :: ·) (mapV_eq r)
def mapP : List PrD → List He.FnW
  | [] => []
  | d :: r => d.val :: mapP r
theorem mapP_eq : ∀ l : List PrD, mapP l = l.map PrD.val
  | [] => rfl
  | d :: r => congrArg (d.val :: ·) (mapP_eq r)
def obsR (n : Nat) (fa : List He.Fa) (fn : List He.DefD) (ex : PySem.W.Frag → Bool) (g : Addr → Option Obj) : He.AlX := (He.obsT fa fn [] (frZ g n), ex (frZ g n) && He.tabsB g [] (frZ g n))
theorem saysR_of {n : Nat} {fa : List He.Fa} {fn : List He.DefD} {ex : PySem.W.Frag → Bool} {w : World} {h : Heap} (e : obsR n fa fn ex h.get? = He.valX fn [] w) : He.SaysX fa fn [] [] ex w h (frZ h.get? n) := by
  have e1 : He.obsT fa fn [] (frZ h.get? n) = He.valT fn [] w := congrArg (fun z : He.AlX => z.1) e
  have e2 : (ex (frZ h.get? n) && He.tabsB h.get? [] (frZ h.get? n)) = true := congrArg (fun z : He.AlX => z.2) e
  exact ⟨e1, (Bool.and_eq_true_iff.mp e2).1, fun _ h => (nomatch h), fun _ h => (nomatch h), fun _ h => (nomatch h)⟩
abbrev AlP : Type := He.AlX × (Bool × List He.FnW)
def obsP (n : Nat) (fa : List He.Fa) (fn : List He.DefD) (ex : PySem.W.Frag → Bool) (pr : List PrD) (g : Addr → Option Obj) : AlP := (obsR n fa fn ex g, (pr.all fun d => d.ok (frZ g n)), pr.map fun d => prW (frZ g n) d)
structure SaysP (fa : List He.Fa) (fn : List He.DefD) (ex : PySem.W.Frag → Bool) (pr : List PrD) (w : World) (h : Heap) (K : PySem.W.Frag) : Prop where
  x : He.SaysX fa fn [] [] ex w h K
  ok : (pr.all fun d => d.ok K) = true
  fn : (pr.map fun d => prW K d) = pr.map PrD.val
def hookP (n : Nat) (fa : List He.Fa) (fn : List He.DefD) (ex : PySem.W.Frag → Bool) (pr : List PrD) : PySem.W.Hook where
  α := AlP
  obs := fun s => obsP n fa fn ex pr s.heap.get?
  val := fun w => (He.valX fn [] w, true, pr.map PrD.val)
  says := fun w h => ∃ K : PySem.W.Frag, K.In h ∧ SaysP fa fn ex pr w h K
  of := fun _ _ e => ⟨_, He.frT_in, saysR_of (congrArg (fun z : AlP => z.1) e), congrArg (fun z : AlP => z.2.1) e, congrArg (fun z : AlP => z.2.2) e⟩
  keeps := fun _ _ _ y k => by
    obtain ⟨K, hK, c⟩ := y
    exact ⟨K, PySem.W.Frag.In.keeps hK k, ⟨c.x.t, c.x.more, c.x.hd, c.x.out, fun p hp => k _ _ (c.x.empty p hp)⟩, c.ok, c.fn⟩
theorem obsP_eq {n : Nat} {fa : List He.Fa} {fn : List He.DefD} {ex : PySem.W.Frag → Bool} {pr : List PrD} {g : Addr → Option Obj} {s : Shared} (h : ∀ a, g a = s.heap.get? a) : obsP n fa fn ex pr g = (hookP n fa fn ex pr).obs s := by
  have e : g = s.heap.get? := funext h
  rw [e]
  rfl
theorem SaysP.prop {fa : List He.Fa} {fn : List He.DefD} {ex : PySem.W.Frag → Bool} {pr : List PrD} {w : World} {h : Heap} {K : PySem.W.Frag} (c : SaysP fa fn ex pr w h K) (i : Nat) {d : PrD} (e : pr[i]? = some d := by rfl) : PropOf K (He.ga K d.cls) d.fld (prA K d.cls d.fld) (prG K d.cls d.fld) ∧ ∃ fd, FunD K d.fld d.qual d.params d.body d.scope [] [] (prG K d.cls d.fld) fd := by
  refine PrD.good ?_ (List.all_eq_true.mp c.ok d (List.mem_of_getElem? e))
  have z := congrArg (fun l : List He.FnW => l[i]?) c.fn
  rw [List.getElem?_map, List.getElem?_map, e] at z
  exact Option.some.inj z
def sixT : List String := ["int", "bool", "str", "tuple", "list", "dict"]
def ownB (K : PySem.W.Frag) (c : Str) : Bool := He.eqO (PySem.W.findIn K (.ref (He.ga K c)) "__class__") (some (some (.builtin "object.__class__"))) && (He.eqO (PySem.W.specialIn K (.builtin "object.__class__") "__get__") (some (some (.builtin "getset_descriptor.__get__"))) &&
  (decide (PySem.W.takesIn K (.builtin "object.__class__") = some true) && (decide (PySem.W.mroIn K (He.ga K c) (.type "object") = some true) && sixT.all fun T => decide (PySem.W.kitOne K (.ref (He.ga K c)) (.type T) = some false))))
def isiB (K : PySem.W.Frag) (c : Str) (cs : List Str) : Bool := (("NoneType" :: sixT).all fun T => decide (PySem.W.kitOne K (.type T) (.ref (He.ga K c)) = some false)) && cs.all fun c' => decide (PySem.W.kitOne K (.ref (He.ga K c')) (.ref (He.ga K c)) = some (decide (c' = c)))

/-! ### a head's run looked at piece by piece -/
theorem obsD_app {fa1 fa2 : List He.Fa} {fn1 fn2 : List He.DefD} {K : PySem.W.Frag} (h1 : He.obsD fa1 fn1 K = He.valD fn1) (h2 : He.obsD fa2 fn2 K = He.valD fn2) : He.obsD (fa1 ++ fa2) (fn1 ++ fn2) K = He.valD (fn1 ++ fn2) := by
  have a1 := congrArg (fun z : He.AlD => z.1) h1
  have b1 := congrArg (fun z : He.AlD => z.2) h1
  have a2 := congrArg (fun z : He.AlD => z.1) h2
  have b2 := congrArg (fun z : He.AlD => z.2) h2
  dsimp only [He.obsD, He.valD] at a1 b1 a2 b2 ⊢
  rw [Bool.and_eq_true] at a1 a2
  rw [List.map_append, List.map_append, b1, b2, List.all_append, List.all_append, a1.1, a1.2, a2.1, a2.2]
  rfl
theorem obsR_app {n : Nat} {fa1 fa2 : List He.Fa} {fn1 fn2 : List He.DefD} {ex1 ex2 : PySem.W.Frag → Bool} {g : Addr → Option Obj} {w : World} (h1 : obsR n fa1 fn1 ex1 g = He.valX fn1 [] w) (h2 : obsR n fa2 fn2 ex2 g = He.valX fn2 [] w) : obsR n (fa1 ++ fa2) (fn1 ++ fn2) (fun K => ex1 K && ex2 K) g = He.valX (fn1 ++ fn2) [] w := by
  have a1 : He.obsD fa1 fn1 _ = He.valD fn1 := congrArg (fun z : He.AlX => z.1.1) h1
  have a2 : He.obsD fa2 fn2 _ = He.valD fn2 := congrArg (fun z : He.AlX => z.1.1) h2
  have c1 : (ex1 (frZ g n) && He.tabsB g [] (frZ g n)) = true := congrArg (fun z : He.AlX => z.2) h1
  have c2 : (ex2 (frZ g n) && He.tabsB g [] (frZ g n)) = true := congrArg (fun z : He.AlX => z.2) h2
  rw [Bool.and_eq_true] at c1 c2
  have a := obsD_app a1 a2
  show ((He.obsD (fa1 ++ fa2) (fn1 ++ fn2) (frZ g n), _), ((ex1 (frZ g n) && ex2 (frZ g n)) && He.tabsB g [] (frZ g n))) = ((He.valD (fn1 ++ fn2), _), true)
  rw [a, c1.1, c2.1, c1.2]
  rfl
theorem obsP_app {n : Nat} {fa1 fa2 : List He.Fa} {fn1 fn2 : List He.DefD} {ex1 ex2 : PySem.W.Frag → Bool} {pr1 pr2 : List PrD} {g : Addr → Option Obj} {w : World} (h1 : obsP n fa1 fn1 ex1 pr1 g = (hookP n fa1 fn1 ex1 pr1).val w) (h2 : obsP n fa2 fn2 ex2 pr2 g = (hookP n fa2 fn2 ex2 pr2).val w) : obsP n (fa1 ++ fa2) (fn1 ++ fn2) (fun K => ex1 K && ex2 K) (pr1 ++ pr2) g = (hookP n (fa1 ++ fa2) (fn1 ++ fn2) (fun K => ex1 K && ex2 K) (pr1 ++ pr2)).val w := by
  have a1 : obsR n fa1 fn1 ex1 g = He.valX fn1 [] w := congrArg (fun z : AlP => z.1) h1
  have a2 : obsR n fa2 fn2 ex2 g = He.valX fn2 [] w := congrArg (fun z : AlP => z.1) h2
  have b1 : (pr1.all fun d => d.ok (frZ g n)) = true := congrArg (fun z : AlP => z.2.1) h1
  have b2 : (pr2.all fun d => d.ok (frZ g n)) = true := congrArg (fun z : AlP => z.2.1) h2
  have c1 : (pr1.map fun d => prW (frZ g n) d) = pr1.map PrD.val := congrArg (fun z : AlP => z.2.2) h1
  have c2 : (pr2.map fun d => prW (frZ g n) d) = pr2.map PrD.val := congrArg (fun z : AlP => z.2.2) h2
  show (obsR n (fa1 ++ fa2) (fn1 ++ fn2) (fun K => ex1 K && ex2 K) g, ((pr1 ++ pr2).all fun d => d.ok (frZ g n)), (pr1 ++ pr2).map fun d => prW (frZ g n) d) = (He.valX (fn1 ++ fn2) [] w, true, (pr1 ++ pr2).map PrD.val)
  rw [obsR_app a1 a2, List.all_append, b1, b2, List.map_append, List.map_append, c1, c2]
  rfl
/-- the head's run: the state behind it, looked at in pieces -/
noncomputable abbrev EndOf (r : PySem.W.OpenRow) (M : Nat) (w : World) (os : OsState) : Option PySem.W.SharedT := HandSHeadRun.endF (HandSHeadRun.stepQ (HandSHeadRun.denQ HandSHeadRun.tabQ) r.prog w) M r.prog w os
def RunLS (r : PySem.W.OpenRow) (q : Program) (M : Nat) (loose : List PySem.Str) (w : World) : Prop := ∀ os : OsState, (EndOf r M w os).map (fun s => (HandSHeadRun.looksF r.prog (PySem.W.boot_heap w.params) s.abs, HandSHeadRun.seenQ q loose (importedModules r.prog.main.body) (fun s => PySem.W.xlAt q [] s && PySem.W.recOk r.toRowW.records s) s.abs)) = some (true, PySem.W.openGood q loose)
/-- the facts' side: no map of the same head on both sides (the kernel compares the functions first) -/
def RunF (r : PySem.W.OpenRow) (n M : Nat) (fa : List He.Fa) (fn : List He.DefD) (ex : PySem.W.Frag → Bool) (pr : List PrD) (w : World) : Prop := ∀ os : OsState, (EndOf r M w os).map (fun s => obsP n fa fn ex pr (HandSHeadRun.getT s)) = some ((((true, mapV fn), []), true), (true, mapP pr))
theorem valP_eq (n : Nat) (fa : List He.Fa) (fn : List He.DefD) (ex : PySem.W.Frag → Bool) (pr : List PrD) (w : World) : (((((true, mapV fn), []), true), (true, mapP pr)) : AlP) = (hookP n fa fn ex pr).val w := by
  rw [mapV_eq, mapP_eq]
  rfl
theorem run_base {r : PySem.W.OpenRow} {q : Program} {H : PySem.W.Hook} {ob : PySem.W.SharedT → H.α} {M : Nat} {loose : List PySem.Str} {w : World} (rL : RunLS r q M loose w) (rF : ∀ os : OsState, (EndOf r M w os).map ob = some (H.val w)) : HandSHeadRun.RunEq r q H ob M loose w := by
  intro os
  obtain ⟨s, hs, hv⟩ := Option.map_eq_some_iff.mp (rL os)
  obtain ⟨s3, hs3, hv3⟩ := Option.map_eq_some_iff.mp (rF os)
  have e3 : s3 = s := Option.some.inj (hs3.symm.trans hs)
  subst e3
  obtain ⟨h1, h2⟩ := Prod.mk.inj hv
  have hs : HandSHeadRun.endF (HandSHeadRun.stepQ (HandSHeadRun.denQ HandSHeadRun.tabQ) r.prog w) M r.prog w os = some s3 := hs
  rw [hs]
  show some (_, _, _) = some (_, _, _)
  rw [h1, h2, hv3]
theorem RunF.v {r : PySem.W.OpenRow} {n M : Nat} {fa : List He.Fa} {fn : List He.DefD} {ex : PySem.W.Frag → Bool} {pr : List PrD} {w : World} (rF : RunF r n M fa fn ex pr w) : ∀ os : OsState, (EndOf r M w os).map (fun s => obsP n fa fn ex pr (HandSHeadRun.getT s)) = some ((hookP n fa fn ex pr).val w) := fun os => (rF os).trans (congrArg some (valP_eq n fa fn ex pr w))
theorem run_app {r : PySem.W.OpenRow} {n M : Nat} {fa1 fa2 : List He.Fa} {fn1 fn2 : List He.DefD} {ex : PySem.W.Frag → Bool} {pr : List PrD} {w : World}
    (r1 : RunF r n M fa1 fn1 ex pr w) (r2 : RunF r n M fa2 fn2 (fun _ => true) [] w) : RunF r n M (fa1 ++ fa2) (fn1 ++ fn2) ex pr w := by
  intro os
  obtain ⟨s, hs, hv⟩ := Option.map_eq_some_iff.mp (r1 os)
  obtain ⟨s2, hs2, hv2⟩ := Option.map_eq_some_iff.mp (r2 os)
  have es : s2 = s := Option.some.inj (hs2.symm.trans hs)
  subst es
  rw [valP_eq n fa1 fn1 ex pr w] at hv
  rw [valP_eq n fa2 fn2 (fun _ => true) [] w] at hv2
  have c := obsP_app hv hv2
  have ee : (fun K => ex K && (fun _ => true) K) = ex := by
    funext K
    exact Bool.and_true _
  rw [ee, List.append_nil] at c
  rw [hs, valP_eq n (fa1 ++ fa2) (fn1 ++ fn2) ex pr w]
  exact congrArg some c

end Ak
namespace Ak
open PySem PySem.Spec PyProof.Rows L2
set_option maxHeartbeats 0
def topS (i : Nat) : Stmt := PySem.Challenge.pw_anyasked_k19_whole_what_fits_by_own_look.main.body.getD i (.Pass ⟨0, 0, 0, 0⟩)
abbrev s_wall : Stmt := topS 0
abbrev s_AskedError___init__ : Stmt := inClass (topS 2) 0
abbrev s_is_integer : Stmt := topS 16
abbrev s_is_between : Stmt := topS 17
abbrev s_is_tuple : Stmt := topS 18
abbrev s_is_word : Stmt := topS 19
abbrev s_is_name : Stmt := topS 20
abbrev s_number_in : Stmt := topS 21
abbrev s_divisor_of : Stmt := topS 22
abbrev s_fraction : Stmt := topS 23
abbrev s_is_units : Stmt := topS 34
abbrev s_is_share : Stmt := topS 35
abbrev s_check_share : Stmt := topS 36
abbrev s_rounded : Stmt := topS 37
abbrev s_is_right : Stmt := topS 38
abbrev s_are_counts : Stmt := topS 41
abbrev s_many_in : Stmt := topS 42
abbrev s_do_fit : Stmt := topS 43
abbrev s_Table___init__ : Stmt := inClass (topS 44) 0
abbrev s_Table___eq__ : Stmt := inClass (topS 44) 1
abbrev s_Table___getitem__ : Stmt := inClass (topS 44) 2
abbrev s_Table___iter__ : Stmt := inClass (topS 44) 3
abbrev s_Table___add__ : Stmt := inClass (topS 44) 4
abbrev s_Table___mul__ : Stmt := inClass (topS 44) 5
abbrev s_Table___rmul__ : Stmt := inClass (topS 44) 6
abbrev s_Table_page : Stmt := inClass (topS 44) 7
abbrev s_Table_counts : Stmt := inClass (topS 44) 8
abbrev s_Table_total : Stmt := inClass (topS 44) 9
abbrev s_Table_fits : Stmt := inClass (topS 44) 10
abbrev s_Table_share : Stmt := inClass (topS 44) 11
abbrev s_Table_shows : Stmt := inClass (topS 44) 12
abbrev s_share_in : Stmt := topS 63
abbrev s_units_in : Stmt := topS 64
abbrev s_shares_in : Stmt := topS 65
abbrev s_line_of : Stmt := topS 66
abbrev s_Reading___init__ : Stmt := inClass (topS 67) 0
abbrev s_Reading_reads_first : Stmt := inClass (topS 67) 1
abbrev s_Reading_reads_part : Stmt := inClass (topS 67) 2
abbrev s_Reading_lowest : Stmt := inClass (topS 67) 3
abbrev s_ends_beneath : Stmt := topS 68
abbrev s_weights_in : Stmt := topS 69
abbrev s_Page___init__ : Stmt := inClass (topS 70) 0
abbrev s_Page___eq__ : Stmt := inClass (topS 70) 1
abbrev s_Page___len__ : Stmt := inClass (topS 70) 2
abbrev s_Page___iter__ : Stmt := inClass (topS 70) 3
abbrev s_Page___contains__ : Stmt := inClass (topS 70) 4
abbrev s_Page___getitem__ : Stmt := inClass (topS 70) 5
abbrev s_Page_text : Stmt := inClass (topS 70) 6
abbrev s_Page_units : Stmt := inClass (topS 70) 7
abbrev s_Page_parts : Stmt := inClass (topS 70) 8
abbrev s_Page_ends : Stmt := inClass (topS 70) 9
abbrev s_Page_check_part : Stmt := inClass (topS 70) 10
abbrev s_Page_check_above : Stmt := inClass (topS 70) 11
abbrev s_Page_beneath : Stmt := inClass (topS 70) 12
abbrev s_Page_ends_of : Stmt := inClass (topS 70) 13
abbrev s_Page_with_row : Stmt := inClass (topS 70) 14
abbrev s_Page_checked : Stmt := inClass (topS 70) 15
abbrev s_Page_told : Stmt := inClass (topS 70) 16
abbrev s_Page_told_far : Stmt := inClass (topS 70) 17
abbrev s_l_pot : Stmt := topS 72
abbrev s_l_take : Stmt := topS 73
abbrev s_l_of : Stmt := topS 74
abbrev s_l_some : Stmt := topS 75
abbrev s_l_cells : Stmt := topS 76
abbrev s_l_names : Stmt := topS 77
abbrev s_l_tree : Stmt := topS 78
abbrev s_l_shapes : Stmt := topS 79
abbrev s_l_units : Stmt := topS 80
abbrev s_l_rounded : Stmt := topS 81
abbrev s_l_is_right : Stmt := topS 82
abbrev s_l_parts : Stmt := topS 83
abbrev s_l_ends : Stmt := topS 84
abbrev s_l_ends_of : Stmt := topS 85
abbrev s_l_weights : Stmt := topS 86
abbrev s_l_number : Stmt := topS 87
abbrev s_l_fits : Stmt := topS 88
abbrev s_l_share_of : Stmt := topS 89
abbrev s_l_lore : Stmt := topS 90
abbrev s_l_bent_lore : Stmt := topS 91
abbrev s_l_line : Stmt := topS 92
abbrev s_l_text : Stmt := topS 93
abbrev s_l_wide_shapes : Stmt := topS 94
abbrev s_l_shown_due : Stmt := topS 95
abbrev s_l_is_right_of : Stmt := topS 96
abbrev s_l_near_counts : Stmt := topS 97
abbrev s_l_right : Stmt := topS 98
abbrev s_law : Stmt := topS 99
theorem sc_wall : FnScope ["k"] ["k"] (defScope s_wall) := ⟨rfl, rfl, rfl, by decide +kernel, rfl, by decide +kernel, by decide +kernel⟩
theorem sc_is_integer : FnScope ["value"] ["value"] (defScope s_is_integer) := ⟨rfl, rfl, rfl, by decide +kernel, rfl, by decide +kernel, by decide +kernel⟩
theorem sc_is_between : FnScope ["value", "low", "high"] ["value", "low", "high"] (defScope s_is_between) := ⟨rfl, rfl, rfl, by decide +kernel, rfl, by decide +kernel, by decide +kernel⟩
theorem sc_is_tuple : FnScope ["value", "least", "most"] ["value", "least", "most"] (defScope s_is_tuple) := ⟨rfl, rfl, rfl, by decide +kernel, rfl, by decide +kernel, by decide +kernel⟩
theorem sc_is_word : FnScope ["value", "words"] ["value", "words"] (defScope s_is_word) := ⟨rfl, rfl, rfl, by decide +kernel, rfl, by decide +kernel, by decide +kernel⟩
theorem sc_is_name : FnScope ["value", "letter"] ["value"] (defScope s_is_name) := ⟨rfl, rfl, rfl, by decide +kernel, rfl, by decide +kernel, by decide +kernel⟩
theorem sc_number_in : FnScope ["word", "figure"] ["word"] (defScope s_number_in) := ⟨rfl, rfl, rfl, by decide +kernel, rfl, by decide +kernel, by decide +kernel⟩
theorem sc_divisor_of : FnScope ["numbers", "found", "number", "rest"] ["numbers"] (defScope s_divisor_of) := ⟨rfl, rfl, rfl, by decide +kernel, rfl, by decide +kernel, by decide +kernel⟩
theorem sc_fraction : FnScope ["above", "under", "by"] ["above", "under"] (defScope s_fraction) := ⟨rfl, rfl, rfl, by decide +kernel, rfl, by decide +kernel, by decide +kernel⟩
theorem sc_is_units : FnScope ["value"] ["value"] (defScope s_is_units) := ⟨rfl, rfl, rfl, by decide +kernel, rfl, by decide +kernel, by decide +kernel⟩
theorem sc_is_share : FnScope ["units", "value"] ["units", "value"] (defScope s_is_share) := ⟨rfl, rfl, rfl, by decide +kernel, rfl, by decide +kernel, by decide +kernel⟩
theorem sc_check_share : FnScope ["units", "value"] ["units", "value"] (defScope s_check_share) := ⟨rfl, rfl, rfl, by decide +kernel, rfl, by decide +kernel, by decide +kernel⟩
theorem sc_rounded : FnScope ["how", "above", "under", "low", "rest"] ["how", "above", "under"] (defScope s_rounded) := ⟨rfl, rfl, rfl, by decide +kernel, rfl, by decide +kernel, by decide +kernel⟩
theorem sc_is_right : FnScope ["units", "share", "many", "whole"] ["units", "share", "many", "whole"] (defScope s_is_right) := ⟨rfl, rfl, rfl, by decide +kernel, rfl, by decide +kernel, by decide +kernel⟩
theorem sc_are_counts : FnScope ["page", "value", "many"] ["page", "value"] (defScope s_are_counts) := ⟨rfl, rfl, rfl, by decide +kernel, rfl, by decide +kernel, by decide +kernel⟩
theorem sc_many_in : FnScope ["page", "counts", "part", "weight", "many"] ["page", "counts", "part"] (defScope s_many_in) := ⟨rfl, rfl, rfl, by decide +kernel, rfl, by decide +kernel, by decide +kernel⟩
theorem sc_do_fit : FnScope ["page", "counts", "total", "part", "above", "share", "far", "many", "whole"] ["page", "counts"] (defScope s_do_fit) := ⟨rfl, rfl, rfl, by decide +kernel, rfl, by decide +kernel, by decide +kernel⟩
theorem sc_Table___init__ : FnScope ["self", "page", "counts", "part"] ["self", "page", "counts"] (defScope s_Table___init__) := ⟨rfl, rfl, rfl, by decide +kernel, rfl, by decide +kernel, by decide +kernel⟩
theorem sc_Table___eq__ : FnScope ["self", "other"] ["self", "other"] (defScope s_Table___eq__) := ⟨rfl, rfl, rfl, by decide +kernel, rfl, by decide +kernel, by decide +kernel⟩
theorem sc_Table___getitem__ : FnScope ["self", "part"] ["self", "part"] (defScope s_Table___getitem__) := ⟨rfl, rfl, rfl, by decide +kernel, rfl, by decide +kernel, by decide +kernel⟩
theorem sc_Table___iter__ : FnScope ["self"] ["self"] (defScope s_Table___iter__) := ⟨rfl, rfl, rfl, by decide +kernel, rfl, by decide +kernel, by decide +kernel⟩
theorem sc_Table___add__ : FnScope ["self", "other", "one", "two"] ["self", "other"] (defScope s_Table___add__) := ⟨rfl, rfl, rfl, by decide +kernel, rfl, by decide +kernel, by decide +kernel⟩
theorem sc_Table___mul__ : FnScope ["self", "many", "one"] ["self", "many"] (defScope s_Table___mul__) := ⟨rfl, rfl, rfl, by decide +kernel, rfl, by decide +kernel, by decide +kernel⟩
theorem sc_Table___rmul__ : FnScope ["self", "many"] ["self", "many"] (defScope s_Table___rmul__) := ⟨rfl, rfl, rfl, by decide +kernel, rfl, by decide +kernel, by decide +kernel⟩
theorem sc_Table_page : FnScope ["self"] ["self"] (defScope s_Table_page) := ⟨rfl, rfl, rfl, by decide +kernel, rfl, by decide +kernel, by decide +kernel⟩
theorem sc_Table_counts : FnScope ["self"] ["self"] (defScope s_Table_counts) := ⟨rfl, rfl, rfl, by decide +kernel, rfl, by decide +kernel, by decide +kernel⟩
theorem sc_Table_total : FnScope ["self"] ["self"] (defScope s_Table_total) := ⟨rfl, rfl, rfl, by decide +kernel, rfl, by decide +kernel, by decide +kernel⟩
theorem sc_Table_fits : FnScope ["self"] ["self"] (defScope s_Table_fits) := ⟨rfl, rfl, rfl, by decide +kernel, rfl, by decide +kernel, by decide +kernel⟩
theorem sc_Table_share : FnScope ["self", "part", "other", "many", "whole"] ["self", "part", "other"] (defScope s_Table_share) := ⟨rfl, rfl, rfl, by decide +kernel, rfl, by decide +kernel, by decide +kernel⟩
theorem sc_Table_shows : FnScope ["self", "part", "units", "whole", "near"] ["self", "part"] (defScope s_Table_shows) := ⟨rfl, rfl, rfl, by decide +kernel, rfl, by decide +kernel, by decide +kernel⟩
theorem sc_share_in : FnScope ["word"] ["word"] (defScope s_share_in) := ⟨rfl, rfl, rfl, by decide +kernel, rfl, by decide +kernel, by decide +kernel⟩
theorem sc_units_in : FnScope ["line", "words", "found"] ["line"] (defScope s_units_in) := ⟨rfl, rfl, rfl, by decide +kernel, rfl, by decide +kernel, by decide +kernel⟩
theorem sc_shares_in : FnScope ["units", "words", "some", "word", "share"] ["units", "words"] (defScope s_shares_in) := ⟨rfl, rfl, rfl, by decide +kernel, rfl, by decide +kernel, by decide +kernel⟩
theorem sc_line_of : FnScope ["name", "row", "above", "share", "far", "words"] ["name", "row"] (defScope s_line_of) := ⟨rfl, rfl, rfl, by decide +kernel, rfl, by decide +kernel, by decide +kernel⟩
theorem sc_Reading___init__ : FnScope ["self", "lines", "number", "line"] ["self", "lines"] (defScope s_Reading___init__) := ⟨rfl, rfl, rfl, by decide +kernel, rfl, by decide +kernel, by decide +kernel⟩
theorem sc_Reading_reads_first : FnScope ["self", "line", "words"] ["self", "line"] (defScope s_Reading_reads_first) := ⟨rfl, rfl, rfl, by decide +kernel, rfl, by decide +kernel, by decide +kernel⟩
theorem sc_Reading_reads_part : FnScope ["self", "line", "words", "name", "above", "told", "depth"] ["self", "line"] (defScope s_Reading_reads_part) := ⟨rfl, rfl, rfl, by decide +kernel, rfl, by decide +kernel, by decide +kernel⟩
theorem sc_Reading_lowest : FnScope ["self", "wholes", "row", "name"] ["self"] (defScope s_Reading_lowest) := ⟨rfl, rfl, rfl, by decide +kernel, rfl, by decide +kernel, by decide +kernel⟩
theorem sc_ends_beneath : FnScope ["rows", "part", "found", "left", "name", "beneath", "other", "row"] ["rows", "part"] (defScope s_ends_beneath) := ⟨rfl, rfl, rfl, by decide +kernel, rfl, by decide +kernel, by decide +kernel⟩
theorem sc_weights_in : FnScope ["rows", "part", "ends", "own", "end"] ["rows", "part", "ends"] (defScope s_weights_in) := ⟨rfl, rfl, rfl, by decide +kernel, rfl, by decide +kernel, by decide +kernel⟩
theorem sc_Page___init__ : FnScope ["self", "text", "found", "part"] ["self", "text"] (defScope s_Page___init__) := ⟨rfl, rfl, rfl, by decide +kernel, rfl, by decide +kernel, by decide +kernel⟩
theorem sc_Page___eq__ : FnScope ["self", "other"] ["self", "other"] (defScope s_Page___eq__) := ⟨rfl, rfl, rfl, by decide +kernel, rfl, by decide +kernel, by decide +kernel⟩
theorem sc_Page___len__ : FnScope ["self"] ["self"] (defScope s_Page___len__) := ⟨rfl, rfl, rfl, by decide +kernel, rfl, by decide +kernel, by decide +kernel⟩
theorem sc_Page___iter__ : FnScope ["self"] ["self"] (defScope s_Page___iter__) := ⟨rfl, rfl, rfl, by decide +kernel, rfl, by decide +kernel, by decide +kernel⟩
theorem sc_Page___contains__ : FnScope ["self", "value"] ["self", "value"] (defScope s_Page___contains__) := ⟨rfl, rfl, rfl, by decide +kernel, rfl, by decide +kernel, by decide +kernel⟩
theorem sc_Page___getitem__ : FnScope ["self", "part"] ["self", "part"] (defScope s_Page___getitem__) := ⟨rfl, rfl, rfl, by decide +kernel, rfl, by decide +kernel, by decide +kernel⟩
theorem sc_Page_text : FnScope ["self"] ["self"] (defScope s_Page_text) := ⟨rfl, rfl, rfl, by decide +kernel, rfl, by decide +kernel, by decide +kernel⟩
theorem sc_Page_units : FnScope ["self"] ["self"] (defScope s_Page_units) := ⟨rfl, rfl, rfl, by decide +kernel, rfl, by decide +kernel, by decide +kernel⟩
theorem sc_Page_parts : FnScope ["self"] ["self"] (defScope s_Page_parts) := ⟨rfl, rfl, rfl, by decide +kernel, rfl, by decide +kernel, by decide +kernel⟩
theorem sc_Page_ends : FnScope ["self"] ["self"] (defScope s_Page_ends) := ⟨rfl, rfl, rfl, by decide +kernel, rfl, by decide +kernel, by decide +kernel⟩
theorem sc_Page_check_part : FnScope ["self", "value"] ["self", "value"] (defScope s_Page_check_part) := ⟨rfl, rfl, rfl, by decide +kernel, rfl, by decide +kernel, by decide +kernel⟩
theorem sc_Page_check_above : FnScope ["self", "part"] ["self", "part"] (defScope s_Page_check_above) := ⟨rfl, rfl, rfl, by decide +kernel, rfl, by decide +kernel, by decide +kernel⟩
theorem sc_Page_beneath : FnScope ["self", "part", "name", "row"] ["self", "part"] (defScope s_Page_beneath) := ⟨rfl, rfl, rfl, by decide +kernel, rfl, by decide +kernel, by decide +kernel⟩
theorem sc_Page_ends_of : FnScope ["self", "part"] ["self", "part"] (defScope s_Page_ends_of) := ⟨rfl, rfl, rfl, by decide +kernel, rfl, by decide +kernel, by decide +kernel⟩
theorem sc_Page_with_row : FnScope ["self", "part", "row", "rows", "lines", "name"] ["self", "part", "row"] (defScope s_Page_with_row) := ⟨rfl, rfl, rfl, by decide +kernel, rfl, by decide +kernel, by decide +kernel⟩
theorem sc_Page_checked : FnScope ["self", "part", "share"] ["self", "part", "share"] (defScope s_Page_checked) := ⟨rfl, rfl, rfl, by decide +kernel, rfl, by decide +kernel, by decide +kernel⟩
theorem sc_Page_told : FnScope ["self", "part", "share", "above", "elder", "far"] ["self", "part", "share"] (defScope s_Page_told) := ⟨rfl, rfl, rfl, by decide +kernel, rfl, by decide +kernel, by decide +kernel⟩
theorem sc_Page_told_far : FnScope ["self", "part", "share"] ["self", "part", "share"] (defScope s_Page_told_far) := ⟨rfl, rfl, rfl, by decide +kernel, rfl, by decide +kernel, by decide +kernel⟩
theorem sc_l_pot : FnScope ["_law_script", "_law_place", "_law_cell", "_law_own", "_law_small"] ["_law_script", "_law_place"] (defScope s_l_pot) := ⟨rfl, rfl, rfl, by decide +kernel, rfl, by decide +kernel, by decide +kernel⟩
theorem sc_l_take : FnScope ["_law_pot_here", "_law_upto", "_law_digit", "_law_prime", "_law_mixed"] ["_law_pot_here", "_law_upto"] (defScope s_l_take) := ⟨rfl, rfl, rfl, by decide +kernel, rfl, by decide +kernel, by decide +kernel⟩
theorem sc_l_of : FnScope ["_law_pot_here", "_law_some_here"] ["_law_pot_here", "_law_some_here"] (defScope s_l_of) := ⟨rfl, rfl, rfl, by decide +kernel, rfl, by decide +kernel, by decide +kernel⟩
theorem sc_l_some : FnScope ["_law_pot_here", "_law_pool", "_law_many", "_law_left", "_law_found", "_law_lap"] ["_law_pot_here", "_law_pool", "_law_many"] (defScope s_l_some) := ⟨rfl, rfl, rfl, by decide +kernel, rfl, by decide +kernel, by decide +kernel⟩
theorem sc_l_cells : FnScope ["_law_script", "_law_most"] ["_law_script", "_law_most"] (defScope s_l_cells) := ⟨rfl, rfl, rfl, by decide +kernel, rfl, by decide +kernel, by decide +kernel⟩
theorem sc_l_names : FnScope ["_law_pot_here", "_law_many", "_law_pool"] ["_law_pot_here", "_law_many"] (defScope s_l_names) := ⟨rfl, rfl, rfl, by decide +kernel, rfl, by decide +kernel, by decide +kernel⟩
theorem sc_l_tree : FnScope ["_law_pot_here", "_law_shapes_here", "_law_shape"] ["_law_pot_here", "_law_shapes_here"] (defScope s_l_tree) := ⟨rfl, rfl, rfl, by decide +kernel, rfl, by decide +kernel, by decide +kernel⟩
theorem sc_l_shapes : FnScope [] [] (defScope s_l_shapes) := ⟨rfl, rfl, rfl, by decide +kernel, rfl, by decide +kernel, by decide +kernel⟩
theorem sc_l_units : FnScope ["_law_pot_here", "_law_most"] ["_law_pot_here", "_law_most"] (defScope s_l_units) := ⟨rfl, rfl, rfl, by decide +kernel, rfl, by decide +kernel, by decide +kernel⟩
theorem sc_l_rounded : FnScope ["_law_how", "_law_above", "_law_under", "_law_low", "_law_rest"] ["_law_how", "_law_above", "_law_under"] (defScope s_l_rounded) := ⟨rfl, rfl, rfl, by decide +kernel, rfl, by decide +kernel, by decide +kernel⟩
theorem sc_l_is_right : FnScope ["_law_units_here", "_law_share", "_law_many", "_law_whole"] ["_law_units_here", "_law_share", "_law_many", "_law_whole"] (defScope s_l_is_right) := ⟨rfl, rfl, rfl, by decide +kernel, rfl, by decide +kernel, by decide +kernel⟩
theorem sc_l_parts : FnScope ["_law_lore_here", "_law_row"] ["_law_lore_here"] (defScope s_l_parts) := ⟨rfl, rfl, rfl, by decide +kernel, rfl, by decide +kernel, by decide +kernel⟩
theorem sc_l_ends : FnScope ["_law_lore_here", "_law_wholes", "_law_row", "_law_part"] ["_law_lore_here"] (defScope s_l_ends) := ⟨rfl, rfl, rfl, by decide +kernel, rfl, by decide +kernel, by decide +kernel⟩
theorem sc_l_ends_of : FnScope ["_law_lore_here", "_law_part", "_law_known", "_law_name", "_law_above", "_law_share", "_law_far", "_law_end"] ["_law_lore_here", "_law_part"] (defScope s_l_ends_of) := ⟨rfl, rfl, rfl, by decide +kernel, rfl, by decide +kernel, by decide +kernel⟩
theorem sc_l_weights : FnScope ["_law_lore_here", "_law_part", "_law_own", "_law_end"] ["_law_lore_here", "_law_part"] (defScope s_l_weights) := ⟨rfl, rfl, rfl, by decide +kernel, rfl, by decide +kernel, by decide +kernel⟩
theorem sc_l_number : FnScope ["_law_lore_here", "_law_counts", "_law_part", "_law_weight", "_law_many"] ["_law_lore_here", "_law_counts", "_law_part"] (defScope s_l_number) := ⟨rfl, rfl, rfl, by decide +kernel, rfl, by decide +kernel, by decide +kernel⟩
theorem sc_l_fits : FnScope ["_law_lore_here", "_law_counts", "_law_name", "_law_above", "_law_share", "_law_far", "_law_many"] ["_law_lore_here", "_law_counts"] (defScope s_l_fits) := ⟨rfl, rfl, rfl, by decide +kernel, rfl, by decide +kernel, by decide +kernel⟩
theorem sc_l_share_of : FnScope ["_law_pot_here", "_law_units_here", "_law_many", "_law_whole"] ["_law_pot_here", "_law_units_here", "_law_many", "_law_whole"] (defScope s_l_share_of) := ⟨rfl, rfl, rfl, by decide +kernel, rfl, by decide +kernel, by decide +kernel⟩
theorem sc_l_lore : FnScope ["_law_pot_here", "_law_shapes_here", "_law_most", "_law_size", "_law_names_here", "_law_shape", "_law_units_here", "_law_bare", "_law_counts", "_law_found", "_law_name", "_law_above", "_law_share", "_law_far", "_law_many", "_law_whole", "_law_near", "_law_end"] ["_law_pot_here", "_law_shapes_here", "_law_most", "_law_size"] (defScope s_l_lore) := ⟨rfl, rfl, rfl, by decide +kernel, rfl, by decide +kernel, by decide +kernel⟩
theorem sc_l_bent_lore : FnScope ["_law_pot_here", "_law_lore_here", "_law_lines", "_law_at", "_law_name", "_law_above", "_law_share", "_law_far", "_law_fresh"] ["_law_pot_here", "_law_lore_here"] (defScope s_l_bent_lore) := ⟨rfl, rfl, rfl, by decide +kernel, rfl, by decide +kernel, by decide +kernel⟩
theorem sc_l_line : FnScope ["_law_row", "_law_name", "_law_above", "_law_share", "_law_far", "_law_line_here"] ["_law_row"] (defScope s_l_line) := ⟨rfl, rfl, rfl, by decide +kernel, rfl, by decide +kernel, by decide +kernel⟩
theorem sc_l_text : FnScope ["_law_lore_here", "_law_head", "_law_row"] ["_law_lore_here"] (defScope s_l_text) := ⟨rfl, rfl, rfl, by decide +kernel, rfl, by decide +kernel, by decide +kernel⟩
theorem sc_l_wide_shapes : FnScope [] [] (defScope s_l_wide_shapes) := ⟨rfl, rfl, rfl, by decide +kernel, rfl, by decide +kernel, by decide +kernel⟩
theorem sc_l_shown_due : FnScope ["_law_lore_here", "_law_counts", "_law_row", "_law_many", "_law_whole", "_law_parts_here", "_law_how", "_law_near"] ["_law_lore_here", "_law_counts", "_law_row"] (defScope s_l_shown_due) := ⟨rfl, rfl, rfl, by decide +kernel, rfl, by decide +kernel, by decide +kernel⟩
theorem sc_l_is_right_of : FnScope ["_law_lore_here", "_law_page", "_law_counts", "_law_table", "_law_row"] ["_law_lore_here", "_law_page", "_law_counts"] (defScope s_l_is_right_of) := ⟨rfl, rfl, rfl, by decide +kernel, rfl, by decide +kernel, by decide +kernel⟩
theorem sc_l_near_counts : FnScope ["_law_pot_here", "_law_counts", "_law_found", "_law_lap", "_law_at", "_law_shift", "_law_some_here", "_law_many"] ["_law_pot_here", "_law_counts"] (defScope s_l_near_counts) := ⟨rfl, rfl, rfl, by decide +kernel, rfl, by decide +kernel, by decide +kernel⟩
theorem sc_l_right : FnScope ["_law_pot_here", "_law_lore_here", "_law_counts", "_law_one", "_law_page", "_law_some_here"] ["_law_pot_here"] (defScope s_l_right) := ⟨rfl, rfl, rfl, by decide +kernel, rfl, by decide +kernel, by decide +kernel⟩
theorem sc_law : FnScope ["_law_script", "_law_place", "_law_pot_here", "_law_lap"] ["_law_script"] (defScope s_law) := ⟨rfl, rfl, rfl, by decide +kernel, rfl, by decide +kernel, by decide +kernel⟩
theorem st_wall (a0 : V) : L2.start ["k"] [a0] = [some a0] := rfl
theorem st_AskedError___init__ (a0 a1 : V) : L2.start ["self", "value"] [a0, a1] = [some a0, some a1] := rfl
theorem st_is_integer (a0 : V) : L2.start ["value"] [a0] = [some a0] := rfl
theorem st_is_between (a0 a1 a2 : V) : L2.start ["value", "low", "high"] [a0, a1, a2] = [some a0, some a1, some a2] := rfl
theorem st_is_tuple (a0 a1 a2 : V) : L2.start ["value", "least", "most"] [a0, a1, a2] = [some a0, some a1, some a2] := rfl
theorem st_is_word (a0 a1 : V) : L2.start ["value", "words"] [a0, a1] = [some a0, some a1] := rfl
theorem st_is_name (a0 : V) : L2.start ["value", "letter"] [a0] = [some a0, none] := rfl
theorem st_number_in (a0 : V) : L2.start ["word", "figure"] [a0] = [some a0, none] := rfl
theorem st_divisor_of (a0 : V) : L2.start ["numbers", "found", "number", "rest"] [a0] = [some a0, none, none, none] := rfl
theorem st_fraction (a0 a1 : V) : L2.start ["above", "under", "by"] [a0, a1] = [some a0, some a1, none] := rfl
theorem st_is_units (a0 : V) : L2.start ["value"] [a0] = [some a0] := rfl
theorem st_is_share (a0 a1 : V) : L2.start ["units", "value"] [a0, a1] = [some a0, some a1] := rfl
theorem st_check_share (a0 a1 : V) : L2.start ["units", "value"] [a0, a1] = [some a0, some a1] := rfl
theorem st_rounded (a0 a1 a2 : V) : L2.start ["how", "above", "under", "low", "rest"] [a0, a1, a2] = [some a0, some a1, some a2, none, none] := rfl
theorem st_is_right (a0 a1 a2 a3 : V) : L2.start ["units", "share", "many", "whole"] [a0, a1, a2, a3] = [some a0, some a1, some a2, some a3] := rfl
theorem st_are_counts (a0 a1 : V) : L2.start ["page", "value", "many"] [a0, a1] = [some a0, some a1, none] := rfl
theorem st_many_in (a0 a1 a2 : V) : L2.start ["page", "counts", "part", "weight", "many"] [a0, a1, a2] = [some a0, some a1, some a2, none, none] := rfl
theorem st_do_fit (a0 a1 : V) : L2.start ["page", "counts", "total", "part", "above", "share", "far", "many", "whole"] [a0, a1] = [some a0, some a1, none, none, none, none, none, none, none] := rfl
theorem st_Table___init__ (a0 a1 a2 : V) : L2.start ["self", "page", "counts", "part"] [a0, a1, a2] = [some a0, some a1, some a2, none] := rfl
theorem st_Table___eq__ (a0 a1 : V) : L2.start ["self", "other"] [a0, a1] = [some a0, some a1] := rfl
theorem st_Table___getitem__ (a0 a1 : V) : L2.start ["self", "part"] [a0, a1] = [some a0, some a1] := rfl
theorem st_Table___iter__ (a0 : V) : L2.start ["self"] [a0] = [some a0] := rfl
theorem st_Table___add__ (a0 a1 : V) : L2.start ["self", "other", "one", "two"] [a0, a1] = [some a0, some a1, none, none] := rfl
theorem st_Table___mul__ (a0 a1 : V) : L2.start ["self", "many", "one"] [a0, a1] = [some a0, some a1, none] := rfl
theorem st_Table___rmul__ (a0 a1 : V) : L2.start ["self", "many"] [a0, a1] = [some a0, some a1] := rfl
theorem st_Table_page (a0 : V) : L2.start ["self"] [a0] = [some a0] := rfl
theorem st_Table_counts (a0 : V) : L2.start ["self"] [a0] = [some a0] := rfl
theorem st_Table_total (a0 : V) : L2.start ["self"] [a0] = [some a0] := rfl
theorem st_Table_fits (a0 : V) : L2.start ["self"] [a0] = [some a0] := rfl
theorem st_Table_share (a0 a1 a2 : V) : L2.start ["self", "part", "other", "many", "whole"] [a0, a1, a2] = [some a0, some a1, some a2, none, none] := rfl
theorem st_Table_shows (a0 a1 : V) : L2.start ["self", "part", "units", "whole", "near"] [a0, a1] = [some a0, some a1, none, none, none] := rfl
theorem st_share_in (a0 : V) : L2.start ["word"] [a0] = [some a0] := rfl
theorem st_units_in (a0 : V) : L2.start ["line", "words", "found"] [a0] = [some a0, none, none] := rfl
theorem st_shares_in (a0 a1 : V) : L2.start ["units", "words", "some", "word", "share"] [a0, a1] = [some a0, some a1, none, none, none] := rfl
theorem st_line_of (a0 a1 : V) : L2.start ["name", "row", "above", "share", "far", "words"] [a0, a1] = [some a0, some a1, none, none, none, none] := rfl
theorem st_Reading___init__ (a0 a1 : V) : L2.start ["self", "lines", "number", "line"] [a0, a1] = [some a0, some a1, none, none] := rfl
theorem st_Reading_reads_first (a0 a1 : V) : L2.start ["self", "line", "words"] [a0, a1] = [some a0, some a1, none] := rfl
theorem st_Reading_reads_part (a0 a1 : V) : L2.start ["self", "line", "words", "name", "above", "told", "depth"] [a0, a1] = [some a0, some a1, none, none, none, none, none] := rfl
theorem st_Reading_lowest (a0 : V) : L2.start ["self", "wholes", "row", "name"] [a0] = [some a0, none, none, none] := rfl
theorem st_ends_beneath (a0 a1 : V) : L2.start ["rows", "part", "found", "left", "name", "beneath", "other", "row"] [a0, a1] = [some a0, some a1, none, none, none, none, none, none] := rfl
theorem st_weights_in (a0 a1 a2 : V) : L2.start ["rows", "part", "ends", "own", "end"] [a0, a1, a2] = [some a0, some a1, some a2, none, none] := rfl
theorem st_Page___init__ (a0 a1 : V) : L2.start ["self", "text", "found", "part"] [a0, a1] = [some a0, some a1, none, none] := rfl
theorem st_Page___eq__ (a0 a1 : V) : L2.start ["self", "other"] [a0, a1] = [some a0, some a1] := rfl
theorem st_Page___len__ (a0 : V) : L2.start ["self"] [a0] = [some a0] := rfl
theorem st_Page___iter__ (a0 : V) : L2.start ["self"] [a0] = [some a0] := rfl
theorem st_Page___contains__ (a0 a1 : V) : L2.start ["self", "value"] [a0, a1] = [some a0, some a1] := rfl
theorem st_Page___getitem__ (a0 a1 : V) : L2.start ["self", "part"] [a0, a1] = [some a0, some a1] := rfl
theorem st_Page_text (a0 : V) : L2.start ["self"] [a0] = [some a0] := rfl
theorem st_Page_units (a0 : V) : L2.start ["self"] [a0] = [some a0] := rfl
theorem st_Page_parts (a0 : V) : L2.start ["self"] [a0] = [some a0] := rfl
theorem st_Page_ends (a0 : V) : L2.start ["self"] [a0] = [some a0] := rfl
theorem st_Page_check_part (a0 a1 : V) : L2.start ["self", "value"] [a0, a1] = [some a0, some a1] := rfl
theorem st_Page_check_above (a0 a1 : V) : L2.start ["self", "part"] [a0, a1] = [some a0, some a1] := rfl
theorem st_Page_beneath (a0 a1 : V) : L2.start ["self", "part", "name", "row"] [a0, a1] = [some a0, some a1, none, none] := rfl
theorem st_Page_ends_of (a0 a1 : V) : L2.start ["self", "part"] [a0, a1] = [some a0, some a1] := rfl
theorem st_Page_with_row (a0 a1 a2 : V) : L2.start ["self", "part", "row", "rows", "lines", "name"] [a0, a1, a2] = [some a0, some a1, some a2, none, none, none] := rfl
theorem st_Page_checked (a0 a1 a2 : V) : L2.start ["self", "part", "share"] [a0, a1, a2] = [some a0, some a1, some a2] := rfl
theorem st_Page_told (a0 a1 a2 : V) : L2.start ["self", "part", "share", "above", "elder", "far"] [a0, a1, a2] = [some a0, some a1, some a2, none, none, none] := rfl
theorem st_Page_told_far (a0 a1 a2 : V) : L2.start ["self", "part", "share"] [a0, a1, a2] = [some a0, some a1, some a2] := rfl
theorem st_l_pot (a0 a1 : V) : L2.start ["_law_script", "_law_place", "_law_cell", "_law_own", "_law_small"] [a0, a1] = [some a0, some a1, none, none, none] := rfl
theorem st_l_take (a0 a1 : V) : L2.start ["_law_pot_here", "_law_upto", "_law_digit", "_law_prime", "_law_mixed"] [a0, a1] = [some a0, some a1, none, none, none] := rfl
theorem st_l_of (a0 a1 : V) : L2.start ["_law_pot_here", "_law_some_here"] [a0, a1] = [some a0, some a1] := rfl
theorem st_l_some (a0 a1 a2 : V) : L2.start ["_law_pot_here", "_law_pool", "_law_many", "_law_left", "_law_found", "_law_lap"] [a0, a1, a2] = [some a0, some a1, some a2, none, none, none] := rfl
theorem st_l_cells (a0 a1 : V) : L2.start ["_law_script", "_law_most"] [a0, a1] = [some a0, some a1] := rfl
theorem st_l_names (a0 a1 : V) : L2.start ["_law_pot_here", "_law_many", "_law_pool"] [a0, a1] = [some a0, some a1, none] := rfl
theorem st_l_tree (a0 a1 : V) : L2.start ["_law_pot_here", "_law_shapes_here", "_law_shape"] [a0, a1] = [some a0, some a1, none] := rfl
theorem st_l_shapes  : L2.start [] [] = [] := rfl
theorem st_l_units (a0 a1 : V) : L2.start ["_law_pot_here", "_law_most"] [a0, a1] = [some a0, some a1] := rfl
theorem st_l_rounded (a0 a1 a2 : V) : L2.start ["_law_how", "_law_above", "_law_under", "_law_low", "_law_rest"] [a0, a1, a2] = [some a0, some a1, some a2, none, none] := rfl
theorem st_l_is_right (a0 a1 a2 a3 : V) : L2.start ["_law_units_here", "_law_share", "_law_many", "_law_whole"] [a0, a1, a2, a3] = [some a0, some a1, some a2, some a3] := rfl
theorem st_l_parts (a0 : V) : L2.start ["_law_lore_here", "_law_row"] [a0] = [some a0, none] := rfl
theorem st_l_ends (a0 : V) : L2.start ["_law_lore_here", "_law_wholes", "_law_row", "_law_part"] [a0] = [some a0, none, none, none] := rfl
theorem st_l_ends_of (a0 a1 : V) : L2.start ["_law_lore_here", "_law_part", "_law_known", "_law_name", "_law_above", "_law_share", "_law_far", "_law_end"] [a0, a1] = [some a0, some a1, none, none, none, none, none, none] := rfl
theorem st_l_weights (a0 a1 : V) : L2.start ["_law_lore_here", "_law_part", "_law_own", "_law_end"] [a0, a1] = [some a0, some a1, none, none] := rfl
theorem st_l_number (a0 a1 a2 : V) : L2.start ["_law_lore_here", "_law_counts", "_law_part", "_law_weight", "_law_many"] [a0, a1, a2] = [some a0, some a1, some a2, none, none] := rfl
theorem st_l_fits (a0 a1 : V) : L2.start ["_law_lore_here", "_law_counts", "_law_name", "_law_above", "_law_share", "_law_far", "_law_many"] [a0, a1] = [some a0, some a1, none, none, none, none, none] := rfl
theorem st_l_share_of (a0 a1 a2 a3 : V) : L2.start ["_law_pot_here", "_law_units_here", "_law_many", "_law_whole"] [a0, a1, a2, a3] = [some a0, some a1, some a2, some a3] := rfl
theorem st_l_lore (a0 a1 a2 a3 : V) : L2.start ["_law_pot_here", "_law_shapes_here", "_law_most", "_law_size", "_law_names_here", "_law_shape", "_law_units_here", "_law_bare", "_law_counts", "_law_found", "_law_name", "_law_above", "_law_share", "_law_far", "_law_many", "_law_whole", "_law_near", "_law_end"] [a0, a1, a2, a3] = [some a0, some a1, some a2, some a3, none, none, none, none, none, none, none, none, none, none, none, none, none, none] := rfl
theorem st_l_bent_lore (a0 a1 : V) : L2.start ["_law_pot_here", "_law_lore_here", "_law_lines", "_law_at", "_law_name", "_law_above", "_law_share", "_law_far", "_law_fresh"] [a0, a1] = [some a0, some a1, none, none, none, none, none, none, none] := rfl
theorem st_l_line (a0 : V) : L2.start ["_law_row", "_law_name", "_law_above", "_law_share", "_law_far", "_law_line_here"] [a0] = [some a0, none, none, none, none, none] := rfl
theorem st_l_text (a0 : V) : L2.start ["_law_lore_here", "_law_head", "_law_row"] [a0] = [some a0, none, none] := rfl
theorem st_l_wide_shapes  : L2.start [] [] = [] := rfl
theorem st_l_shown_due (a0 a1 a2 : V) : L2.start ["_law_lore_here", "_law_counts", "_law_row", "_law_many", "_law_whole", "_law_parts_here", "_law_how", "_law_near"] [a0, a1, a2] = [some a0, some a1, some a2, none, none, none, none, none] := rfl
theorem st_l_is_right_of (a0 a1 a2 : V) : L2.start ["_law_lore_here", "_law_page", "_law_counts", "_law_table", "_law_row"] [a0, a1, a2] = [some a0, some a1, some a2, none, none] := rfl
theorem st_l_near_counts (a0 a1 : V) : L2.start ["_law_pot_here", "_law_counts", "_law_found", "_law_lap", "_law_at", "_law_shift", "_law_some_here", "_law_many"] [a0, a1] = [some a0, some a1, none, none, none, none, none, none] := rfl
theorem st_l_right (a0 : V) : L2.start ["_law_pot_here", "_law_lore_here", "_law_counts", "_law_one", "_law_page", "_law_some_here"] [a0] = [some a0, none, none, none, none, none] := rfl
theorem st_law (a0 : V) : L2.start ["_law_script", "_law_place", "_law_pot_here", "_law_lap"] [a0] = [some a0, none, none, none] := rfl
def names0 : List PySem.Str := ["_wall", "AskedError", "BadShare", "BadPage", "NoPart", "NoAbove", "BadCounts", "OtherPage", "BadTimes", "LETTERS", "FIGURES", "MOST_LETTERS", "MOST_FIGURES", "PAIR", "is_integer"]
def names1 : List PySem.Str := ["is_between", "is_tuple", "is_word", "is_name", "number_in", "divisor_of", "fraction", "NEAR", "EVEN", "DOWN", "UP", "HOWS", "NONE", "SOME", "LEAST_UNITS"]
def names2 : List PySem.Str := ["MOST_UNITS", "is_units", "is_share", "check_share", "rounded", "is_right", "MOST_TIMES", "are_counts", "many_in", "do_fit", "Table", "FEED", "BLANK", "IN", "ASKED"]
def names3 : List PySem.Str := ["PART", "OF", "IS", "ALL", "MOST_PARTS", "MOST_ENDS", "MOST_DEPTH", "UNITS_WORDS", "ASKED_WORDS", "PART_WORDS", "BOTH_WORDS", "UNTOLD", "TAILS", "share_in", "units_in"]
def names4 : List PySem.Str := ["shares_in", "line_of", "Reading", "ends_beneath", "weights_in", "Page", "_law_pot", "_law_take", "_law_of", "_law_some", "_law_cells", "_law_names", "_law_tree", "_law_shapes", "_law_units"]
def names5 : List PySem.Str := ["_law_rounded", "_law_is_right", "_law_parts", "_law_ends", "_law_ends_of", "_law_weights", "_law_number", "_law_fits", "_law_share_of", "_law_lore", "_law_bent_lore", "_law_line", "_law_text", "_law_wide_shapes", "_law_shown_due"]
def names6 : List PySem.Str := ["_law_is_right_of", "_law_near_counts", "_law_right"]
def names : List PySem.Str := names0 ++ names1 ++ names2 ++ names3 ++ names4 ++ names5 ++ names6
def fa0 : List He.Fa := [.glo "_wall", .glo "is_integer", .glo "is_between", .glo "is_tuple", .glo "is_word", .glo "is_name", .glo "number_in", .glo "divisor_of", .glo "fraction", .glo "is_units", .glo "is_share", .glo "check_share", .glo "rounded", .glo "is_right", .glo "are_counts"]
def fa1 : List He.Fa := [.glo "many_in", .glo "do_fit", .glo "share_in", .glo "units_in", .glo "shares_in", .glo "line_of", .glo "ends_beneath", .glo "weights_in", .glo "_law_pot", .glo "_law_take", .glo "_law_of", .glo "_law_some", .glo "_law_cells", .glo "_law_names", .glo "_law_tree"]
def fa2 : List He.Fa := [.glo "_law_shapes", .glo "_law_units", .glo "_law_rounded", .glo "_law_is_right", .glo "_law_parts", .glo "_law_ends", .glo "_law_ends_of", .glo "_law_weights", .glo "_law_number", .glo "_law_fits", .glo "_law_share_of", .glo "_law_lore", .glo "_law_bent_lore", .glo "_law_line", .glo "_law_text"]
def fa3 : List He.Fa := [.glo "_law_wide_shapes", .glo "_law_shown_due", .glo "_law_is_right_of", .glo "_law_near_counts", .glo "_law_right", .glo "law", .glo "Table", .cls "Table", .mkr "Table", .noat "Table" "own_page", .noat "Table" "own_counts", .noat "Table" "own_numbers", .noat "Table" "own_fits", .meth "Table" "__init__", .meth "Table" "__eq__"]
def fa4 : List He.Fa := [.meth "Table" "__getitem__", .meth "Table" "__iter__", .meth "Table" "__add__", .meth "Table" "__mul__", .meth "Table" "__rmul__", .meth "Table" "share", .meth "Table" "shows", .glo "Reading", .cls "Reading", .mkr "Reading", .noat "Reading" "own_units", .noat "Reading" "own_rows", .noat "Reading" "own_depths", .meth "Reading" "__init__", .meth "Reading" "reads_first"]
def fa5 : List He.Fa := [.meth "Reading" "reads_part", .meth "Reading" "lowest", .glo "Page", .cls "Page", .mkr "Page", .noat "Page" "own_text", .noat "Page" "own_units", .noat "Page" "own_rows", .noat "Page" "own_ends", .noat "Page" "own_weights", .meth "Page" "__init__", .meth "Page" "__eq__", .meth "Page" "__len__", .meth "Page" "__iter__", .meth "Page" "__contains__"]
def fa6 : List He.Fa := [.meth "Page" "__getitem__", .meth "Page" "check_part", .meth "Page" "check_above", .meth "Page" "beneath", .meth "Page" "ends_of", .meth "Page" "with_row", .meth "Page" "checked", .meth "Page" "told", .meth "Page" "told_far", .str "LETTERS" "abcdefghijklmnopqrstuvwxyz", .str "FIGURES" "0123456789", .int "MOST_LETTERS" 8, .int "MOST_FIGURES" 9, .int "PAIR" 2, .str "NEAR" "near"]
def fa7 : List He.Fa := [.str "EVEN" "even", .str "DOWN" "down", .str "UP" "up", .glo "HOWS", .str "NONE" "none", .str "SOME" "some", .int "LEAST_UNITS" 2, .int "MOST_UNITS" 100, .int "MOST_TIMES" 9999, .str "FEED" "\n", .str "BLANK" " ", .str "IN" "in", .str "ASKED" "asked", .str "PART" "part", .str "OF" "of"]
def fa8 : List He.Fa := [.str "IS" "is", .str "ALL" "all", .int "MOST_PARTS" 10, .int "MOST_ENDS" 6, .int "MOST_DEPTH" 3, .int "UNITS_WORDS" 3, .int "ASKED_WORDS" 2, .int "PART_WORDS" 4, .int "BOTH_WORDS" 4, .glo "UNTOLD", .glo "TAILS", .free "NotImplemented", .free "TypeError", .free "abs", .free "all"]
def fa9 : List He.Fa := [.free "bool", .free "dict", .free "divmod", .free "enumerate", .free "int", .free "isinstance", .free "len", .free "list", .free "max", .free "min", .free "property", .free "range", .free "repr", .free "str", .free "sum"]
def fa10 : List He.Fa := [.free "tuple", .free "zip"]
def faA0 : List He.Fa := fa0 ++ fa1 ++ fa2 ++ fa3 ++ fa4 ++ fa5 ++ fa6 ++ fa7 ++ fa8 ++ fa9 ++ fa10
def fa : List He.Fa := faA0
def fn0 : List He.DefD := [⟨("_wall", none), "_wall", "_wall", defArgs s_wall, defBody s_wall, defScope s_wall, [], []⟩,
  ⟨("is_integer", none), "is_integer", "is_integer", defArgs s_is_integer, defBody s_is_integer, defScope s_is_integer, [], []⟩,
  ⟨("is_between", none), "is_between", "is_between", defArgs s_is_between, defBody s_is_between, defScope s_is_between, [], []⟩,
  ⟨("is_tuple", none), "is_tuple", "is_tuple", defArgs s_is_tuple, defBody s_is_tuple, defScope s_is_tuple, [], []⟩,
  ⟨("is_word", none), "is_word", "is_word", defArgs s_is_word, defBody s_is_word, defScope s_is_word, [], []⟩,
  ⟨("is_name", none), "is_name", "is_name", defArgs s_is_name, defBody s_is_name, defScope s_is_name, [], []⟩,
  ⟨("number_in", none), "number_in", "number_in", defArgs s_number_in, defBody s_number_in, defScope s_number_in, [], []⟩,
  ⟨("divisor_of", none), "divisor_of", "divisor_of", defArgs s_divisor_of, defBody s_divisor_of, defScope s_divisor_of, [], []⟩,
  ⟨("fraction", none), "fraction", "fraction", defArgs s_fraction, defBody s_fraction, defScope s_fraction, [], []⟩,
  ⟨("is_units", none), "is_units", "is_units", defArgs s_is_units, defBody s_is_units, defScope s_is_units, [], []⟩]
def fn1 : List He.DefD := [⟨("is_share", none), "is_share", "is_share", defArgs s_is_share, defBody s_is_share, defScope s_is_share, [], []⟩,
  ⟨("check_share", none), "check_share", "check_share", defArgs s_check_share, defBody s_check_share, defScope s_check_share, [], []⟩,
  ⟨("rounded", none), "rounded", "rounded", defArgs s_rounded, defBody s_rounded, defScope s_rounded, [], []⟩,
  ⟨("is_right", none), "is_right", "is_right", defArgs s_is_right, defBody s_is_right, defScope s_is_right, [], []⟩,
  ⟨("are_counts", none), "are_counts", "are_counts", defArgs s_are_counts, defBody s_are_counts, defScope s_are_counts, [], []⟩,
  ⟨("many_in", none), "many_in", "many_in", defArgs s_many_in, defBody s_many_in, defScope s_many_in, [], []⟩,
  ⟨("do_fit", none), "do_fit", "do_fit", defArgs s_do_fit, defBody s_do_fit, defScope s_do_fit, [], []⟩,
  ⟨("share_in", none), "share_in", "share_in", defArgs s_share_in, defBody s_share_in, defScope s_share_in, [], []⟩,
  ⟨("units_in", none), "units_in", "units_in", defArgs s_units_in, defBody s_units_in, defScope s_units_in, [], []⟩,
  ⟨("shares_in", none), "shares_in", "shares_in", defArgs s_shares_in, defBody s_shares_in, defScope s_shares_in, [], []⟩]
def fn2 : List He.DefD := [⟨("line_of", none), "line_of", "line_of", defArgs s_line_of, defBody s_line_of, defScope s_line_of, [], []⟩,
  ⟨("ends_beneath", none), "ends_beneath", "ends_beneath", defArgs s_ends_beneath, defBody s_ends_beneath, defScope s_ends_beneath, [], []⟩,
  ⟨("weights_in", none), "weights_in", "weights_in", defArgs s_weights_in, defBody s_weights_in, defScope s_weights_in, [], []⟩,
  ⟨("_law_pot", none), "_law_pot", "_law_pot", defArgs s_l_pot, defBody s_l_pot, defScope s_l_pot, [], []⟩,
  ⟨("_law_take", none), "_law_take", "_law_take", defArgs s_l_take, defBody s_l_take, defScope s_l_take, [], []⟩,
  ⟨("_law_of", none), "_law_of", "_law_of", defArgs s_l_of, defBody s_l_of, defScope s_l_of, [], []⟩,
  ⟨("_law_some", none), "_law_some", "_law_some", defArgs s_l_some, defBody s_l_some, defScope s_l_some, [], []⟩,
  ⟨("_law_cells", none), "_law_cells", "_law_cells", defArgs s_l_cells, defBody s_l_cells, defScope s_l_cells, [], []⟩,
  ⟨("_law_names", none), "_law_names", "_law_names", defArgs s_l_names, defBody s_l_names, defScope s_l_names, [], []⟩,
  ⟨("_law_tree", none), "_law_tree", "_law_tree", defArgs s_l_tree, defBody s_l_tree, defScope s_l_tree, [], []⟩]
def fn3 : List He.DefD := [⟨("_law_shapes", none), "_law_shapes", "_law_shapes", defArgs s_l_shapes, defBody s_l_shapes, defScope s_l_shapes, [], []⟩,
  ⟨("_law_units", none), "_law_units", "_law_units", defArgs s_l_units, defBody s_l_units, defScope s_l_units, [], []⟩,
  ⟨("_law_rounded", none), "_law_rounded", "_law_rounded", defArgs s_l_rounded, defBody s_l_rounded, defScope s_l_rounded, [], []⟩,
  ⟨("_law_is_right", none), "_law_is_right", "_law_is_right", defArgs s_l_is_right, defBody s_l_is_right, defScope s_l_is_right, [], []⟩,
  ⟨("_law_parts", none), "_law_parts", "_law_parts", defArgs s_l_parts, defBody s_l_parts, defScope s_l_parts, [], []⟩,
  ⟨("_law_ends", none), "_law_ends", "_law_ends", defArgs s_l_ends, defBody s_l_ends, defScope s_l_ends, [], []⟩,
  ⟨("_law_ends_of", none), "_law_ends_of", "_law_ends_of", defArgs s_l_ends_of, defBody s_l_ends_of, defScope s_l_ends_of, [], []⟩,
  ⟨("_law_weights", none), "_law_weights", "_law_weights", defArgs s_l_weights, defBody s_l_weights, defScope s_l_weights, [], []⟩,
  ⟨("_law_number", none), "_law_number", "_law_number", defArgs s_l_number, defBody s_l_number, defScope s_l_number, [], []⟩,
  ⟨("_law_fits", none), "_law_fits", "_law_fits", defArgs s_l_fits, defBody s_l_fits, defScope s_l_fits, [], []⟩]
def fn4 : List He.DefD := [⟨("_law_share_of", none), "_law_share_of", "_law_share_of", defArgs s_l_share_of, defBody s_l_share_of, defScope s_l_share_of, [], []⟩,
  ⟨("_law_lore", none), "_law_lore", "_law_lore", defArgs s_l_lore, defBody s_l_lore, defScope s_l_lore, [], []⟩,
  ⟨("_law_bent_lore", none), "_law_bent_lore", "_law_bent_lore", defArgs s_l_bent_lore, defBody s_l_bent_lore, defScope s_l_bent_lore, [], []⟩,
  ⟨("_law_line", none), "_law_line", "_law_line", defArgs s_l_line, defBody s_l_line, defScope s_l_line, [], []⟩,
  ⟨("_law_text", none), "_law_text", "_law_text", defArgs s_l_text, defBody s_l_text, defScope s_l_text, [], []⟩,
  ⟨("_law_wide_shapes", none), "_law_wide_shapes", "_law_wide_shapes", defArgs s_l_wide_shapes, defBody s_l_wide_shapes, defScope s_l_wide_shapes, [], []⟩,
  ⟨("_law_shown_due", none), "_law_shown_due", "_law_shown_due", defArgs s_l_shown_due, defBody s_l_shown_due, defScope s_l_shown_due, [], []⟩,
  ⟨("_law_is_right_of", none), "_law_is_right_of", "_law_is_right_of", defArgs s_l_is_right_of, defBody s_l_is_right_of, defScope s_l_is_right_of, [], []⟩,
  ⟨("_law_near_counts", none), "_law_near_counts", "_law_near_counts", defArgs s_l_near_counts, defBody s_l_near_counts, defScope s_l_near_counts, [], []⟩,
  ⟨("_law_right", none), "_law_right", "_law_right", defArgs s_l_right, defBody s_l_right, defScope s_l_right, [], []⟩]
def fn5 : List He.DefD := [⟨("law", none), "law", "law", defArgs s_law, defBody s_law, defScope s_law, [], []⟩,
  ⟨("Table", some "__init__"), "__init__", "Table.__init__", defArgs s_Table___init__, defBody s_Table___init__, defScope s_Table___init__, [], []⟩,
  ⟨("Table", some "__eq__"), "__eq__", "Table.__eq__", defArgs s_Table___eq__, defBody s_Table___eq__, defScope s_Table___eq__, [], []⟩,
  ⟨("Table", some "__getitem__"), "__getitem__", "Table.__getitem__", defArgs s_Table___getitem__, defBody s_Table___getitem__, defScope s_Table___getitem__, [], []⟩,
  ⟨("Table", some "__iter__"), "__iter__", "Table.__iter__", defArgs s_Table___iter__, defBody s_Table___iter__, defScope s_Table___iter__, [], []⟩,
  ⟨("Table", some "__add__"), "__add__", "Table.__add__", defArgs s_Table___add__, defBody s_Table___add__, defScope s_Table___add__, [], []⟩,
  ⟨("Table", some "__mul__"), "__mul__", "Table.__mul__", defArgs s_Table___mul__, defBody s_Table___mul__, defScope s_Table___mul__, [], []⟩,
  ⟨("Table", some "__rmul__"), "__rmul__", "Table.__rmul__", defArgs s_Table___rmul__, defBody s_Table___rmul__, defScope s_Table___rmul__, [], []⟩,
  ⟨("Table", some "share"), "share", "Table.share", defArgs s_Table_share, defBody s_Table_share, defScope s_Table_share, [], []⟩,
  ⟨("Table", some "shows"), "shows", "Table.shows", defArgs s_Table_shows, defBody s_Table_shows, defScope s_Table_shows, [], []⟩]
def fn6 : List He.DefD := [⟨("Reading", some "__init__"), "__init__", "Reading.__init__", defArgs s_Reading___init__, defBody s_Reading___init__, defScope s_Reading___init__, [], []⟩,
  ⟨("Reading", some "reads_first"), "reads_first", "Reading.reads_first", defArgs s_Reading_reads_first, defBody s_Reading_reads_first, defScope s_Reading_reads_first, [], []⟩,
  ⟨("Reading", some "reads_part"), "reads_part", "Reading.reads_part", defArgs s_Reading_reads_part, defBody s_Reading_reads_part, defScope s_Reading_reads_part, [], []⟩,
  ⟨("Reading", some "lowest"), "lowest", "Reading.lowest", defArgs s_Reading_lowest, defBody s_Reading_lowest, defScope s_Reading_lowest, [], []⟩,
  ⟨("Page", some "__init__"), "__init__", "Page.__init__", defArgs s_Page___init__, defBody s_Page___init__, defScope s_Page___init__, [], []⟩,
  ⟨("Page", some "__eq__"), "__eq__", "Page.__eq__", defArgs s_Page___eq__, defBody s_Page___eq__, defScope s_Page___eq__, [], []⟩,
  ⟨("Page", some "__len__"), "__len__", "Page.__len__", defArgs s_Page___len__, defBody s_Page___len__, defScope s_Page___len__, [], []⟩,
  ⟨("Page", some "__iter__"), "__iter__", "Page.__iter__", defArgs s_Page___iter__, defBody s_Page___iter__, defScope s_Page___iter__, [], []⟩,
  ⟨("Page", some "__contains__"), "__contains__", "Page.__contains__", defArgs s_Page___contains__, defBody s_Page___contains__, defScope s_Page___contains__, [], []⟩,
  ⟨("Page", some "__getitem__"), "__getitem__", "Page.__getitem__", defArgs s_Page___getitem__, defBody s_Page___getitem__, defScope s_Page___getitem__, [], []⟩]
def fn7 : List He.DefD := [⟨("Page", some "check_part"), "check_part", "Page.check_part", defArgs s_Page_check_part, defBody s_Page_check_part, defScope s_Page_check_part, [], []⟩,
  ⟨("Page", some "check_above"), "check_above", "Page.check_above", defArgs s_Page_check_above, defBody s_Page_check_above, defScope s_Page_check_above, [], []⟩,
  ⟨("Page", some "beneath"), "beneath", "Page.beneath", defArgs s_Page_beneath, defBody s_Page_beneath, defScope s_Page_beneath, [], []⟩,
  ⟨("Page", some "ends_of"), "ends_of", "Page.ends_of", defArgs s_Page_ends_of, defBody s_Page_ends_of, defScope s_Page_ends_of, [], []⟩,
  ⟨("Page", some "with_row"), "with_row", "Page.with_row", defArgs s_Page_with_row, defBody s_Page_with_row, defScope s_Page_with_row, [], []⟩,
  ⟨("Page", some "checked"), "checked", "Page.checked", defArgs s_Page_checked, defBody s_Page_checked, defScope s_Page_checked, [], []⟩,
  ⟨("Page", some "told"), "told", "Page.told", defArgs s_Page_told, defBody s_Page_told, defScope s_Page_told, [], []⟩,
  ⟨("Page", some "told_far"), "told_far", "Page.told_far", defArgs s_Page_told_far, defBody s_Page_told_far, defScope s_Page_told_far, [], []⟩]
def fnA0 : List He.DefD := fn0 ++ fn1 ++ fn2 ++ fn3 ++ fn4 ++ fn5 ++ fn6 ++ fn7
def fn : List He.DefD := fnA0
def ex (K : PySem.W.Frag) : Bool := (ownB K "Table") && (isiB K "Table" ["Table", "Reading", "Page"]) && (He.eqO (PySem.W.findIn K (.ref (He.ga K "Table")) "__ne__") (some (some (.builtin "object.__ne__")))) && (ownB K "Reading") && (isiB K "Reading" ["Table", "Reading", "Page"]) && (ownB K "Page") && (isiB K "Page" ["Table", "Reading", "Page"]) && (He.eqO (PySem.W.findIn K (.ref (He.ga K "Page")) "__ne__") (some (some (.builtin "object.__ne__")))) && (He.tupB K "HOWS" [(.str "near"), (.str "even"), (.str "down"), (.str "up")]) && (He.tupB K "UNTOLD" [.non, .non, .non]) && (idB K "TAILS" [0, 2, 4]) && (idR K "TAILS" 0) && (tupA K (idA K "TAILS" 0) []) && (idR K "TAILS" 2) && (tupA K (idA K "TAILS" 2) [(.str "is"), (.str "all")]) && (idR K "TAILS" 4) && (tupA K (idA K "TAILS" 4) [(.str "is")])
abbrev R : PySem.W.OpenRow := PySem.W.OpenLaw.row PySem.Challenge.rw_anyasked_k19_whole_what_fits_by_own_look
def pr : List PrD := [⟨"Table", "page", "Table.page", defArgs s_Table_page, defBody s_Table_page, defScope s_Table_page⟩,
  ⟨"Table", "counts", "Table.counts", defArgs s_Table_counts, defBody s_Table_counts, defScope s_Table_counts⟩,
  ⟨"Table", "total", "Table.total", defArgs s_Table_total, defBody s_Table_total, defScope s_Table_total⟩,
  ⟨"Table", "fits", "Table.fits", defArgs s_Table_fits, defBody s_Table_fits, defScope s_Table_fits⟩,
  ⟨"Page", "text", "Page.text", defArgs s_Page_text, defBody s_Page_text, defScope s_Page_text⟩,
  ⟨"Page", "units", "Page.units", defArgs s_Page_units, defBody s_Page_units, defScope s_Page_units⟩,
  ⟨"Page", "parts", "Page.parts", defArgs s_Page_parts, defBody s_Page_parts, defScope s_Page_parts⟩,
  ⟨"Page", "ends", "Page.ends", defArgs s_Page_ends, defBody s_Page_ends, defScope s_Page_ends⟩]
abbrev hk : PySem.W.Hook := hookP 1500 fa fn ex pr
def ob (s : PySem.W.SharedT) : AlP := obsP 1500 fa fn ex pr (HandSHeadRun.getT s)
theorem ob_eq (s : PySem.W.SharedT) : ob s = hk.obs s.abs := obsP_eq (HandSHeadRun.getT_eq s)
def fixW (b : Bool) (w : World) : World := { w with params := { w.params with followText := fun r => match r == "special-get-raises" with | true => b | false => w.params.followText r } }
theorem fixW_eq (w : World) (b : Bool) (h : w.params.followText "special-get-raises" = b) : fixW b w = w := by
  have e : (fun r => match r == "special-get-raises" with | true => b | false => w.params.followText r) = w.params.followText := by
    funext r
    by_cases q : r = "special-get-raises"
    · subst q
      rw [h]
      simp
    · have : (r == "special-get-raises") = false := by simpa using q
      simp [this]
  unfold fixW
  rw [e]
abbrev RunAt (w : World) : Prop := HandSHeadRun.RunEq R (PySem.W.view R.prog [99]) hk ob 40000 names w
theorem run1L (w : World) : RunLS R (PySem.W.view R.prog [99]) 40000 names (fixW true w) := by
  intro os
  kernel_rfl
theorem run1_0 (w : World) : RunF R 1500 40000 faA0 fnA0 ex pr (fixW true w) := by
  intro os
  kernel_rfl
theorem run1 (w : World) : RunAt (fixW true w) := run_base (run1L w) (RunF.v (run1_0 w))
theorem run0L (w : World) : RunLS R (PySem.W.view R.prog [99]) 40000 names (fixW false w) := by
  intro os
  kernel_rfl
theorem run0_0 (w : World) : RunF R 1500 40000 faA0 fnA0 ex pr (fixW false w) := by
  intro os
  kernel_rfl
theorem run0 (w : World) : RunAt (fixW false w) := run_base (run0L w) (RunF.v (run0_0 w))
theorem run (w : World) : RunAt w := by
  cases h : w.params.followText "special-get-raises" with
  | true => exact fixW_eq w true h ▸ run1 w
  | false => exact fixW_eq w false h ▸ run0 w
set_option maxHeartbeats 4000000
end Ak
namespace Ak
open PySem PySem.Spec PyProof.Rows L2
/-- the tables of code objects that may grow: where each lies, the name that it tells -/
class Tb where
  t : List (Addr × Str)
  u : ∀ p ∈ t, ∀ q ∈ t, p.1 = q.1 → p.2 = q.2
def tb0 : Tb := ⟨[], fun _ h => nomatch h⟩
instance : Tb := ⟨[], fun _ h => nomatch h⟩
/-- an instance of a class of the program's own -/
structure OwnC (K : PySem.W.Frag) (C : Addr) : Prop where
  cl : Cls K C
  ha : PySem.W.findIn K (.ref C) "__class__" = some (some (.builtin "object.__class__"))
  hn : PySem.W.specialIn K (.builtin "object.__class__") "__get__" = some (some (.builtin "getset_descriptor.__get__"))
  htk : PySem.W.takesIn K (.builtin "object.__class__") = some true
  hm : PySem.W.mroIn K C (.type "object") = some true
  no : ∀ T ∈ ["int", "bool", "str", "tuple", "list", "dict"], PySem.W.kitOne K (.ref C) (.type T) = some false
/-! ### values as trees, and what denotes them -/
inductive D where
  | non | bl (b : Bool) | int (i : Int) | str (x : Str)
  | tup (xs : List D) | lst (xs : List D)
  | dic (ks : List Key) (vs : List D)
  | obj (c : Str) (ks : List Str) (vs : List D)
  | exc (c : Str) (x : D)
instance : Inhabited D := ⟨.non⟩
mutual
/-- F: the part of the heap that is never written any more -/
inductive Den (K : PySem.W.Frag) (F : Hp) : V → D → Prop
  | non : Den K F .non .non
  | bl (b : Bool) : Den K F (.bl b) (.bl b)
  | int (i : Int) : Den K F (.int i) (.int i)
  | str (x : Str) : Den K F (.str x) (.str x)
  | tup {a : Addr} {vs : List V} {ds : List D} : (F a = some (.tup vs) ∨ ∀ H, SqT K H a vs) → DenAll K F vs ds → Den K F (.ref a) (.tup ds)
  | lst {a : Addr} {vs : List V} {ds : List D} : F a = some (.lst vs) → DenAll K F vs ds → Den K F (.ref a) (.lst ds)
  | dic {a : Addr} {ks : List Key} {vs : List V} {ds : List D} : F a = some (.dK (ks.zip vs)) → ks.length = vs.length → DenAll K F vs ds → Den K F (.ref a) (.dic ks ds)
  | obj {a dx : Addr} {c : Str} {ks : List Str} {vs : List V} {ds : List D} : OwnC K (He.ga K c) → F a = some (.ins (He.ga K c) dx (ks.zip vs)) → ks.length = vs.length → DenAll K F vs ds → Den K F (.ref a) (.obj c ks ds)
inductive DenAll (K : PySem.W.Frag) (F : Hp) : List V → List D → Prop
  | nil : DenAll K F [] []
  | cons {v : V} {vs : List V} {d : D} {ds : List D} : Den K F v d → DenAll K F vs ds → DenAll K F (v :: vs) (d :: ds)
end
def Le (F F' : Hp) : Prop := ∀ a u, F a = some u → F' a = some u
theorem Le.refl {F : Hp} : Le F F := fun _ _ h => h
theorem Le.trans {F F1 F2 : Hp} (a : Le F F1) (b : Le F1 F2) : Le F F2 := fun x u h => b x u (a x u h)
section
variable {K : PySem.W.Frag} {F F' H H' : Hp}
mutual
theorem Den.mono (le : Le F F') : ∀ {v : V} {d : D}, Den K F v d → Den K F' v d
  | _, _, .non => .non
  | _, _, .bl b => .bl b
  | _, _, .int i => .int i
  | _, _, .str x => .str x
  | _, _, .tup h r => .tup (h.imp (le _ _) id) (DenAll.mono le r)
  | _, _, .lst h r => .lst (le _ _ h) (DenAll.mono le r)
  | _, _, .dic h l r => .dic (le _ _ h) l (DenAll.mono le r)
  | _, _, .obj w h l r => .obj w (le _ _ h) l (DenAll.mono le r)
theorem DenAll.mono (le : Le F F') : ∀ {vs : List V} {ds : List D}, DenAll K F vs ds → DenAll K F' vs ds
  | _, _, .nil => .nil
  | _, _, .cons h r => .cons (Den.mono le h) (DenAll.mono le r)
end
theorem DenAll.length : ∀ {vs : List V} {ds : List D}, DenAll K F vs ds → vs.length = ds.length
  | _, _, .nil => rfl
  | _, _, .cons _ r => congrArg (· + 1) (DenAll.length r)
theorem DenAll.get : ∀ {vs : List V} {ds : List D} {i : Nat} {v : V}, DenAll K F vs ds → vs[i]? = some v → ∃ d, ds[i]? = some d ∧ Den K F v d
  | _, _, _, _, .nil, e => by simp at e
  | _, _, 0, _, .cons h _, e => by
    simp at e
    subst e
    exact ⟨_, rfl, h⟩
  | _, _, i + 1, v, .cons _ r, e => by
    obtain ⟨d, h1, h2⟩ := DenAll.get (i := i) (v := v) r (by simpa using e)
    exact ⟨d, by simpa using h1, h2⟩
theorem DenAll.getD : ∀ {vs : List V} {ds : List D} {i : Nat} {d : D}, DenAll K F vs ds → ds[i]? = some d → ∃ v, vs[i]? = some v ∧ Den K F v d
  | _, _, _, _, .nil, e => by simp at e
  | _, _, 0, _, .cons h _, e => by
    simp at e
    subst e
    exact ⟨_, rfl, h⟩
  | _, _, i + 1, d, .cons _ r, e => by
    obtain ⟨v, h1, h2⟩ := DenAll.getD (i := i) (d := d) r (by simpa using e)
    exact ⟨v, by simpa using h1, h2⟩
theorem DenAll.append : ∀ {vs ws : List V} {ds es : List D}, DenAll K F vs ds → DenAll K F ws es → DenAll K F (vs ++ ws) (ds ++ es)
  | _, _, _, _, .nil, h => h
  | _, _, _, _, .cons h r, s => .cons h (DenAll.append r s)
theorem DenAll.snoc {vs : List V} {ds : List D} {v : V} {d : D} (h : DenAll K F vs ds) (h2 : Den K F v d) : DenAll K F (vs ++ [v]) (ds ++ [d]) := h.append (.cons h2 .nil)
theorem DenAll.set {v : V} {d : D} (h2 : Den K F v d) : ∀ {vs : List V} {ds : List D} (i : Nat), DenAll K F vs ds → DenAll K F (vs.set i v) (ds.set i d)
  | _, _, _, .nil => .nil
  | _, _, 0, .cons _ r => .cons h2 r
  | _, _, i + 1, .cons h r => .cons h (DenAll.set h2 i r)
theorem DenAll.take : ∀ {vs : List V} {ds : List D} (n : Nat), DenAll K F vs ds → DenAll K F (vs.take n) (ds.take n)
  | _, _, 0, _ => .nil
  | _, _, _ + 1, .nil => .nil
  | _, _, n + 1, .cons h r => .cons h (DenAll.take n r)
theorem DenAll.drop : ∀ {vs : List V} {ds : List D} (n : Nat), DenAll K F vs ds → DenAll K F (vs.drop n) (ds.drop n)
  | _, _, 0, h => h
  | _, _, _ + 1, .nil => .nil
  | _, _, n + 1, .cons _ r => DenAll.drop n r
theorem DenAll.rev {vs : List V} {ds : List D} (h : DenAll K F vs ds) : DenAll K F vs.reverse ds.reverse := by
  have go : ∀ {vs : List V} {ds : List D}, DenAll K F vs ds → DenAll K F vs.reverse ds.reverse := by
    intro vs
    induction vs with
    | nil =>
      intro ds h
      cases h
      exact .nil
    | cons v vs ih =>
      intro ds h
      cases h with
      | cons h r =>
        rw [List.reverse_cons, List.reverse_cons]
        exact (ih r).snoc h
  exact go h
/-- no table of code objects: what is never written behind one's back -/
abbrev NoTab (o : HO) : Prop := ∀ ps, o ≠ .tbl ps
/-- the mark of such a table in F: each code object that it tells bears the name q -/
def tabM (q : Str) : HO := .tbl #[.str q 0]
/-- what F holds stands in the heap; a dict may be locked; a table is known by its names alone -/
structure Sub (F H : Hp) : Prop where
  fn : ∀ a u, F a = some u → (NoTab u ∧ (H a = some u ∨ ((∃ kvs, u = .dK kvs) ∧ ∃ o, H a = some (.frz o u)))) ∨ ∃ q, (a, q) ∈ Tb.t ∧ u = tabM q ∧ LamX.TabS H a q
  tb : ∀ p ∈ Tb.t, F p.1 = some (tabM p.2)
instance {F H : Hp} : CoeFun (Sub F H) fun _ => ∀ a u, F a = some u → (NoTab u ∧ (H a = some u ∨ ((∃ kvs, u = .dK kvs) ∧ ∃ o, H a = some (.frz o u)))) ∨ ∃ q, (a, q) ∈ Tb.t ∧ u = tabM q ∧ LamX.TabS H a q := ⟨Sub.fn⟩
theorem Sub.isS (s : Sub F H) {a : Addr} {u : HO} (h : F a = some u) : ∃ o, H a = some o := by
  rcases s a u h with ⟨_, h | ⟨_, o, h⟩⟩ | ⟨q, _, _, ps, h, _⟩
  · exact ⟨_, h⟩
  · exact ⟨_, h⟩
  · exact ⟨_, h⟩
theorem Sub.ne (s : Sub F H) {a b : Addr} {u : HO} (h : F a = some u) (n : H b = none) : a ≠ b := fun e => by
  obtain ⟨o, ho⟩ := s.isS h
  rw [e, n] at ho
  cases ho
theorem Sub.isN (s : Sub F H) {a : Addr} (n : H a = none) : F a = none := by
  cases e : F a with
  | none => rfl
  | some u => exact absurd rfl (s.ne e n)
theorem Sub.rd (s : Sub F H) {a : Addr} {u : HO} (h : F a = some u) (nt : NoTab u := by intro ps z; cases z) : Rd H a u := by
  rcases s a u h with ⟨_, h⟩ | ⟨q, _, e, _⟩
  · exact h.imp id fun z => z.2
  · exact absurd e (nt _)
theorem Sub.rc (s : Sub F H) {a : Addr} {u : HO} (h : F a = some u) (nt : NoTab u := by intro ps z; cases z) : H a = some u ∨ ((∃ kvs, u = .dK kvs) ∧ ∃ o, H a = some (.frz o u)) := by
  rcases s a u h with ⟨_, h⟩ | ⟨q, _, e, _⟩
  · exact h
  · exact absurd e (nt _)
theorem Sub.at (s : Sub F H) {a : Addr} {u : HO} (h : F a = some u) (n : ∀ kvs, u ≠ .dK kvs) (nt : NoTab u := by intro ps z; cases z) : H a = some u := by
  rcases s.rc h nt with h | ⟨⟨kvs, e⟩, _⟩
  · exact h
  · exact absurd e (n kvs)
theorem Sub.sqT (s : Sub F H) {a : Addr} {vs : List V} (h : F a = some (.tup vs) ∨ ∀ H, SqT K H a vs) : SqT K H a vs := by
  rcases h with h | h
  · exact .inl (s.rd h)
  · exact h H
theorem Sub.lst (s : Sub F H) {a : Addr} {vs : List V} (h : F a = some (.lst vs)) : H a = some (.lst vs) := s.at h (fun _ z => nomatch z)
theorem Sub.sqL (s : Sub F H) {a : Addr} {vs : List V} (h : F a = some (.lst vs)) : SqL K H a vs := .inl (s.rd h)
theorem Sub.ins (s : Sub F H) {a C dx : Addr} {fs : List (Str × V)} (h : F a = some (.ins C dx fs)) : H a = some (.ins C dx fs) := s.at h (fun _ z => nomatch z)
/-- what stood stands; tables alone may have grown -/
def Kept (H H' : Hp) : Prop := ∀ a o, H a = some o → ∃ o', H' a = some o' ∧ (NoTab o → o' = o)
theorem Kept.at {H H' : Hp} (k : Kept H H') {a : Addr} {o : HO} (h : H a = some o) (nt : NoTab o := by intro ps z; cases z) : H' a = some o := by
  obtain ⟨o', e, q⟩ := k a o h
  rw [e, q nt]
theorem Kept.refl {H : Hp} : Kept H H := fun _ o h => ⟨o, h, fun _ => rfl⟩
theorem Kept.of {H H' : Hp} (e : Same H H') : Kept H H' := fun a o h => ⟨o, e a o h, fun _ => rfl⟩
theorem Kept.trans {H H1 H2 : Hp} (a : Kept H H1) (b : Kept H1 H2) : Kept H H2 := fun x o h => by
  obtain ⟨o1, e1, q1⟩ := a x o h
  obtain ⟨o2, e2, q2⟩ := b x o1 e1
  refine ⟨o2, e2, fun n => ?_⟩
  have e := q1 n
  rw [e] at q2
  exact q2 n
theorem Kept.none {H H' : Hp} (k : Kept H H') {a : Addr} (h : H' a = Option.none) : H a = Option.none := by
  cases e : H a with
  | none => rfl
  | some o =>
    obtain ⟨o', e', _⟩ := k a o e
    rw [e'] at h
    cases h
/-- a thing that is neither a table nor a code object -/
def Plain (o : HO) : Prop := NoTab o ∧ ∀ f, o ≠ .ext f
theorem tabS_but {H H' : Hp} {a p : Addr} {q : Str} (t : LamX.TabS H a q) (hp : ∀ o', H p = some o' → Plain o') (same : ∀ b, b ≠ p → H' b = H b) : LamX.TabS H' a q := by
  obtain ⟨ps, h1, h2, h3⟩ := t
  have na : a ≠ p := fun e => by
    rw [e] at h1
    exact (hp _ h1).1 ps rfl
  refine ⟨ps, by rw [same a na]; exact h1, h2, fun pos cv hc => ?_⟩
  obtain ⟨c, e1, e2⟩ := h3 pos cv hc
  have nc : c ≠ p := fun e => by
    rw [e] at e2
    exact (hp _ e2).2 _ rfl
  exact ⟨c, e1, by rw [same c nc]; exact e2⟩
theorem Sub.but {H' : Hp} (s : Sub F H) {p : Addr} (nF : F p = none) (hp : ∀ o', H p = some o' → Plain o') (same : ∀ b, b ≠ p → H' b = H b) : Sub F H' := ⟨fun a u h => by
  have e : a ≠ p := fun z => by
    rw [z, nF] at h
    cases h
  rcases s a u h with ⟨n, h | ⟨k, o', h⟩⟩ | ⟨q, e0, e1, t⟩
  · exact .inl ⟨n, .inl (by rw [same a e]; exact h)⟩
  · exact .inl ⟨n, .inr ⟨k, o', by rw [same a e]; exact h⟩⟩
  · exact .inr ⟨q, e0, e1, tabS_but t hp same⟩, s.tb⟩
theorem plain_of {p : Addr} {o : HO} (h : H p = some o) (n : Plain o := by exact ⟨fun _ z => (nomatch z), fun _ z => (nomatch z)⟩) : ∀ o', H p = some o' → Plain o' := fun o' e => by
  rw [h] at e
  cases e
  exact n
theorem tabS_upd {a p : Addr} {q : Str} {o : HO} (t : LamX.TabS H a q) (hp : ∀ o', H p = some o' → Plain o') : LamX.TabS (upd H p o) a q := by
  obtain ⟨ps, h1, h2, h3⟩ := t
  have na : a ≠ p := fun e => by
    rw [e] at h1
    exact (hp _ h1).1 ps rfl
  refine ⟨ps, by rw [upd_ne na]; exact h1, h2, fun pos cv hc => ?_⟩
  obtain ⟨c, e1, e2⟩ := h3 pos cv hc
  have nc : c ≠ p := fun e => by
    rw [e] at e2
    exact (hp _ e2).2 _ rfl
  exact ⟨c, e1, by rw [upd_ne nc]; exact e2⟩
theorem Sub.updN (s : Sub F H) {p : Addr} {o : HO} (nF : F p = none) (hp : ∀ o', H p = some o' → Plain o') : Sub F (upd H p o) := ⟨fun a u h => by
  have e : a ≠ p := fun z => by
    rw [z, nF] at h
    cases h
  rcases s a u h with ⟨n, h | ⟨k, o', h⟩⟩ | ⟨q, e0, e1, t⟩
  · exact .inl ⟨n, .inl (by rw [upd_ne e]; exact h)⟩
  · exact .inl ⟨n, .inr ⟨k, o', by rw [upd_ne e]; exact h⟩⟩
  · exact .inr ⟨q, e0, e1, tabS_upd t hp⟩, s.tb⟩
theorem plain_none {p : Addr} (n : H p = none) : ∀ o', H p = some o' → Plain o' := fun o' e => by
  rw [n] at e
  cases e
/-- F gets what lies at p -/
theorem Sub.laid (s : Sub F H) {p : Addr} {o : HO} (h : H p = some o) (nt : NoTab o) : Sub (L2.upd F p o) H := ⟨fun a u hu => by
  by_cases e : a = p
  · subst e
    rw [upd_same] at hu
    cases hu
    exact .inl ⟨nt, .inl h⟩
  · rw [upd_ne e] at hu
    exact s a u hu, fun q hq => by
  by_cases e : q.1 = p
  · obtain ⟨q', _, _, ps, t, _⟩ := (s _ _ (s.tb q hq)).resolve_left fun z => z.1 _ rfl
    rw [e, h] at t
    exact absurd (Option.some.inj t) (nt ps)
  · rw [upd_ne e]
    exact s.tb q hq⟩
theorem Sub.same {H' : Hp} (s : Sub F H) (e : Same H H') : Sub F H' := ⟨fun a u h => by
  rcases s a u h with ⟨n, h | ⟨k, o', h⟩⟩ | ⟨q, e0, e1, t⟩
  · exact .inl ⟨n, .inl (e _ _ h)⟩
  · exact .inl ⟨n, .inr ⟨k, o', e _ _ h⟩⟩
  · exact .inr ⟨q, e0, e1, t.ext e⟩, s.tb⟩
/-- less of F -/
theorem Sub.less {F' : Hp} (s : Sub F' H) (le : Le F F') (mk : ∀ p ∈ Tb.t, F p.1 = some (tabM p.2)) : Sub F H := ⟨fun a u h => s a u (le a u h), mk⟩
/-- nothing but the tables -/
def mkF : Hp := fun a => match Tb.t.find? (fun p => p.1 == a) with
  | some p => some (tabM p.2)
  | none => none
theorem mkF_at {p : Addr × Str} (h : p ∈ Tb.t) : mkF p.1 = some (tabM p.2) := by
  unfold mkF
  cases e : Tb.t.find? (fun q => q.1 == p.1) with
  | none => exact absurd (by simp : (p.1 == p.1) = true) (List.find?_eq_none.mp e p h)
  | some q =>
    have h1 := List.mem_of_find?_eq_some e
    have h2 : (q.1 == p.1) = true := by simpa using List.find?_some e
    have h2 : q.1 = p.1 := by simpa using h2
    show some (tabM q.2) = _
    rw [Tb.u q h1 p h h2]
theorem mkF_of {a : Addr} {u : HO} (h : mkF a = some u) : ∃ q, (a, q) ∈ Tb.t ∧ u = tabM q := by
  unfold mkF at h
  cases e : Tb.t.find? (fun q => q.1 == a) with
  | none =>
    rw [e] at h
    cases h
  | some q =>
    rw [e] at h
    cases h
    have h1 := List.mem_of_find?_eq_some e
    have h2 : (q.1 == a) = true := by simpa using List.find?_some e
    have h2 : q.1 = a := by simpa using h2
    exact ⟨q.2, by rw [← h2]; exact h1, rfl⟩
theorem mkF_sub (h : ∀ p ∈ Tb.t, LamX.TabS H p.1 p.2) : Sub mkF H := ⟨fun a u e => by
  obtain ⟨q, h1, h2⟩ := mkF_of e
  exact .inr ⟨q, h1, h2, h _ h1⟩, fun p hp => mkF_at hp⟩
theorem mkF_le (s : Sub F H) : Le mkF F := fun a u e => by
  obtain ⟨q, h1, h2⟩ := mkF_of e
  rw [h2]
  exact s.tb _ h1
/-- what stands, and is no table, is not among the tables -/
theorem mkF_no (s : Sub F H) {a : Addr} {o : HO} (h : H a = some o) (nt : NoTab o := by intro ps z; cases z) : (mkF a : Option HO) = none := by
  cases e : (mkF a : Option HO) with
  | none => rfl
  | some u =>
    obtain ⟨q, h1, h2⟩ := mkF_of e
    obtain ⟨q', _, _, ps, t, _⟩ := (s _ _ (s.tb _ h1)).resolve_left fun z => z.1 _ rfl
    rw [h] at t
    exact absurd (Option.some.inj t) (nt ps)
structure Ext (F H F' H' : Hp) : Prop where
  le : Le F F'
  sub : Sub F' H'
  same : Kept H H'
  new : ∀ a, F' a ≠ none → F a ≠ none ∨ H a = none
theorem Ext.refl (s : Sub F H) : Ext F H F H := ⟨Le.refl, s, Kept.refl, fun _ h => .inl h⟩
theorem upd_le {F : Hp} {p : Addr} {o : HO} (h : F p = none) : Le F (upd F p o) := fun b u e => by
  rw [upd_ne (ne_of_none e h)]
  exact e
theorem Ext.laid (s : Sub F H) {p : Addr} {o : HO} (n : H p = none) (nt : NoTab o := by intro ps z; cases z) : Ext F H (upd F p o) (upd H p o) := by
  refine ⟨upd_le (s.isN n), (s.updN (s.isN n) (plain_none n)).laid upd_same nt, Kept.of (same_new n), fun a h => ?_⟩
  by_cases e : a = p
  · subst e
    exact .inr n
  · rw [upd_ne e] at h
    exact .inl h
/-- a new thing that is not yet frozen -/
theorem Ext.fresh (s : Sub F H) {p : Addr} {o : HO} (n : H p = none) : Ext F H F (upd H p o) := ⟨Le.refl, s.updN (s.isN n) (plain_none n), Kept.of (same_new n), fun a h => .inl h⟩
theorem Ext.trans {F1 H1 F2 H2 : Hp} (a : Ext F H F1 H1) (b : Ext F1 H1 F2 H2) : Ext F H F2 H2 := by
  refine ⟨a.le.trans b.le, b.sub, a.same.trans b.same, fun x h => ?_⟩
  rcases b.new x h with h | h
  · exact a.new x h
  · exact .inr (a.same.none h)
/-- what is wanted of a pure result -/
def Out (K : PySem.W.Frag) (F H : Hp) (d : D) (Q : VK) : Prop := ∀ v H' F', Ext F H F' H' → Den K F' v d → Q v H'
theorem Out.here {d : D} {Q : VK} {v : V} (o : Out K F H d Q) (s : Sub F H) (h : Den K F v d) : Q v H := o v H F (Ext.refl s) h
theorem Out.tup {ds : List D} {vs : List V} {Q : VK} (o : Out K F H (.tup ds) Q) (s : Sub F H) (h : DenAll K F vs ds) {p : Addr} (n : H p = none) : Q (.ref p) (upd H p (.tup vs)) :=
  o _ _ _ (Ext.laid s n) (.tup (.inl upd_same) (h.mono (upd_le (s.isN n))))
theorem Out.lst {ds : List D} {vs : List V} {Q : VK} (o : Out K F H (.lst ds) Q) (s : Sub F H) (h : DenAll K F vs ds) {p : Addr} (n : H p = none) : Q (.ref p) (upd H p (.lst vs)) :=
  o _ _ _ (Ext.laid s n) (.lst upd_same (h.mono (upd_le (s.isN n))))
end
/-! ### the state of a def: its names, the pot -/
inductive LV where
  | d (x : D) | l (xs : List D) | k (ks : List Key) (vs : List D) | p
def LV.own : LV → Bool
  | .l _ => true
  | .k _ _ => true
  | _ => false
structure Pot where
  a : Int
  b : Int
  c : Int
/-- what is borrowed: the pot, or an object that is changed (its class, its fields) -/
inductive Bw where
  | pot (p : Pot) | obj (c : Str) (ks : List Str) (vs : List D)
  | rd (u : D) (ks : List Key) (vs : List D) (ks2 : List Key) (vs2 : List D)
/-- where the borrowed thing stands: its own address, those of what it alone holds -/
structure Plc where
  root : Addr
  more : List Addr
def Plc.has (pa : Plc) (a : Addr) : Prop := a = pa.root ∨ a ∈ pa.more
abbrev Env' := List (Option LV)
structure S where
  e : Env'
  p : Bw
def SlotOk (K : PySem.W.Frag) (pa : Plc) (F H : Hp) : V → LV → Prop
  | v, .d x => Den K F v x
  | .ref a, .l xs => F a = none ∧ ∃ vs, H a = some (.lst vs) ∧ DenAll K F vs xs
  | .ref a, .k ks xs => F a = none ∧ ∃ vs, H a = some (.dK (ks.zip vs)) ∧ ks.length = vs.length ∧ DenAll K F vs xs
  | .ref a, .p => a = pa.root
  | _, _ => False
def Owns (σ : L2.St) (e : Env') (i : Nat) (a : Addr) : Prop := σ[i]? = some (some (.ref a)) ∧ ∃ x, e[i]? = some (some x) ∧ x.own = true
def HasP (e : Env') : Prop := ∃ i : Nat, e[i]? = some (some .p)
def Pot.vs (p : Pot) : List V := [.int p.a, .int p.b, .int p.c]
def BorAt (K : PySem.W.Frag) (F H : Hp) (pa : Plc) : Bw → Prop
  | .pot p => pa.more = [] ∧ H pa.root = some (.lst p.vs)
  | .obj c ks ds => pa.more = [] ∧ OwnC K (He.ga K c) ∧ ∃ dx vs, H pa.root = some (.ins (He.ga K c) dx (ks.zip vs)) ∧ ks.length = vs.length ∧ DenAll K F vs ds
  | .rd u ks ds ks2 ds2 => OwnC K (He.ga K "Reading") ∧ ∃ r q dx uv vs vs2, pa.more = [r, q] ∧ r ≠ q ∧ pa.root ≠ r ∧ pa.root ≠ q ∧ H pa.root = some (.ins (He.ga K "Reading") dx [("own_units", uv), ("own_rows", .ref r), ("own_depths", .ref q)]) ∧ Den K F uv u ∧
      H r = some (.dK (ks.zip vs)) ∧ ks.length = vs.length ∧ DenAll K F vs ds ∧ H q = some (.dK (ks2.zip vs2)) ∧ ks2.length = vs2.length ∧ DenAll K F vs2 ds2
theorem BorAt.isS {K : PySem.W.Frag} {F H : Hp} {pa : Plc} {p : Bw} (h : BorAt K F H pa p) {a : Addr} (ha : pa.has a) : ∃ o, H a = some o := by
  cases p with
  | pot p =>
    obtain ⟨h1, h2⟩ := h
    rcases ha with rfl | ha
    · exact ⟨_, h2⟩
    · rw [h1] at ha
      cases ha
  | obj c ks ds =>
    obtain ⟨h1, _, dx, vs, h, _⟩ := h
    rcases ha with rfl | ha
    · exact ⟨_, h⟩
    · rw [h1] at ha
      cases ha
  | rd u ks ds ks2 ds2 =>
    obtain ⟨_, r, q, dx, uv, vs, vs2, h1, _, _, _, h2, _, h3, _, _, h4, _⟩ := h
    rcases ha with rfl | ha
    · exact ⟨_, h2⟩
    · rw [h1] at ha
      rcases List.mem_cons.mp ha with rfl | ha
      · exact ⟨_, h3⟩
      · rcases List.mem_cons.mp ha with rfl | ha
        · exact ⟨_, h4⟩
        · cases ha
theorem BorAt.to {K : PySem.W.Frag} {F H F' H' : Hp} {pa : Plc} {p : Bw} (h : BorAt K F H pa p) (le : Le F F') (k : ∀ a o, pa.has a → H a = some o → NoTab o → H' a = some o) : BorAt K F' H' pa p := by
  cases p with
  | pot p => exact ⟨h.1, k _ _ (.inl rfl) h.2 (fun _ z => nomatch z)⟩
  | obj c ks ds =>
    obtain ⟨m, w, dx, vs, h1, h2, h3⟩ := h
    exact ⟨m, w, dx, vs, k _ _ (.inl rfl) h1 (fun _ z => nomatch z), h2, h3.mono le⟩
  | rd u ks ds ks2 ds2 =>
    obtain ⟨w, r, q, dx, uv, vs, vs2, h1, n1, n2, n3, h2, hu, h3, l3, d3, h4, l4, d4⟩ := h
    exact ⟨w, r, q, dx, uv, vs, vs2, h1, n1, n2, n3, k _ _ (.inl rfl) h2 (fun _ z => nomatch z), hu.mono le, k _ _ (.inr (by rw [h1]; exact .head _)) h3 (fun _ z => nomatch z), l3, d3.mono le, k _ _ (.inr (by rw [h1]; exact .tail _ (.head _))) h4 (fun _ z => nomatch z), l4, d4.mono le⟩
structure Rep (K : PySem.W.Frag) (pa : Plc) (F H : Hp) (σ : L2.St) (s : S) : Prop where
  sub : Sub F H
  len : σ.length = s.e.length
  slot : ∀ (i : Nat) (x : LV), s.e[i]? = some (some x) → ∃ v, σ[i]? = some (some v) ∧ SlotOk K pa F H v x
  uniq : ∀ i j a, Owns σ s.e i a → Owns σ s.e j a → i = j
  pot : HasP s.e → (∀ a, pa.has a → F a = none) ∧ BorAt K F H pa s.p ∧ ∀ i a, pa.has a → ¬ Owns σ s.e i a
def OwnA (pa : Plc) (σ : L2.St) (s : S) (a : Addr) : Prop := (∃ i, Owns σ s.e i a) ∨ (HasP s.e ∧ pa.has a)
structure Step (pa : Plc) (F H : Hp) (σ : L2.St) (s : S) (F' H' : Hp) (σ' : L2.St) (s' : S) : Prop where
  le : Le F F'
  keep : ∀ a o, H a = some o → ¬ OwnA pa σ s a → ∃ o', H' a = some o' ∧ (NoTab o → o' = o)
  new : ∀ a, F' a ≠ none → F a ≠ none ∨ H a = none ∨ OwnA pa σ s a
  own : ∀ a, OwnA pa σ' s' a → OwnA pa σ s a ∨ H a = none
section
variable {K : PySem.W.Frag} {pa : Plc} {F H F1 H1 F2 H2 F' H' : Hp} {σ σ1 σ2 : L2.St} {s s1 s2 : S}
theorem Step.refl : Step pa F H σ s F H σ s := ⟨Le.refl, fun _ o h _ => ⟨o, h, fun _ => rfl⟩, fun _ h => .inl h, fun _ h => .inl h⟩
theorem Step.at (st : Step pa F H σ s F1 H1 σ1 s1) {a : Addr} {o : HO} (h : H a = some o) (n : ¬ OwnA pa σ s a) (nt : NoTab o := by intro ps z; cases z) : H1 a = some o := by
  obtain ⟨o', e, q⟩ := st.keep a o h n
  rw [e, q nt]
theorem Step.trans (a : Step pa F H σ s F1 H1 σ1 s1) (b : Step pa F1 H1 σ1 s1 F2 H2 σ2 s2) : Step pa F H σ s F2 H2 σ2 s2 := by
  have back : ∀ x, OwnA pa σ1 s1 x → OwnA pa σ s x ∨ H x = none := a.own
  have none1 : ∀ x, H1 x = none → H x = none ∨ OwnA pa σ s x := fun x h => by
    cases e : H x with
    | none => exact .inl rfl
    | some o =>
      refine .inr (Classical.byContradiction fun n => ?_)
      obtain ⟨o', e', _⟩ := a.keep x o e n
      rw [e'] at h
      cases h
  refine ⟨a.le.trans b.le, fun x o h n => ?_, fun x h => ?_, fun x h => ?_⟩
  · obtain ⟨o1, e1, q1⟩ := a.keep x o h n
    obtain ⟨o2, e2, q2⟩ := b.keep x o1 e1 fun q => by
      rcases back x q with q | q
      · exact n q
      · rw [h] at q
        cases q
    refine ⟨o2, e2, fun m => ?_⟩
    have e := q1 m
    rw [e] at q2
    exact q2 m
  · rcases b.new x h with h | h | h
    · exact a.new x h
    · exact .inr (none1 x h)
    · rcases back x h with q | q
      · exact .inr (.inr q)
      · exact .inr (.inl q)
  · rcases b.own x h with h | h
    · exact back x h
    · exact (none1 x h).symm
theorem Ext.step (e : Ext F H F' H') : Step pa F H σ s F' H' σ s := ⟨e.le, fun a o h _ => e.same a o h, fun a h => (e.new a h).imp_right .inl, fun _ h => .inl h⟩
theorem SlotOk.ext {v : V} {x : LV} (e : Ext F H F' H') (h : SlotOk K pa F H v x) : SlotOk K pa F' H' v x := by
  have nn : ∀ a o, F a = none → H a = some o → F' a = none := fun a o hf hh => by
    cases q : F' a with
    | none => rfl
    | some u =>
      rcases e.new a (by rw [q]; exact fun z => nomatch z) with z | z
      · exact absurd hf z
      · rw [hh] at z
        cases z
  cases x with
  | d x => cases v <;> exact Den.mono e.le h
  | l xs =>
    cases v with
    | ref a =>
      obtain ⟨h1, vs, h2, h3⟩ := h
      exact ⟨nn a _ h1 h2, vs, e.same.at h2, h3.mono e.le⟩
    | _ => exact h.elim
  | k ks xs =>
    cases v with
    | ref a =>
      obtain ⟨h1, vs, h2, h4, h3⟩ := h
      exact ⟨nn a _ h1 h2, vs, e.same.at h2, h4, h3.mono e.le⟩
    | _ => exact h.elim
  | p =>
    cases v with
    | ref a => exact h
    | _ => exact h.elim
theorem Rep.ext (r : Rep K pa F H σ s) (e : Ext F H F' H') : Rep K pa F' H' σ s := by
  refine ⟨e.sub, r.len, fun i x h => ?_, r.uniq, fun h => ?_⟩
  · obtain ⟨v, h1, h2⟩ := r.slot i x h
    exact ⟨v, h1, h2.ext e⟩
  · obtain ⟨h1, h2, h3⟩ := r.pot h
    refine ⟨fun a ha => ?_, h2.to e.le (fun a o _ h n => e.same.at h n), h3⟩
    cases q : F' a with
    | none => rfl
    | some u =>
      rcases e.new a (by rw [q]; exact fun z => nomatch z) with z | z
      · exact absurd (h1 a ha) z
      · obtain ⟨o, ho⟩ := h2.isS ha
        rw [ho] at z
        cases z
end
/-! ### outcomes -/
inductive Rs (α : Type) where
  | ok (a : α) (s : S) | ex (c : Str) (v : D) (s : S) | no
def Rs.bind {α β : Type} : Rs α → (α → S → Rs β) → Rs β
  | .ok a s, f => f a s
  | .ex c v s, _ => .ex c v s
  | .no, _ => .no
def liftO {α : Type} (o : Option α) (s : S) : Rs α := match o with
  | some d => .ok d s
  | none => .no
/-- how an error lies: its class's name, what it keeps -/
def ExAt (K : PySem.W.Frag) (W : L2.St → XK) (F' H' : Hp) (σ : L2.St) (c : Str) (d : D) : Prop := ∀ v da, Den K F' v d → F' da = some (.xd [("value", v)]) → W σ (.ref (He.ga K c)) (some da) H'
def Fin {α β : Type} (den : Hp → Hp → β → α → Prop) (K : PySem.W.Frag) (pa : Plc) (W : L2.St → XK) (F H : Hp) (σ : L2.St) (s : S) (r : Rs α) (Q : β → Hp → Prop) : Prop := match r with
  | .ok x s' => ∀ v H' F', Step pa F H σ s F' H' σ s' → Rep K pa F' H' σ s' → den F' H' v x → Q v H'
  | .ex c d s' => ∀ H' F', Step pa F H σ s F' H' σ s' → Rep K pa F' H' σ s' → ExAt K W F' H' σ c d
  | .no => False
def tG {α β : Type} (den : Hp → Hp → β → α → Prop) (K : PySem.W.Frag) (pa : Plc) (W : L2.St → XK) (f : S → Rs α) : L2.St → Hp → (β → Hp → Prop) → Prop := fun σ H Q => ∃ F s, Rep K pa F H σ s ∧ Fin den K pa W F H σ s (f s) Q
def dV (K : PySem.W.Frag) : Hp → Hp → V → D → Prop := fun F _ v x => Den K F v x
def dA (K : PySem.W.Frag) : Hp → Hp → List V → List D → Prop := fun F _ v x => DenAll K F v x
def dB : Hp → Hp → Bool → Bool → Prop := fun _ _ a b => a = b
abbrev tV (K : PySem.W.Frag) (pa : Plc) (W : L2.St → XK) (f : S → Rs D) : TE := tG (dV K) K pa W f
abbrev tVA (K : PySem.W.Frag) (pa : Plc) (W : L2.St → XK) (f : S → Rs (List D)) : TA := tG (dA K) K pa W f
abbrev tVB (K : PySem.W.Frag) (pa : Plc) (W : L2.St → XK) (f : S → Rs Bool) : TT := tG dB K pa W f
section
variable {K : PySem.W.Frag} {pa : Plc} {W : L2.St → XK} {F H F1 H1 : Hp} {σ : L2.St} {s s1 : S} {α β γ δ : Type} {den : Hp → Hp → β → α → Prop} {den2 : Hp → Hp → δ → γ → Prop}
theorem Fin.mono {r : Rs α} {Q Q' : β → Hp → Prop} (h : Fin den K pa W F H σ s r Q) (m : ∀ v H', Q v H' → Q' v H') : Fin den K pa W F H σ s r Q' := by
  cases r with
  | ok x s' => exact fun v H' F' a b c => m _ _ (h v H' F' a b c)
  | ex c d s' => exact h
  | no => exact h
theorem Fin.shift {r : Rs α} {Q : β → Hp → Prop} (st : Step pa F H σ s F1 H1 σ s1) (h : Fin den K pa W F H σ s r Q) : Fin den K pa W F1 H1 σ s1 r Q := by
  cases r with
  | ok x s' => exact fun v H' F' a b c => h v H' F' (st.trans a) b c
  | ex c d s' => exact fun H' F' a b => h H' F' (st.trans a) b
  | no => exact h
theorem Fin.bind {r : Rs α} {k : α → S → Rs γ} {Q : δ → Hp → Prop} (h : Fin den2 K pa W F H σ s (r.bind k) Q) :
    Fin den K pa W F H σ s r (fun v H1 => ∃ F1 s1 x, Step pa F H σ s F1 H1 σ s1 ∧ Rep K pa F1 H1 σ s1 ∧ den F1 H1 v x ∧ Fin den2 K pa W F1 H1 σ s1 (k x s1) Q) := by
  cases r with
  | ok x s' => exact fun v H' F' a b c => ⟨F', s', x, a, b, c, Fin.shift a h⟩
  | ex c d s' => exact h
  | no => exact h
theorem Fin.lift {o : Option D} {Q : VK} (rep : Rep K pa F H σ s) (h : Fin (dV K) K pa W F H σ s (liftO o s) Q) : ∃ z, o = some z ∧ Out K F H z Q := by
  cases o with
  | none => exact False.elim h
  | some z => exact ⟨z, rfl, fun v H' F' e d => h v H' F' e.step (rep.ext e) d⟩
theorem Fin.here {x : α} {Q : β → Hp → Prop} {v : β} (rep : Rep K pa F H σ s) (h : Fin den K pa W F H σ s (.ok x s) Q) (d : den F H v x) : Q v H := h v H F Step.refl rep d
end
theorem _root_.L2.PE.mono {X : Cx} {e : Expr} {t u : TE} (h : PE X e t) (m : ∀ σ H Q, u σ H Q → t σ H Q) : PE X e u := ⟨fun pins s σ H Q I z => h.run pins s σ H Q I (m σ H Q z)⟩
theorem _root_.L2.PT.mono {X : Cx} {e : Expr} {t u : TT} (h : PT X e t) (m : ∀ σ H Q, u σ H Q → t σ H Q) : PT X e u := ⟨fun pins s σ H Q I z => h.run pins s σ H Q I (m σ H Q z)⟩
theorem _root_.L2.PW.mono {X : Cx} {e : Expr} {t u : TT} (h : PW X e t) (m : ∀ σ H Q, u σ H Q → t σ H Q) : PW X e u := ⟨fun wh pins s σ H Q I z => h.run wh pins s σ H Q I (m σ H Q z)⟩
theorem _root_.L2.PA.mono {X : Cx} {e : List Expr} {t u : TA} (h : PA X e t) (m : ∀ σ H Q, u σ H Q → t σ H Q) : PA X e u := ⟨fun pos pins s σ H Q I z => h.run pos pins s σ H Q I (m σ H Q z)⟩
theorem _root_.L2.PS.mono {X : Cx} {e : Stmt} {t u : TS} (h : PS X e t) (m : ∀ D σ H, u D σ H → t D σ H) : PS X e u := ⟨fun pins s σ H Q I z => h.run pins s σ H Q I (m Q σ H z)⟩
theorem _root_.L2.PSs.mono {X : Cx} {e : List Stmt} {t u : TS} (h : PSs X e t) (m : ∀ D σ H, u D σ H → t D σ H) : PSs X e u := ⟨fun pins s σ H Q I z => h.run pins s σ H Q I (m Q σ H z)⟩
theorem _root_.L2.PS.or {X : Cx} {e : Stmt} {t u : TS} (h : PS X e t) (h2 : PS X e u) : PS X e (fun D σ H => t D σ H ∨ u D σ H) := ⟨fun pins s σ H Q I z => z.elim (h.run pins s σ H Q I) (h2.run pins s σ H Q I)⟩
theorem _root_.L2.PE.or {X : Cx} {e : Expr} {t u : TE} (h : PE X e t) (h2 : PE X e u) : PE X e (fun D σ H => t D σ H ∨ u D σ H) := ⟨fun pins s σ H Q I z => z.elim (h.run pins s σ H Q I) (h2.run pins s σ H Q I)⟩

/-! ### mirrors of expressions -/
def mVar (i : Nat) : S → Rs D := fun s => match s.e[i]? with
  | some (some (.d x)) => .ok x s
  | some (some (.l xs)) => .ok (.lst xs) { s with e := s.e.set i (some (.d (.lst xs))) }
  | some (some (.k ks vs)) => .ok (.dic ks vs) { s with e := s.e.set i (some (.d (.dic ks vs))) }
  | _ => .no
def mC (d : D) : S → Rs D := fun s => .ok d s
def mOp (g : D → D → Option D) (fa fb : S → Rs D) : S → Rs D := fun s => (fa s).bind fun x s1 => (fb s1).bind fun y s2 => liftO (g x y) s2
def mUn (g : D → Option D) (fa : S → Rs D) : S → Rs D := fun s => (fa s).bind fun x s1 => liftO (g x) s1
def mChain (g g' : D → D → Option D) (fa fb fc : S → Rs D) : S → Rs D := fun s => (fa s).bind fun x s1 => (fb s1).bind fun y s2 => match g x y with
  | some (.bl true) => (fc s2).bind fun z s3 => liftO (g' y z) s3
  | some (.bl false) => .ok (.bl false) s2
  | _ => .no
def mIf (ft : S → Rs Bool) (fa fb : S → Rs D) : S → Rs D := fun s => (ft s).bind fun c s1 => match c with
  | true => fa s1
  | false => fb s1
def mAnd (fa fb : S → Rs D) : S → Rs D := fun s => (fa s).bind fun x s1 => match x with
  | .bl true => fb s1
  | .bl false => .ok (.bl false) s1
  | _ => .no
def mOr (fa fb : S → Rs D) : S → Rs D := fun s => (fa s).bind fun x s1 => match x with
  | .bl true => .ok (.bl true) s1
  | .bl false => fb s1
  | _ => .no
def mNot (fa : S → Rs D) : S → Rs D := fun s => (fa s).bind fun x s1 => match x with
  | .bl b => .ok (.bl (!b)) s1
  | _ => .no
/-- tests -/
def mTest (fa : S → Rs D) : S → Rs Bool := fun s => (fa s).bind fun x s1 => match x with
  | .bl b => .ok b s1
  | _ => .no
def truD : D → Option Bool
  | .non => some false
  | .bl b => some b
  | .int i => some (i != 0)
  | .tup xs => some !xs.isEmpty
  | .lst xs => some !xs.isEmpty
  | _ => none
def mTru (fa : S → Rs D) : S → Rs Bool := fun s => (fa s).bind fun x s1 => liftO (truD x) s1
def mAndT (fa fb : S → Rs Bool) : S → Rs Bool := fun s => (fa s).bind fun x s1 => match x with
  | true => fb s1
  | false => .ok false s1
def mOrT (fa fb : S → Rs Bool) : S → Rs Bool := fun s => (fa s).bind fun x s1 => match x with
  | true => .ok true s1
  | false => fb s1
def mNotT (fa : S → Rs Bool) : S → Rs Bool := fun s => (fa s).bind fun x s1 => .ok (!x) s1
/-- arguments -/
def mNil : S → Rs (List D) := fun s => .ok [] s
def mCons (fa : S → Rs D) (fr : S → Rs (List D)) : S → Rs (List D) := fun s => (fa s).bind fun x s1 => (fr s1).bind fun xs s2 => .ok (x :: xs) s2
def mStar (fa : S → Rs D) (fr : S → Rs (List D)) : S → Rs (List D) := fun s => (fa s).bind fun x s1 => match x with
  | .tup ys => (fr s1).bind fun xs s2 => .ok (ys ++ xs) s2
  | .lst ys => (fr s1).bind fun xs s2 => .ok (ys ++ xs) s2
  | _ => .no
def tupD (xs : List D) : Option D := if xs.length ≤ 100000 then some (.tup xs) else none
def lstD (xs : List D) : Option D := if xs.length ≤ 100000 then some (.lst xs) else none
def mTup (fa : S → Rs (List D)) : S → Rs D := fun s => (fa s).bind fun xs s1 => liftO (tupD xs) s1
def mLst (fa : S → Rs (List D)) : S → Rs D := fun s => (fa s).bind fun xs s1 => liftO (lstD xs) s1
def mCB (g : List D → Option D) (fa : S → Rs (List D)) : S → Rs D := fun s => (fa s).bind fun xs s1 => liftO (g xs) s1
/-! ### values' rules -/
def LiftOp (K : PySem.W.Frag) (r : R2) (g : D → D → Option D) : Prop := ∀ (F H : Hp) (x y : V) (a b z : D) (Q : VK), Sub F H → Den K F x a → Den K F y b → g a b = some z → Out K F H z Q → r x y H Q
def LiftUn (K : PySem.W.Frag) (r : V → Hp → VK → Prop) (g : D → Option D) : Prop := ∀ (F H : Hp) (x : V) (a z : D) (Q : VK), Sub F H → Den K F x a → g a = some z → Out K F H z Q → r x H Q
def LiftCB (K : PySem.W.Frag) (r : List V → Hp → VK → Prop) (g : List D → Option D) : Prop := ∀ (F H : Hp) (xs : List V) (as : List D) (z : D) (Q : VK), Sub F H → DenAll K F xs as → g as = some z → Out K F H z Q → r xs H Q
section
variable {X : Cx} {K : PySem.W.Frag} {pa : Plc} {W : L2.St → XK} {a b c : Expr} {fa fb fc : S → Rs D} {pos : Pos}
theorem Own.set_d {σ : L2.St} {e : Env'} {i j : Nat} {a : Addr} {x : D} (h : Owns σ (e.set i (some (.d x))) j a) : j ≠ i ∧ Owns σ e j a := by
  obtain ⟨h1, y, h2, h3⟩ := h
  by_cases q : j = i
  · subst q
    by_cases l : j < e.length
    · rw [List.getElem?_set_self l] at h2
      cases h2
      cases h3
    · rw [List.getElem?_eq_none (by simpa using l)] at h2
      cases h2
  · rw [List.getElem?_set_ne (Ne.symm q)] at h2
    exact ⟨q, h1, y, h2, h3⟩
theorem HasP.of_set {e : Env'} {i : Nat} {x : D} (h : HasP (e.set i (some (.d x)))) : HasP e := by
  obtain ⟨j, h⟩ := h
  by_cases q : j = i
  · subst q
    by_cases l : j < e.length
    · rw [List.getElem?_set_self l] at h
      cases h
    · rw [List.getElem?_eq_none (by simpa using l)] at h
      cases h
  · rw [List.getElem?_set_ne (Ne.symm q)] at h
    exact ⟨j, h⟩
/-- what a name owns is frozen -/
theorem Rep.freeze {F H : Hp} {σ : L2.St} {s : S} {i : Nat} {a : Addr} {y : LV} {o : HO} {x : D} (r : Rep K pa F H σ s) (ho : Owns σ s.e i a) (hf : F a = none) (hh : H a = some o) (hd : Den K (upd F a o) (.ref a) x) (nt : NoTab o := by intro ps z; cases z) :
    Step pa F H σ s (upd F a o) H σ { s with e := s.e.set i (some (.d x)) } ∧ Rep K pa (upd F a o) H σ { s with e := s.e.set i (some (.d x)) } := by
  have le : Le F (upd F a o) := upd_le hf
  have npa : HasP s.e → ¬ pa.has a := fun hp z => (r.pot hp).2.2 i a z ho
  refine ⟨⟨le, fun _ o h _ => ⟨o, h, fun _ => rfl⟩, fun b h => ?_, fun b h => ?_⟩, ⟨r.sub.laid hh nt, by simpa using r.len, fun j z h => ?_, fun j k b h1 h2 => ?_, fun h => ?_⟩⟩
  · by_cases e : b = a
    · subst e
      exact .inr (.inr (.inl ⟨i, ho⟩))
    · rw [upd_ne e] at h
      exact .inl h
  · rcases h with ⟨j, h⟩ | ⟨h, e⟩
    · exact .inl (.inl ⟨j, (Own.set_d h).2⟩)
    · exact .inl (.inr ⟨HasP.of_set h, e⟩)
  · have h : (s.e.set i (some (.d x)))[j]? = some (some z) := h
    by_cases q : j = i
    · subst q
      have l : j < s.e.length := by
        obtain ⟨_, y, h2, _⟩ := ho
        exact (List.getElem?_eq_some_iff.mp h2).1
      rw [List.getElem?_set_self l] at h
      cases h
      exact ⟨_, ho.1, hd⟩
    · rw [List.getElem?_set_ne (Ne.symm q)] at h
      obtain ⟨v, h1, h2⟩ := r.slot j z h
      refine ⟨v, h1, ?_⟩
      have ne : ∀ b, v = .ref b → z.own = true → b ≠ a := fun b e1 e2 e3 => by
        subst e1
        subst e3
        exact q (r.uniq j i b ⟨h1, z, h, e2⟩ ho)
      cases z with
      | d x => cases v <;> exact Den.mono le h2
      | l xs =>
        cases v with
        | ref b =>
          obtain ⟨q1, vs, q2, q3⟩ := h2
          exact ⟨by rw [upd_ne (ne b rfl rfl)]; exact q1, vs, q2, q3.mono le⟩
        | _ => exact h2.elim
      | k ks xs =>
        cases v with
        | ref b =>
          obtain ⟨q1, vs, q2, q4, q3⟩ := h2
          exact ⟨by rw [upd_ne (ne b rfl rfl)]; exact q1, vs, q2, q4, q3.mono le⟩
        | _ => exact h2.elim
      | p =>
        cases v with
        | ref b => exact h2
        | _ => exact h2.elim
  · exact r.uniq j k b (Own.set_d h1).2 (Own.set_d h2).2
  · obtain ⟨h1, h2, h3⟩ := r.pot (HasP.of_set h)
    exact ⟨fun b hb => by rw [upd_ne (fun z => npa (HasP.of_set h) (by rw [← z]; exact hb))]; exact h1 b hb, h2.to le (fun _ _ _ z _ => z), fun j b hb z => h3 j b hb (Own.set_d z).2⟩
theorem pv_var {i : Nat} (h : PE X a (tVar i)) : PE X a (tV K pa W (mVar i)) := by
  refine h.mono ?_
  rintro σ H Q ⟨F, s, rep, h⟩
  unfold mVar at h
  cases e : s.e[i]? with
  | none =>
    rw [e] at h
    exact False.elim h
  | some o =>
    cases o with
    | none =>
      rw [e] at h
      exact False.elim h
    | some y =>
      rw [e] at h
      obtain ⟨v, h1, h2⟩ := rep.slot i y e
      refine ⟨v, h1, ?_⟩
      cases y with
      | d x => exact h v H F Step.refl rep (by cases v <;> exact h2)
      | l xs =>
        cases v with
        | ref a =>
          obtain ⟨q1, vs, q2, q3⟩ := h2
          obtain ⟨st, rp⟩ := rep.freeze (y := .l xs) (x := .lst xs) ⟨h1, _, e, rfl⟩ q1 q2 (.lst upd_same (q3.mono (upd_le q1)))
          exact h _ _ _ st rp (.lst upd_same (q3.mono (upd_le q1)))
        | _ => exact h2.elim
      | k ks xs =>
        cases v with
        | ref a =>
          obtain ⟨q1, vs, q2, q4, q3⟩ := h2
          obtain ⟨st, rp⟩ := rep.freeze (y := .k ks xs) (x := .dic ks xs) ⟨h1, _, e, rfl⟩ q1 q2 (.dic upd_same q4 (q3.mono (upd_le q1)))
          exact h _ _ _ st rp (.dic upd_same q4 (q3.mono (upd_le q1)))
        | _ => exact h2.elim
      | p => exact False.elim h
theorem pv_c {v : V} {d : D} (h : PE X a (tC v)) (hd : ∀ F, Den K F v d) : PE X a (tV K pa W (mC d)) := by
  refine h.mono ?_
  rintro σ H Q ⟨F, s, rep, h⟩
  exact h v H F Step.refl rep (hd F)
theorem v_int {i : Int} {k : Nat} : PE X (.Constant (.int i) k pos) (tV K pa W (mC (.int i))) := pv_c pe_int fun _ => .int i
theorem v_str {x : Str} {k : Nat} : PE X (.Constant (.str x) k pos) (tV K pa W (mC (.str x))) := pv_c pe_str fun _ => .str x
theorem v_bl {x : Bool} {k : Nat} : PE X (.Constant (.bool x) k pos) (tV K pa W (mC (.bl x))) := pv_c pe_bl fun _ => .bl x
theorem v_non {k : Nat} : PE X (.Constant .none k pos) (tV K pa W (mC .non)) := pv_c pe_non fun _ => .non
theorem tOp_of {r : R2} {g : D → D → Option D} (l : LiftOp K r g) {σ : L2.St} {H : Hp} {Q : VK} (h : tV K pa W (mOp g fa fb) σ H Q) : tOp r (tV K pa W fa) (tV K pa W fb) σ H Q := by
  obtain ⟨F, s, rep, h⟩ := h
  refine ⟨F, s, rep, (Fin.bind h).mono ?_⟩
  rintro v H1 ⟨F1, s1, x, st1, rep1, dv, h1⟩
  refine ⟨F1, s1, rep1, (Fin.bind h1).mono ?_⟩
  rintro w H2 ⟨F2, s2, y, st2, rep2, dw, h2⟩
  obtain ⟨z, e, o⟩ := h2.lift rep2
  exact l F2 H2 v w x y z Q rep2.sub (Den.mono st2.le dv) dw e o
theorem pv_op {op : Operator} {r : R2} {g : D → D → Option D} (ho : OpR X (binaryOp op) r) (l : LiftOp K r g) (ha : PE X a (tV K pa W fa)) (hb : PE X b (tV K pa W fb)) : PE X (.BinOp a op b pos) (tV K pa W (mOp g fa fb)) :=
  (pe_op ho ha hb).mono fun _ _ _ h => tOp_of l h
theorem pv_cmp {op : CmpOp} {r : R2} {g : D → D → Option D} (ho : OpR X (compareOp op) r) (l : LiftOp K r g) (ha : PE X a (tV K pa W fa)) (hb : PE X b (tV K pa W fb)) (hm : behindInMarks op b = false) : PE X (.Compare a [op] [b] pos) (tV K pa W (mOp g fa fb)) :=
  (pe_cmpR ho ha hb hm).mono fun _ _ _ h => tOp_of l h
theorem pv_ix {r : R2} {g : D → D → Option D} (ho : IxR X r) (l : LiftOp K r g) (ha : PE X a (tV K pa W fa)) (hb : PE X b (tV K pa W fb)) (hs : PlainIx b) : PE X (.Subscript a b pos) (tV K pa W (mOp g fa fb)) :=
  (pe_ix ho ha hb hs).mono fun _ _ _ h => tOp_of l h
theorem pv_un {op : UnaryOp} {r : V → Hp → VK → Prop} {g : D → Option D} (ho : UnR X (unaryOp op) r) (l : LiftUn K r g) (ha : PE X a (tV K pa W fa)) : PE X (.UnaryOp op a pos) (tV K pa W (mUn g fa)) := by
  refine (pe_un ho ha).mono ?_
  rintro σ H Q ⟨F, s, rep, h⟩
  refine ⟨F, s, rep, (Fin.bind h).mono ?_⟩
  rintro v H1 ⟨F1, s1, x, st1, rep1, dv, h1⟩
  obtain ⟨z, e, o⟩ := h1.lift rep1
  exact l F1 H1 v x z Q rep1.sub dv e o
/-- a value that denotes a bool is one -/
theorem Den.isBl {F : Hp} {v : V} {b : Bool} (h : Den K F v (.bl b)) : v = .bl b := by cases h; rfl
theorem Fin.ok_bl {F H : Hp} {σ : L2.St} {s : S} {b : Bool} {Q : VK} (rep : Rep K pa F H σ s) (h : Fin (dV K) K pa W F H σ s (.ok (.bl b) s) Q) : Q (.bl b) H := h _ _ _ Step.refl rep (.bl b)
theorem tChain_of {r r' : R2} {g g' : D → D → Option D} (l : LiftOp K r g) (l' : LiftOp K r' g') {σ : L2.St} {H : Hp} {Q : VK} (h : tV K pa W (mChain g g' fa fb fc) σ H Q) : tChain r r' (tV K pa W fa) (tV K pa W fb) (tV K pa W fc) σ H Q := by
  obtain ⟨F, s, rep, h⟩ := h
  refine ⟨F, s, rep, (Fin.bind h).mono ?_⟩
  rintro v H1 ⟨F1, s1, x, st1, rep1, dv, h1⟩
  refine ⟨F1, s1, rep1, (Fin.bind h1).mono ?_⟩
  rintro w H2 ⟨F2, s2, y, st2, rep2, dw, h2⟩
  have dv2 := Den.mono st2.le dv
  cases e : g x y with
  | none =>
    simp only [e] at h2
    exact False.elim h2
  | some z =>
    cases z with
    | bl k =>
      refine l F2 H2 v w x y _ _ rep2.sub dv2 dw e (fun u H3 F3 ext du => ?_)
      refine ⟨k, du.isBl, ?_⟩
      have st3 : Step pa F2 H2 σ s2 F3 H3 σ s2 := ext.step
      have rep3 := rep2.ext ext
      cases k with
      | true =>
        simp only [e] at h2
        refine ⟨F3, s2, rep3, (Fin.bind (h2.shift st3)).mono ?_⟩
        rintro u4 H4 ⟨F4, s4, q, st4, rep4, dq, h4⟩
        obtain ⟨z, e4, o⟩ := h4.lift rep4
        exact l' F4 H4 w u4 y q z Q rep4.sub (Den.mono st4.le (Den.mono ext.le dw)) dq e4 o
      | false =>
        simp only [e] at h2
        exact Fin.ok_bl (W := W) rep3 (h2.shift st3)
    | _ =>
      simp only [e] at h2
      exact False.elim h2
theorem pv_chain {op op' : CmpOp} {r r' : R2} {g g' : D → D → Option D} (ho : OpR X (compareOp op) r) (l : LiftOp K r g) (ho' : OpR X (compareOp op') r') (l' : LiftOp K r' g') (ha : PE X a (tV K pa W fa)) (hb : PE X b (tV K pa W fb)) (hc : PE X c (tV K pa W fc))
    (hm : lastMarks [op, op'] [b, c] = false := by with_unfolding_all rfl) : PE X (.Compare a [op, op'] [b, c] pos) (tV K pa W (mChain g g' fa fb fc)) :=
  (pe_chain ho ho' ha hb hc hm).mono fun _ _ _ h => tChain_of l l' h
/-! tests -/
theorem tB_of {σ : L2.St} {H : Hp} {Q : Bool → Hp → Prop} (h : tVB K pa W (mTest fa) σ H Q) : tB (tV K pa W fa) σ H Q := by
  obtain ⟨F, s, rep, h⟩ := h
  refine ⟨F, s, rep, (Fin.bind h).mono ?_⟩
  rintro v H1 ⟨F1, s1, x, st1, rep1, dv, h1⟩
  cases x with
  | bl b => exact ⟨b, dv.isBl, h1 b H1 F1 Step.refl rep1 rfl⟩
  | _ => exact False.elim h1
theorem qt_val (h : PE X a (tV K pa W fa)) (he : ∀ whole, isTrue a X.env whole = (do let v ← whole; standAt a.pos; holding [v] (truthy v)) := by intro _; rfl) : PT X a (tVB K pa W (mTest fa)) := (pt_val h he).mono fun _ _ _ z => tB_of z
theorem qt_cmp {op : CmpOp} {r : R2} {g : D → D → Option D} (ho : OpR X (compareOp op) r) (l : LiftOp K r g) (ha : PE X a (tV K pa W fa)) (hb : PE X b (tV K pa W fb)) (hm : behindInMarks op b = false) : PT X (.Compare a [op] [b] pos) (tVB K pa W (mTest (mOp g fa fb))) := by
  refine (pt_cmpR ho ha hb hm).mono fun σ H Q h => ?_
  obtain ⟨F, s, rep, h⟩ := h
  refine tOp_of l ⟨F, s, rep, (Fin.bind h).mono ?_⟩
  rintro v H1 ⟨F1, s1, x, st1, rep1, dv, h1⟩
  cases x with
  | bl b => exact ⟨b, dv.isBl, h1 b H1 F1 Step.refl rep1 rfl⟩
  | _ => exact False.elim h1
theorem qt_chain {op op' : CmpOp} {r r' : R2} {g g' : D → D → Option D} (ho : OpR X (compareOp op) r) (l : LiftOp K r g) (ho' : OpR X (compareOp op') r') (l' : LiftOp K r' g') (ha : PE X a (tV K pa W fa)) (hb : PE X b (tV K pa W fb)) (hc : PE X c (tV K pa W fc))
    (hm : lastMarks [op, op'] [b, c] = false := by with_unfolding_all rfl) : PT X (.Compare a [op, op'] [b, c] pos) (tVB K pa W (mTest (mChain g g' fa fb fc))) := by
  refine (pt_chain ho ho' ha hb hc hm).mono fun σ H Q h => ?_
  obtain ⟨F, s, rep, h⟩ := h
  refine tChain_of l l' ⟨F, s, rep, (Fin.bind h).mono ?_⟩
  rintro v H1 ⟨F1, s1, x, st1, rep1, dv, h1⟩
  cases x with
  | bl b => exact ⟨b, dv.isBl, h1 b H1 F1 Step.refl rep1 rfl⟩
  | _ => exact False.elim h1
theorem qt_tru (ek : X.K = K) (h : PE X a (tV K pa W fa)) (he : ∀ whole, isTrue a X.env whole = (do let v ← whole; standAt a.pos; holding [v] (truthy v)) := by intro _; rfl) : PT X a (tVB K pa W (mTru fa)) := by
  subst ek
  refine (pt_truth h he).mono ?_
  rintro σ H Q ⟨F, s, rep, h⟩
  refine ⟨F, s, rep, (Fin.bind h).mono ?_⟩
  rintro v H1 ⟨F1, s1, x, st1, rep1, dv, h1⟩
  cases e : truD x with
  | none =>
    rw [e] at h1
    exact False.elim h1
  | some k =>
    rw [e] at h1
    refine ⟨k, ?_, h1 k H1 F1 Step.refl rep1 rfl⟩
    cases dv with
    | non => simpa [truD, TruV] using e.symm
    | bl b => simpa [truD, TruV] using e.symm
    | int i => simpa [truD, TruV] using e.symm
    | str x => cases e
    | dic _ _ _ => cases e
    | obj _ _ _ _ => cases e
    | tup h r =>
      refine .inr (.inl ⟨_, rep1.sub.sqT h, ?_⟩)
      have e2 := Option.some.inj e
      rw [← e2]
      cases r <;> rfl
    | lst h r =>
      refine .inl ⟨_, rep1.sub.sqL h, ?_⟩
      have e2 := Option.some.inj e
      rw [← e2]
      cases r <;> rfl
variable {ft fu : S → Rs Bool} {rest : List Expr}
theorem qw_and1 (h : PT X a (tVB K pa W ft)) : PW X (.BoolOp .And [a] pos) (tVB K pa W ft) := pw_and1 h
theorem qw_or1 (h : PT X a (tVB K pa W ft)) : PW X (.BoolOp .Or [a] pos) (tVB K pa W ft) := pw_or1 h
theorem qw_and (ha : PT X a (tVB K pa W ft)) (hb : PW X (.BoolOp .And (b :: rest) pos) (tVB K pa W fu)) : PW X (.BoolOp .And (a :: b :: rest) pos) (tVB K pa W (mAndT ft fu)) := by
  refine (pw_and ha hb).mono ?_
  rintro σ H Q ⟨F, s, rep, h⟩
  refine ⟨F, s, rep, (Fin.bind h).mono ?_⟩
  rintro v H1 ⟨F1, s1, x, st1, rep1, rfl, h1⟩
  cases v with
  | true => exact ⟨F1, s1, rep1, h1⟩
  | false => exact h1 _ _ _ Step.refl rep1 rfl
theorem qw_or (ha : PT X a (tVB K pa W ft)) (hb : PW X (.BoolOp .Or (b :: rest) pos) (tVB K pa W fu)) : PW X (.BoolOp .Or (a :: b :: rest) pos) (tVB K pa W (mOrT ft fu)) := by
  refine (pw_or ha hb).mono ?_
  rintro σ H Q ⟨F, s, rep, h⟩
  refine ⟨F, s, rep, (Fin.bind h).mono ?_⟩
  rintro v H1 ⟨F1, s1, x, st1, rep1, rfl, h1⟩
  cases v with
  | false => exact ⟨F1, s1, rep1, h1⟩
  | true => exact h1 _ _ _ Step.refl rep1 rfl
theorem qt_not (ha : PT X a (tVB K pa W ft)) : PT X (.UnaryOp .Not a pos) (tVB K pa W (mNotT ft)) := by
  refine (pt_not ha).mono ?_
  rintro σ H Q ⟨F, s, rep, h⟩
  refine ⟨F, s, rep, (Fin.bind h).mono ?_⟩
  rintro v H1 ⟨F1, s1, x, st1, rep1, rfl, h1⟩
  exact h1 _ _ _ Step.refl rep1 rfl
theorem pv_and (ha : PE X a (tV K pa W fa)) (hb : PE X (.BoolOp .And (b :: rest) pos) (tV K pa W fb)) : PE X (.BoolOp .And (a :: b :: rest) pos) (tV K pa W (mAnd fa fb)) := by
  refine (pe_and ha hb).mono ?_
  rintro σ H Q ⟨F, s, rep, h⟩
  refine ⟨F, s, rep, (Fin.bind h).mono ?_⟩
  rintro v H1 ⟨F1, s1, x, st1, rep1, dv, h1⟩
  cases x with
  | bl k =>
    refine ⟨k, dv.isBl, ?_⟩
    cases k with
    | true => exact ⟨F1, s1, rep1, h1⟩
    | false => exact Fin.ok_bl rep1 h1
  | _ => exact False.elim h1
theorem pv_or (ha : PE X a (tV K pa W fa)) (hb : PE X (.BoolOp .Or (b :: rest) pos) (tV K pa W fb)) : PE X (.BoolOp .Or (a :: b :: rest) pos) (tV K pa W (mOr fa fb)) := by
  refine (pe_or ha hb).mono ?_
  rintro σ H Q ⟨F, s, rep, h⟩
  refine ⟨F, s, rep, (Fin.bind h).mono ?_⟩
  rintro v H1 ⟨F1, s1, x, st1, rep1, dv, h1⟩
  cases x with
  | bl k =>
    refine ⟨k, dv.isBl, ?_⟩
    cases k with
    | false => exact ⟨F1, s1, rep1, h1⟩
    | true => exact Fin.ok_bl rep1 h1
  | _ => exact False.elim h1
theorem pv_not (ha : PE X a (tV K pa W fa)) : PE X (.UnaryOp .Not a pos) (tV K pa W (mNot fa)) := by
  refine (pe_not ha).mono ?_
  rintro σ H Q ⟨F, s, rep, h⟩
  refine ⟨F, s, rep, (Fin.bind h).mono ?_⟩
  rintro v H1 ⟨F1, s1, x, st1, rep1, dv, h1⟩
  cases x with
  | bl k => exact ⟨k, dv.isBl, Fin.ok_bl rep1 h1⟩
  | _ => exact False.elim h1
theorem pv_if (hc : PT X c (tVB K pa W ft)) (ha : PE X a (tV K pa W fa)) (hb : PE X b (tV K pa W fb)) : PE X (.IfExp c a b pos) (tV K pa W (mIf ft fa fb)) := by
  refine (pe_ifExp hc ha hb).mono ?_
  rintro σ H Q ⟨F, s, rep, h⟩
  refine ⟨F, s, rep, (Fin.bind h).mono ?_⟩
  rintro v H1 ⟨F1, s1, x, st1, rep1, rfl, h1⟩
  cases v with
  | true => exact ⟨F1, s1, rep1, h1⟩
  | false => exact ⟨F1, s1, rep1, h1⟩
/-! arguments, displays, built-ins -/
variable {es : List Expr} {fr : S → Rs (List D)}
theorem qa_nil : PA X [] (tVA K pa W mNil) := by
  refine pa_nil.mono ?_
  rintro σ H Q ⟨F, s, rep, h⟩
  exact h [] H F Step.refl rep .nil
theorem qa_cons (ha : PE X a (tV K pa W fa)) (hr : PA X es (tVA K pa W fr)) (hs : starEach (a :: es) X.env = (false, eval a X.env) :: starEach es X.env := by rfl) : PA X (a :: es) (tVA K pa W (mCons fa fr)) := by
  refine (pa_cons ha hr hs).mono ?_
  rintro σ H Q ⟨F, s, rep, h⟩
  refine ⟨F, s, rep, (Fin.bind h).mono ?_⟩
  rintro v H1 ⟨F1, s1, x, st1, rep1, dv, h1⟩
  refine ⟨F1, s1, rep1, (Fin.bind h1).mono ?_⟩
  rintro vs H2 ⟨F2, s2, xs, st2, rep2, dvs, h2⟩
  exact h2 _ _ _ Step.refl rep2 (.cons (Den.mono st2.le dv) dvs)
theorem qa_star {p : Pos} (ek : X.K = K) (ha : PE X a (tV K pa W fa)) (hr : PA X es (tVA K pa W fr)) (hs : starEach (.Starred a p :: es) X.env = (true, eval a X.env) :: starEach es X.env := by rfl) : PA X (.Starred a p :: es) (tVA K pa W (mStar fa fr)) := by
  subst ek
  refine (StX.pa_star ha hr hs).mono ?_
  rintro σ H Q ⟨F, s, rep, h⟩
  refine ⟨F, s, rep, (Fin.bind h).mono ?_⟩
  rintro v H1 ⟨F1, s1, x, st1, rep1, dv, h1⟩
  cases dv with
  | tup q r =>
    refine ⟨_, _, rfl, .inl (rep1.sub.sqT q), F1, s1, rep1, (Fin.bind h1).mono ?_⟩
    rintro vs H2 ⟨F2, s2, xs, st2, rep2, dvs, h2⟩
    exact h2 _ _ _ Step.refl rep2 ((r.mono st2.le).append dvs)
  | lst q r =>
    refine ⟨_, _, rfl, .inr (rep1.sub.sqL q), F1, s1, rep1, (Fin.bind h1).mono ?_⟩
    rintro vs H2 ⟨F2, s2, xs, st2, rep2, dvs, h2⟩
    exact h2 _ _ _ Step.refl rep2 ((r.mono st2.le).append dvs)
  | _ => exact False.elim h1
theorem le_line {n : Nat} (h : n ≤ 100000) : n ≤ sizeLine := Nat.le_trans h (by decide)
theorem pv_tup {k : Nat} (h : PA X es (tVA K pa W fr)) : PE X (.Tuple es k pos) (tV K pa W (mTup fr)) := by
  refine (pe_tup h).mono ?_
  rintro σ H Q ⟨F, s, rep, h⟩
  refine ⟨F, s, rep, (Fin.bind h).mono ?_⟩
  rintro vs H1 ⟨F1, s1, xs, st1, rep1, dv, h1⟩
  obtain ⟨z, e, o⟩ := Fin.lift rep1 h1
  unfold tupD at e
  by_cases hl : xs.length ≤ 100000
  · rw [if_pos hl] at e
    cases e
    exact ⟨le_line (by rw [DenAll.length dv]; exact hl), fun p hp => o.tup rep1.sub dv hp⟩
  · rw [if_neg hl] at e
    cases e
theorem pv_lst (h : PA X es (tVA K pa W fr)) : PE X (.List es pos) (tV K pa W (mLst fr)) := by
  refine (pe_lst h).mono ?_
  rintro σ H Q ⟨F, s, rep, h⟩
  refine ⟨F, s, rep, (Fin.bind h).mono ?_⟩
  rintro vs H1 ⟨F1, s1, xs, st1, rep1, dv, h1⟩
  obtain ⟨z, e, o⟩ := Fin.lift rep1 h1
  unfold lstD at e
  by_cases hl : xs.length ≤ 100000
  · rw [if_pos hl] at e
    cases e
    exact ⟨le_line (by rw [DenAll.length dv]; exact hl), fun p hp => o.lst rep1.sub dv hp⟩
  · rw [if_neg hl] at e
    cases e
theorem tCB_of {r : List V → Hp → VK → Prop} {g : List D → Option D} (l : LiftCB K r g) {σ : L2.St} {H : Hp} {Q : VK} (h : tV K pa W (mCB g fr) σ H Q) : tCB r (tVA K pa W fr) σ H Q := by
  obtain ⟨F, s, rep, h⟩ := h
  refine ⟨F, s, rep, (Fin.bind h).mono ?_⟩
  rintro vs H1 ⟨F1, s1, xs, st1, rep1, dv, h1⟩
  obtain ⟨z, e, o⟩ := Fin.lift rep1 h1
  exact l F1 H1 vs xs z Q rep1.sub dv e o
variable {x : Str} {p : Pos} {e : Expr}
theorem pv_callB {id : String} {r : List V → Hp → VK → Prop} {g : List D → Option D} (hc : CallR X (.builtin id) r) (l : LiftCB K r g) (hg : Gl X x) (hm : X.mg x = none) (hv : bootBuiltins x = some (.builtin id)) (ha : PA X (e :: es) (tVA K pa W fr)) (hn : x ≠ "__name__" := by decide) (hdb : (x == ("__debug__" : Str)) = false := by decide)
    (he : starEach (e :: es) X.env = (false, eval e X.env) :: starEach es X.env := by rfl) (hpl : (backTo pos (starEach es X.env)).any (·.1) = false := by rfl) : PE X (.Call (.Name x p) (e :: es) [] pos) (tV K pa W (mCB g fr)) :=
  (pe_callB hc hg hm hv ha hn hdb he hpl).mono fun _ _ _ h => tCB_of l h
theorem pv_callTy {T : String} {r : List V → Hp → VK → Prop} {g : List D → Option D} (hc : CallR X (.type T) r) (l : LiftCB K r g) (hg : Gl X x) (hm : X.mg x = none) (hv : bootBuiltins x = some (.type T)) (ha : PA X (e :: es) (tVA K pa W fr)) (hn : x ≠ "__name__" := by decide) (hdb : (x == ("__debug__" : Str)) = false := by decide)
    (he : starEach (e :: es) X.env = (false, eval e X.env) :: starEach es X.env := by rfl) (hpl : (backTo pos (starEach es X.env)).any (·.1) = false := by rfl) : PE X (.Call (.Name x p) (e :: es) [] pos) (tV K pa W (mCB g fr)) :=
  (pe_callTy hc hg hm hv ha hn hdb he hpl).mono fun _ _ _ h => tCB_of l h
end

/-! ### operators on trees -/
def small (i : Int) : Bool := decide (-18446744073709551616 < i ∧ i < 18446744073709551616)
def wideB (i : Int) : Bool := decide (i.natAbs.log2 < 400000)
def addD : D → D → Option D
  | .int i, .int j => some (.int (i + j))
  | .str x, .str y => if x.length + y.length ≤ 100000 then some (.str (x ++ y)) else none
  | .lst xs, .lst ys => if xs.length + ys.length ≤ 100000 then some (.lst (xs ++ ys)) else none
  | .tup xs, .tup ys => if xs.length + ys.length ≤ 100000 then some (.tup (xs ++ ys)) else none
  | _, _ => none
def subD : D → D → Option D
  | .int i, .int j => some (.int (i - j))
  | _, _ => none
def mulD : D → D → Option D
  | .int i, .int j => if small i || small j || (wideB i && wideB j) then some (.int (i * j)) else none
  | .lst xs, .int k => if 0 ≤ k ∧ k ≤ 1000 ∧ xs.length ≤ 100 then some (.lst (List.replicate k.toNat xs).flatten) else none
  | .tup xs, .int k => if 2 ≤ k ∧ k ≤ 1000 ∧ xs.length ≤ 100 ∧ xs.isEmpty = false then some (.tup (List.replicate k.toNat xs).flatten) else if (xs.isEmpty = true ∨ k = 1) ∧ 0 ≤ k ∧ k ≤ 1000 then some (.tup xs) else none
  | _, _ => none
def fdivD : D → D → Option D
  | .int i, .int j => if 0 < j ∧ j.natAbs.log2 < 9000 then some (.int (i / j)) else none
  | _, _ => none
def modD : D → D → Option D
  | .int i, .int j => if 0 < j then some (.int (i % j)) else none
  | _, _ => none
def powD : D → D → Option D
  | .int i, .int j => if 0 ≤ j ∧ j ≤ 100 ∧ i.natAbs < 2 ^ 4096 then some (.int (i ^ j.toNat)) else none
  | _, _ => none
def negD : D → Option D
  | .int i => some (.int (-i))
  | _ => none
def cmpD (f : Int → Int → Bool) : D → D → Option D
  | .int i, .int j => some (.bl (f i j))
  | _, _ => none
abbrev ltD : D → D → Option D := cmpD fun i j => decide (i < j)
abbrev leD : D → D → Option D := cmpD fun i j => decide (i ≤ j)
abbrev gtD : D → D → Option D := cmpD fun i j => decide (j < i)
abbrev geD : D → D → Option D := cmpD fun i j => decide (j ≤ i)
def D.isN : D → Bool
  | .non => true
  | _ => false
def isND : D → D → Option D
  | x, .non => some (.bl x.isN)
  | _, _ => none
def notND : D → D → Option D
  | x, .non => some (.bl !x.isN)
  | _, _ => none
mutual
def D.data : D → Option PyData
  | .non => some .none
  | .bl b => some (.bool b)
  | .int i => some (.int i)
  | .str x => some (.str x)
  | .tup xs => match D.dataAll xs with
    | some ys => some (.tuple ys)
    | none => none
  | .lst xs => match D.dataAll xs with
    | some ys => some (.list ys)
    | none => none
  | .dic _ _ => none
  | .obj _ _ _ => none
  | .exc _ _ => none
def D.dataAll : List D → Option (List PyData)
  | [] => some []
  | x :: xs => match D.data x with
    | some y => (match D.dataAll xs with
      | some ys => some (y :: ys)
      | none => none)
    | none => none
end
def eqB (a b : D) : Option Bool := match a.data, b.data with
  | some x, some y => if SeqAt.shaped x && SeqAt.shaped y then some (PyData.eqv x y) else none
  | _, _ => none
def eqD (a b : D) : Option D := match eqB a b with
  | some k => some (.bl k)
  | none => none
def neD (a b : D) : Option D := match eqB a b with
  | some k => some (.bl (!k))
  | none => none
def D.flat : D → Option V
  | .non => some .non
  | .bl b => some (.bl b)
  | .int i => some (.int i)
  | .str x => some (.str x)
  | _ => none
def D.isFlat (d : D) : Bool := d.flat.isSome
def eqF (x y : D) : Bool := match x.flat, y.flat with
  | some a, some b => eqV a b
  | _, _ => false
def inB : D → D → Option Bool
  | x, .lst ys => if x.isFlat && ys.all D.isFlat then some (ys.any fun y => eqF y x) else none
  | x, .tup ys => if x.isFlat && ys.all D.isFlat then some (ys.any fun y => eqF y x) else none
  | .str x, .str y => some (!(Builtin.Str.occurrences y x 0 y.length 1).isEmpty)
  | _, _ => none
def inD (a b : D) : Option D := match inB a b with
  | some k => some (.bl k)
  | none => none
def notInD (a b : D) : Option D := match inB a b with
  | some k => some (.bl (!k))
  | none => none
def ixD : D → D → Option D
  | .lst xs, .int i => atI xs i
  | .tup xs, .int i => atI xs i
  | .str x, .int i => if x.length ≤ 100000 then (match atI x.cps.toList i with | some c => some (.str ⟨#[c]⟩) | none => none) else none
  | _, _ => none
def lenD : List D → Option D
  | [.lst xs] => some (.int xs.length)
  | [.tup xs] => some (.int xs.length)
  | [.str x] => if x.length ≤ 100000 then some (.int x.length) else none
  | _ => none
def absD : List D → Option D
  | [.int i] => some (.int (if i < 0 then -i else i))
  | _ => none
def intD : List D → Option D
  | [.int i] => some (.int i)
  | [.bl b] => some (.int (if b then 1 else 0))
  | [.str x] => if x.length ≤ 640 then (match PySem.intText? x with | some n => some (.int n) | none => none) else none
  | _ => none
def strD : List D → Option D
  | [.int i] => if i.natAbs.log2 < 1920 then some (.str (toString i)) else none
  | [.str x] => some (.str x)
  | _ => none
def reprB (x : PyData) : Bool := x.showable && decide (x.shown.length ≤ sizeLine) && decide (x.depth ≤ 40)
def reprD : List D → Option D
  | [d] => match d.data with
    | some x => if reprB x then some (.str x.shown) else none
    | none => none
  | _ => none
def max2D : List D → Option D
  | [.int i, .int j] => some (.int (if j > i then j else i))
  | _ => none
def min2D : List D → Option D
  | [.int i, .int j] => some (.int (if j < i then j else i))
  | _ => none
def D.bl? : D → Option Bool
  | .bl b => some b
  | _ => none
def D.int? : D → Option Int
  | .int b => some b
  | _ => none
def blsOf : List D → Option (List Bool)
  | [] => some []
  | .bl b :: r => match blsOf r with
    | some bs => some (b :: bs)
    | none => none
  | _ :: _ => none
def intsOf : List D → Option (List Int)
  | [] => some []
  | .int b :: r => match intsOf r with
    | some bs => some (b :: bs)
    | none => none
  | _ :: _ => none
def strsOf : List D → Option (List Str)
  | [] => some []
  | .str b :: r => match strsOf r with
    | some bs => some (b :: bs)
    | none => none
  | _ :: _ => none
def allD : List D → Option D
  | [.lst xs] => match blsOf xs with
    | some bs => some (.bl (bs.all id))
    | none => none
  | _ => none
def anyD : List D → Option D
  | [.lst xs] => match blsOf xs with
    | some bs => some (.bl (bs.any id))
    | none => none
  | _ => none
def sumD : List D → Option D
  | [.lst xs] => match intsOf xs with
    | some ns => some (.int ns.sum)
    | none => none
  | [.tup xs] => match intsOf xs with
    | some ns => some (.int ns.sum)
    | none => none
  | _ => none
def listD : List D → Option D
  | [.lst xs] => some (.lst xs)
  | [.tup xs] => some (.lst xs)
  | _ => none
def tupleD : List D → Option D
  | [.lst xs] => some (.tup xs)
  | [.tup xs] => some (.tup xs)
  | _ => none
def D.isa : D → String → Bool
  | .int _, s => s == "int"
  | .bl _, s => s == "bool" || s == "int"
  | .str _, s => s == "str"
  | .tup _, s => s == "tuple"
  | .lst _, s => s == "list"
  | .dic _ _, s => s == "dict"
  | _, _ => false
def isiD (T : String) (d : D) : Option D := some (.bl (d.isa T))
section
variable {K : PySem.W.Frag} {F H : Hp}
theorem DenAll.intsD : ∀ {vs : List V} {ds : List D} {ns : List Int}, DenAll K F vs ds → Ak.intsOf ds = some ns → vs = ns.map V.int
  | _, _, _, .nil, e => by cases e; rfl
  | _, _, ns, .cons (.int i) r, e => by
    rename_i vs ds
    cases q : Ak.intsOf ds with
    | none =>
      simp only [Ak.intsOf, q] at e
      cases e
    | some ms =>
      simp only [Ak.intsOf, q] at e
      cases e
      rw [DenAll.intsD r q]
      rfl
  | _, _, _, .cons .non _, e => by cases e
  | _, _, _, .cons (.bl _) _, e => by cases e
  | _, _, _, .cons (.str _) _, e => by cases e
  | _, _, _, .cons (.tup _ _) _, e => by cases e
  | _, _, _, .cons (.lst _ _) _, e => by cases e
  | _, _, _, .cons (.dic _ _ _) _, e => by cases e
  | _, _, _, .cons (.obj _ _ _ _) _, e => by cases e
theorem DenAll.blsD : ∀ {vs : List V} {ds : List D} {ns : List Bool}, DenAll K F vs ds → Ak.blsOf ds = some ns → vs = ns.map V.bl
  | _, _, _, .nil, e => by cases e; rfl
  | _, _, ns, .cons (.bl i) r, e => by
    rename_i vs ds
    cases q : Ak.blsOf ds with
    | none =>
      simp only [Ak.blsOf, q] at e
      cases e
    | some ms =>
      simp only [Ak.blsOf, q] at e
      cases e
      rw [DenAll.blsD r q]
      rfl
  | _, _, _, .cons .non _, e => by cases e
  | _, _, _, .cons (.int _) _, e => by cases e
  | _, _, _, .cons (.str _) _, e => by cases e
  | _, _, _, .cons (.tup _ _) _, e => by cases e
  | _, _, _, .cons (.lst _ _) _, e => by cases e
  | _, _, _, .cons (.dic _ _ _) _, e => by cases e
  | _, _, _, .cons (.obj _ _ _ _) _, e => by cases e
theorem DenAll.strsD : ∀ {vs : List V} {ds : List D} {ns : List Str}, DenAll K F vs ds → Ak.strsOf ds = some ns → vs = ns.map V.str
  | _, _, _, .nil, e => by cases e; rfl
  | _, _, ns, .cons (.str i) r, e => by
    rename_i vs ds
    cases q : Ak.strsOf ds with
    | none =>
      simp only [Ak.strsOf, q] at e
      cases e
    | some ms =>
      simp only [Ak.strsOf, q] at e
      cases e
      rw [DenAll.strsD r q]
      rfl
  | _, _, _, .cons .non _, e => by cases e
  | _, _, _, .cons (.int _) _, e => by cases e
  | _, _, _, .cons (.bl _) _, e => by cases e
  | _, _, _, .cons (.tup _ _) _, e => by cases e
  | _, _, _, .cons (.lst _ _) _, e => by cases e
  | _, _, _, .cons (.dic _ _ _) _, e => by cases e
  | _, _, _, .cons (.obj _ _ _ _) _, e => by cases e
theorem DenAll.ofStrs : ∀ {ns : List Str}, DenAll K F (ns.map V.str) (ns.map D.str)
  | [] => .nil
  | _ :: _ => .cons (.str _) DenAll.ofStrs
mutual
theorem Den.dp (s : Sub F H) : ∀ {v : V} {d : D} {x : PyData}, Den K F v d → d.data = some x → Dp K H v x
  | _, _, _, .non, e => by cases e; exact .non
  | _, _, _, .bl b, e => by cases e; exact .bl b
  | _, _, _, .int i, e => by cases e; exact .int i
  | _, _, _, .str x, e => by cases e; exact .str x
  | _, .tup ds, x, .tup h r, e => by
    cases q : D.dataAll ds with
    | none =>
      simp only [D.data, q] at e
      cases e
    | some ys =>
      simp only [D.data, q] at e
      cases e
      exact .tup (s.sqT h) (DenAll.dp s r q)
  | _, .lst ds, x, .lst h r, e => by
    cases q : D.dataAll ds with
    | none =>
      simp only [D.data, q] at e
      cases e
    | some ys =>
      simp only [D.data, q] at e
      cases e
      exact .lst (s.sqL h) (DenAll.dp s r q)
  | _, _, _, .dic _ _ _, e => by cases e
  | _, _, _, .obj _ _ _ _, e => by cases e
theorem DenAll.dp (s : Sub F H) : ∀ {vs : List V} {ds : List D} {xs : List PyData}, DenAll K F vs ds → D.dataAll ds = some xs → DpAll K H vs xs
  | _, _, _, .nil, e => by cases e; exact .nil
  | _, d :: ds, xs, .cons h r, e => by
    cases q : D.data d with
    | none =>
      simp only [D.dataAll, q] at e
      cases e
    | some y =>
      cases q2 : D.dataAll ds with
      | none =>
        simp only [D.dataAll, q, q2] at e
        cases e
      | some ys =>
        simp only [D.dataAll, q, q2] at e
        cases e
        exact .cons (Den.dp s h q) (DenAll.dp s r q2)
end
theorem Den.flat {v w : V} {d : D} (h : Den K F v d) (e : d.flat = some w) : v = w ∧ flatV v = true := by
  cases h <;> cases e <;> exact ⟨rfl, rfl⟩
theorem Den.ofFlat {v : V} {d : D} (h : Den K F v d) (e : d.isFlat = true) : d.flat = some v ∧ flatV v = true := by
  cases h <;> first | exact ⟨rfl, rfl⟩ | cases e
theorem DenAll.flat : ∀ {vs : List V} {ds : List D}, DenAll K F vs ds → ds.all D.isFlat = true → vs.all flatV = true ∧ ∀ (x : V) (y : D), y.flat = some x → (ds.any fun z => eqF z y) = inV x vs
  | _, _, .nil, _ => ⟨rfl, fun _ _ _ => rfl⟩
  | _, _, .cons h r, e => by
    rw [List.all_cons, Bool.and_eq_true] at e
    obtain ⟨h1, h2⟩ := h.ofFlat e.1
    obtain ⟨h3, h4⟩ := DenAll.flat r e.2
    refine ⟨by rw [List.all_cons, h2, h3]; rfl, fun x y q => ?_⟩
    have h5 := h4 x y q
    unfold inV at h5 ⊢
    rw [List.any_cons, List.any_cons, h5]
    congr 1
    unfold eqF
    rw [h1, q]
theorem DenAll.one {vs : List V} {d : D} (h : DenAll K F vs [d]) : ∃ v, vs = [v] ∧ Den K F v d := by
  cases h with
  | cons h r =>
    cases r
    exact ⟨_, rfl, h⟩
theorem DenAll.two {vs : List V} {d e : D} (h : DenAll K F vs [d, e]) : ∃ v w, vs = [v, w] ∧ Den K F v d ∧ Den K F w e := by
  cases h with
  | cons h r =>
    obtain ⟨w, rfl, h2⟩ := r.one
    exact ⟨_, _, rfl, h, h2⟩
theorem DenAll.rep {vs : List V} {ds : List D} (h : DenAll K F vs ds) : ∀ k : Nat, DenAll K F (List.replicate k vs).flatten (List.replicate k ds).flatten
  | 0 => .nil
  | k + 1 => by
    rw [List.replicate_succ, List.replicate_succ, List.flatten_cons, List.flatten_cons]
    exact h.append (DenAll.rep h k)
theorem len_rep {α : Type} (xs : List α) : ∀ k : Nat, (List.replicate k xs).flatten.length = k * xs.length
  | 0 => by simp
  | k + 1 => by
    rw [List.replicate_succ, List.flatten_cons, List.length_append, len_rep xs k, Nat.succ_mul]
    omega
theorem len_line {n : Nat} {F H : Hp} (h : n ≤ 100000) : n ≤ sizeLine := Nat.le_trans h (by decide)
theorem atI_map {vs : List V} {ds : List D} {i : Int} {d : D} (h : DenAll K F vs ds) (e : atI ds i = some d) : ∃ v, atI vs i = some v ∧ Den K F v d := by
  unfold atI at e ⊢
  rw [h.length]
  cases q : ixN ds.length i with
  | none =>
    rw [q] at e
    cases e
  | some k =>
    rw [q] at e
    exact h.getD e
/-! the lifts -/
abbrev rAddS : R2 := fun x y H Q => ∃ i j, x = .str i ∧ y = .str j ∧ i.length + j.length ≤ sizeLine ∧ Q (.str (i ++ j)) H
abbrev rAddAll (K : PySem.W.Frag) : R2 := fun x y H Q => rAddI x y H Q ∨ (rAddS x y H Q ∨ (rCatL x y H Q ∨ rCatA K x y H Q))
theorem o_addAll {X : Cx} (ek : X.K = K) : OpR X (binaryOp .Add) (rAddAll K) := by
  subst ek
  exact OpR.or o_add (OpR.or op_add_str (OpR.or o_cat op_catA))
theorem l_add : LiftOp K (rAddAll K) addD := by
  intro F H x y a b z Q s dx dy e o
  cases dx with
  | int i =>
    cases dy with
    | int j =>
      cases e
      exact .inl ⟨i, j, rfl, rfl, o.here s (.int _)⟩
    | _ => cases e
  | str i =>
    cases dy with
    | str j =>
      dsimp only [addD] at e
      by_cases hl : i.length + j.length ≤ 100000
      · rw [if_pos hl] at e
        cases e
        exact .inr (.inl ⟨i, j, rfl, rfl, Nat.le_trans hl (by decide), o.here s (.str _)⟩)
      · rw [if_neg hl] at e
        cases e
    | _ => cases e
  | @lst a vs xs h r =>
    cases dy with
    | @lst b ws ys h2 r2 =>
      dsimp only [addD] at e
      by_cases hl : xs.length + ys.length ≤ 100000
      · rw [if_pos hl] at e
        cases e
        exact .inr (.inr (.inl ⟨a, b, vs, ws, rfl, rfl, s.lst h, s.lst h2, by rw [r.length, r2.length]; exact Nat.le_trans hl (by decide), fun p hp => o.lst s (r.append r2) hp⟩))
      · rw [if_neg hl] at e
        cases e
    | _ => cases e
  | @tup a vs xs h r =>
    cases dy with
    | @tup b ws ys h2 r2 =>
      dsimp only [addD] at e
      by_cases hl : xs.length + ys.length ≤ 100000
      · rw [if_pos hl] at e
        cases e
        refine .inr (.inr (.inr ⟨a, b, vs, ws, rfl, rfl, s.sqT h, s.sqT h2, by rw [r.length, r2.length]; exact Nat.le_trans hl (by decide), fun z => ?_, fun _ z => ?_, fun _ _ p hp => o.tup s (r.append r2) hp⟩))
        · subst z
          cases r
          exact o.here s (.tup h2 r2)
        · subst z
          cases r2
          rw [List.append_nil] at o
          exact o.here s (.tup h r)
      · rw [if_neg hl] at e
        cases e
    | _ => cases e
  | _ => cases e
theorem l_sub : LiftOp K rSubI subD := by
  intro F H x y a b z Q s dx dy e o
  cases dx <;> cases dy <;> first | cases e
  rename_i i j
  exact ⟨i, j, rfl, rfl, o.here s (.int _)⟩
/-! ### a tuple times an int, where the tuple itself comes back -/
theorem tuple_mulS (l : Addr) (items : Array Value) (n : Nat) (dd : Option Addr) (sl : Array (Option Value)) (x : Int) (u : Tok) (lo : 0 ≤ x) (hi : x ≤ 1000) (same : (items.isEmpty || x == 1) = true) :
    Meets (Builtin.«tuple.__mul__» ⟨[.ref l, .int x u], []⟩) (fun _ R s => s.heap.get? l = some { cls := .type "tuple", dict := dd, data := .seq items n, slots := sl } ∧ R (.ok (.ret (Value.ref l))) s) :=
  .of_wp fun prog w A R s h => by
    obtain ⟨hp, g, d, tk, os⟩ := s
    obtain ⟨lies, want⟩ := h
    have c0 : (decide (x < -(2 ^ 63)) || decide (x ≥ 2 ^ 63)) = false := by
      rw [decide_eq_false (by omega), decide_eq_false (by omega)] <;> rfl
    have f1 := AutoSeq1.idx_int
    wp_walk using wpAny_loadPart' lies
    refine wpAny_ite_false (decide_eq_false (by rw [c0]; exact Bool.false_ne_true)) ?_
    wp_walk using wpAny_loadPart' lies
    exact ⟨_, rfl, want⟩
def rRepS (K : PySem.W.Frag) : R2 := fun x y H Q => ∃ l k xs, x = .ref l ∧ y = .int k ∧ SqT K H l xs ∧ (xs = [] ∨ k = 1) ∧ 0 ≤ k ∧ k ≤ 1000 ∧ Q (.ref l) H
theorem op_repS {X : Cx} : OpR X (binaryOp .Mult) (rRepS X.K) := by
  intro pins s σ H x y v u Q I rx ry h
  obtain ⟨l, k, xs, rfl, rfl, hT, one, lo, hi, q⟩ := h
  cases rx
  obtain ⟨t, rfl⟩ := ry
  obtain ⟨its, r, ⟨⟨cls, dd, data, sl⟩, there, hc, n, hd⟩, _⟩ := I.tuple hT
  simp only at hc hd
  subst hc hd
  have same : (its.toArray.isEmpty || k == 1) = true := by
    rcases one with rfl | rfl
    · cases r
      rfl
    · rw [show ((1 : Int) == 1) = true from rfl, Bool.or_true]
  refine wpAny_binaryOp_repeat_ref (T := "tuple") (U := "int") (by decide) ⟨_, there, rfl⟩ (fun s' => typeIs_int s' k t) noFill_tuple_mul F.fills_int_mul F.slot_int_rmul repeat_tuple F.slot_int_index.lookup
    (call_meets F.slot_int_rmul (typeIs_int s k t) F.entry_int_rmul (F.args_int_rmul_2 _ _) (int_rmul_tuple k t l its.toArray n dd sl) ⟨there, rfl, ⟨_, there, rfl⟩, ?_⟩)
  exact call_meets F.slot_tuple_mul ⟨_, there, rfl⟩ F.entry_tuple_mul (F.args_tuple_mul_2 _ _) (tuple_mulS l its.toArray n dd sl k t lo hi same) ⟨there, ⟨.ref l, H, I, rfl, q⟩⟩

abbrev rMulAll (K : PySem.W.Frag) : R2 := fun x y H Q => rMulI x y H Q ∨ (rRep x y H Q ∨ (rRepT K x y H Q ∨ rRepS K x y H Q))
theorem o_mulAll {X : Cx} (ek : X.K = K) : OpR X (binaryOp .Mult) (rMulAll K) := by
  subst ek
  exact OpR.or o_mul (OpR.or op_rep (OpR.or op_repT op_repS))
theorem mul_ok {i j : Int} (h : (small i || small j || (wideB i && wideB j)) = true) : IntMulOk i j := by
  rw [Bool.or_eq_true, Bool.or_eq_true, Bool.and_eq_true] at h
  rcases h with (h | h) | ⟨h, h2⟩
  · exact CMul.ok (.inl (of_decide_eq_true h))
  · exact CMul.ok (.inr (of_decide_eq_true h))
  · have h1 := of_decide_eq_true h
    have h3 := of_decide_eq_true h2
    exact CMulW.ok (show i.natAbs.log2 + j.natAbs.log2 < 1000000 by omega)
theorem l_mul : LiftOp K (rMulAll K) mulD := by
  intro F H x y a b z Q s dx dy e o
  cases dx with
  | int i =>
    cases dy with
    | int j =>
      dsimp only [mulD] at e
      by_cases hl : (small i || small j || (wideB i && wideB j)) = true
      · rw [if_pos hl] at e
        cases e
        exact .inl ⟨i, j, rfl, rfl, mul_ok hl, o.here s (.int _)⟩
      · rw [if_neg hl] at e
        cases e
    | _ => cases e
  | @lst a vs xs h r =>
    cases dy with
    | int k =>
      dsimp only [mulD] at e
      by_cases hl : 0 ≤ k ∧ k ≤ 1000 ∧ xs.length ≤ 100
      · rw [if_pos hl] at e
        cases e
        refine .inr (.inl ⟨a, k, vs, rfl, rfl, s.lst h, by omega, by omega, ?_, fun p hp => o.lst s (r.rep _) hp⟩)
        have hm : vs.length * k.toNat ≤ 100 * 1000 := Nat.mul_le_mul (by rw [r.length]; omega) (by omega)
        exact Nat.le_trans hm (by decide)
      · rw [if_neg hl] at e
        cases e
    | _ => cases e
  | @tup a vs xs h r =>
    cases dy with
    | int k =>
      dsimp only [mulD] at e
      by_cases hl : 2 ≤ k ∧ k ≤ 1000 ∧ xs.length ≤ 100 ∧ xs.isEmpty = false
      · rw [if_pos hl] at e
        cases e
        refine .inr (.inr (.inl ⟨a, k, vs, rfl, rfl, s.sqT h, ?_, by omega, by omega, by rw [r.length]; omega, fun p hp => o.tup s (r.rep _) hp⟩))
        rintro rfl
        cases r
        exact Bool.noConfusion hl.2.2.2
      · rw [if_neg hl] at e
        by_cases h2 : (xs.isEmpty = true ∨ k = 1) ∧ 0 ≤ k ∧ k ≤ 1000
        · rw [if_pos h2] at e
          cases e
          refine .inr (.inr (.inr ⟨a, k, vs, rfl, rfl, s.sqT h, h2.1.imp_left fun z => ?_, h2.2.1, h2.2.2, o.here s (.tup h r)⟩))
          cases r with
          | nil => rfl
          | cons _ _ => cases z
        · rw [if_neg h2] at e
          cases e
    | _ => cases e
  | _ => cases e
theorem l_fdiv : LiftOp K rFdivI fdivD := by
  intro F H x y a b z Q s dx dy e o
  cases dx <;> cases dy <;> first | (cases e; done) | skip
  rename_i i j
  dsimp only [fdivD] at e
  by_cases hl : 0 < j ∧ j.natAbs.log2 < 9000
  · rw [if_pos hl] at e
    cases e
    exact ⟨i, j, rfl, rfl, hl, o.here s (.int _)⟩
  · rw [if_neg hl] at e
    cases e
theorem l_mod : LiftOp K rModI modD := by
  intro F H x y a b z Q s dx dy e o
  cases dx <;> cases dy <;> first | (cases e; done) | skip
  rename_i i j
  dsimp only [modD] at e
  by_cases hl : 0 < j
  · rw [if_pos hl] at e
    cases e
    exact ⟨i, j, rfl, rfl, hl, o.here s (.int _)⟩
  · rw [if_neg hl] at e
    cases e
theorem l_pow : LiftOp K rPowI powD := by
  intro F H x y a b z Q s dx dy e o
  cases dx <;> cases dy <;> first | (cases e; done) | skip
  rename_i i j
  dsimp only [powD] at e
  by_cases hl : 0 ≤ j ∧ j ≤ 100 ∧ i.natAbs < 2 ^ 4096
  · rw [if_pos hl] at e
    cases e
    exact ⟨i, j, rfl, rfl, hl, o.here s (.int _)⟩
  · rw [if_neg hl] at e
    cases e
theorem l_neg : LiftUn K rNegI negD := by
  intro F H x a z Q s dx e o
  cases dx <;> first | cases e
  exact ⟨_, rfl, o.here s (.int _)⟩
theorem l_cmp {f : Int → Int → Bool} : LiftOp K (rI0 fun i j => .bl (f i j)) (cmpD f) := by
  intro F H x y a b z Q s dx dy e o
  cases dx <;> cases dy <;> first | cases e
  rename_i i j
  exact ⟨i, j, rfl, rfl, o.here s (.bl _)⟩
theorem l_lt : LiftOp K rLtI ltD := l_cmp
theorem l_le : LiftOp K rLeI leD := l_cmp
theorem l_gt : LiftOp K rGtI gtD := l_cmp
theorem l_ge : LiftOp K rGeI geD := l_cmp
theorem Den.isNon {v : V} {d : D} (h : Den K F v d) : decide (v = .non) = d.isN := by cases h <;> rfl
theorem l_isN : LiftOp K rIsN isND := by
  intro F H x y a b z Q s dx dy e o
  cases dy <;> first | cases e
  exact ⟨rfl, by rw [dx.isNon]; exact o.here s (.bl _)⟩
theorem l_notN : LiftOp K rNotN notND := by
  intro F H x y a b z Q s dx dy e o
  cases dy <;> first | cases e
  exact ⟨rfl, by rw [dx.isNon]; exact o.here s (.bl _)⟩
theorem eqB_ok {a b : D} {k : Bool} (h : eqB a b = some k) : ∃ x y, a.data = some x ∧ b.data = some y ∧ SeqAt.shaped x = true ∧ SeqAt.shaped y = true ∧ k = PyData.eqv x y := by
  unfold eqB at h
  cases e1 : a.data with
  | none =>
    rw [e1] at h
    cases h
  | some x =>
    cases e2 : b.data with
    | none =>
      rw [e1, e2] at h
      cases h
    | some y =>
      rw [e1, e2] at h
      simp only at h
      by_cases q : (SeqAt.shaped x && SeqAt.shaped y) = true
      · rw [if_pos q] at h
        cases h
        rw [Bool.and_eq_true] at q
        exact ⟨x, y, rfl, rfl, q.1, q.2, rfl⟩
      · rw [if_neg q] at h
        cases h
theorem l_eq : LiftOp K (rEqD K) eqD := by
  intro F H x y a b z Q s dx dy e o
  unfold eqD at e
  cases q : eqB a b with
  | none =>
    rw [q] at e
    cases e
  | some k =>
    rw [q] at e
    cases e
    obtain ⟨u, v, h1, h2, h3, h4, rfl⟩ := eqB_ok q
    exact ⟨u, v, dx.dp s h1, dy.dp s h2, h3, h4, o.here s (.bl _)⟩
theorem l_ne : LiftOp K (rNeD K) neD := by
  intro F H x y a b z Q s dx dy e o
  unfold neD at e
  cases q : eqB a b with
  | none =>
    rw [q] at e
    cases e
  | some k =>
    rw [q] at e
    cases e
    obtain ⟨u, v, h1, h2, h3, h4, rfl⟩ := eqB_ok q
    exact ⟨u, v, dx.dp s h1, dy.dp s h2, h3, h4, o.here s (.bl _)⟩
abbrev rInS : R2 := fun x y H Q => ∃ i j, x = .str i ∧ y = .str j ∧ Q (.bl (!(Builtin.Str.occurrences j i 0 j.length 1).isEmpty)) H
abbrev rNotInS : R2 := fun x y H Q => ∃ i j, x = .str i ∧ y = .str j ∧ Q (.bl (!(!(Builtin.Str.occurrences j i 0 j.length 1).isEmpty))) H
abbrev rInAll (K : PySem.W.Frag) : R2 := fun x y H Q => rIn K false x y H Q ∨ rInS x y H Q
abbrev rNotInAll (K : PySem.W.Frag) : R2 := fun x y H Q => rIn K true x y H Q ∨ rNotInS x y H Q
theorem o_inAll {X : Cx} (ek : X.K = K) : OpR X (compareOp .In) (rInAll K) := by
  subst ek
  exact OpR.or op_in_seq op_in_str
theorem o_notInAll {X : Cx} (ek : X.K = K) : OpR X (compareOp .NotIn) (rNotInAll K) := by
  subst ek
  exact OpR.or op_notIn_seq op_notIn_str
theorem inB_ok {x y : V} {a b : D} {k : Bool} (s : Sub F H) (dx : Den K F x a) (dy : Den K F y b) (h : inB a b = some k) :
    (∃ p xs, y = .ref p ∧ (SqL K H p xs ∨ SqT K H p xs) ∧ flatV x = true ∧ xs.all flatV = true ∧ k = inV x xs) ∨ ∃ i j, x = .str i ∧ y = .str j ∧ k = !(Builtin.Str.occurrences j i 0 j.length 1).isEmpty := by
  cases dy with
  | @lst p vs ds h1 r =>
    have h : (if a.isFlat && ds.all D.isFlat then some (ds.any fun y => eqF y a) else none) = some k := by
      cases dx <;> exact h
    by_cases q : (a.isFlat && ds.all D.isFlat) = true
    · rw [if_pos q] at h
      cases h
      rw [Bool.and_eq_true] at q
      obtain ⟨e1, e2⟩ := dx.ofFlat q.1
      obtain ⟨e3, e4⟩ := r.flat q.2
      exact .inl ⟨p, vs, rfl, .inl (s.sqL h1), e2, e3, e4 _ _ e1⟩
    · rw [if_neg q] at h
      cases h
  | @tup p vs ds h1 r =>
    have h : (if a.isFlat && ds.all D.isFlat then some (ds.any fun y => eqF y a) else none) = some k := by
      cases dx <;> exact h
    by_cases q : (a.isFlat && ds.all D.isFlat) = true
    · rw [if_pos q] at h
      cases h
      rw [Bool.and_eq_true] at q
      obtain ⟨e1, e2⟩ := dx.ofFlat q.1
      obtain ⟨e3, e4⟩ := r.flat q.2
      exact .inl ⟨p, vs, rfl, .inr (s.sqT h1), e2, e3, e4 _ _ e1⟩
    · rw [if_neg q] at h
      cases h
  | str j =>
    cases dx with
    | str i =>
      cases h
      exact .inr ⟨i, j, rfl, rfl, rfl⟩
    | _ => cases h
  | _ => cases dx <;> cases h
theorem l_in : LiftOp K (rInAll K) inD := by
  intro F H x y a b z Q s dx dy e o
  unfold inD at e
  cases q : inB a b with
  | none =>
    rw [q] at e
    cases e
  | some k =>
    rw [q] at e
    cases e
    rcases inB_ok s dx dy q with ⟨p, xs, rfl, h1, h2, h3, rfl⟩ | ⟨i, j, rfl, rfl, rfl⟩
    · exact .inl ⟨p, xs, rfl, h1, h2, h3, o.here s (.bl _)⟩
    · exact .inr ⟨i, j, rfl, rfl, o.here s (.bl _)⟩
theorem l_notIn : LiftOp K (rNotInAll K) notInD := by
  intro F H x y a b z Q s dx dy e o
  unfold notInD at e
  cases q : inB a b with
  | none =>
    rw [q] at e
    cases e
  | some k =>
    rw [q] at e
    cases e
    rcases inB_ok s dx dy q with ⟨p, xs, rfl, h1, h2, h3, rfl⟩ | ⟨i, j, rfl, rfl, rfl⟩
    · exact .inl ⟨p, xs, rfl, h1, h2, h3, o.here s (.bl _)⟩
    · exact .inr ⟨i, j, rfl, rfl, o.here s (.bl _)⟩
theorem l_ix : LiftOp K (rIx K) ixD := by
  intro F H x y a b z Q s dx dy e o
  cases dx with
  | @lst p vs ds h r =>
    cases dy with
    | int i =>
      obtain ⟨v, e1, e2⟩ := atI_map r (show atI ds i = some z from e)
      exact .inl ⟨p, vs, i, v, rfl, rfl, s.sqL h, e1, o.here s e2⟩
    | _ => cases e
  | @tup p vs ds h r =>
    cases dy with
    | int i =>
      obtain ⟨v, e1, e2⟩ := atI_map r (show atI ds i = some z from e)
      exact .inr (.inl ⟨p, vs, i, v, rfl, rfl, s.sqT h, e1, o.here s e2⟩)
    | _ => cases e
  | str w =>
    cases dy with
    | int i =>
      dsimp only [ixD] at e
      by_cases hl : w.length ≤ 100000
      · rw [if_pos hl] at e
        cases q : atI w.cps.toList i with
        | none =>
          rw [q] at e
          cases e
        | some c =>
          rw [q] at e
          cases e
          exact .inr (.inr ⟨w, i, c, rfl, rfl, Nat.le_trans hl (by decide), q, o.here s (.str _)⟩)
      · rw [if_neg hl] at e
        cases e
    | _ => cases e
  | _ => cases e
end

/-! ### built-ins on trees -/
section
variable {K : PySem.W.Frag} {F H : Hp}
abbrev rLenAll (K : PySem.W.Frag) : List V → Hp → VK → Prop := fun xs H Q => rLenS K xs H Q ∨ ∃ z, xs = [.str z] ∧ z.length ≤ sizeLine ∧ Q (.int z.length) H
theorem CallR.or {X : Cx} {f : Value} {r r' : List V → Hp → VK → Prop} (h : CallR X f r) (h' : CallR X f r') : CallR X f (fun x H Q => r x H Q ∨ r' x H Q) := by
  intro pins s σ H x us Q I rx q
  rcases q with q | q
  · exact h pins s σ H x us Q I rx q
  · exact h' pins s σ H x us Q I rx q
theorem c_lenAll {X : Cx} (ek : X.K = K) : CallR X (.builtin "len") (rLenAll K) := CallR.or (x_len ek) call_len_str
theorem l_len : LiftCB K (rLenAll K) lenD := by
  intro F H xs as z Q s d e o
  match as, e with
  | [.lst ds], e =>
    cases e
    obtain ⟨v, rfl, dd⟩ := d.one
    cases dd with
    | lst h r => exact .inl ⟨_, _, rfl, .inl (s.sqL h), by rw [r.length]; exact o.here s (.int _)⟩
  | [.tup ds], e =>
    cases e
    obtain ⟨v, rfl, dd⟩ := d.one
    cases dd with
    | tup h r => exact .inl ⟨_, _, rfl, .inr (s.sqT h), by rw [r.length]; exact o.here s (.int _)⟩
  | [.str x], e =>
    obtain ⟨v, rfl, dd⟩ := d.one
    cases dd
    dsimp only [lenD] at e
    by_cases hl : x.length ≤ 100000
    · rw [if_pos hl] at e
      cases e
      exact .inr ⟨x, rfl, Nat.le_trans hl (by decide), o.here s (.int _)⟩
    · rw [if_neg hl] at e
      cases e
theorem l_abs : LiftCB K rAbs absD := by
  intro F H xs as z Q s d e o
  match as, e with
  | [.int i], e =>
    cases e
    obtain ⟨v, rfl, dd⟩ := d.one
    cases dd
    exact ⟨i, rfl, o.here s (.int _)⟩
abbrev rIntAll : List V → Hp → VK → Prop := fun xs H Q => rInt1 xs H Q ∨ ∃ a n, xs = [.str a] ∧ PySem.intText? a = some n ∧ a.length ≤ 640 ∧ Q (.int n) H
theorem c_intAll {X : Cx} : CallR X (.type "int") rIntAll := CallR.or c_int1 call_int_str
theorem l_int : LiftCB K rIntAll intD := by
  intro F H xs as z Q s d e o
  match as, e with
  | [.int i], e =>
    cases e
    obtain ⟨v, rfl, dd⟩ := d.one
    cases dd
    exact .inl (.inl ⟨i, rfl, o.here s (.int _)⟩)
  | [.bl b], e =>
    cases e
    obtain ⟨v, rfl, dd⟩ := d.one
    cases dd
    exact .inl (.inr ⟨b, rfl, o.here s (.int _)⟩)
  | [.str x], e =>
    obtain ⟨v, rfl, dd⟩ := d.one
    cases dd
    dsimp only [intD] at e
    by_cases hl : x.length ≤ 640
    · rw [if_pos hl] at e
      cases q : PySem.intText? x with
      | none =>
        rw [q] at e
        cases e
      | some n =>
        rw [q] at e
        cases e
        exact .inr ⟨x, n, rfl, q, hl, o.here s (.int _)⟩
    · rw [if_neg hl] at e
      cases e
abbrev rStrAll : List V → Hp → VK → Prop := fun xs H Q => (∃ i, xs = [.int i] ∧ i.natAbs.log2 < 1920 ∧ Q (.str (toString i)) H) ∨ ∃ z, xs = [.str z] ∧ Q (.str z) H
theorem l_repr : LiftCB K (rReprD K) reprD := by
  intro F H xs as z Q s d e o
  match as, e with
  | [x], e =>
    obtain ⟨v, rfl, dd⟩ := d.one
    dsimp only [reprD] at e
    cases q : x.data with
    | none =>
      rw [q] at e
      cases e
    | some y =>
      rw [q] at e
      dsimp only at e
      by_cases hl : reprB y = true
      · rw [if_pos hl] at e
        cases e
        unfold reprB at hl
        rw [Bool.and_eq_true, Bool.and_eq_true] at hl
        exact ⟨v, y, rfl, ⟨dd.dp s q, hl.1.1, of_decide_eq_true hl.1.2, of_decide_eq_true hl.2⟩, o.here s (.str _)⟩
      · rw [if_neg hl] at e
        cases e
theorem l_max2 : LiftCB K rMax2 max2D := by
  intro F H xs as z Q s d e o
  match as, e with
  | [.int i, .int j], e =>
    cases e
    obtain ⟨v, w, rfl, d1, d2⟩ := d.two
    cases d1
    cases d2
    exact ⟨i, j, rfl, o.here s (.int _)⟩
theorem l_min2 : LiftCB K rMin2 min2D := by
  intro F H xs as z Q s d e o
  match as, e with
  | [.int i, .int j], e =>
    cases e
    obtain ⟨v, w, rfl, d1, d2⟩ := d.two
    cases d1
    cases d2
    exact ⟨i, j, rfl, o.here s (.int _)⟩
theorem l_all : LiftCB K (rAll K) allD := by
  intro F H xs as z Q s d e o
  match as, e with
  | [.lst ds], e =>
    obtain ⟨v, rfl, dd⟩ := d.one
    dsimp only [allD] at e
    cases q : blsOf ds with
    | none =>
      rw [q] at e
      cases e
    | some bs =>
      rw [q] at e
      cases e
      cases dd with
      | lst h r => exact ⟨_, bs, rfl, by rw [← r.blsD q]; exact s.sqL h, o.here s (.bl _)⟩
theorem l_any : LiftCB K (rAny K) anyD := by
  intro F H xs as z Q s d e o
  match as, e with
  | [.lst ds], e =>
    obtain ⟨v, rfl, dd⟩ := d.one
    dsimp only [anyD] at e
    cases q : blsOf ds with
    | none =>
      rw [q] at e
      cases e
    | some bs =>
      rw [q] at e
      cases e
      cases dd with
      | lst h r => exact ⟨_, bs, rfl, by rw [← r.blsD q]; exact s.sqL h, o.here s (.bl _)⟩
/-- sum(xs) of a list or a tuple of ints -/
def rSumA (K : PySem.W.Frag) : List V → Hp → VK → Prop := fun vs H Q => ∃ (a : Addr) (ns : List Int), vs = [V.ref a] ∧ (SqL K H a (ns.map V.int) ∨ SqT K H a (ns.map V.int)) ∧ Q (.int ns.sum) H
theorem x_sumA {X : Cx} (ek : X.K = K) (hc : X.calm = true) : CallR X (.builtin "sum") (rSumA K) := by
  subst ek
  intro pins s σ H vs us Q I r h
  obtain ⟨a, ns, rfl, hs | hs, q⟩ := h
  · exact cr_sum hc pins s σ H _ us Q I r ⟨a, ns, rfl, hs, q⟩
  · obtain ⟨its, rv, hl, _⟩ := I.tuple hs
    rw [Vals.ref1 r]
    have hi := rv.ints
    obtain ⟨ob, h1, h2, n, h3⟩ := hl
    have hl : s.heap.IsTuple a its.toArray := ⟨ob, h1, h2, n, h3⟩
    obtain ⟨xs, e⟩ := hi.allInts.items
    have hn : numsOf (intItems xs).toList = ns := by rw [← e]; exact hi.numsOf
    rw [nums_intItems] at hn
    rw [e] at hl
    refine PySem.W.ktm_sumG (I.ok.hd hc) hl fun h' tk t' hk => ?_
    rw [preSum_eq, List.take_of_length_le (by simp), hn]
    exact ⟨.int _, H, I.kept hk, ⟨_, rfl⟩, q⟩
theorem l_sum : LiftCB K (rSumA K) sumD := by
  intro F H xs as z Q s d e o
  match as, e with
  | [.lst ds], e =>
    obtain ⟨v, rfl, dd⟩ := d.one
    dsimp only [sumD] at e
    cases q : intsOf ds with
    | none =>
      rw [q] at e
      cases e
    | some bs =>
      rw [q] at e
      cases e
      cases dd with
      | lst h r => exact ⟨_, bs, rfl, .inl (by rw [← r.intsD q]; exact s.sqL h), o.here s (.int _)⟩
  | [.tup ds], e =>
    obtain ⟨v, rfl, dd⟩ := d.one
    dsimp only [sumD] at e
    cases q : intsOf ds with
    | none =>
      rw [q] at e
      cases e
    | some bs =>
      rw [q] at e
      cases e
      cases dd with
      | tup h r => exact ⟨_, bs, rfl, .inr (by rw [← r.intsD q]; exact s.sqT h), o.here s (.int _)⟩
abbrev rListOf (K : PySem.W.Frag) : List V → Hp → VK → Prop := fun xs H Q => ∃ p ys, xs = [.ref p] ∧ (SqL K H p ys ∨ SqT K H p ys) ∧ ∀ l, H l = none → Q (.ref l) (upd H l (.lst ys))
theorem c_listOf {X : Cx} (ek : X.K = K) : CallR X (.type "list") (rListOf K) := by
  subst ek
  exact call_list_of
theorem l_list : LiftCB K (rListOf K) listD := by
  intro F H xs as z Q s d e o
  match as, e with
  | [.lst ds], e =>
    cases e
    obtain ⟨v, rfl, dd⟩ := d.one
    cases dd with
    | lst h r => exact ⟨_, _, rfl, .inl (s.sqL h), fun l hl => o.lst s r hl⟩
  | [.tup ds], e =>
    cases e
    obtain ⟨v, rfl, dd⟩ := d.one
    cases dd with
    | tup h r => exact ⟨_, _, rfl, .inr (s.sqT h), fun l hl => o.lst s r hl⟩
abbrev rTupleOf (K : PySem.W.Frag) : List V → Hp → VK → Prop := fun xs H Q => ∃ p ys, xs = [.ref p] ∧ ((SqL K H p ys ∧ ∀ l, H l = none → Q (.ref l) (upd H l (.tup ys))) ∨ (SqT K H p ys ∧ Q (.ref p) H))
theorem c_tupleOf {X : Cx} (ek : X.K = K) : CallR X (.type "tuple") (rTupleOf K) := by
  subst ek
  exact call_tuple_of
theorem l_tuple : LiftCB K (rTupleOf K) tupleD := by
  intro F H xs as z Q s d e o
  match as, e with
  | [.lst ds], e =>
    cases e
    obtain ⟨v, rfl, dd⟩ := d.one
    cases dd with
    | lst h r => exact ⟨_, _, rfl, .inl ⟨s.sqL h, fun l hl => o.tup s r hl⟩⟩
  | [.tup ds], e =>
    cases e
    obtain ⟨v, rfl, dd⟩ := d.one
    cases dd with
    | tup h r => exact ⟨_, _, rfl, .inr ⟨s.sqT h, o.here s (.tup h r)⟩⟩
/-! isinstance -/
inductive TyZ (K : PySem.W.Frag) (H : Hp) : V → Value → Prop where
  | base {x : V} {t : Value} (h : TyOf K H x t) : TyZ K H x t
  | kTuple {a : Addr} {o : Obj} (e : K.lookup a = some o) (c : o.cls = .type "tuple") : TyZ K H (.ref a) (.type "tuple")
  | fDict {a : Addr} {o : Obj} {kvs : List (Key × V)} (e : H a = some (.frz o (.dK kvs))) : TyZ K H (.ref a) (.type "dict")
def rIsiZ (K : PySem.W.Frag) : List V → Hp → VK → Prop := fun xs H Q => ∃ (x c : V) (t u : Value) (b : Bool), xs = [x, c] ∧ ClsV c u ∧ TyZ K H x t ∧ PySem.W.kitOne K t u = some b ∧ Q (.bl b) H
theorem call_isiZ {X : Cx} : CallR X (.builtin "isinstance") (rIsiZ X.K) := by
  intro pins s σ H xs us Q I r h
  obtain ⟨x, c, t, u, b, rfl, k, ty, e, q⟩ := h
  cases ty with
  | base h => exact call_isi pins s σ H [x, c] us Q I r ⟨x, c, t, u, b, rfl, k, .base h, e, q⟩
  | kTuple e1 e2 => exact call_isi pins s σ H [_, c] us Q I r ⟨_, c, _, u, b, rfl, k, .kTuple e1 e2, e, q⟩
  | fDict e1 => exact call_isi pins s σ H [_, c] us Q I r ⟨_, c, _, u, b, rfl, k, .fDict e1, e, q⟩
theorem Den.ty {v : V} {d : D} (s : Sub F H) (h : Den K F v d) {T : String} (hT : T ∈ ["int", "bool", "str", "tuple", "list", "dict"]) : ∃ t, TyZ K H v t ∧ PySem.W.kitOne K t (.type T) = some (d.isa T) := by
  have six : T = "int" ∨ T = "bool" ∨ T = "str" ∨ T = "tuple" ∨ T = "list" ∨ T = "dict" := by simpa using hT
  cases h with
  | int i =>
    refine ⟨_, .base (.int i), kit_ty ?_⟩
    rcases six with rfl | rfl | rfl | rfl | rfl | rfl <;> (dsimp only [D.isa]; decide +kernel)
  | bl b =>
    refine ⟨_, .base (.bl b), kit_ty ?_⟩
    rcases six with rfl | rfl | rfl | rfl | rfl | rfl <;> (dsimp only [D.isa]; decide +kernel)
  | str x =>
    refine ⟨_, .base (.str x), kit_ty ?_⟩
    rcases six with rfl | rfl | rfl | rfl | rfl | rfl <;> (dsimp only [D.isa]; decide +kernel)
  | non =>
    refine ⟨_, .base .non, kit_ty ?_⟩
    rcases six with rfl | rfl | rfl | rfl | rfl | rfl <;> (dsimp only [D.isa]; decide +kernel)
  | @tup a vs ds h r =>
    have ty : TyZ K H (.ref a) (.type "tuple") := by
      rcases h with h | h
      · exact .base (.tup (s.at h (fun _ z => nomatch z)))
      · rcases h (fun _ => none) with (z | ⟨_, z⟩) | ⟨o, its, n, h1, h2, _⟩
        · cases z
        · cases z
        · exact .kTuple h1 h2
    refine ⟨_, ty, kit_ty ?_⟩
    rcases six with rfl | rfl | rfl | rfl | rfl | rfl <;> (dsimp only [D.isa]; decide +kernel)
  | @lst a vs ds h r =>
    refine ⟨_, .base (.lst (s.lst h)), kit_ty ?_⟩
    rcases six with rfl | rfl | rfl | rfl | rfl | rfl <;> (dsimp only [D.isa]; decide +kernel)
  | @dic a ks vs ds h l r =>
    have ty : TyZ K H (.ref a) (.type "dict") := by
      rcases s.rc h with h | ⟨_, o, h⟩
      · exact .base (.dK h)
      · exact .fDict h
    refine ⟨_, ty, kit_ty ?_⟩
    rcases six with rfl | rfl | rfl | rfl | rfl | rfl <;> (dsimp only [D.isa]; decide +kernel)
  | @obj a dx c ks vs ds w h l r => exact ⟨_, .base (.ins (s.ins h) w.cl w.ha w.hn w.htk w.hm), w.no T hT⟩
end
section
variable {X : Cx} {K : PySem.W.Frag} {pa : Plc} {W : L2.St → XK} {a b c : Expr} {fa fb fc : S → Rs D} {pos p p2 : Pos} {es : List Expr} {fr : S → Rs (List D)}
/-- isinstance(e, T), T a built-in type -/
theorem pv_isi {T x : Str} {Tn : String} (ek : X.K = K) (hT : Tn ∈ ["int", "bool", "str", "tuple", "list", "dict"]) (hg : Gl X "isinstance") (hm : X.mg "isinstance" = none) (ha : PE X a (tV K pa W fa)) (hc : PE X c (tC (.ty Tn)))
    (h1 : starEach [a, c] X.env = (false, eval a X.env) :: starEach [c] X.env := by rfl) (h2 : starEach [c] X.env = (false, eval c X.env) :: starEach [] X.env := by rfl) (hpl : (backTo pos (starEach [c] X.env)).any (·.1) = false := by rfl) :
    PE X (.Call (.Name "isinstance" p) [a, c] [] pos) (tV K pa W (mUn (isiD Tn) fa)) := by
  subst ek
  refine (pe_callB call_isiZ hg hm (by decide +kernel) (pa_cons ha (pa_cons hc pa_nil h2) h1) (by decide) (by decide) h1 hpl).mono ?_
  rintro σ H Q ⟨F, s, rep, h⟩
  refine ⟨F, s, rep, (Fin.bind h).mono ?_⟩
  rintro v H1 ⟨F1, s1, x, st1, rep1, dv, h1⟩
  obtain ⟨z, e, o⟩ := h1.lift rep1
  cases e
  obtain ⟨t, h1, h2⟩ := Den.ty rep1.sub dv hT
  exact ⟨v, _, t, _, _, rfl, .ty Tn, h1, h2, o.here rep1.sub (.bl _)⟩
/-! slices -/
def cutD (xs : List D) (lo hi : Option Int) : List D := (xs.drop (HT.sIx xs.length 0 lo)).take (HT.sIx xs.length xs.length hi - HT.sIx xs.length 0 lo)
theorem DenAll.cut {F : Hp} {vs : List V} {ds : List D} (h : DenAll K F vs ds) (lo hi : Option Int) : DenAll K F (cutV vs lo hi) (cutD ds lo hi) := by
  unfold cutV cutD
  rw [h.length]
  exact (h.drop _).take _
def slD : D → Option Int → Option Int → Option D
  | .lst xs, lo, hi => some (.lst (cutD xs lo hi))
  | .tup xs, lo, hi => some (.tup (cutD xs lo hi))
  | .str x, lo, hi => if x.length ≤ 100000 then some (.str (cutS x lo hi)) else none
  | _, _, _ => none
def mPart (f : S → Rs D) : S → Rs (Option Int) := fun s => (f s).bind fun x s1 => match x with
  | .int i => .ok (some i) s1
  | _ => .no
def mNoPart : S → Rs (Option Int) := fun s => .ok none s
def dO : Hp → Hp → Option Int → Option Int → Prop := fun _ _ a b => a = b
abbrev tVO (K : PySem.W.Frag) (pa : Plc) (W : L2.St → XK) (f : S → Rs (Option Int)) : TO := tG dO K pa W f
theorem _root_.L2.PO.mono {X : Cx} {e : Option Expr} {t u : TO} (h : PO X e t) (m : ∀ σ H Q, u σ H Q → t σ H Q) : PO X e u := ⟨fun pins s σ H Q I z => h.run pins s σ H Q I (m σ H Q z)⟩
theorem qo_none : PO X none (tVO K pa W mNoPart) := by
  refine po_none.mono ?_
  rintro σ H Q ⟨F, s, rep, h⟩
  exact h none H F Step.refl rep rfl
theorem qo_some (h : PE X a (tV K pa W fa)) : PO X (some a) (tVO K pa W (mPart fa)) := by
  refine (po_some h).mono ?_
  rintro σ H Q ⟨F, s, rep, h⟩
  refine ⟨F, s, rep, (Fin.bind h).mono ?_⟩
  rintro v H1 ⟨F1, s1, x, st1, rep1, dv, h1⟩
  cases dv with
  | int i => exact ⟨i, rfl, h1 _ _ _ Step.refl rep1 rfl⟩
  | _ => exact False.elim h1
def mSl (fa : S → Rs D) (fl fh : S → Rs (Option Int)) : S → Rs D := fun s => (fa s).bind fun x s1 => (fl s1).bind fun l s2 => (fh s2).bind fun h s3 => liftO (slD x l h) s3
theorem pv_slice {lo hi : Option Expr} {fl fh : S → Rs (Option Int)} (ek : X.K = K) (ha : PE X a (tV K pa W fa)) (hl : PO X lo (tVO K pa W fl)) (hh : PO X hi (tVO K pa W fh)) : PE X (.Subscript a (.Slice lo hi none p2) pos) (tV K pa W (mSl fa fl fh)) := by
  subst ek
  refine (pe_slice (SlR.or sl_list (SlR.or sl_tupA sl_str)) ha hl hh).mono ?_
  rintro σ H Q ⟨F, s, rep, h⟩
  refine ⟨F, s, rep, (Fin.bind h).mono ?_⟩
  rintro v H1 ⟨F1, s1, x, st1, rep1, dv, h1⟩
  refine ⟨F1, s1, rep1, (Fin.bind h1).mono ?_⟩
  rintro l H2 ⟨F2, s2, l', st2, rep2, rfl, h2⟩
  refine ⟨F2, s2, rep2, (Fin.bind h2).mono ?_⟩
  rintro hi H3 ⟨F3, s3, hi', st3, rep3, rfl, h3⟩
  obtain ⟨z, e, o⟩ := Fin.lift rep3 h3
  have dv3 := Den.mono st3.le (Den.mono st2.le dv)
  have sb := rep3.sub
  cases dv3 with
  | @lst a vs ds q r =>
    cases e
    exact .inl ⟨a, vs, rfl, sb.sqL q, fun p hp => o.lst sb (r.cut _ _) hp⟩
  | @tup a vs ds q r =>
    cases e
    refine .inr (.inl ⟨a, vs, rfl, sb.sqT q, fun z => ?_, fun _ p hp => o.tup sb (r.cut _ _) hp⟩)
    have e : cutD ds l hi = ds := by
      unfold cutD
      rw [← r.length, z.1, z.2, r.length]
      simp
    rw [e] at o
    exact o.here sb (.tup q r)
  | str x =>
    dsimp only [slD] at e
    by_cases hl : x.length ≤ 100000
    · rw [if_pos hl] at e
      cases e
      exact .inr (.inr ⟨x, rfl, Nat.le_trans hl (by decide), o.here sb (.str _)⟩)
    · rw [if_neg hl] at e
      cases e
  | _ => cases e
/-! fields -/
def lookD (f : Str) : List Str → List D → Option D
  | k :: ks, v :: vs => if f == k then some v else lookD f ks vs
  | _, _ => none
def fldD (f : Str) : D → Option D
  | .obj _ ks vs => lookD f ks vs
  | _ => none
theorem lookD_ok {F : Hp} {f : Str} : ∀ {ks : List Str} {vs : List V} {ds : List D} {d : D}, DenAll K F vs ds → lookD f ks ds = some d → ∃ v, (ks.zip vs).lookup f = some v ∧ Den K F v d
  | [], _, _, _, _, e => by cases e
  | k :: ks, _, _, _, .nil, e => by cases e
  | k :: ks, _, _, d, .cons h r, e => by
    unfold lookD at e
    rw [List.zip_cons_cons, List.lookup_cons]
    cases q : (f == k) with
    | true =>
      rw [q, if_pos rfl] at e
      cases e
      exact ⟨_, rfl, h⟩
    | false =>
      rw [q, if_neg Bool.false_ne_true] at e
      exact lookD_ok r e
/-- e.f: cs the classes that may be met -/
def fldC (cs : List Str) (f : Str) : D → Option D
  | .obj c ks vs => if cs.contains c then lookD f ks vs else none
  | _ => none
theorem pv_fld {f : Str} {cs : List Str} (ek : X.K = K) (hcs : ∀ c ∈ cs, NoAttr K (He.ga K c) f) (ha : PE X a (tV K pa W fa)) (hb : attributeBase a f X.env (eval a X.env) = eval a X.env := by rfl) : PE X (.Attribute a f pos) (tV K pa W (mUn (fldC cs f) fa)) := by
  subst ek
  refine (pe_fld ha hb).mono ?_
  rintro σ H Q ⟨F, s, rep, h⟩
  refine ⟨F, s, rep, (Fin.bind h).mono ?_⟩
  rintro v H1 ⟨F1, s1, x, st1, rep1, dv, h1⟩
  obtain ⟨z, e, o⟩ := h1.lift rep1
  cases dv with
  | @obj a dx c ks vs ds w q l r =>
    dsimp only [fldC] at e
    by_cases hc : cs.contains c = true
    · rw [if_pos hc] at e
      obtain ⟨u, h1, h2⟩ := lookD_ok r e
      exact ⟨a, _, dx, _, u, rfl, rep1.sub.ins q, w.cl, hcs c (by simpa using hc), h1, o.here rep1.sub h2⟩
    · rw [if_neg hc] at e
      cases e
  | _ => cases e
end

/-! ### statements -/
inductive Ro where
  | nx (s : S) | rt (d : D) (s : S) | bk (s : S) | ct (s : S) | ex (c : Str) (v : D) (s : S) | no
def Ro.seq : Ro → (S → Ro) → Ro
  | .nx s, k => k s
  | .rt d s, _ => .rt d s
  | .bk s, _ => .bk s
  | .ct s, _ => .ct s
  | .ex c v s, _ => .ex c v s
  | .no, _ => .no
def Rs.st {α : Type} : Rs α → (α → S → Ro) → Ro
  | .ok a s, f => f a s
  | .ex c v s, _ => .ex c v s
  | .no, _ => .no
def FinS (K : PySem.W.Frag) (pa : Plc) (W : L2.St → XK) (F H : Hp) (σ : L2.St) (s : S) (o : Ro) (E : Ends) : Prop := match o with
  | .nx s' => ∀ σ' H' F', Step pa F H σ s F' H' σ' s' → Rep K pa F' H' σ' s' → E.nx σ' H'
  | .rt d s' => ∀ σ' v H' F', Step pa F H σ s F' H' σ' s' → Rep K pa F' H' σ' s' → Den K F' v d → E.rt v H'
  | .bk s' => ∀ σ' H' F', Step pa F H σ s F' H' σ' s' → Rep K pa F' H' σ' s' → E.bk σ' H'
  | .ct s' => ∀ σ' H' F', Step pa F H σ s F' H' σ' s' → Rep K pa F' H' σ' s' → E.ct σ' H'
  | .ex c d s' => ∀ σ' H' F', Step pa F H σ s F' H' σ' s' → Rep K pa F' H' σ' s' → ExAt K W F' H' σ' c d
  | .no => False
def tS (K : PySem.W.Frag) (pa : Plc) (W : L2.St → XK) (g : S → Ro) : TS := fun E σ H => ∃ F s, Rep K pa F H σ s ∧ FinS K pa W F H σ s (g s) E
section
variable {K : PySem.W.Frag} {pa : Plc} {W : L2.St → XK} {F H F1 H1 F2 H2 : Hp} {σ σ1 : L2.St} {s s1 s2 : S}
theorem FinS.shift {o : Ro} {E : Ends} (st : Step pa F H σ s F1 H1 σ1 s1) (h : FinS K pa W F H σ s o E) : FinS K pa W F1 H1 σ1 s1 o E := by
  cases o with
  | nx s' => exact fun σ' H' F' a b => h σ' H' F' (st.trans a) b
  | rt d s' => exact fun σ' v H' F' a b c => h σ' v H' F' (st.trans a) b c
  | bk s' => exact fun σ' H' F' a b => h σ' H' F' (st.trans a) b
  | ct s' => exact fun σ' H' F' a b => h σ' H' F' (st.trans a) b
  | ex c d s' => exact fun σ' H' F' a b => h σ' H' F' (st.trans a) b
  | no => exact h
theorem FinS.seq {o : Ro} {k : S → Ro} {E : Ends} (h : FinS K pa W F H σ s (o.seq k) E) : FinS K pa W F H σ s o { E with nx := tS K pa W k E } := by
  cases o with
  | nx s' => exact fun σ' H' F' a b => ⟨F', s', b, FinS.shift a h⟩
  | rt d s' => exact h
  | bk s' => exact h
  | ct s' => exact h
  | ex c d s' => exact h
  | no => exact h
/-- a statement that starts with an expression -/
theorem FinS.st {α β : Type} {den : Hp → Hp → β → α → Prop} {r : Rs α} {k : α → S → Ro} {E : Ends} (h : FinS K pa W F H σ s (r.st k) E) :
    Fin den K pa W F H σ s r (fun v H1 => ∃ F1 s1 x, Step pa F H σ s F1 H1 σ s1 ∧ Rep K pa F1 H1 σ s1 ∧ den F1 H1 v x ∧ FinS K pa W F1 H1 σ s1 (k x s1) E) := by
  cases r with
  | ok x s' => exact fun v H' F' a b c => ⟨F', s', x, a, b, c, FinS.shift a h⟩
  | ex c d s' => exact fun H' F' a b => h σ H' F' a b
  | no => exact h
theorem set_cases {α : Type} {l : List (Option α)} {i j : Nat} {x : Option α} {y : α} (h : (l.set i x)[j]? = some (some y)) : (j = i ∧ x = some y ∧ i < l.length) ∨ (j ≠ i ∧ l[j]? = some (some y)) := by
  by_cases q : j = i
  · subst q
    by_cases hl : j < l.length
    · rw [List.getElem?_set_self hl] at h
      exact .inl ⟨rfl, Option.some.inj h, hl⟩
    · rw [List.getElem?_eq_none (by simpa using hl)] at h
      cases h
  · rw [List.getElem?_set_ne (Ne.symm q)] at h
    exact .inr ⟨q, h⟩
def S.put (s : S) (i : Nat) (x : Option LV) : S := { s with e := s.e.set i x }
theorem Owns.of_put {i j : Nat} {v : Option V} {x : Option LV} {a : Addr} (h : Owns (σ.set i v) (s.e.set i x) j a) : (j = i ∧ v = some (.ref a) ∧ ∃ y, x = some y ∧ y.own = true) ∨ (j ≠ i ∧ Owns σ s.e j a) := by
  obtain ⟨h1, y, h2, h3⟩ := h
  rcases set_cases h2 with ⟨e1, e2, _⟩ | ⟨e1, e2⟩
  · rcases set_cases h1 with ⟨_, e4, _⟩ | ⟨e3, _⟩
    · exact .inl ⟨e1, e4, y, e2, h3⟩
    · exact absurd e1 e3
  · rw [List.getElem?_set_ne (Ne.symm e1)] at h1
    exact .inr ⟨e1, h1, y, e2, h3⟩
theorem HasP.of_put {i : Nat} {x : Option LV} (hx : x ≠ some .p) (h : HasP (s.e.set i x)) : HasP s.e := by
  obtain ⟨j, h⟩ := h
  rcases set_cases h with ⟨_, e2, _⟩ | ⟨_, e2⟩
  · exact absurd e2 hx
  · exact ⟨j, e2⟩
theorem SlotOk.set {i : Nat} {v : Option V} {x : Option LV} (rep : Rep K pa F H σ s) {j : Nat} {y : LV} (h : (s.e.set i x)[j]? = some (some y)) (new : ∀ z, x = some z → ∃ u, v = some u ∧ SlotOk K pa F H u z) : ∃ w, (σ.set i v)[j]? = some (some w) ∧ SlotOk K pa F H w y := by
  rcases set_cases h with ⟨e1, e2, e3⟩ | ⟨e1, e2⟩
  · subst e1
    obtain ⟨u, h1, h2⟩ := new y e2
    exact ⟨u, by rw [List.getElem?_set_self (by rw [rep.len]; exact e3), h1], h2⟩
  · obtain ⟨w, h1, h2⟩ := rep.slot j y e2
    exact ⟨w, by rw [List.getElem?_set_ne (Ne.symm e1)]; exact h1, h2⟩
theorem Rep.putD (rep : Rep K pa F H σ s) {v : V} {d : D} (i : Nat) (h : Den K F v d) : Rep K pa F H (σ.set i (some v)) (s.put i (some (.d d))) := by
  refine ⟨rep.sub, by simpa [S.put] using rep.len, fun j y e => SlotOk.set rep e (fun z q => ?_), fun j k a h1 h2 => ?_, fun hp => ?_⟩
  · cases q
    exact ⟨v, rfl, h⟩
  · rcases Owns.of_put h1 with ⟨_, _, y, e, f⟩ | ⟨_, h1⟩
    · cases e
      cases f
    · rcases Owns.of_put h2 with ⟨_, _, y, e, f⟩ | ⟨_, h2⟩
      · cases e
        cases f
      · exact rep.uniq j k a h1 h2
  · obtain ⟨q1, q2, q3⟩ := rep.pot (HasP.of_put (x := some (.d d)) (fun z => nomatch z) hp)
    refine ⟨q1, q2, fun j b hb z => ?_⟩
    rcases Owns.of_put z with ⟨_, _, y, e, f⟩ | ⟨_, z⟩
    · cases e
      cases f
    · exact q3 j b hb z
theorem Step.putD {σ2 : L2.St} (st : Step pa F H σ s F2 H2 σ2 s2) (i : Nat) (v : Option V) (d : D) : Step pa F H σ s F2 H2 (σ2.set i v) (s2.put i (some (.d d))) := by
  refine ⟨st.le, st.keep, st.new, fun a h => st.own a ?_⟩
  rcases h with ⟨j, h⟩ | ⟨h, e⟩
  · rcases Owns.of_put h with ⟨_, _, y, e, f⟩ | ⟨_, h⟩
    · cases e
      cases f
    · exact .inl ⟨j, h⟩
  · exact .inr ⟨HasP.of_put (x := some (.d d)) (fun z => nomatch z) h, e⟩
/-- a name owns a new thing: x its letter -/
def OwnsV (K : PySem.W.Frag) (F H : Hp) (a : Addr) : LV → Prop
  | .l xs => ∃ vs, H a = some (.lst vs) ∧ DenAll K F vs xs
  | .k ks xs => ∃ vs, H a = some (.dK (ks.zip vs)) ∧ ks.length = vs.length ∧ DenAll K F vs xs
  | _ => False
theorem OwnsV.nt {F H : Hp} {a : Addr} {o : HO} {x : LV} (h : OwnsV K F (upd H a o) a x) : NoTab o := by
  cases x with
  | l xs =>
    obtain ⟨vs, h, _⟩ := h
    rw [upd_same] at h
    cases h
    exact fun _ z => nomatch z
  | k ks xs =>
    obtain ⟨vs, h, _⟩ := h
    rw [upd_same] at h
    cases h
    exact fun _ z => nomatch z
  | d _ => exact h.elim
  | p => exact h.elim
theorem Rep.putO (rep : Rep K pa F H σ s) {a : Addr} {x : LV} (i : Nat) (hf : F a = none) (ho : OwnsV K F H a x) (hn : ¬ OwnA pa σ s a) : Rep K pa F H (σ.set i (some (.ref a))) (s.put i (some x)) := by
  have xp : (some x : Option LV) ≠ some .p := fun z => by
    cases z
    exact ho
  refine ⟨rep.sub, by simpa [S.put] using rep.len, fun j y e => SlotOk.set rep e (fun z q => ?_), fun j k b h1 h2 => ?_, fun hp => ?_⟩
  · cases q
    refine ⟨_, rfl, ?_⟩
    cases x with
    | l xs => exact ⟨hf, ho⟩
    | k ks xs => exact ⟨hf, ho⟩
    | d _ => exact ho.elim
    | p => exact ho.elim
  · rcases Owns.of_put h1 with ⟨e1, q1, _⟩ | ⟨n1, h1⟩
    · rcases Owns.of_put h2 with ⟨e2, _⟩ | ⟨_, h2⟩
      · exact e1.trans e2.symm
      · cases q1
        exact absurd (.inl ⟨k, h2⟩) hn
    · rcases Owns.of_put h2 with ⟨_, q2, _⟩ | ⟨_, h2⟩
      · cases q2
        exact absurd (.inl ⟨j, h1⟩) hn
      · exact rep.uniq j k b h1 h2
  · have hp' := HasP.of_put xp hp
    obtain ⟨q1, q2, q3⟩ := rep.pot hp'
    refine ⟨q1, q2, fun j b hb z => ?_⟩
    rcases Owns.of_put z with ⟨_, q, _⟩ | ⟨_, z⟩
    · cases q
      exact hn (.inr ⟨hp', hb⟩)
    · exact q3 j b hb z
theorem Step.putO {σ2 : L2.St} (st : Step pa F H σ s F2 H2 σ2 s2) {a : Addr} {x : LV} (i : Nat) (hx : x ≠ .p) (hn : H a = none ∨ OwnA pa σ s a) : Step pa F H σ s F2 H2 (σ2.set i (some (.ref a))) (s2.put i (some x)) := by
  refine ⟨st.le, st.keep, st.new, fun b h => ?_⟩
  rcases h with ⟨j, h⟩ | ⟨h, e⟩
  · rcases Owns.of_put h with ⟨_, q, _⟩ | ⟨_, h⟩
    · cases q
      exact hn.symm
    · exact st.own b (.inl ⟨j, h⟩)
  · exact st.own b (.inr ⟨HasP.of_put (fun z => hx (Option.some.inj z)) h, e⟩)
/-- what is made and not yet held by a name -/
structure Pend (K : PySem.W.Frag) (pa : Plc) (F H : Hp) (σ : L2.St) (s : S) (a : Addr) (x : LV) : Prop where
  hf : F a = none
  ho : OwnsV K F H a x
  hn : ¬ OwnA pa σ s a
theorem Pend.step {a : Addr} {x : LV} (p : Pend K pa F H σ s a x) {σ2 : L2.St} (st : Step pa F H σ s F2 H2 σ2 s2) : Pend K pa F2 H2 σ2 s2 a x := by
  have hh : ∃ o, H a = some o := by
    cases x with
    | l xs => obtain ⟨vs, h, _⟩ := p.ho; exact ⟨_, h⟩
    | k ks xs => obtain ⟨vs, h, _⟩ := p.ho; exact ⟨_, h⟩
    | d _ => exact p.ho.elim
    | p => exact p.ho.elim
  obtain ⟨o, hh⟩ := hh
  refine ⟨?_, ?_, fun z => ?_⟩
  · cases e : F2 a with
    | none => rfl
    | some u =>
      rcases st.new a (by rw [e]; exact fun z => nomatch z) with z | z | z
      · exact absurd p.hf z
      · rw [hh] at z
        cases z
      · exact absurd z p.hn
  · cases x with
    | l xs =>
      obtain ⟨vs, h, r⟩ := p.ho
      exact ⟨vs, st.at h p.hn, r.mono st.le⟩
    | k ks xs =>
      obtain ⟨vs, h, l, r⟩ := p.ho
      exact ⟨vs, st.at h p.hn, l, r.mono st.le⟩
    | d _ => exact p.ho.elim
    | p => exact p.ho.elim
  · rcases st.own a z with z | z
    · exact p.hn z
    · rw [hh] at z
      cases z
end
/-- what makes a new thing: its last deed is to lay it -/
def FinM (K : PySem.W.Frag) (pa : Plc) (W : L2.St → XK) (F H : Hp) (σ : L2.St) (s : S) (r : Rs LV) (Q : VK) : Prop := match r with
  | .ok x s' => ∀ a H1 F1 o, Step pa F H σ s F1 H1 σ s' → Rep K pa F1 H1 σ s' → H1 a = none → OwnsV K F1 (upd H1 a o) a x → Q (.ref a) (upd H1 a o)
  | .ex c d s' => ∀ H' F', Step pa F H σ s F' H' σ s' → Rep K pa F' H' σ s' → ExAt K W F' H' σ c d
  | .no => False
def tM (K : PySem.W.Frag) (pa : Plc) (W : L2.St → XK) (f : S → Rs LV) : TE := fun σ H Q => ∃ F s, Rep K pa F H σ s ∧ FinM K pa W F H σ s (f s) Q
/-- made things, frozen at once -/
def LV.d? : LV → Option D
  | .l xs => some (.lst xs)
  | .k ks xs => some (.dic ks xs)
  | .d x => some x
  | .p => none
def mFrz (f : S → Rs LV) : S → Rs D := fun s => (f s).bind fun x s1 => liftO x.d? s1
def mMkL (fr : S → Rs (List D)) : S → Rs LV := fun s => (fr s).bind fun xs s1 => if xs.length ≤ 100000 then .ok (.l xs) s1 else .no
def mMkO (g : D → Option (List D)) (fa : S → Rs D) : S → Rs LV := fun s => (fa s).bind fun x s1 => match g x with
  | some xs => .ok (.l xs) s1
  | none => .no
section
variable {X : Cx} {K : PySem.W.Frag} {pa : Plc} {W : L2.St → XK} {a b c : Expr} {fa fb fc : S → Rs D} {fm fn : S → Rs LV} {pos p p2 : Pos} {es : List Expr} {fr : S → Rs (List D)}
theorem FinM.shift {F H F1 H1 : Hp} {σ : L2.St} {s s1 : S} {r : Rs LV} {Q : VK} (st : Step pa F H σ s F1 H1 σ s1) (h : FinM K pa W F H σ s r Q) : FinM K pa W F1 H1 σ s1 r Q := by
  cases r with
  | ok x s' => exact fun a H1 F1 o q => h a H1 F1 o (st.trans q)
  | ex c d s' => exact fun H' F' a b => h H' F' (st.trans a) b
  | no => exact h
theorem not_own_new {F H : Hp} {σ : L2.St} {s : S} {a : Addr} (rep : Rep K pa F H σ s) (n : H a = none) : ¬ OwnA pa σ s a := by
  rintro (⟨i, h1, y, h2, h3⟩ | ⟨hp, e⟩)
  · obtain ⟨v, q1, q2⟩ := rep.slot i y h2
    rw [h1] at q1
    cases q1
    cases y with
    | l xs =>
      obtain ⟨_, vs, q, _⟩ := q2
      rw [n] at q
      cases q
    | k ks xs =>
      obtain ⟨_, vs, q, _⟩ := q2
      rw [n] at q
      cases q
    | d _ => cases h3
    | p => cases h3
  · obtain ⟨o, q⟩ := (rep.pot hp).2.1.isS e
    rw [n] at q
    cases q
theorem pend_new {F H : Hp} {σ : L2.St} {s : S} {a : Addr} {o : HO} {x : LV} (rep : Rep K pa F H σ s) (n : H a = none) (h : OwnsV K F (upd H a o) a x) : Pend K pa F (upd H a o) σ s a x := ⟨rep.sub.isN n, h, not_own_new rep n⟩
theorem OwnsV.den {F H : Hp} {a : Addr} {o : HO} {x : LV} {d : D} (h : OwnsV K F (upd H a o) a x) (hf : F a = none) (e : x.d? = some d) : Den K (upd F a o) (.ref a) d := by
  cases x with
  | l xs =>
    obtain ⟨vs, q, r⟩ := h
    rw [upd_same] at q
    cases q
    cases e
    exact .lst upd_same (r.mono (upd_le hf))
  | k ks xs =>
    obtain ⟨vs, q, l, r⟩ := h
    rw [upd_same] at q
    cases q
    cases e
    exact .dic upd_same l (r.mono (upd_le hf))
  | d _ => exact h.elim
  | p => exact h.elim
theorem frz_of : ∀ (σ : L2.St) (H : Hp) (Q : VK), tV K pa W (mFrz fm) σ H Q → tM K pa W fm σ H Q := by
  rintro σ H Q ⟨F, s, rep, h⟩
  refine ⟨F, s, rep, ?_⟩
  unfold mFrz at h
  cases e : fm s with
  | no =>
    rw [e] at h
    exact h
  | ex c d s1 =>
    rw [e] at h
    exact h
  | ok x s1 =>
    rw [e] at h
    intro a H1 F1 o st1 rep1 hn ho
    have h1 : Fin (dV K) K pa W F H σ s (liftO x.d? s1) Q := h
    cases q : x.d? with
    | none =>
      rw [q] at h1
      exact False.elim h1
    | some d =>
      rw [q] at h1
      have ext : Ext F1 H1 (upd F1 a o) (upd H1 a o) := Ext.laid rep1.sub hn ho.nt
      exact h1 _ _ _ (st1.trans ext.step) (rep1.ext ext) (ho.den (rep1.sub.isN hn) q)
theorem pv_frz (h : PE X a (tM K pa W fm)) : PE X a (tV K pa W (mFrz fm)) := h.mono frz_of
theorem q_asgFrz {st : Stmt} {gt : TG} (h : PS X st (tAsg (tM K pa W fm) gt)) : PS X st (tAsg (tV K pa W (mFrz fm)) gt) := h.mono fun _ _ _ z => frz_of _ _ _ z
theorem pm_lst (h : PA X es (tVA K pa W fr)) : PE X (.List es pos) (tM K pa W (mMkL fr)) := by
  refine (pe_lst h).mono ?_
  rintro σ H Q ⟨F, s, rep, h⟩
  refine ⟨F, s, rep, ?_⟩
  unfold mMkL at h
  cases e : fr s with
  | no =>
    rw [e] at h
    exact h
  | ex c d s1 =>
    rw [e] at h
    exact h
  | ok xs s1 =>
    rw [e] at h
    have h : FinM K pa W F H σ s (if xs.length ≤ 100000 then .ok (.l xs) s1 else .no) Q := h
    by_cases hl : xs.length ≤ 100000
    · rw [if_pos hl] at h
      intro vs H1 F1 st1 rep1 dv
      exact ⟨le_line (by rw [DenAll.length dv]; exact hl), fun p hp => h p H1 F1 _ st1 rep1 hp ⟨vs, upd_same, dv⟩⟩
    · rw [if_neg hl] at h
      exact h.elim
def seqOf : D → Option (List D)
  | .lst xs => some xs
  | .tup xs => some xs
  | _ => none
/-- list(e) -/
theorem pm_list (ek : X.K = K) (hg : Gl X "list") (hm : X.mg "list" = none) (ha : PE X a (tV K pa W fa)) (h1 : starEach [a] X.env = (false, eval a X.env) :: starEach [] X.env := by rfl) (hpl : (backTo pos (starEach [] X.env)).any (·.1) = false := by rfl) :
    PE X (.Call (.Name "list" p) [a] [] pos) (tM K pa W (mMkO seqOf fa)) := by
  refine (pe_callTy (c_listOf ek) hg hm (by decide +kernel) (pa_cons ha pa_nil h1) (by decide) (by decide) h1 hpl).mono ?_
  rintro σ H Q ⟨F, s, rep, h⟩
  refine ⟨F, s, rep, ?_⟩
  unfold mMkO at h
  cases e : fa s with
  | no =>
    rw [e] at h
    exact h
  | ex c d s1 =>
    rw [e] at h
    exact h
  | ok x s1 =>
    rw [e] at h
    intro v H1 F1 st1 rep1 dv
    have dv : Den K F1 v x := dv
    cases dv with
    | @lst a vs ds q r => exact ⟨a, vs, rfl, .inl (rep1.sub.sqL q), fun l hl => h l H1 F1 _ st1 rep1 hl ⟨vs, upd_same, r⟩⟩
    | @tup a vs ds q r => exact ⟨a, vs, rfl, .inr (rep1.sub.sqT q), fun l hl => h l H1 F1 _ st1 rep1 hl ⟨vs, upd_same, r⟩⟩
    | _ => exact False.elim h
/-! ### small statements -/
def sNil : S → Ro := fun s => .nx s
def sSeq (g1 g2 : S → Ro) : S → Ro := fun s => (g1 s).seq g2
def sRet (fa : S → Rs D) : S → Ro := fun s => (fa s).st fun d s1 => .rt d s1
def sDrop (fa : S → Rs D) : S → Ro := fun s => (fa s).st fun _ s1 => .nx s1
def sIf (ft : S → Rs Bool) (g1 g2 : S → Ro) : S → Ro := fun s => (ft s).st fun b s1 => match b with
  | true => g1 s1
  | false => g2 s1
def sSet (i : Nat) (fa : S → Rs D) : S → Ro := fun s => (fa s).st fun d s1 => .nx (s1.put i (some (.d d)))
def sMk (i : Nat) (fm : S → Rs LV) : S → Ro := fun s => (fm s).st fun x s1 => .nx (s1.put i (some x))
variable {st : Stmt} {rest : List Stmt} {g g1 g2 : S → Ro}
theorem qs_nil : PSs X [] (tS K pa W sNil) := by
  refine pss_nil.mono ?_
  rintro E σ H ⟨F, s, rep, h⟩
  exact h _ _ _ Step.refl rep
theorem qs_cons (h1 : PS X st (tS K pa W g1)) (h2 : PSs X rest (tS K pa W g2)) : PSs X (st :: rest) (tS K pa W (sSeq g1 g2)) := by
  refine (pss_cons h1 h2).mono ?_
  rintro E σ H ⟨F, s, rep, h⟩
  exact ⟨F, s, rep, FinS.seq h⟩
theorem qs_one (h1 : PS X st (tS K pa W g1)) : PSs X [st] (tS K pa W g1) := pss_one h1
theorem q_pass : PS X (.Pass pos) (tS K pa W sNil) := by
  refine ps_pass.mono ?_
  rintro E σ H ⟨F, s, rep, h⟩
  exact h _ _ _ Step.refl rep
theorem q_break : PS X (.Break pos) (tS K pa W .bk) := by
  refine ps_break.mono ?_
  rintro E σ H ⟨F, s, rep, h⟩
  exact h _ _ _ Step.refl rep
theorem q_continue : PS X (.Continue pos) (tS K pa W .ct) := by
  refine ps_continue.mono ?_
  rintro E σ H ⟨F, s, rep, h⟩
  exact h _ _ _ Step.refl rep
theorem q_never : PS X st (tS K pa W fun _ => .no) := by
  refine ps_never.mono ?_
  rintro E σ H ⟨F, s, rep, h⟩
  exact h
theorem q_ret (h : PE X a (tV K pa W fa)) : PS X (.Return (some a) pos) (tS K pa W (sRet fa)) := by
  refine (ps_ret h).mono ?_
  rintro E σ H ⟨F, s, rep, h⟩
  refine ⟨F, s, rep, (FinS.st h).mono ?_⟩
  rintro v H1 ⟨F1, s1, x, st1, rep1, dv, h1⟩
  exact h1 _ _ _ _ Step.refl rep1 dv
theorem q_expr (h : PE X a (tV K pa W fa)) (hs : swapsWith a none pos.line X.env = pure false := by rfl) : PS X (.Expr a pos) (tS K pa W (sDrop fa)) := by
  refine (ps_expr h hs).mono ?_
  rintro E σ H ⟨F, s, rep, h⟩
  refine ⟨F, s, rep, (FinS.st h).mono ?_⟩
  rintro v H1 ⟨F1, s1, x, st1, rep1, dv, h1⟩
  exact h1 _ _ _ Step.refl rep1
theorem q_if {ft : S → Rs Bool} {l1 l2 : List Stmt} (hc : PT X c (tVB K pa W ft)) (h1 : PSs X l1 (tS K pa W g1)) (h2 : PSs X l2 (tS K pa W g2)) : PS X (.If c l1 l2 pos) (tS K pa W (sIf ft g1 g2)) := by
  refine (ps_if hc h1 h2).mono ?_
  rintro E σ H ⟨F, s, rep, h⟩
  refine ⟨F, s, rep, (FinS.st h).mono ?_⟩
  rintro v H1 ⟨F1, s1, x, st1, rep1, rfl, h1⟩
  cases v with
  | true => exact ⟨F1, s1, rep1, h1⟩
  | false => exact ⟨F1, s1, rep1, h1⟩
theorem q_set {i : Nat} (h : PS X st (tAsg (tV K pa W fa) (gName i))) : PS X st (tS K pa W (sSet i fa)) := by
  refine h.mono ?_
  rintro E σ H ⟨F, s, rep, h⟩
  refine ⟨F, s, rep, (FinS.st h).mono ?_⟩
  rintro v H1 ⟨F1, s1, x, st1, rep1, dv, h1⟩
  exact h1 _ _ _ (Step.refl.putD i _ _) (rep1.putD i dv)
theorem q_mk {i : Nat} (h : PS X st (tAsg (tM K pa W fm) (gName i))) : PS X st (tS K pa W (sMk i fm)) := by
  refine h.mono ?_
  rintro E σ H ⟨F, s, rep, h⟩
  refine ⟨F, s, rep, ?_⟩
  unfold sMk at h
  cases e : fm s with
  | no =>
    rw [e] at h
    exact h
  | ex c d s1 =>
    rw [e] at h
    exact fun H' F' a b => h σ H' F' a b
  | ok x s1 =>
    rw [e] at h
    intro a H1 F1 o st1 rep1 hn ho
    have ext : Ext F1 H1 F1 (upd H1 a o) := Ext.fresh rep1.sub hn
    have pd := pend_new rep1 hn ho
    have nx : x ≠ .p := fun z => by
      subst z
      exact ho
    exact h _ _ _ (st1.trans (Step.putO ext.step i nx (.inl hn))) ((rep1.ext ext).putO i pd.hf pd.ho pd.hn)
end

/-! ### targets -/
/-- σ is changed at no slot but these -/
def Only (is : List Nat) (σ σ' : L2.St) : Prop := σ'.length = σ.length ∧ ∀ k, k ∉ is → σ'[k]? = σ[k]?
theorem Only.refl {is : List Nat} {σ : L2.St} : Only is σ σ := ⟨rfl, fun _ _ => rfl⟩
theorem Only.trans {is js : List Nat} {σ σ1 σ2 : L2.St} (a : Only is σ σ1) (b : Only js σ1 σ2) : Only (is ++ js) σ σ2 := ⟨b.1.trans a.1, fun k h => (b.2 k (fun z => h (List.mem_append_right _ z))).trans (a.2 k fun z => h (List.mem_append_left _ z))⟩
theorem Only.set {i : Nat} {σ : L2.St} {v : Option V} : Only [i] σ (σ.set i v) := ⟨by simp, fun k h => List.getElem?_set_ne (fun e => h (by simp [e]))⟩
theorem wipe_get {σ : L2.St} {k : Nat} : ∀ {vs : List Nat}, k ∉ vs → (wipe σ vs)[k]? = σ[k]?
  | [], _ => rfl
  | v :: vs, h => by
    unfold wipe
    rw [List.getElem?_set_ne (fun e => h (by simp [e]))]
    exact wipe_get (fun z => h (List.mem_cons_of_mem _ z))
theorem wipe_in {σ : L2.St} {k : Nat} : ∀ {vs : List Nat}, k ∈ vs → (wipe σ vs)[k]? = if k < σ.length then some none else none
  | v :: vs, h => by
    unfold wipe
    by_cases e : v = k
    · subst e
      by_cases l : v < σ.length
      · rw [List.getElem?_set_self (by rw [wipe_length]; exact l), if_pos l]
      · rw [if_neg l, List.getElem?_eq_none (by rw [List.length_set, wipe_length]; omega)]
    · rw [List.getElem?_set_ne e]
      rcases List.mem_cons.mp h with z | z
      · exact absurd z.symm e
      · exact wipe_in z
theorem Only.wipe {is vs : List Nat} {σ σ' : L2.St} (o : Only is (L2.wipe σ vs) σ') (sub : ∀ k ∈ is, k ∈ vs) : L2.wipe σ' vs = L2.wipe σ vs := by
  apply List.ext_getElem?
  intro k
  have hl : σ'.length = σ.length := by rw [o.1, wipe_length]
  by_cases h : k ∈ vs
  · rw [wipe_in h, wipe_in h, hl]
  · rw [wipe_get h, wipe_get h, o.2 k (fun z => h (sub k z)), wipe_get h]
def tGt (K : PySem.W.Frag) (pa : Plc) (is : List Nat) (b : D → S → Option S) : TG := fun v σ H R => ∃ F s d s', Rep K pa F H σ s ∧ Den K F v d ∧ b d s = some s' ∧ ∀ σ', Step pa F H σ s F H σ' s' → Rep K pa F H σ' s' → Only is σ σ' → R σ' H
def tGts (K : PySem.W.Frag) (pa : Plc) (is : List Nat) (b : List D → S → Option S) : TGs := fun v σ H R => ∃ F s d s', Rep K pa F H σ s ∧ DenAll K F v d ∧ b d s = some s' ∧ ∀ σ', Step pa F H σ s F H σ' s' → Rep K pa F H σ' s' → Only is σ σ' → R σ' H
def bName (i : Nat) : D → S → Option S := fun d s => some (s.put i (some (.d d)))
def bNil : List D → S → Option S
  | [], s => some s
  | _ :: _, _ => none
def bCons (b : D → S → Option S) (bs : List D → S → Option S) : List D → S → Option S
  | d :: ds, s => match b d s with
    | some s1 => bs ds s1
    | none => none
  | [], _ => none
def bTup (n : Nat) (bs : List D → S → Option S) : D → S → Option S
  | .tup ds, s => if ds.length = n then bs ds s else none
  | _, _ => none
theorem _root_.L2.PG.mono {X : Cx} {e : Expr} {t u : TG} (h : PG X e t) (m : ∀ v σ H R, u v σ H R → t v σ H R) : PG X e u := ⟨fun pins s σ H v w R I r z => h.run pins s σ H v w R I r (m v σ H R z)⟩
theorem _root_.L2.PGs.mono {X : Cx} {e : List Expr} {t u : TGs} (h : PGs X e t) (m : ∀ v σ H R, u v σ H R → t v σ H R) : PGs X e u := ⟨fun pins s σ H v w R I r z => h.run pins s σ H v w R I r (m v σ H R z)⟩
theorem _root_.L2.PI.mono {X : Cx} {e f : Expr} {t u : TI} (h : PI X e f t) (m : ∀ σ H R, u σ H R → t σ H R) : PI X e f u := ⟨fun pins s σ H R I z => h.run pins s σ H R I (m σ H R z)⟩
theorem _root_.L2.PI.or {X : Cx} {e f : Expr} {t u : TI} (h : PI X e f t) (h2 : PI X e f u) : PI X e f (fun σ H R => t σ H R ∨ u σ H R) := ⟨fun pins s σ H R I z => z.elim (h.run pins s σ H R I) (h2.run pins s σ H R I)⟩
section
variable {X : Cx} {K : PySem.W.Frag} {pa : Plc} {W : L2.St → XK} {a b c tg : Expr} {fa fb fc : S → Rs D} {pos p p2 : Pos} {es : List Expr} {fr : S → Rs (List D)}
theorem qg_name {i : Nat} {x : Str} (hN : X.N.Nodup) (hi : X.N[i]? = some x) (hx : Loc X.env.scope x) (hf : X.fn x = true ∨ X.env.scope.names.lookup x = some .local := by first | exact .inl rfl | exact .inr rfl | assumption) : PG X (.Name x pos) (tGt K pa [i] (bName i)) := by
  refine (pg_name hN hi hx hf).mono ?_
  rintro v σ H R ⟨F, s, d, s', rep, dv, e, h⟩
  cases e
  exact h _ (Step.refl.putD i _ _) (rep.putD i dv) Only.set
theorem qgs_nil : PGs X [] (tGts K pa [] bNil) := by
  refine pgs_nil.mono ?_
  rintro v σ H R ⟨F, s, d, s', rep, dv, e, h⟩
  cases dv with
  | nil =>
    cases e
    exact ⟨rfl, h _ Step.refl rep Only.refl⟩
  | cons _ _ => cases e
theorem qgs_cons {e : Expr} {is js : List Nat} {b : D → S → Option S} {bs : List D → S → Option S} (h1 : PG X e (tGt K pa is b)) (h2 : PGs X es (tGts K pa js bs))
    (hs : (assignEach (e :: es) X.env).map (·.2) = assign e X.env :: (assignEach es X.env).map (·.2) := by rfl) : PGs X (e :: es) (tGts K pa (is ++ js) (bCons b bs)) := by
  refine (pgs_cons h1 h2 hs).mono ?_
  rintro v σ H R ⟨F, s, d, s', rep, dv, e, h⟩
  cases dv with
  | nil => cases e
  | cons dv dr =>
    rename_i d ds
    dsimp only [bCons] at e
    cases q : b d s with
    | none =>
      rw [q] at e
      cases e
    | some s1 =>
      rw [q] at e
      refine ⟨_, _, rfl, F, s, d, s1, rep, dv, q, fun σ1 st1 rep1 o1 => ⟨F, s1, ds, s', rep1, dr, e, fun σ2 st2 rep2 o2 => h σ2 (st1.trans st2) rep2 (o1.trans o2)⟩⟩
theorem qg_tup {k n : Nat} {is : List Nat} {bs : List D → S → Option S} (ek : X.K = K) (hc : X.calm = true) (h : PGs X es (tGts K pa is bs)) (hn : (assignEach es X.env).length = n := by rfl) (hst : (assignEach es X.env).findIdx? (·.1) = none := by rfl) : PG X (.Tuple es k pos) (tGt K pa is (bTup n bs)) := by
  subst ek
  refine (pg_tup hc h hn hst).mono ?_
  rintro v σ H R ⟨F, s, d, s', rep, dv, e, h⟩
  cases dv with
  | @tup a vs ds q r =>
    dsimp only [bTup] at e
    by_cases hl : ds.length = n
    · rw [if_pos hl] at e
      exact ⟨a, vs, rfl, rep.sub.sqT q, r.length.trans hl, F, s, ds, s', rep, r, e, h⟩
    · rw [if_neg hl] at e
      cases e
  | _ => cases e
/-- target = e -/
def sAsg (b : D → S → Option S) (fa : S → Rs D) : S → Ro := fun s => (fa s).st fun d s1 => match b d s1 with
  | some s2 => .nx s2
  | none => .no
theorem q_asg {is : List Nat} {b : D → S → Option S} (he : PE X a (tV K pa W fa)) (hg : PG X tg (tGt K pa is b)) (hs : swapsWithSole [tg] a pos.line X.env = pure false := by rfl) (hw : swappedStores [tg] a X.env = pure none := by rfl)
    (h1 : (assignEach [tg] X.env).map (·.2) = [assign tg X.env] := by rfl) : PS X (.Assign [tg] a pos) (tS K pa W (sAsg b fa)) := by
  refine (ps_asg he hg hs hw h1).mono ?_
  rintro E σ H ⟨F, s, rep, h⟩
  refine ⟨F, s, rep, (FinS.st h).mono ?_⟩
  rintro v H1 ⟨F1, s1, x, st1, rep1, dv, h1⟩
  cases q : b x s1 with
  | none =>
    rw [q] at h1
    exact h1.elim
  | some s2 =>
    rw [q] at h1
    exact ⟨F1, s1, x, s2, rep1, dv, q, fun σ' st rp _ => h1 _ _ _ st rp⟩
/-! ### what is walked -/
structure IterOf (K : PySem.W.Frag) (F H : Hp) (J : It) (ds : List D) : Prop where
  ex : ∃ (G : Hp → Prop) (Y : Nat → Hp → V → Hp → Prop), Walk J ds.length G Y ∧ (∀ F' H', Le F F' → Sub F' H' → (∀ a o, F a ≠ none → H a = some o → NoTab o → H' a = some o) → G H') ∧
    ∀ i F' H' x H'', Le F F' → Sub F' H' → (∀ a o, F a ≠ none → H a = some o → NoTab o → H' a = some o) → Y i H' x H'' → ∃ d F'', ds[i]? = some d ∧ Ext F' H' F'' H'' ∧ Den K F'' x d
def dI (K : PySem.W.Frag) : Hp → Hp → It → List D → Prop := fun F H J ds => IterOf K F H J ds
abbrev tVI (K : PySem.W.Frag) (pa : Plc) (W : L2.St → XK) (f : S → Rs (List D)) : TI := tG (dI K) K pa W f
def chars (x : Str) : List D := x.cps.toList.map fun c => .str ⟨#[c]⟩
def iterD : D → Option (List D)
  | .lst xs => some xs
  | .tup xs => some xs
  | .str x => some (chars x)
  | _ => none
def mIter (g : D → Option (List D)) (fa : S → Rs D) : S → Rs (List D) := fun s => (fa s).bind fun x s1 => liftO (g x) s1
theorem iter_list {F H : Hp} {a : Addr} {vs : List V} {ds : List D} (h : F a = some (.lst vs)) (r : DenAll K F vs ds) : IterOf K F H (Itl K a) ds := by
  refine ⟨_, _, by rw [← r.length]; exact walk_list (xs := vs), fun F' H' le s _ => s.sqL (le _ _ h), fun i F' H' x H'' le s _ y => ?_⟩
  obtain ⟨rfl, e⟩ := y
  obtain ⟨d, e1, e2⟩ := (r.mono le).get e
  exact ⟨d, F', e1, Ext.refl s, e2⟩
theorem iter_tup {F H : Hp} {a : Addr} {vs : List V} {ds : List D} (h : F a = some (.tup vs) ∨ ∀ H, SqT K H a vs) (r : DenAll K F vs ds) : IterOf K F H (Itt K a) ds := by
  refine ⟨_, _, by rw [← r.length]; exact walk_tup (xs := vs), fun F' H' le s _ => s.sqT (h.imp (le _ _) id), fun i F' H' x H'' le s _ y => ?_⟩
  obtain ⟨rfl, e⟩ := y
  obtain ⟨d, e1, e2⟩ := (r.mono le).get e
  exact ⟨d, F', e1, Ext.refl s, e2⟩
theorem iter_str {F H : Hp} {z : Str} : IterOf K F H (Its z) (chars z) := by
  refine ⟨_, _, by rw [show (chars z).length = z.cps.size by simp [chars]]; exact walk_str (z := z), fun _ _ _ _ _ => trivial, fun i F' H' x H'' le s _ y => ?_⟩
  obtain ⟨rfl, c, e, rfl⟩ := y
  refine ⟨_, F', ?_, Ext.refl s, .str _⟩
  unfold chars
  rw [List.getElem?_map, Array.getElem?_toList, e]
  rfl
theorem qi_any (ek : X.K = K) (h : PE X a (tV K pa W fa)) : PI X tg a (tVI K pa W (mIter iterD fa)) := by
  subst ek
  refine (PI.or (pi_list h) (PI.or (pi_tup h) (pi_str h))).mono ?_
  rintro σ H R ⟨F, s, rep, h⟩
  unfold mIter at h
  cases e : fa s with
  | no =>
    rw [e] at h
    exact h.elim
  | ex c d s1 =>
    rw [e] at h
    refine .inl ⟨F, s, rep, ?_⟩
    rw [e]
    exact h
  | ok x s1 =>
    rw [e] at h
    have h : Fin (dI X.K) X.K pa W F H σ s (liftO (iterD x) s1) R := h
    cases x with
    | lst xs =>
      refine .inl ⟨F, s, rep, ?_⟩
      rw [e]
      intro v H1 F1 st1 rep1 dv
      have dv : Den X.K F1 v (.lst xs) := dv
      cases dv with
      | lst q r => exact ⟨_, rfl, ⟨_, rep1.sub.sqL q⟩, h _ _ _ st1 rep1 (iter_list q r)⟩
    | tup xs =>
      refine .inr (.inl ⟨F, s, rep, ?_⟩)
      rw [e]
      intro v H1 F1 st1 rep1 dv
      have dv : Den X.K F1 v (.tup xs) := dv
      cases dv with
      | tup q r => exact ⟨_, rfl, ⟨_, rep1.sub.sqT q⟩, h _ _ _ st1 rep1 (iter_tup q r)⟩
    | str z =>
      refine .inr (.inr ⟨F, s, rep, ?_⟩)
      rw [e]
      intro v H1 F1 st1 rep1 dv
      have dv : Den X.K F1 v (.str z) := dv
      cases dv
      exact ⟨z, rfl, h _ _ _ st1 rep1 iter_str⟩
    | _ => exact h.elim
def rangeD (lo : Int) (n : Nat) : List D := (List.range n).map fun i => .int (lo + (i : Nat))
theorem iter_range {F H : Hp} {lo : Int} {n : Nat} : IterOf K F H (Itr lo n) (rangeD lo n) := by
  refine ⟨_, _, by rw [show (rangeD lo n).length = n by simp [rangeD]]; exact (walk_range (lo := lo) (n := n)).mono (Y' := fun i H x H' => (H' = H ∧ x = .int (lo + i)) ∧ i < n) (fun _ h => h) (fun i H x H' hi _ y => ⟨y, hi⟩), fun _ _ _ _ _ => trivial, fun i F' H' x H'' le s _ y => ?_⟩
  obtain ⟨⟨rfl, rfl⟩, hi⟩ := y
  refine ⟨_, F', ?_, Ext.refl s, .int _⟩
  unfold rangeD
  rw [List.getElem?_map, List.getElem?_range hi]
  rfl
def mRng1 (fr : S → Rs (List D)) : S → Rs (List D) := fun s => (fr s).bind fun xs s1 => match xs with
  | [.int n] => if -1000000 ≤ n ∧ n ≤ 1000000 then .ok (rangeD 0 n.toNat) s1 else .no
  | _ => .no
def mRng2 (fr : S → Rs (List D)) : S → Rs (List D) := fun s => (fr s).bind fun xs s1 => match xs with
  | [.int m, .int n] => if -1000000 ≤ n ∧ n ≤ 1000000 ∧ -1000000 ≤ m ∧ m ≤ 1000000 then .ok (rangeD m (n - m).toNat) s1 else .no
  | _ => .no
theorem qi_range1 (hg : Gl X "range") (hm : X.mg "range" = none) (ha : PA X [a] (tVA K pa W fr)) (hs : starEach [a] X.env = [(false, eval a X.env)] := by rfl) : PI X tg (.Call (.Name "range" p) [a] [] pos) (tVI K pa W (mRng1 fr)) := by
  refine (pi_range1 hg hm ha hs).mono ?_
  rintro σ H R ⟨F, s, rep, h⟩
  refine ⟨F, s, rep, (Fin.bind h).mono ?_⟩
  rintro vs H1 ⟨F1, s1, xs, st1, rep1, dv, h1⟩
  have dv : DenAll K F1 vs xs := dv
  match xs, h1, dv with
  | [.int n], h1, dv =>
    obtain ⟨v, rfl, d1⟩ := dv.one
    cases d1
    dsimp only at h1
    by_cases hl : -1000000 ≤ n ∧ n ≤ 1000000
    · rw [if_pos hl] at h1
      exact ⟨n, rfl, by omega, by omega, h1 _ _ _ Step.refl rep1 iter_range⟩
    · rw [if_neg hl] at h1
      exact h1.elim
theorem qi_range2 (hg : Gl X "range") (hm : X.mg "range" = none) (ha : PA X [a, b] (tVA K pa W fr)) (hs : starEach [a, b] X.env = [(false, eval a X.env), (false, eval b X.env)] := by rfl) (hs2 : starEach [b] X.env = [(false, eval b X.env)] := by rfl) : PI X tg (.Call (.Name "range" p) [a, b] [] pos) (tVI K pa W (mRng2 fr)) := by
  refine (pi_range2 hg hm ha hs hs2).mono ?_
  rintro σ H R ⟨F, s, rep, h⟩
  refine ⟨F, s, rep, (Fin.bind h).mono ?_⟩
  rintro vs H1 ⟨F1, s1, xs, st1, rep1, dv, h1⟩
  have dv : DenAll K F1 vs xs := dv
  match xs, h1, dv with
  | [.int m, .int n], h1, dv =>
    obtain ⟨v, w, rfl, d1, d2⟩ := dv.two
    cases d1
    cases d2
    dsimp only at h1
    by_cases hl : -1000000 ≤ n ∧ n ≤ 1000000 ∧ -1000000 ≤ m ∧ m ≤ 1000000
    · rw [if_pos hl] at h1
      exact ⟨m, n, rfl, by omega, h1 _ _ _ Step.refl rep1 iter_range⟩
    · rw [if_neg hl] at h1
      exact h1.elim
def pairD (x y : D) : D := .tup [x, y]
theorem ext_pair {F H : Hp} {T : Addr} {x y : V} {d e : D} (s : Sub F H) (n : H T = none) (hx : Den K F x d) (hy : Den K F y e) : Ext F H (upd F T (.tup [x, y])) (upd H T (.tup [x, y])) ∧ Den K (upd F T (.tup [x, y])) (.ref T) (pairD d e) :=
  ⟨Ext.laid s n, .tup (.inl upd_same) (.cons (hx.mono (upd_le (s.isN n))) (.cons (hy.mono (upd_le (s.isN n))) .nil))⟩
def zipD (xs ys : List D) : List D := List.zipWith pairD xs ys
theorem iter_zip {F H : Hp} {a b : Addr} {vs ws : List V} {ds es : List D} (h : F a = some (.lst vs)) (r : DenAll K F vs ds) (h2 : F b = some (.lst ws)) (r2 : DenAll K F ws es) : IterOf K F H (Itz K a b) (zipD ds es) := by
  refine ⟨_, _, walk_zip (xs := vs) (ys := ws) (by simp [zipD, r.length, r2.length]), fun F' H' le s _ => ⟨s.sqL (le _ _ h), s.sqL (le _ _ h2)⟩, fun i F' H' x H'' le s _ y => ?_⟩
  obtain ⟨T, u, v, rfl, n, rfl, e1, e2⟩ := y
  obtain ⟨d, q1, q2⟩ := (r.mono le).get e1
  obtain ⟨e, q3, q4⟩ := (r2.mono le).get e2
  obtain ⟨x1, x2⟩ := ext_pair s n q2 q4
  exact ⟨pairD d e, _, by simp [zipD, List.getElem?_zipWith, q1, q3], x1, x2⟩
theorem walk_zipT {a b : Addr} {xs ys : List V} {n : Nat} (hn : n = min xs.length ys.length) : Walk (RZ.ItzT K a b) n (fun H => SqT K H a xs ∧ SqT K H b ys) (YPair (fun i => xs[i]?) (fun i => ys[i]?)) := by
  subst hn
  refine ⟨fun i _ hi q => ?_, fun _ q => ⟨xs, ys, q.1, q.2, by omega⟩, fun i H v H' _ q y => ?_⟩
  · have h1 : i < xs.length := by omega
    have h2 : i < ys.length := by omega
    exact ⟨xs, ys, xs[i], ys[i], q.1, q.2, by simp [h1], by simp [h2]⟩
  · obtain ⟨T, x, z, h1, h2, h3, h4, h5⟩ := y
    exact ⟨T, x, z, h1, h2, h3, h4 xs q.1, h5 ys q.2⟩
theorem iter_zipT {F H : Hp} {a b : Addr} {vs ws : List V} {ds es : List D} (h : F a = some (.tup vs) ∨ ∀ H, SqT K H a vs) (r : DenAll K F vs ds) (h2 : F b = some (.tup ws) ∨ ∀ H, SqT K H b ws) (r2 : DenAll K F ws es) : IterOf K F H (RZ.ItzT K a b) (zipD ds es) := by
  refine ⟨_, _, walk_zipT (xs := vs) (ys := ws) (by simp [zipD, r.length, r2.length]), fun F' H' le s _ => ⟨s.sqT (h.imp (le _ _) id), s.sqT (h2.imp (le _ _) id)⟩, fun i F' H' x H'' le s _ y => ?_⟩
  obtain ⟨T, u, v, rfl, n, rfl, e1, e2⟩ := y
  obtain ⟨d, q1, q2⟩ := (r.mono le).get e1
  obtain ⟨e, q3, q4⟩ := (r2.mono le).get e2
  obtain ⟨x1, x2⟩ := ext_pair s n q2 q4
  exact ⟨pairD d e, _, by simp [zipD, List.getElem?_zipWith, q1, q3], x1, x2⟩
def mZip (fr : S → Rs (List D)) : S → Rs (List D) := fun s => (fr s).bind fun xs s1 => match xs with
  | [.lst xs, .lst ys] => .ok (zipD xs ys) s1
  | [.tup xs, .tup ys] => .ok (zipD xs ys) s1
  | _ => .no
theorem qi_zip {e2 : Expr} {elts : List Expr} {kk : Nat} {tpos : Pos} (ek : X.K = K) (hg : Gl X "zip") (hm : X.mg "zip" = none) (ha : PA X [a, e2] (tVA K pa W fr)) (hs : starEach [a, e2] X.env = (false, eval a X.env) :: starEach [e2] X.env := by rfl) (hpl : (backTo pos (starEach [e2] X.env)).any (·.1) = false := by rfl) :
    PI X (.Tuple elts kk tpos) (.Call (.Name "zip" p) [a, e2] [] pos) (tVI K pa W (mZip fr)) := by
  subst ek
  refine (RZ.pi_zipA hg hm ha hs hpl).mono ?_
  rintro σ H R ⟨F, s, rep, h⟩
  refine ⟨F, s, rep, (Fin.bind h).mono ?_⟩
  rintro vs H1 ⟨F1, s1, xs, st1, rep1, dv, h1⟩
  have dv : DenAll X.K F1 vs xs := dv
  match xs, h1, dv with
  | [.lst xs, .lst ys], h1, dv =>
    obtain ⟨v, w, rfl, d1, d2⟩ := dv.two
    cases d1 with
    | lst q r =>
      cases d2 with
      | lst q2 r2 => exact ⟨_, _, _, _, rfl, .inl ⟨rep1.sub.sqL q, rep1.sub.sqL q2, h1 _ _ _ Step.refl rep1 (iter_zip q r q2 r2)⟩⟩
  | [.tup xs, .tup ys], h1, dv =>
    obtain ⟨v, w, rfl, d1, d2⟩ := dv.two
    cases d1 with
    | tup q r =>
      cases d2 with
      | tup q2 r2 => exact ⟨_, _, _, _, rfl, .inr ⟨rep1.sub.sqT q, rep1.sub.sqT q2, h1 _ _ _ Step.refl rep1 (iter_zipT q r q2 r2)⟩⟩
def enumD (lo : Nat) : List D → List D
  | [] => []
  | d :: ds => pairD (.int (lo : Nat)) d :: enumD (lo + 1) ds
theorem enumD_get {d : D} : ∀ {ds : List D} {lo i : Nat}, ds[i]? = some d → (enumD lo ds)[i]? = some (pairD (.int ((lo + i : Nat) : Int)) d)
  | [], _, _, e => by simp at e
  | x :: xs, lo, 0, e => by
    simp at e
    subst e
    rfl
  | x :: xs, lo, i + 1, e => by
    have := enumD_get (lo := lo + 1) (i := i) (ds := xs) (by simpa using e)
    have e2 : lo + 1 + i = lo + (i + 1) := by omega
    rw [e2] at this
    simpa [enumD] using this
theorem enumD_len : ∀ {ds : List D} {lo : Nat}, (enumD lo ds).length = ds.length
  | [], _ => rfl
  | _ :: _, _ => congrArg (· + 1) enumD_len
theorem iter_enum {F H : Hp} {a : Addr} {vs : List V} {ds : List D} (h : F a = some (.lst vs)) (r : DenAll K F vs ds) : IterOf K F H (Ite K a) (enumD 0 ds) := by
  refine ⟨_, _, by rw [enumD_len, ← r.length]; exact walk_enum (xs := vs), fun F' H' le s _ => s.sqL (le _ _ h), fun i F' H' x H'' le s _ y => ?_⟩
  obtain ⟨T, u, v, rfl, n, rfl, e1, e2⟩ := y
  cases e1
  obtain ⟨d, q1, q2⟩ := (r.mono le).get e2
  obtain ⟨x1, x2⟩ := ext_pair (x := .int (i : Nat)) s n (.int _) q2
  exact ⟨_, _, by rw [enumD_get q1, Nat.zero_add], x1, x2⟩
def mEnum (fr : S → Rs (List D)) : S → Rs (List D) := fun s => (fr s).bind fun xs s1 => match xs with
  | [.lst xs] => .ok (enumD 0 xs) s1
  | _ => .no
theorem qi_enum {elts : List Expr} {kk : Nat} {tpos : Pos} (ek : X.K = K) (hg : Gl X "enumerate") (hm : X.mg "enumerate" = none) (ha : PA X [a] (tVA K pa W fr)) (hs : starEach [a] X.env = [(false, eval a X.env)] := by rfl) :
    PI X (.Tuple elts kk tpos) (.Call (.Name "enumerate" p) [a] [] pos) (tVI K pa W (mEnum fr)) := by
  subst ek
  refine (pi_enum hg hm ha hs).mono ?_
  rintro σ H R ⟨F, s, rep, h⟩
  refine ⟨F, s, rep, (Fin.bind h).mono ?_⟩
  rintro vs H1 ⟨F1, s1, xs, st1, rep1, dv, h1⟩
  have dv : DenAll X.K F1 vs xs := dv
  match xs, h1, dv with
  | [.lst xs], h1, dv =>
    obtain ⟨v, rfl, d1⟩ := dv.one
    cases d1 with
    | lst q r => exact ⟨_, _, rfl, rep1.sub.sqL q, h1 _ _ _ Step.refl rep1 (iter_enum q r)⟩
/-! ### for -/
def forL (b : D → S → Option S) (body : S → Ro) : List D → S → Ro
  | [], s => .nx s
  | d :: ds, s => match b d s with
    | none => .no
    | some s1 => match body s1 with
      | .nx s2 => forL b body ds s2
      | .ct s2 => forL b body ds s2
      | .bk s2 => .nx s2
      | .rt d s2 => .rt d s2
      | .ex c v s2 => .ex c v s2
      | .no => .no
def sFor (fi : S → Rs (List D)) (b : D → S → Option S) (body : S → Ro) : S → Ro := fun s => (fi s).st fun ds s1 => forL b body ds s1
theorem frozen_not_own {F H : Hp} {σ : L2.St} {s : S} (rep : Rep K pa F H σ s) {a : Addr} (h : F a ≠ none) : ¬ OwnA pa σ s a := by
  rintro (⟨i, h1, y, h2, h3⟩ | ⟨hp, e⟩)
  · obtain ⟨v, q1, q2⟩ := rep.slot i y h2
    rw [h1] at q1
    cases q1
    cases y with
    | l xs => exact h q2.1
    | k ks xs => exact h q2.1
    | d _ => cases h3
    | p => cases h3
  · exact h ((rep.pot hp).1 a e)
def ForJ (J : It) (g : TG) (tb : TS) (E : Ends) (σ : L2.St) (H : Hp) : Prop := ∃ W : Nat → Nat → L2.St → Hp → Prop, (∃ m, W 0 m σ H) ∧ ∀ i m σ H, W i m σ H →
  (J.stop i H ∧ E.nx σ H) ∨ (J.go i H ∧ ∃ N : L2.St → Hp → Prop, (∀ σ' H', N σ' H' → ∃ m', m' < m ∧ W (i + 1) m' σ' H') ∧ ∀ x H', J.yld i H x H' → g x σ H' fun σ2 H2 => tb { E with nx := N, ct := N, bk := E.nx } σ2 H2)
theorem for_core {is : List Nat} {b : D → S → Option S} {g : S → Ro} {J : It} {ds : List D} {F1 H1 : Hp} {σ : L2.St} {s1 : S} {E : Ends} (rep1 : Rep K pa F1 H1 σ s1) (it : IterOf K F1 H1 J ds) (h1 : FinS K pa W F1 H1 σ s1 (forL b g ds s1) E) : ForJ J (tGt K pa is b) (tS K pa W g) E σ H1 := by
  obtain ⟨G, Y, w, hG, hY⟩ := it
  refine for_it w (fun i σ' H' => ∃ F' s', Step pa F1 H1 σ s1 F' H' σ' s' ∧ Rep K pa F' H' σ' s' ∧ FinS K pa W F' H' σ' s' (forL b g (ds.drop i) s') E) ⟨F1, s1, Step.refl, rep1, h1⟩ ?_ ?_ ?_
  · rintro i σ' H' _ ⟨F', s', st, rp, _⟩
    exact hG F' H' st.le rp.sub fun a o n e nt => st.at e (frozen_not_own rep1 n) nt
  · rintro i x σ' H' H'' hi ⟨F', s', st, rp, fin⟩ y
    obtain ⟨d, F'', e, ext, dv⟩ := hY i F' H' x H'' st.le rp.sub (fun a o n e nt => st.at e (frozen_not_own rep1 n) nt) y
    have hd : ds.drop i = d :: ds.drop (i + 1) := by
      rw [List.drop_eq_getElem_cons hi]
      congr 1
      have := List.getElem?_eq_getElem hi
      rw [e] at this
      exact (Option.some.inj this).symm
    rw [hd] at fin
    unfold forL at fin
    cases q : b d s' with
    | none =>
      rw [q] at fin
      exact fin.elim
    | some s2 =>
      rw [q] at fin
      dsimp only at fin
      have st2 : Step pa F' H' σ' s' F'' H'' σ' s' := ext.step
      refine ⟨F'', s', d, s2, rp.ext ext, dv, q, fun σ2 st3 rp2 _ => ⟨F'', s2, rp2, ?_⟩⟩
      have stA : Step pa F1 H1 σ s1 F'' H'' σ2 s2 := st.trans (st2.trans st3)
      have finB := FinS.shift (st2.trans st3) fin
      cases q2 : g s2 with
      | nx s3 =>
        rw [q2] at finB
        exact fun σ4 H4 F4 st4 rp4 => ⟨F4, s3, stA.trans st4, rp4, FinS.shift st4 finB⟩
      | ct s3 =>
        rw [q2] at finB
        exact fun σ4 H4 F4 st4 rp4 => ⟨F4, s3, stA.trans st4, rp4, FinS.shift st4 finB⟩
      | bk s3 =>
        rw [q2] at finB
        exact finB
      | rt d s3 =>
        rw [q2] at finB
        exact finB
      | ex c v s3 =>
        rw [q2] at finB
        exact finB
      | no =>
        rw [q2] at finB
        exact finB.elim
  · rintro σ' H' ⟨F', s', st, rp, fin⟩
    rw [List.drop_length] at fin
    exact fin _ _ _ Step.refl rp
theorem q_for {iter : Expr} {body : List Stmt} {fi : S → Rs (List D)} {is : List Nat} {b : D → S → Option S} {g : S → Ro} (hp : PassesOwn (model X.prog X.w) X.A X.env X.xe) (hc : X.calm = true) (hi : PI X tg iter (tVI K pa W fi)) (hg : PG X tg (tGt K pa is b)) (hb : PSs X body (tS K pa W g))
    (hs : ∀ x, foldedSetIterable iter X.env x = pure x := by intro _; rfl) : PS X (.For tg iter body [] pos) (tS K pa W (sFor fi b g)) := by
  refine (ps_for hp hc hi hg hb hs).mono ?_
  rintro E σ H ⟨F, s, rep, h⟩
  refine ⟨F, s, rep, (FinS.st h).mono ?_⟩
  rintro J H1 ⟨F1, s1, ds, st1, rep1, it, h1⟩
  exact for_core rep1 it h1
/-! ### comprehensions -/
def restE (e e0 : Env') : List Nat → Env'
  | [] => e
  | v :: vs => (restE e e0 vs).set v (match e0[v]? with
    | some (some (.d x)) => some (.d x)
    | _ => none)
def wipeE (e : Env') : List Nat → Env'
  | [] => e
  | v :: vs => (wipeE e vs).set v none
def S.wipe (s : S) (vs : List Nat) : S := { s with e := wipeE s.e vs }
def S.back (s s0 : S) (vs : List Nat) : S := { s with e := restE s.e s0.e vs }
def compL (b : D → S → Option S) (t : S → Rs Bool) (f : S → Rs D) (vs : List Nat) : List D → S → Rs (List D)
  | [], s => .ok [] s
  | d :: ds, s => match b d (s.wipe vs) with
    | none => .no
    | some s1 => match t s1 with
      | .ok true s2 => (match f s2 with
        | .ok y s3 => (match compL b t f vs ds (s3.back s vs) with
          | .ok ys s4 => .ok (y :: ys) s4
          | _ => .no)
        | _ => .no)
      | .ok false s2 => compL b t f vs ds (s2.back s vs)
      | _ => .no
def mComp (fi : S → Rs (List D)) (b : D → S → Option S) (t : S → Rs Bool) (f : S → Rs D) (vs : List Nat) : S → Rs LV := fun s => (fi s).bind fun ds s1 => if ds.length ≤ 100000 then (compL b t f vs ds s1).bind fun ys s2 => .ok (.l ys) s2 else .no
def mYes : S → Rs Bool := fun s => .ok true s
theorem wipeE_get {e : Env'} {k : Nat} : ∀ {vs : List Nat}, k ∉ vs → (wipeE e vs)[k]? = e[k]?
  | [], _ => rfl
  | v :: vs, h => by
    unfold wipeE
    rw [List.getElem?_set_ne (fun z => h (by simp [z]))]
    exact wipeE_get (fun z => h (List.mem_cons_of_mem _ z))
theorem wipeE_some {e : Env'} {k : Nat} {x : LV} : ∀ {vs : List Nat}, (wipeE e vs)[k]? = some (some x) → k ∉ vs ∧ e[k]? = some (some x)
  | [], h => ⟨by simp, h⟩
  | v :: vs, h => by
    unfold wipeE at h
    rcases set_cases h with ⟨_, z, _⟩ | ⟨n, z⟩
    · cases z
    · obtain ⟨h1, h2⟩ := wipeE_some z
      exact ⟨by simp only [List.mem_cons, not_or]; exact ⟨n, h1⟩, h2⟩
theorem wipeE_len {e : Env'} : ∀ {vs : List Nat}, (wipeE e vs).length = e.length
  | [] => rfl
  | v :: vs => by
    unfold wipeE
    rw [List.length_set, wipeE_len]
theorem restE_len {e e0 : Env'} : ∀ {vs : List Nat}, (restE e e0 vs).length = e.length
  | [] => rfl
  | v :: vs => by
    unfold restE
    rw [List.length_set, restE_len]
theorem restE_some {e e0 : Env'} {k : Nat} {x : LV} : ∀ {vs : List Nat}, (restE e e0 vs)[k]? = some (some x) → (k ∉ vs ∧ e[k]? = some (some x)) ∨ (∃ d, x = .d d ∧ e0[k]? = some (some (.d d)))
  | [], h => .inl ⟨by simp, h⟩
  | v :: vs, h => by
    unfold restE at h
    rcases set_cases h with ⟨e1, z, _⟩ | ⟨n, z⟩
    · subst e1
      refine .inr ?_
      cases q : e0[k]? with
      | none =>
        rw [q] at z
        cases z
      | some o =>
        cases o with
        | none =>
          rw [q] at z
          cases z
        | some y =>
          cases y with
          | d d =>
            rw [q] at z
            cases z
            exact ⟨d, rfl, rfl⟩
          | _ =>
            rw [q] at z
            cases z
    · rcases restE_some z with ⟨h1, h2⟩ | h2
      · exact .inl ⟨by simp only [List.mem_cons, not_or]; exact ⟨n, h1⟩, h2⟩
      · exact .inr h2
theorem Owns.wipe {σ : L2.St} {e : Env'} {vs : List Nat} {i : Nat} {a : Addr} (h : Owns (L2.wipe σ vs) (wipeE e vs) i a) : Owns σ e i a := by
  obtain ⟨h1, y, h2, h3⟩ := h
  exact ⟨(wipe_some h1).1, y, (wipeE_some h2).2, h3⟩
theorem OwnA.wipe {σ : L2.St} {s : S} {vs : List Nat} {a : Addr} (h : OwnA pa (L2.wipe σ vs) (s.wipe vs) a) : OwnA pa σ s a := by
  rcases h with ⟨i, h⟩ | ⟨⟨i, h⟩, e⟩
  · exact .inl ⟨i, h.wipe⟩
  · exact .inr ⟨⟨i, (wipeE_some h).2⟩, e⟩
theorem Rep.wipe {F H : Hp} {σ : L2.St} {s : S} (rep : Rep K pa F H σ s) (vs : List Nat) : Rep K pa F H (L2.wipe σ vs) (s.wipe vs) := by
  refine ⟨rep.sub, ?_, fun i x h => ?_, fun i j a h1 h2 => rep.uniq i j a h1.wipe h2.wipe, fun h => ?_⟩
  · show (L2.wipe σ vs).length = (wipeE s.e vs).length
    rw [wipe_length, wipeE_len, rep.len]
  · obtain ⟨n, h1⟩ := wipeE_some h
    obtain ⟨v, q1, q2⟩ := rep.slot i x h1
    exact ⟨v, by rw [wipe_get n]; exact q1, q2⟩
  · obtain ⟨i, h⟩ := h
    obtain ⟨q1, q2, q3⟩ := rep.pot ⟨i, (wipeE_some h).2⟩
    exact ⟨q1, q2, fun j b hb z => q3 j b hb z.wipe⟩
/-- behind an element: the block's own slots forgotten, the others as they are -/
theorem Rep.back {F H F2 H2 : Hp} {σ σ2 : L2.St} {s s2 : S} {vs : List Nat} (rep : Rep K pa F H σ s) (rep2 : Rep K pa F2 H2 σ2 s2) (le : Le F F2) (hw : L2.wipe σ2 vs = L2.wipe σ vs) : Rep K pa F2 H2 σ (s2.back s vs) := by
  have hl : σ2.length = σ.length := by
    have := congrArg List.length hw
    rwa [wipe_length, wipe_length] at this
  have same : ∀ k, k ∉ vs → σ2[k]? = σ[k]? := fun k n => by
    have this : (L2.wipe σ2 vs)[k]? = (L2.wipe σ vs)[k]? := congrArg (fun z : L2.St => z[k]?) hw
    rwa [wipe_get n, wipe_get n] at this
  have own : ∀ i a, Owns σ (s2.back s vs).e i a → Owns σ2 s2.e i a := fun i a ⟨h1, y, h2, h3⟩ => by
    rcases restE_some h2 with ⟨n, q⟩ | ⟨d, q, _⟩
    · exact ⟨by rw [same i n]; exact h1, y, q, h3⟩
    · subst q
      cases h3
  have hasp : HasP (s2.back s vs).e → HasP s2.e := fun ⟨i, h⟩ => by
    rcases restE_some h with ⟨n, q⟩ | ⟨d, q, _⟩
    · exact ⟨i, q⟩
    · cases q
  refine ⟨rep2.sub, ?_, fun i x h => ?_, fun i j a h1 h2 => rep2.uniq i j a (own i a h1) (own j a h2), fun h => ?_⟩
  · show σ.length = (restE s2.e s.e vs).length
    rw [restE_len, ← rep2.len, hl]
  · rcases restE_some h with ⟨n, q⟩ | ⟨d, q, q2⟩
    · obtain ⟨v, h1, h2⟩ := rep2.slot i x q
      exact ⟨v, by rw [← same i n]; exact h1, h2⟩
    · subst q
      obtain ⟨v, h1, h2⟩ := rep.slot i _ q2
      exact ⟨v, h1, by cases v <;> exact Den.mono le h2⟩
  · obtain ⟨q1, q2, q3⟩ := rep2.pot (hasp h)
    exact ⟨q1, q2, fun j b hb z => q3 j b hb (own j b z)⟩
theorem Step.back {F H F2 H2 : Hp} {σ σ2 : L2.St} {s s2 : S} {vs : List Nat} (st : Step pa F H (L2.wipe σ vs) (s.wipe vs) F2 H2 σ2 s2) (hw : L2.wipe σ2 vs = L2.wipe σ vs) : Step pa F H σ s F2 H2 σ (s2.back s vs) := by
  have same : ∀ k, k ∉ vs → σ2[k]? = σ[k]? := fun k n => by
    have this : (L2.wipe σ2 vs)[k]? = (L2.wipe σ vs)[k]? := congrArg (fun z : L2.St => z[k]?) hw
    rwa [wipe_get n, wipe_get n] at this
  refine ⟨st.le, fun a o h n => st.keep a o h fun z => n z.wipe, fun a h => (st.new a h).imp_right fun z => z.imp_right OwnA.wipe, fun a h => ?_⟩
  have h2 : OwnA pa σ2 s2 a := by
    rcases h with ⟨i, h1, y, h2, h3⟩ | ⟨⟨i, h⟩, e⟩
    · rcases restE_some h2 with ⟨n, q⟩ | ⟨d, q, _⟩
      · exact .inl ⟨i, by rw [same i n]; exact h1, y, q, h3⟩
      · subst q
        cases h3
    · rcases restE_some h with ⟨n, q⟩ | ⟨d, q, _⟩
      · exact .inr ⟨⟨i, q⟩, e⟩
      · cases q
  exact (st.own a h2).imp_left OwnA.wipe
abbrev W0 : L2.St → XK := fun _ _ _ _ => False
/-- the heap without a -/
def cutH (H : Hp) (a : Addr) : Hp := fun b => if b = a then none else H b
theorem cutH_upd {H : Hp} {a : Addr} {o : HO} (h : H a = some o) : upd (cutH H a) a o = H := by
  funext b
  unfold upd cutH
  by_cases e : b = a
  · rw [if_pos e, e, h]
  · rw [if_neg e, if_neg e]
theorem cutH_ne {H : Hp} {a b : Addr} (h : b ≠ a) : cutH H a b = H b := if_neg h
/-- a thing that no one holds is changed, or taken away -/
theorem Rep.aside {F H H' : Hp} {σ : L2.St} {s : S} {A : Addr} (rep : Rep K pa F H σ s) (hf : F A = none) (hn : ¬ OwnA pa σ s A) (hp : ∀ o', H A = some o' → Plain o') (same : ∀ b, b ≠ A → H' b = H b) : Rep K pa F H' σ s := by
  refine ⟨rep.sub.but hf hp same, rep.len, fun i x h => ?_, rep.uniq, fun h => ?_⟩
  · obtain ⟨v, h1, h2⟩ := rep.slot i x h
    refine ⟨v, h1, ?_⟩
    have nA : ∀ a, v = .ref a → x.own = true → a ≠ A := fun a e1 e2 e3 => by
      subst e1 e3
      exact hn (.inl ⟨i, h1, x, h, e2⟩)
    cases x with
    | d x => cases v <;> exact h2
    | l xs =>
      cases v with
      | ref a =>
        obtain ⟨q1, vs, q2, q3⟩ := h2
        exact ⟨q1, vs, by rw [same a (nA a rfl rfl)]; exact q2, q3⟩
      | _ => exact h2.elim
    | k ks xs =>
      cases v with
      | ref a =>
        obtain ⟨q1, vs, q2, q4, q3⟩ := h2
        exact ⟨q1, vs, by rw [same a (nA a rfl rfl)]; exact q2, q4, q3⟩
      | _ => exact h2.elim
    | p =>
      cases v with
      | ref a => exact h2
      | _ => exact h2.elim
  · obtain ⟨q1, q2, q3⟩ := rep.pot h
    exact ⟨q1, q2.to Le.refl (fun a o ha z _ => by rw [same a (fun e => hn (.inr ⟨h, by rw [← e]; exact ha⟩))]; exact z), q3⟩
theorem comp_core {vs : List Nat} {is : List Nat} {bd : D → S → Option S} {ft : S → Rs Bool} {fe : S → Rs D} {tt : TT} {J : It} {ds : List D} {F1 H1 : Hp} {σ : L2.St} {s1 : S} {Q : VK}
    (ht : ∀ σ H Q, tVB K pa W0 ft σ H Q → tt σ H Q) (hsub : ∀ k ∈ is, k ∈ vs) (rep1 : Rep K pa F1 H1 σ s1) (it : IterOf K F1 H1 J ds) (hl : ds.length ≤ 100000)
    (h : FinM K pa W F1 H1 σ s1 ((compL bd ft fe vs ds s1).bind fun ys s2 => .ok (.l ys) s2) Q) : LcJ J (tGt K pa is bd) tt (tV K pa W0 fe) vs σ H1 Q := by
  obtain ⟨G, Y, w, hG, hY⟩ := it
  intro A hA
  refine lc_it w (fun i H' => ∃ F' s' acc xs, Step pa F1 H1 σ s1 F' H' σ s' ∧ Rep K pa F' H' σ s' ∧ F' A = none ∧ ¬ OwnA pa σ s' A ∧ H' A = some (.lst acc) ∧ DenAll K F' acc xs ∧ acc.length ≤ i ∧
      ∃ ys sE, compL bd ft fe vs (ds.drop i) s' = .ok ys sE ∧ compL bd ft fe vs ds s1 = .ok (xs ++ ys) sE) ?_ ?_ ?_ ?_
  · cases q : compL bd ft fe vs ds s1 with
    | no =>
      rw [q] at h
      exact h.elim
    | ex c d s2 =>
      exfalso
      have nex : ∀ (l : List D) (s : S) (c : Str) (d : D) (s2 : S), compL bd ft fe vs l s ≠ .ex c d s2 := by
        intro l
        induction l with
        | nil => intro s c d s2 z; cases z
        | cons x l ih =>
          intro s c d s2 z
          unfold compL at z
          cases q1 : bd x (s.wipe vs) with
          | none => rw [q1] at z; cases z
          | some s3 =>
            rw [q1] at z
            dsimp only at z
            cases q2 : ft s3 with
            | no => rw [q2] at z; cases z
            | ex _ _ _ => rw [q2] at z; cases z
            | ok k s4 =>
              rw [q2] at z
              cases k with
              | false => exact ih _ _ _ _ z
              | true =>
                dsimp only at z
                cases q3 : fe s4 with
                | no => rw [q3] at z; cases z
                | ex _ _ _ => rw [q3] at z; cases z
                | ok y s5 =>
                  rw [q3] at z
                  dsimp only at z
                  cases q4 : compL bd ft fe vs l (s5.back s vs) with
                  | no => rw [q4] at z; cases z
                  | ex _ _ _ => rw [q4] at z; cases z
                  | ok _ _ => rw [q4] at z; cases z
      exact nex _ _ _ _ _ q
    | ok ys sE =>
      have ext : Ext F1 H1 F1 (upd H1 A (.lst [])) := Ext.fresh rep1.sub hA
      exact ⟨F1, s1, [], [], ext.step, rep1.ext ext, rep1.sub.isN hA, not_own_new rep1 hA, upd_same, .nil, Nat.zero_le _, ys, sE, q, rfl⟩
  · rintro i H' _ ⟨F', s', acc, xs, st, rp, _⟩
    exact hG F' H' st.le rp.sub fun a o n e nt => st.at e (frozen_not_own rep1 n) nt
  · rintro i x H' H'' hi ⟨F', s', acc, xs, st, rp, fA, nA, hacc, dacc, lacc, ys, sE, c1, c2⟩ y
    obtain ⟨d, F'', e2, ext, dv⟩ := hY i F' H' x H'' st.le rp.sub (fun a o n e nt => st.at e (frozen_not_own rep1 n) nt) y
    have hd : ds.drop i = d :: ds.drop (i + 1) := by
      rw [List.drop_eq_getElem_cons hi]
      congr 1
      have := List.getElem?_eq_getElem hi
      rw [e2] at this
      exact (Option.some.inj this).symm
    rw [hd] at c1
    unfold compL at c1
    have rp2 := rp.ext ext
    have pdA : Pend K pa F' H' σ s' A (.l xs) := ⟨fA, ⟨acc, hacc, dacc⟩, nA⟩
    have pdB := pdA.step (ext.step (σ := σ) (s := s') (pa := pa))
    have rpw := rp2.wipe vs
    have nW : ¬ OwnA pa (L2.wipe σ vs) (s'.wipe vs) A := fun z => nA z.wipe
    have pdC : Pend K pa F'' H'' (L2.wipe σ vs) (s'.wipe vs) A (.l xs) := ⟨pdB.hf, pdB.ho, nW⟩
    cases q1 : bd d (s'.wipe vs) with
    | none =>
      rw [q1] at c1
      cases c1
    | some s2 =>
      rw [q1] at c1
      dsimp only at c1
      refine ⟨F'', s'.wipe vs, d, s2, rpw, dv, q1, fun σ2 stb rpb ob => ⟨ob.wipe hsub, ht _ _ _ ⟨F'', s2, rpb, ?_⟩⟩⟩
      have hw2 : L2.wipe σ2 vs = L2.wipe σ vs := ob.wipe hsub
      cases q2 : ft s2 with
      | no =>
        rw [q2] at c1
        cases c1
      | ex _ _ _ =>
        rw [q2] at c1
        cases c1
      | ok k s3 =>
        rw [q2] at c1
        intro k' H3 F3 st3 rp3 ek
        have ek : k' = k := ek
        subst ek
        have stw : Step pa F'' H'' (L2.wipe σ vs) (s'.wipe vs) F3 H3 σ2 s3 := stb.trans st3
        cases k' with
        | false =>
          rw [if_neg Bool.false_ne_true]
          have pd3 := pdC.step stw
          have rpk := rp2.back rp3 stw.le hw2
          have stk := st.trans ((ext.step (σ := σ) (s := s') (pa := pa)).trans (Step.back stw hw2))
          obtain ⟨acc3, g1, g2⟩ := pd3.ho
          have pdk := (pdB.step (Step.back stw hw2))
          exact ⟨F3, s3.back s' vs, acc3, xs, stk, rpk, pdk.hf, pdk.hn, g1, g2, by
            have e5 : acc3.length = acc.length := by rw [g2.length, dacc.length]
            omega, ys, sE, c1, c2⟩
        | true =>
          rw [if_pos rfl]
          dsimp only at c1
          refine ⟨F3, s3, rp3, ?_⟩
          cases q3 : fe s3 with
          | no =>
            rw [q3] at c1
            cases c1
          | ex _ _ _ =>
            rw [q3] at c1
            cases c1
          | ok z s4 =>
            rw [q3] at c1
            dsimp only at c1
            intro v4 H4 F4 st4 rp4 dv4
            have dv4 : Den K F4 v4 z := dv4
            have stw4 := stw.trans st4
            have pd4 := pdC.step stw4
            obtain ⟨acc4, g1, g2⟩ := pd4.ho
            have e5 : acc4.length = acc.length := by rw [g2.length, dacc.length]
            have rpk := rp2.back rp4 stw4.le hw2
            have stk := st.trans ((ext.step (σ := σ) (s := s') (pa := pa)).trans (Step.back stw4 hw2))
            have pdk := pdB.step (Step.back stw4 hw2)
            cases q4 : compL bd ft fe vs (ds.drop (i + 1)) (s4.back s' vs) with
            | no =>
              rw [q4] at c1
              cases c1
            | ex _ _ _ =>
              rw [q4] at c1
              cases c1
            | ok ys2 sE2 =>
              rw [q4] at c1
              cases c1
              have hne : ∀ b, b ≠ A → upd H4 A (.lst (acc4 ++ [v4])) b = H4 b := fun b hb => upd_ne hb
              refine ⟨acc4, g1, Nat.lt_of_le_of_lt (show acc4.length ≤ 100000 by omega) (by decide), F4, s4.back s' vs, acc4 ++ [v4], xs ++ [z], ⟨stk.le, fun a o hh nn => ?_, stk.new, stk.own⟩, rpk.aside pdk.hf pdk.hn (plain_of g1) hne, pdk.hf, pdk.hn, upd_same, g2.snoc dv4, ?_, ys2, sE, q4, ?_⟩
              · rw [hne a (fun z => by rw [z, hA] at hh; cases hh)]
                exact stk.keep a o hh nn
              · rw [List.length_append]
                show acc4.length + 1 ≤ i + 1
                omega
              · rw [c2, List.append_assoc]
                rfl
  · rintro H' ⟨F', s', acc, xs, st, rp, fA, nA, hacc, dacc, lacc, ys, sE, c1, c2⟩
    rw [List.drop_length] at c1
    cases c1
    rw [List.append_nil] at c2
    rw [c2] at h
    have h : FinM K pa W F1 H1 σ s1 (.ok (.l xs) s') Q := h
    have rpc : Rep K pa F' (cutH H' A) σ s' := rp.aside fA nA (plain_of hacc) fun b hb => cutH_ne hb
    have := h A (cutH H' A) F' (.lst acc) ⟨st.le, fun a o hh nn => by
      rw [cutH_ne (fun z => by rw [z, hA] at hh; cases hh)]
      exact st.keep a o hh nn, st.new, st.own⟩ rpc (if_pos rfl) ⟨acc, upd_same, dacc⟩
    rw [cutH_upd hacc] at this
    exact this
theorem comp_of {vs : List Nat} {fi : S → Rs (List D)} {is : List Nat} {bd : D → S → Option S} {ft : S → Rs Bool} {fe : S → Rs D} {tt : TT}
    (ht : ∀ σ H Q, tVB K pa W0 ft σ H Q → tt σ H Q) (hsub : ∀ k ∈ is, k ∈ vs) : ∀ (σ : L2.St) (H : Hp) (Q : VK), tM K pa W (mComp fi bd ft fe vs) σ H Q → tLc (tVI K pa W fi) (tGt K pa is bd) tt (tV K pa W0 fe) vs σ H Q := by
  rintro σ H Q ⟨F, s, rep, h⟩
  unfold mComp at h
  refine ⟨F, s, rep, ?_⟩
  cases e : fi s with
  | no =>
    rw [e] at h
    exact h
  | ex c d s1 =>
    rw [e] at h
    exact h
  | ok ds s1 =>
    rw [e] at h
    have h : FinM K pa W F H σ s (if ds.length ≤ 100000 then (compL bd ft fe vs ds s1).bind fun ys s2 => .ok (.l ys) s2 else .no) Q := h
    by_cases hl : ds.length ≤ 100000
    · rw [if_pos hl] at h
      rintro J H1 F1 st1 rep1 it
      exact comp_core ht hsub rep1 it hl (FinM.shift st1 h)
    · rw [if_neg hl] at h
      exact h.elim
theorem pm_comp {vs : List Nat} {fi : S → Rs (List D)} {is : List Nat} {bd : D → S → Option S} {ft : S → Rs Bool} {fe : S → Rs D} {tt : TT}
    (h : PE X a (tLc (tVI K pa W fi) (tGt K pa is bd) tt (tV K pa W0 fe) vs)) (ht : ∀ σ H Q, tVB K pa W0 ft σ H Q → tt σ H Q) (hsub : ∀ k ∈ is, k ∈ vs) : PE X a (tM K pa W (mComp fi bd ft fe vs)) := h.mono (comp_of ht hsub)
theorem q_asgComp {vs : List Nat} {st : Stmt} {gt : TG} {fi : S → Rs (List D)} {is : List Nat} {bd : D → S → Option S} {ft : S → Rs Bool} {fe : S → Rs D} {tt : TT}
    (h : PS X st (tAsg (tLc (tVI K pa W fi) (tGt K pa is bd) tt (tV K pa W0 fe) vs) gt)) (ht : ∀ σ H Q, tVB K pa W0 ft σ H Q → tt σ H Q) (hsub : ∀ k ∈ is, k ∈ vs) : PS X st (tAsg (tM K pa W (mComp fi bd ft fe vs)) gt) :=
  h.mono fun _ _ _ z => comp_of ht hsub _ _ _ z
theorem yes_of {σ : L2.St} {H : Hp} {Q : Bool → Hp → Prop} (h : tVB K pa W0 mYes σ H Q) : tYes σ H Q := by
  obtain ⟨F, s, rep, h⟩ := h
  exact h _ _ _ Step.refl rep rfl
end

/-! ### what a name owns is changed -/
section
variable {X : Cx} {K : PySem.W.Frag} {pa : Plc} {W : L2.St → XK} {a b c tg : Expr} {fa fb fc : S → Rs D} {fm fn : S → Rs LV} {pos p p2 : Pos} {es : List Expr} {fr : S → Rs (List D)} {st : Stmt} {g : S → Ro}
theorem Rep.change {F H : Hp} {σ : L2.St} {s : S} {i : Nat} {a : Addr} {x : LV} {o : HO} (rep : Rep K pa F H σ s) (ho : Owns σ s.e i a) (hf : F a = none) (new : OwnsV K F (upd H a o) a x) :
    Step pa F H σ s F (upd H a o) σ (s.put i (some x)) ∧ Rep K pa F (upd H a o) σ (s.put i (some x)) := by
  have nx : x ≠ .p := fun z => by
    subst z
    exact new
  have oa : OwnA pa σ s a := .inl ⟨i, ho⟩
  have hσ : σ.set i (some (.ref a)) = σ := by
    apply List.ext_getElem?
    intro j
    by_cases e : j = i
    · subst e
      have hl := (List.getElem?_eq_some_iff.mp ho.1).1
      rw [List.getElem?_set_self hl, ho.1]
    · rw [List.getElem?_set_ne (Ne.symm e)]
  have hp : ∀ o', H a = some o' → Plain o' := by
    obtain ⟨h1, y, h2, h3⟩ := ho
    obtain ⟨v, e1, e2⟩ := rep.slot i y h2
    rw [h1] at e1
    cases e1
    cases y with
    | l xs =>
      obtain ⟨_, vs, e3, _⟩ := e2
      exact plain_of e3
    | k ks xs =>
      obtain ⟨_, vs, e3, _⟩ := e2
      exact plain_of e3
    | d _ => cases h3
    | p => cases h3
  refine ⟨⟨Le.refl, fun b u h n => ⟨u, by rw [upd_ne (fun z => n (by rw [z]; exact oa))]; exact h, fun _ => rfl⟩, fun b h => .inl h, fun b h => ?_⟩, ?_⟩
  · rcases h with ⟨j, h1, y, h2, h3⟩ | ⟨h, e⟩
    · rcases set_cases h2 with ⟨e1, e2, _⟩ | ⟨e1, e2⟩
      · subst e1
        have : σ[j]? = some (some (.ref a)) := ho.1
        rw [h1] at this
        cases this
        exact .inl oa
      · exact .inl (.inl ⟨j, h1, y, e2, h3⟩)
    · exact .inl (.inr ⟨HasP.of_put (fun z => nx (Option.some.inj z)) h, e⟩)
  · have sub' : Sub F (upd H a o) := rep.sub.updN hf hp
    refine ⟨sub', by simpa [S.put] using rep.len, fun j y h => ?_, fun j k b h1 h2 => ?_, fun h => ?_⟩
    · rcases set_cases h with ⟨e1, e2, _⟩ | ⟨e1, e2⟩
      · subst e1
        cases e2
        refine ⟨_, ho.1, ?_⟩
        cases x with
        | l xs => exact ⟨hf, new⟩
        | k ks xs => exact ⟨hf, new⟩
        | d _ => exact new.elim
        | p => exact new.elim
      · obtain ⟨v, h1, h2⟩ := rep.slot j y e2
        refine ⟨v, h1, ?_⟩
        have nA : ∀ b, v = .ref b → y.own = true → b ≠ a := fun b z1 z2 z3 => by
          subst z1 z3
          exact e1 (rep.uniq j i b ⟨h1, y, e2, z2⟩ ho)
        cases y with
        | d x => cases v <;> exact h2
        | l xs =>
          cases v with
          | ref b =>
            obtain ⟨q1, vs, q2, q3⟩ := h2
            exact ⟨q1, vs, by rw [upd_ne (nA b rfl rfl)]; exact q2, q3⟩
          | _ => exact h2.elim
        | k ks xs =>
          cases v with
          | ref b =>
            obtain ⟨q1, vs, q2, q4, q3⟩ := h2
            exact ⟨q1, vs, by rw [upd_ne (nA b rfl rfl)]; exact q2, q4, q3⟩
          | _ => exact h2.elim
        | p =>
          cases v with
          | ref b => exact h2
          | _ => exact h2.elim
    · have back : ∀ j b, Owns σ (s.put i (some x)).e j b → Owns σ s.e j b := fun j' b' hh => by
        obtain ⟨g1, y, g2, g3⟩ := hh
        rcases set_cases g2 with ⟨e1, e2, _⟩ | ⟨e1, e2⟩
        · subst e1
          have q : σ[j']? = some (some (.ref a)) := ho.1
          rw [g1] at q
          cases q
          exact ho
        · exact ⟨g1, y, e2, g3⟩
      exact rep.uniq j k b (back j b h1) (back k b h2)
    · have hp := HasP.of_put (fun z => nx (Option.some.inj z)) h
      obtain ⟨q1, q2, q3⟩ := rep.pot hp
      have np : ∀ b, pa.has b → b ≠ a := fun b hb z => q3 i b hb (by rw [z]; exact ho)
      refine ⟨q1, q2.to Le.refl (fun b o hb z _ => by rw [upd_ne (np b hb)]; exact z), fun j b hb ⟨h1, y, h2, h3⟩ => ?_⟩
      rcases set_cases h2 with ⟨e1, e2, _⟩ | ⟨e1, e2⟩
      · subst e1
        exact q3 j b hb ⟨h1, by
          obtain ⟨_, z, hz, hz2⟩ := ho
          exact ⟨z, hz, hz2⟩⟩
      · exact q3 j b hb ⟨h1, y, e2, h3⟩
def sApp (i : Nat) (fr : S → Rs (List D)) : S → Ro := fun s => match s.e[i]? with
  | some (some (.l _)) => (fr s).st fun ds s1 => match s1.e[i]?, ds with
    | some (some (.l xs)), [d] => if xs.length < 100000 then .nx (s1.put i (some (.l (xs ++ [d])))) else .no
    | _, _ => .no
  | _ => .no
def sExt (i : Nat) (fr : S → Rs (List D)) : S → Ro := fun s => match s.e[i]? with
  | some (some (.l _)) => (fr s).st fun ds s1 => match s1.e[i]?, ds with
    | some (some (.l xs)), [.lst ys] => if xs.length + ys.length ≤ 100000 then .nx (s1.put i (some (.l (xs ++ ys)))) else .no
    | _, _ => .no
  | _ => .no
theorem ownL {F H : Hp} {σ : L2.St} {s : S} {i : Nat} {xs : List D} (rep : Rep K pa F H σ s) (e : s.e[i]? = some (some (.l xs))) : ∃ a vs, σ[i]? = some (some (.ref a)) ∧ Owns σ s.e i a ∧ F a = none ∧ H a = some (.lst vs) ∧ DenAll K F vs xs := by
  obtain ⟨v, h1, h2⟩ := rep.slot i _ e
  cases v with
  | ref a =>
    obtain ⟨q1, vs, q2, q3⟩ := h2
    exact ⟨a, vs, h1, ⟨h1, _, e, rfl⟩, q1, q2, q3⟩
  | _ => exact h2.elim
theorem q_app {i : Nat} (h : PS X st (tDrop (tBM K "list" rAppend (tVar i) (tVA K pa W fr)))) : PS X st (tS K pa W (sApp i fr)) := by
  refine h.mono ?_
  rintro E σ H ⟨F, s, rep, h⟩
  unfold sApp at h
  split at h
  · rename_i xs0 e0
    obtain ⟨a0, vs0, h0, _, _, q0, _⟩ := ownL rep e0
    refine ⟨_, h0, .inl ⟨rfl, _, SqL.of q0⟩, F, s, rep, (FinS.st h).mono ?_⟩
    rintro vs H1 ⟨F1, s1, ds, st1, rep1, dv, h1⟩
    have dv : DenAll K F1 vs ds := dv
    split at h1
    · rename_i xs d e1 _
      obtain ⟨a, ws, g1, g2, g3, g4, g5⟩ := ownL rep1 e1
      obtain ⟨v, rfl, d1⟩ := dv.one
      rw [h0] at g1
      cases g1
      by_cases hl : xs.length < 100000
      · rw [if_pos hl] at h1
        refine ⟨a0, ws, v, rfl, rfl, g4, Nat.lt_of_lt_of_le (by rw [g5.length]; exact hl) (by decide), ?_⟩
        obtain ⟨st2, rep2⟩ := rep1.change (o := .lst (ws ++ [v])) (x := .l (xs ++ [d])) g2 g3 ⟨_, upd_same, g5.snoc d1⟩
        exact h1 _ _ _ st2 rep2
      · rw [if_neg hl] at h1
        exact h1.elim
    · exact h1.elim
  · exact h.elim
theorem q_ext {i : Nat} (h : PS X st (tDrop (tBM K "list" rExtend (tVar i) (tVA K pa W fr)))) : PS X st (tS K pa W (sExt i fr)) := by
  refine h.mono ?_
  rintro E σ H ⟨F, s, rep, h⟩
  unfold sExt at h
  split at h
  · rename_i xs0 e0
    obtain ⟨a0, vs0, h0, _, _, q0, _⟩ := ownL rep e0
    refine ⟨_, h0, .inl ⟨rfl, _, SqL.of q0⟩, F, s, rep, (FinS.st h).mono ?_⟩
    rintro vs H1 ⟨F1, s1, ds, st1, rep1, dv, h1⟩
    have dv : DenAll K F1 vs ds := dv
    split at h1
    · rename_i xs ys e1 _
      obtain ⟨a, ws, g1, g2, g3, g4, g5⟩ := ownL rep1 e1
      obtain ⟨v, rfl, d1⟩ := dv.one
      rw [h0] at g1
      cases g1
      cases d1 with
      | @lst b us _ q r =>
        by_cases hl : xs.length + ys.length ≤ 100000
        · rw [if_pos hl] at h1
          refine ⟨a0, b, ws, us, rfl, rfl, g4, rep1.sub.lst q, Nat.le_trans (by rw [g5.length, r.length]; exact hl) (by decide), ?_⟩
          obtain ⟨st2, rep2⟩ := rep1.change (o := .lst (ws ++ us)) (x := .l (xs ++ ys)) g2 g3 ⟨_, upd_same, g5.append r⟩
          exact h1 _ _ _ st2 rep2
        · rw [if_neg hl] at h1
          exact h1.elim
    · exact h1.elim
  · exact h.elim
def mPop (i : Nat) : S → Rs D := fun s => match s.e[i]? with
  | some (some (.l xs)) => (match xs[xs.length - 1]? with
    | some d => .ok d (s.put i (some (.l xs.dropLast)))
    | none => .no)
  | _ => .no
theorem DenAll.dropLast {F : Hp} {vs : List V} {ds : List D} (h : DenAll K F vs ds) : DenAll K F vs.dropLast ds.dropLast := by
  rw [List.dropLast_eq_take, List.dropLast_eq_take, h.length]
  exact h.take _
theorem DenAll.eraseIdx {F : Hp} : ∀ {vs : List V} {ds : List D} (k : Nat), DenAll K F vs ds → DenAll K F (vs.eraseIdx k) (ds.eraseIdx k)
  | _, _, _, .nil => .nil
  | _, _, 0, .cons _ r => r
  | _, _, k + 1, .cons h r => .cons h (DenAll.eraseIdx k r)
theorem pv_pop {i : Nat} (h : PE X a (tBM0 K "list" rPop (tVar i))) : PE X a (tV K pa W (mPop i)) := by
  refine h.mono ?_
  rintro σ H Q ⟨F, s, rep, h⟩
  unfold mPop at h
  split at h
  · rename_i xs e
    obtain ⟨a, ws, g1, g2, g3, g4, g5⟩ := ownL rep e
    split at h
    · rename_i d ed
      obtain ⟨v, e1, e2⟩ := g5.getD ed
      obtain ⟨st2, rep2⟩ := rep.change (o := .lst ws.dropLast) (x := .l xs.dropLast) g2 g3 ⟨_, upd_same, g5.dropLast⟩
      exact ⟨_, g1, .inl ⟨rfl, _, SqL.of g4⟩, a, ws, v, rfl, rfl, g4, by rw [g5.length]; exact e1, h _ _ _ st2 rep2 e2⟩
    · exact h.elim
  · exact h.elim
def mPopAt (i : Nat) (fr : S → Rs (List D)) : S → Rs D := fun s => match s.e[i]? with
  | some (some (.l _)) => (fr s).bind fun ds s1 => match s1.e[i]?, ds with
    | some (some (.l xs)), [.int k] => if -1000000 ≤ k ∧ k ≤ 1000000 then (match seqIndex? k xs.length with
      | some j => (match xs[j]? with
        | some d => .ok d (s1.put i (some (.l (xs.eraseIdx j))))
        | none => .no)
      | none => .no) else .no
    | _, _ => .no
  | _ => .no
theorem pv_popAt {i : Nat} (h : PE X a (tBM K "list" rPopAt (tVar i) (tVA K pa W fr))) : PE X a (tV K pa W (mPopAt i fr)) := by
  refine h.mono ?_
  rintro σ H Q ⟨F, s, rep, h⟩
  unfold mPopAt at h
  split at h
  · rename_i xs0 e0
    obtain ⟨a0, vs0, h0, _, _, q0, _⟩ := ownL rep e0
    refine ⟨_, h0, .inl ⟨rfl, _, SqL.of q0⟩, F, s, rep, (Fin.bind h).mono ?_⟩
    rintro vs H1 ⟨F1, s1, ds, st1, rep1, dv, h1⟩
    have dv : DenAll K F1 vs ds := dv
    split at h1
    · rename_i xs k e1 _
      obtain ⟨a, ws, g1, g2, g3, g4, g5⟩ := ownL rep1 e1
      obtain ⟨v, rfl, d1⟩ := dv.one
      cases d1
      rw [h0] at g1
      cases g1
      by_cases hl : -1000000 ≤ k ∧ k ≤ 1000000
      · rw [if_pos hl] at h1
        split at h1
        · rename_i j ej
          split at h1
          · rename_i d ed
            obtain ⟨v, e2, e3⟩ := g5.getD ed
            obtain ⟨st2, rep2⟩ := rep1.change (o := .lst (ws.eraseIdx j)) (x := .l (xs.eraseIdx j)) g2 g3 ⟨_, upd_same, g5.eraseIdx j⟩
            exact ⟨a0, ws, k, j, v, rfl, rfl, g4, by omega, by omega, by rw [g5.length]; exact ej, e2, h1 _ _ _ st2 rep2 e3⟩
          · exact h1.elim
        · exact h1.elim
      · rw [if_neg hl] at h1
        exact h1.elim
    · exact h1.elim
  · exact h.elim
def sSetIx (i : Nat) (fa fb : S → Rs D) : S → Ro := fun s => (fa s).st fun d s1 => match s1.e[i]? with
  | some (some (.l _)) => (fb s1).st fun k s2 => match s2.e[i]?, k with
    | some (some (.l xs)), .int k => (match ixN xs.length k with
      | some j => .nx (s2.put i (some (.l (xs.set j d))))
      | none => .no)
    | _, _ => .no
  | _ => .no
theorem q_setIx {i : Nat} (h : PS X st (tAsg (tV K pa W fa) (gSub (tVar i) (tV K pa W fb) rSetL))) : PS X st (tS K pa W (sSetIx i fa fb)) := by
  refine h.mono ?_
  rintro E σ H ⟨F, s, rep, h⟩
  refine ⟨F, s, rep, (FinS.st h).mono ?_⟩
  rintro v H1 ⟨F1, s1, d, st1, rep1, dv, h1⟩
  split at h1
  · rename_i xs0 e0
    obtain ⟨a0, vs0, h0, _, _, q0, _⟩ := ownL rep1 e0
    refine ⟨_, h0, F1, s1, rep1, (FinS.st h1).mono ?_⟩
    rintro w H2 ⟨F2, s2, k, st2, rep2, dk, h2⟩
    have dk : Den K F2 w k := dk
    split at h2
    · rename_i xs k e1 _
      obtain ⟨a, ws, g1, g2, g3, g4, g5⟩ := ownL rep2 e1
      cases dk
      rw [h0] at g1
      cases g1
      split at h2
      · rename_i j ej
        obtain ⟨st3, rep3⟩ := rep2.change (o := .lst (ws.set j v)) (x := .l (xs.set j d)) g2 g3 ⟨_, upd_same, DenAll.set (Den.mono st2.le dv) j g5⟩
        exact ⟨a0, ws, k, j, rfl, rfl, g4, by rw [g5.length]; exact ej, h2 _ _ _ st3 rep3⟩
      · exact h2.elim
    · exact h2.elim
  · exact h1.elim
/-! ### while -/
def whileL (ft : S → Rs Bool) (g : S → Ro) : Nat → S → Ro
  | 0, _ => .no
  | n + 1, s => match ft s with
    | .ok false s1 => .nx s1
    | .ok true s1 => (match g s1 with
      | .nx s2 => whileL ft g n s2
      | .ct s2 => whileL ft g n s2
      | .bk s2 => .nx s2
      | .rt d s2 => .rt d s2
      | .ex c v s2 => .ex c v s2
      | .no => .no)
    | .ex c v s1 => .ex c v s1
    | .no => .no
theorem q_while {body : List Stmt} {ft : S → Rs Bool} {n : Nat} (hp : PassesOwn (model X.prog X.w) X.A X.env X.xe) (hc : PT X c (tVB K pa W ft)) (hb : PSs X body (tS K pa W g)) : PS X (.While c body [] pos) (tS K pa W (whileL ft g n)) := by
  refine (ps_while hp hc hb).mono ?_
  rintro E σ H ⟨F, s, rep, h⟩
  refine ⟨fun m σ' H' => ∃ F' s', Rep K pa F' H' σ' s' ∧ FinS K pa W F' H' σ' s' (whileL ft g m s') E, ⟨n, F, s, rep, h⟩, ?_⟩
  rintro m σ' H' ⟨F', s', rp, fin⟩
  cases m with
  | zero => exact fin.elim
  | succ m =>
    refine ⟨F', s', rp, ?_⟩
    unfold whileL at fin
    cases q : ft s' with
    | no =>
      rw [q] at fin
      exact fin.elim
    | ex c v s1 =>
      rw [q] at fin
      exact fun H1 F1 a b => fin σ' H1 F1 a b
    | ok k s1 =>
      rw [q] at fin
      intro k' H1 F1 st1 rp1 ek
      have ek : k' = k := ek
      subst ek
      have fin1 := FinS.shift st1 fin
      cases k' with
      | false =>
        rw [if_neg Bool.false_ne_true]
        exact fin1 _ _ _ Step.refl rp1
      | true =>
        rw [if_pos rfl]
        refine ⟨fun σ2 H2 => ∃ F2 s2, Rep K pa F2 H2 σ2 s2 ∧ FinS K pa W F2 H2 σ2 s2 (whileL ft g m s2) E, fun σ2 H2 z => ⟨m, Nat.lt_succ_self m, z⟩, F1, s1, rp1, ?_⟩
        dsimp only at fin1
        cases q2 : g s1 with
        | nx s3 =>
          rw [q2] at fin1
          exact fun σ4 H4 F4 st4 rp4 => ⟨F4, s3, rp4, FinS.shift st4 fin1⟩
        | ct s3 =>
          rw [q2] at fin1
          exact fun σ4 H4 F4 st4 rp4 => ⟨F4, s3, rp4, FinS.shift st4 fin1⟩
        | bk s3 =>
          rw [q2] at fin1
          exact fin1
        | rt d s3 =>
          rw [q2] at fin1
          exact fin1
        | ex c v s3 =>
          rw [q2] at fin1
          exact fin1
        | no =>
          rw [q2] at fin1
          exact fin1.elim
/-! ### a, b = x, y -/
def sPar (i j : Nat) (fr : S → Rs (List D)) : S → Ro := fun s => (fr s).st fun ds s1 => match ds with
  | [x, y] => .nx ((s1.put i (some (.d x))).put j (some (.d y)))
  | _ => .no
theorem q_par {i j : Nat} (h : PS X st (tPar i j (tVA K pa W fr))) : PS X st (tS K pa W (sPar i j fr)) := by
  refine h.mono ?_
  rintro E σ H ⟨F, s, rep, h⟩
  refine ⟨F, s, rep, (FinS.st h).mono ?_⟩
  rintro vs H1 ⟨F1, s1, ds, st1, rep1, dv, h1⟩
  have dv : DenAll K F1 vs ds := dv
  match ds, h1, dv with
  | [x, y], h1, dv =>
    obtain ⟨v, w, rfl, d1, d2⟩ := dv.two
    exact ⟨v, w, rfl, h1 _ _ _ ((Step.refl.putD i _ _).putD j _ _) ((rep1.putD i d1).putD j d2)⟩
/-- the first one made -/
def sParMV (i j : Nat) (fm : S → Rs LV) (fb : S → Rs D) : S → Ro := fun s => (fm s).st fun x s1 => (fb s1).st fun y s2 => .nx ((s2.put j (some (.d y))).put i (some x))
theorem not_own_putD {σ : L2.St} {s : S} {a : Addr} {i : Nat} {v : Option V} {d : D} (n : ¬ OwnA pa σ s a) : ¬ OwnA pa (σ.set i v) (s.put i (some (.d d))) a := fun z => n (by
  rcases z with ⟨j, hj⟩ | ⟨hj, ej⟩
  · rcases Owns.of_put hj with ⟨_, _, y, e, f⟩ | ⟨_, hj⟩
    · cases e
      cases f
    · exact .inl ⟨j, hj⟩
  · exact .inr ⟨HasP.of_put (x := some (.d d)) (fun z => nomatch z) hj, ej⟩)
theorem set_swap {σ : L2.St} {i j : Nat} (h : i ≠ j) (v w : Option V) : (σ.set i v).set j w = (σ.set j w).set i v := List.set_comm _ _ h
theorem q_parMV {i j : Nat} (hij : i ≠ j) (h : PS X st (tPar i j (tCons (tM K pa W fm) (tCons (tV K pa W fb) tNil)))) : PS X st (tS K pa W (sParMV i j fm fb)) := by
  refine h.mono ?_
  rintro E σ H ⟨F, s, rep, h⟩
  refine ⟨F, s, rep, ?_⟩
  unfold sParMV at h
  cases e : fm s with
  | no =>
    rw [e] at h
    exact h
  | ex c d s1 =>
    rw [e] at h
    exact fun H' F' a b => h σ H' F' a b
  | ok x s1 =>
    rw [e] at h
    intro a H1 F1 o st1 rep1 hn ho
    have h : FinS K pa W F H σ s ((fb s1).st fun y s2 => .nx ((s2.put j (some (.d y))).put i (some x))) E := h
    have h := FinS.shift st1 h
    have ext : Ext F1 H1 F1 (upd H1 a o) := Ext.fresh rep1.sub hn
    have pd := pend_new rep1 hn ho
    have nx : x ≠ .p := fun z => by
      subst z
      exact ho
    have stx : Step pa F1 H1 σ s1 F1 (upd H1 a o) σ s1 := ext.step
    have h2 := FinS.shift stx h
    refine ⟨F1, s1, rep1.ext ext, ?_⟩
    cases e2 : fb s1 with
    | no =>
      rw [e2] at h
      exact h.elim
    | ex c d s2 =>
      rw [e2] at h2
      exact fun H' F' a b => h2 σ H' F' a b
    | ok y s2 =>
      rw [e2] at h
      intro v H2 F2 st2 rep2 dv
      have pd2 := pd.step st2
      refine ⟨_, _, rfl, ?_⟩
      rw [set_swap hij]
      have rp3 := rep2.putD j dv
      have nA : ¬ OwnA pa (σ.set j (some v)) (s2.put j (some (.d y))) a := not_own_putD pd2.hn
      exact h _ _ _ (Step.putO ((stx.trans st2).putD j _ _) i nx (.inl hn)) (rp3.putO i pd2.hf pd2.ho nA)
/-- the second one made -/
def sParVM (i j : Nat) (fa : S → Rs D) (fm : S → Rs LV) : S → Ro := fun s => (fa s).st fun x s1 => (fm s1).st fun y s2 => .nx ((s2.put i (some (.d x))).put j (some y))
theorem q_parVM {i j : Nat} (h : PS X st (tPar i j (tCons (tV K pa W fa) (tCons (tM K pa W fm) tNil)))) : PS X st (tS K pa W (sParVM i j fa fm)) := by
  refine h.mono ?_
  rintro E σ H ⟨F, s, rep, h⟩
  refine ⟨F, s, rep, (FinS.st h).mono ?_⟩
  rintro v H0 ⟨F0, s0, d, st0, rep0, dv, h0⟩
  refine ⟨F0, s0, rep0, ?_⟩
  cases e : fm s0 with
  | no =>
    rw [e] at h0
    exact h0
  | ex c d s1 =>
    rw [e] at h0
    exact fun H' F' a b => h0 σ H' F' a b
  | ok x s1 =>
    rw [e] at h0
    intro a H1 F1 o st1 rep1 hn ho
    have ext : Ext F1 H1 F1 (upd H1 a o) := Ext.fresh rep1.sub hn
    have pd := pend_new rep1 hn ho
    have nx : x ≠ .p := fun z => by
      subst z
      exact ho
    have stx : Step pa F1 H1 σ s1 F1 (upd H1 a o) σ s1 := ext.step
    have h2 := FinS.shift st1 h0
    refine ⟨_, _, rfl, ?_⟩
    have rp3 := (rep1.ext ext).putD i (Den.mono st1.le dv)
    have nA : ¬ OwnA pa (σ.set i (some v)) (s1.put i (some (.d d))) a := not_own_putD pd.hn
    exact h2 _ _ _ (Step.putO (stx.putD i _ _) j nx (.inl hn)) (rp3.putO j pd.hf pd.ho nA)
/-- both made -/
def sParMM (i j : Nat) (fm fn : S → Rs LV) : S → Ro := fun s => (fm s).st fun x s1 => (fn s1).st fun y s2 => .nx ((s2.put j (some y)).put i (some x))
theorem q_parMM {i j : Nat} (hij : i ≠ j) (h : PS X st (tPar i j (tCons (tM K pa W fm) (tCons (tM K pa W fn) tNil)))) : PS X st (tS K pa W (sParMM i j fm fn)) := by
  refine h.mono ?_
  rintro E σ H ⟨F, s, rep, h⟩
  refine ⟨F, s, rep, ?_⟩
  unfold sParMM at h
  cases e : fm s with
  | no =>
    rw [e] at h
    exact h
  | ex c d s1 =>
    rw [e] at h
    exact fun H' F' a b => h σ H' F' a b
  | ok x s1 =>
    rw [e] at h
    intro a H1 F1 o st1 rep1 hn ho
    have h : FinS K pa W F H σ s ((fn s1).st fun y s2 => .nx ((s2.put j (some y)).put i (some x))) E := h
    have h := FinS.shift st1 h
    have ext : Ext F1 H1 F1 (upd H1 a o) := Ext.fresh rep1.sub hn
    have pd := pend_new rep1 hn ho
    have nx : x ≠ .p := fun z => by
      subst z
      exact ho
    have stx : Step pa F1 H1 σ s1 F1 (upd H1 a o) σ s1 := ext.step
    have h2 := FinS.shift stx h
    refine ⟨F1, s1, rep1.ext ext, ?_⟩
    cases e2 : fn s1 with
    | no =>
      rw [e2] at h
      exact h.elim
    | ex c d s2 =>
      rw [e2] at h2
      exact fun H' F' a b => h2 σ H' F' a b
    | ok y s2 =>
      rw [e2] at h
      intro b H2 F2 o2 st2 rep2 hn2 ho2
      have pd2 := pd.step st2
      have ny : y ≠ .p := fun z => by
        subst z
        exact ho2
      have ext2 : Ext F2 H2 F2 (upd H2 b o2) := Ext.fresh rep2.sub hn2
      have sty : Step pa F2 H2 σ s2 F2 (upd H2 b o2) σ s2 := ext2.step
      have pd3 := pd2.step sty
      have pb := pend_new rep2 hn2 ho2
      have nab : a ≠ b := fun z => by
        obtain ⟨u, hu⟩ : ∃ u, H2 a = some u := by
          cases x with
          | l xs => obtain ⟨vs, q, _⟩ := pd2.ho; exact ⟨_, q⟩
          | k ks xs => obtain ⟨vs, q, _⟩ := pd2.ho; exact ⟨_, q⟩
          | d _ => exact pd2.ho.elim
          | p => exact pd2.ho.elim
        rw [z, hn2] at hu
        cases hu
      refine ⟨_, _, rfl, ?_⟩
      rw [set_swap hij]
      have rp3 := (rep2.ext ext2).putO j pb.hf pb.ho pb.hn
      have nA : ¬ OwnA pa (σ.set j (some (.ref b))) (s2.put j (some y)) a := fun z => by
        rcases z with ⟨k, hk⟩ | ⟨hk, ek⟩
        · rcases Owns.of_put hk with ⟨_, q, _⟩ | ⟨_, hk⟩
          · cases q
            exact nab rfl
          · exact pd3.hn (.inl ⟨k, hk⟩)
        · exact pd3.hn (.inr ⟨HasP.of_put (x := some y) (fun z => ny (Option.some.inj z)) hk, ek⟩)
      have hb1 : H1 b = none ∨ OwnA pa σ s1 b := by
        cases q : H1 b with
        | none => exact .inl rfl
        | some u =>
          refine .inr (Classical.byContradiction fun nn => ?_)
          obtain ⟨_, this, _⟩ := (stx.trans st2).keep b u q nn
          rw [hn2] at this
          cases this
      exact h _ _ _ (Step.putO (Step.putO ((stx.trans st2).trans sty) j ny hb1) i nx (.inl hn)) (rp3.putO i pd3.hf pd3.ho nA)
end

/-! ### defs -/
inductive Rv where
  | ok (d : D) | ex (c : Str) (d : D) | no
def initS (n : Nat) (ds : List D) : S := ⟨ds.map (fun d => some (.d d)) ++ List.replicate (n - ds.length) none, .pot ⟨0, 0, 0⟩⟩
/-- a def that raises nothing -/
def mDef (np n : Nat) (g : S → Ro) : List D → Rv := fun ds => if ds.length = np then (match g (initS n ds) with
  | .rt d _ => .ok d
  | .nx _ => .ok .non
  | _ => .no) else .no
def spV (K : PySem.W.Frag) (m : List D → Rv) : Sp := fun vs H Q E => ∃ F ds, Sub F H ∧ DenAll K F vs ds ∧ match m ds with
  | .ok d => ∀ v H' F', Ext F H F' H' → Den K F' v d → Q v H'
  | .ex c d => ∀ v da H' F', Ext F H F' H' → Den K F' v d → F' da = some (.xd [("value", v)]) → E (.ref (He.ga K c)) (some da) H'
  | .no => False
section
variable {K : PySem.W.Frag} {pa : Plc} {F H F' H' : Hp} {σ σ' : L2.St} {s s' : S}
theorem Step.ext (st : Step pa F H σ s F' H' σ' s') (n : ∀ a, ¬ OwnA pa σ s a) (sub : Sub F' H') : Ext F H F' H' := ⟨st.le, sub, fun a o h => st.keep a o h (n a), fun a h => (st.new a h).imp_right fun z => z.elim id fun z => absurd z (n a)⟩
theorem init_get {n i : Nat} {ds : List D} {x : LV} (h : (initS n ds).e[i]? = some (some x)) : ∃ d, ds[i]? = some d ∧ x = .d d := by
  unfold initS at h
  by_cases hl : i < ds.length
  · rw [List.getElem?_append_left (by simpa using hl), List.getElem?_map] at h
    cases e : ds[i]? with
    | none =>
      rw [e] at h
      cases h
    | some d =>
      rw [e] at h
      cases h
      exact ⟨d, rfl, rfl⟩
  · rw [List.getElem?_append_right (by simpa using Nat.le_of_not_lt hl), List.getElem?_replicate] at h
    split at h <;> cases h
theorem init_no {n : Nat} {ds : List D} {a : Addr} : ¬ OwnA pa σ (initS n ds) a := by
  rintro (⟨i, h1, y, h2, h3⟩ | ⟨⟨i, h⟩, e⟩)
  · obtain ⟨d, _, rfl⟩ := init_get h2
    cases h3
  · obtain ⟨d, _, q⟩ := init_get h
    cases q
theorem Rep.init {N : List Str} {vs : List V} {ds : List D} (sub : Sub F H) (r : DenAll K F vs ds) : Rep K pa F H (L2.start N vs) (initS N.length ds) := by
  refine ⟨sub, ?_, fun i x h => ?_, fun i j a h1 h2 => absurd (.inl ⟨i, h1⟩) (init_no (pa := pa) (a := a)), fun h => ?_⟩
  · unfold L2.start initS
    simp [r.length]
  · obtain ⟨d, e, rfl⟩ := init_get h
    obtain ⟨v, e1, e2⟩ := r.getD e
    refine ⟨v, ?_, by cases v <;> exact e2⟩
    unfold L2.start
    have hl : i < vs.length := (List.getElem?_eq_some_iff.mp e1).1
    rw [List.getElem?_append_left (by simpa using hl), List.getElem?_map, e1]
    rfl
  · obtain ⟨i, h⟩ := h
    obtain ⟨d, _, q⟩ := init_get h
    cases q
theorem spV_len {np n : Nat} {g : S → Ro} {vs : List V} {Q : VK} {E : XK} (h : spV K (mDef np n g) vs H Q E) : vs.length = np := by
  obtain ⟨F, ds, _, r, h⟩ := h
  unfold mDef at h
  by_cases hl : ds.length = np
  · rw [r.length, hl]
  · rw [if_neg hl] at h
    exact h.elim
theorem spV_body {N : List Str} {np : Nat} {g : S → Ro} {vs : List V} {Q : VK} {E : XK} (h : spV K (mDef np N.length g) vs H Q E) : tS K ⟨0, []⟩ W0 g { nx := fun _ H' => Q .non H', rt := Q } (L2.start N vs) H := by
  obtain ⟨F, ds, sub, r, h⟩ := h
  unfold mDef at h
  by_cases hl : ds.length = np
  · rw [if_pos hl] at h
    refine ⟨F, _, Rep.init sub r, ?_⟩
    cases e : g (initS N.length ds) with
    | nx s' =>
      rw [e] at h
      exact fun σ' H' F' st rp => h .non H' F' (st.ext (fun a => init_no) rp.sub) .non
    | rt d s' =>
      rw [e] at h
      exact fun σ' v H' F' st rp dv => h v H' F' (st.ext (fun a => init_no) rp.sub) dv
    | bk s' =>
      rw [e] at h
      exact h.elim
    | ct s' =>
      rw [e] at h
      exact h.elim
    | ex c v s' =>
      rw [e] at h
      exact h.elim
    | no =>
      rw [e] at h
      exact h.elim
  · rw [if_neg hl] at h
    exact h.elim
end
/-! ### defs with the pot as the first argument -/
inductive Rp where
  | ok (d : D) (p : Bw) | no
def initP (n : Nat) (p : Bw) (ds : List D) : S := ⟨some .p :: (ds.map (fun d => some (.d d)) ++ List.replicate (n - (ds.length + 1)) none), p⟩
def mDefP (np n : Nat) (g : S → Ro) : Bw → List D → Rp := fun p ds => if ds.length + 1 = np then (match g (initP n p ds) with
  | .rt d s => (match s.e[0]? with
    | some (some LV.p) => .ok d s.p
    | _ => .no)
  | .nx s => (match s.e[0]? with
    | some (some LV.p) => .ok .non s.p
    | _ => .no)
  | _ => .no) else .no
structure ExtP (p : Plc) (F H F' H' : Hp) : Prop where
  le : Le F F'
  sub : Sub F' H'
  keep : ∀ a o, H a = some o → ¬ p.has a → ∃ o', H' a = some o' ∧ (NoTab o → o' = o)
  new : ∀ a, F' a ≠ none → F a ≠ none ∨ H a = none
  np : ∀ a, p.has a → F' a = none
theorem ExtP.at {p : Plc} {F H F' H' : Hp} (e : ExtP p F H F' H') {a : Addr} {o : HO} (h : H a = some o) (n : ¬ p.has a) (nt : NoTab o := by intro ps z; cases z) : H' a = some o := by
  obtain ⟨o', e, q⟩ := e.keep a o h n
  rw [e, q nt]
def spP (K : PySem.W.Frag) (m : Bw → List D → Rp) : Sp := fun vs H Q _ => ∃ F p pt ws ds, vs = .ref p.root :: ws ∧ Sub F H ∧ (∀ a, p.has a → F a = none) ∧ BorAt K F H p pt ∧ DenAll K F ws ds ∧ match m pt ds with
  | .ok d pt' => ∀ v H' F', ExtP p F H F' H' → BorAt K F' H' p pt' → Den K F' v d → Q v H'
  | .no => False
section
variable {K : PySem.W.Frag} {F H F' H' : Hp} {σ σ' : L2.St} {s s' : S} {p : Plc}
theorem initP_get {n i : Nat} {pt : Bw} {ds : List D} {x : LV} (h : (initP n pt ds).e[i]? = some (some x)) : (i = 0 ∧ x = .p) ∨ ∃ d k, i = k + 1 ∧ ds[k]? = some d ∧ x = .d d := by
  unfold initP at h
  cases i with
  | zero =>
    cases h
    exact .inl ⟨rfl, rfl⟩
  | succ i =>
    refine .inr ?_
    have h : (ds.map (fun d => some (LV.d d)) ++ List.replicate (n - (ds.length + 1)) none)[i]? = some (some x) := by simpa using h
    by_cases hl : i < ds.length
    · rw [List.getElem?_append_left (by simpa using hl), List.getElem?_map] at h
      cases e : ds[i]? with
      | none =>
        rw [e] at h
        cases h
      | some d =>
        rw [e] at h
        cases h
        exact ⟨d, i, rfl, e, rfl⟩
    · rw [List.getElem?_append_right (by simpa using Nat.le_of_not_lt hl), List.getElem?_replicate] at h
      split at h <;> cases h
theorem initP_own {n : Nat} {pt : Bw} {ds : List D} {a : Addr} (h : OwnA p σ (initP n pt ds) a) : p.has a := by
  rcases h with ⟨i, h1, y, h2, h3⟩ | ⟨_, e⟩
  · rcases initP_get h2 with ⟨_, q⟩ | ⟨d, k, _, _, q⟩
    · subst q
      cases h3
    · subst q
      cases h3
  · exact e
theorem Rep.initP {N : List Str} {pt : Bw} {vs : List V} {ds : List D} (sub : Sub F H) (hf : ∀ a, p.has a → F a = none) (hp : BorAt K F H p pt) (r : DenAll K F vs ds) : Rep K p F H (L2.start N (.ref p.root :: vs)) (initP N.length pt ds) := by
  have no : ∀ i a, ¬ Owns (L2.start N (.ref p.root :: vs)) (Ak.initP N.length pt ds).e i a := fun i a ⟨h1, y, h2, h3⟩ => by
    rcases initP_get h2 with ⟨_, q⟩ | ⟨d, k, _, _, q⟩
    · subst q
      cases h3
    · subst q
      cases h3
  refine ⟨sub, ?_, fun i x h => ?_, fun i j a h1 h2 => absurd h1 (no i a), fun h => ⟨hf, hp, fun i a _ => no i a⟩⟩
  · unfold L2.start Ak.initP
    simp [r.length]
  · rcases initP_get h with ⟨rfl, rfl⟩ | ⟨d, k, rfl, e, rfl⟩
    · exact ⟨.ref p.root, rfl, rfl⟩
    · obtain ⟨v, e1, e2⟩ := r.getD e
      refine ⟨v, ?_, by cases v <;> exact e2⟩
      unfold L2.start
      have hl : k < vs.length := (List.getElem?_eq_some_iff.mp e1).1
      rw [List.getElem?_append_left (by simp; omega), List.getElem?_map, List.getElem?_cons_succ, e1]
      rfl
theorem Step.extP {n : Nat} {pt : Bw} {ds : List D} (st : Step p F H σ (initP n pt ds) F' H' σ' s') (rep : Rep K p F' H' σ' s') (hf : ∀ a, p.has a → F a = none) (hp : s'.e[0]? = some (some .p)) : ExtP p F H F' H' := by
  have np := (rep.pot ⟨0, hp⟩).1
  refine ⟨st.le, rep.sub, fun a o h n => st.keep a o h fun z => n (initP_own z), fun a h => ?_, np⟩
  rcases st.new a h with z | z | z
  · exact .inl z
  · exact .inr z
  · exact absurd (np a (initP_own z)) h
theorem spP_len {np n : Nat} {g : S → Ro} {vs : List V} {Q : VK} {E : XK} (h : spP K (mDefP np n g) vs H Q E) : vs.length = np := by
  obtain ⟨F, p, pt, ws, ds, rfl, _, _, _, r, h⟩ := h
  unfold mDefP at h
  by_cases hl : ds.length + 1 = np
  · rw [List.length_cons, r.length, hl]
  · rw [if_neg hl] at h
    exact h.elim
theorem spP_body {N : List Str} {np : Nat} {g : S → Ro} {vs : List V} {Q : VK} {E : XK} (h : spP K (mDefP np N.length g) vs H Q E) : ∃ pa, tS K pa W0 g { nx := fun _ H' => Q .non H', rt := Q } (L2.start N vs) H := by
  obtain ⟨F, p, pt, ws, ds, rfl, sub, hf, hp, r, h⟩ := h
  unfold mDefP at h
  by_cases hl : ds.length + 1 = np
  · rw [if_pos hl] at h
    refine ⟨p, F, _, Rep.initP sub hf hp r, ?_⟩
    cases e : g (initP N.length pt ds) with
    | nx s' =>
      rw [e] at h
      dsimp only at h
      split at h
      · rename_i q
        split at q
        · rename_i q2
          cases q
          exact fun σ' H' F' st rp => h .non H' F' (st.extP rp hf q2) (rp.pot ⟨0, q2⟩).2.1 .non
        · cases q
      · exact h.elim
    | rt d s' =>
      rw [e] at h
      dsimp only at h
      split at h
      · rename_i q
        split at q
        · rename_i q2
          cases q
          exact fun σ' v H' F' st rp dv => h v H' F' (st.extP rp hf q2) (rp.pot ⟨0, q2⟩).2.1 dv
        · cases q
      · exact h.elim
    | bk s' =>
      rw [e] at h
      exact h.elim
    | ct s' =>
      rw [e] at h
      exact h.elim
    | ex c v s' =>
      rw [e] at h
      exact h.elim
    | no =>
      rw [e] at h
      exact h.elim
  · rw [if_neg hl] at h
    exact h.elim
end
/-! ### calls -/
def mCal (m : List D → Rv) (fr : S → Rs (List D)) : S → Rs D := fun s => (fr s).bind fun ds s1 => match m ds with
  | .ok d => .ok d s1
  | _ => .no
def mCalP (i : Nat) (m : Bw → List D → Rp) (fr : S → Rs (List D)) : S → Rs D := fun s => match s.e[i]? with
  | some (some .p) => (fr s).bind fun ds s1 => (match s1.e[i]? with
    | some (some .p) => (match m s1.p ds with
      | .ok d p' => .ok d { s1 with p := p' }
      | .no => .no)
    | _ => .no)
  | _ => .no
section
variable {X : Cx} {K : PySem.W.Frag} {pa : Plc} {W : L2.St → XK} {a b c tg : Expr} {fa fb fc : S → Rs D} {pos p : Pos} {es : List Expr} {fr : S → Rs (List D)} {st : Stmt} {e : Expr} {x : Str}
theorem spV_of {m : List D → Rv} {F H : Hp} {σ : L2.St} {s : S} {vs : List V} {ds : List D} {Q : VK} {E : XK} (rep : Rep K pa F H σ s) (r : DenAll K F vs ds) (h : Fin (dV K) K pa W F H σ s (match m ds with
  | .ok d => .ok d s
  | _ => .no) Q) : spV K m vs H Q E := by
  refine ⟨F, ds, rep.sub, r, ?_⟩
  cases q : m ds with
  | ok d =>
    rw [q] at h
    exact fun v H' F' ext dv => h v H' F' ext.step (rep.ext ext) dv
  | ex c d =>
    rw [q] at h
    exact h.elim
  | no =>
    rw [q] at h
    exact h.elim
theorem pv_cal {k : Nat} {ps : List Str} {m : List D → Rv} (C : Cal X.prog X.w X.K X.mg X.base k x ps (spV K m)) (room : Room k X.A) (gd : X.A.guards = some []) (gl : Gl X x) (args : PA X (e :: es) (tVA K pa W fr))
    (n1 : (x == ("__debug__" : Str)) = false := by decide) (n2 : starEach (e :: es) X.env = (false, eval e X.env) :: starEach es X.env := by rfl) (n3 : (backTo pos (starEach es X.env)).any (·.1) = false := by rfl) :
    PE X (.Call (.Name x p) (e :: es) [] pos) (tV K pa W (mCal m fr)) := by
  refine (pe_cal C room gd gl args n1 n2 n3).mono ?_
  rintro σ H Q ⟨F, s, rep, h⟩
  refine ⟨F, s, rep, (Fin.bind h).mono ?_⟩
  rintro vs H1 ⟨F1, s1, ds, st1, rep1, dv, h1⟩
  rw [List.append_nil]
  exact spV_of rep1 dv h1
theorem pe_cal0G {k : Nat} {sp : Sp} (C : Cal X.prog X.w X.K X.mg X.base k x [] sp) (room : Room k X.A) (gd : X.A.guards = some []) (gl : Gl X x) (n1 : (x == ("__debug__" : Str)) = false := by decide) :
    PE X (.Call (.Name x p) [] [] pos) (tCall sp [] E0 tNil) := by
  obtain ⟨f, fd, G, at_, kp, b⟩ := C.ex
  refine ⟨fun pins s σ H Q I want => wpAny_Call_Name_kw (ld_glob I gl at_ ?_ n1)⟩
  exact PySem.W.callWith_K0 I.kIn kp (runG (us := []) (vs := []) G room gd b passL I .nil want)
theorem pv_cal0 {k : Nat} {m : List D → Rv} (C : Cal X.prog X.w X.K X.mg X.base k x [] (spV K m)) (room : Room k X.A) (gd : X.A.guards = some []) (gl : Gl X x) (n1 : (x == ("__debug__" : Str)) = false := by decide) :
    PE X (.Call (.Name x p) [] [] pos) (tV K pa W (mCal m mNil)) := by
  refine (pe_cal0G C room gd gl n1).mono ?_
  rintro σ H Q ⟨F, s, rep, h⟩
  exact spV_of (W := W) rep .nil h
theorem Rep.potAt {F H : Hp} {σ : L2.St} {s : S} {i : Nat} (rep : Rep K pa F H σ s) (e : s.e[i]? = some (some .p)) : σ[i]? = some (some (.ref pa.root)) := by
  obtain ⟨v, h1, h2⟩ := rep.slot i _ e
  cases v with
  | ref a =>
    have h2 : a = pa.root := h2
    rw [h1, h2]
  | _ => exact h2.elim
/-- the pot has been drawn from -/
theorem Rep.drawn {F H F' H' : Hp} {σ : L2.St} {s : S} {pt : Bw} (rep : Rep K pa F H σ s) (hp : HasP s.e) (e : ExtP pa F H F' H') (hh : BorAt K F' H' pa pt) : Step pa F H σ s F' H' σ { s with p := pt } ∧ Rep K pa F' H' σ { s with p := pt } := by
  obtain ⟨p1, p2, p3⟩ := rep.pot hp
  have nn : ∀ a o, F a = none → H a = some o → F' a = none := fun a o hf h => by
    cases q : F' a with
    | none => rfl
    | some u =>
      rcases e.new a (by rw [q]; exact fun z => nomatch z) with z | z
      · exact absurd hf z
      · rw [h] at z
        cases z
  refine ⟨⟨e.le, fun a o h n => e.keep a o h fun z => n (.inr ⟨hp, z⟩), fun a h => (e.new a h).imp_right .inl, fun a h => .inl h⟩, ⟨e.sub, rep.len, fun i x h => ?_, rep.uniq, fun _ => ⟨e.np, hh, p3⟩⟩⟩
  obtain ⟨v, h1, h2⟩ := rep.slot i x h
  refine ⟨v, h1, ?_⟩
  have nA : ∀ a, v = .ref a → x.own = true → ¬ pa.has a := fun a e1 e2 e3 => by
    subst e1
    exact p3 i a e3 ⟨h1, x, h, e2⟩
  cases x with
  | d x => cases v <;> exact Den.mono e.le h2
  | l xs =>
    cases v with
    | ref a =>
      obtain ⟨q1, vs, q2, q3⟩ := h2
      exact ⟨nn a _ q1 q2, vs, e.at q2 (nA a rfl rfl), q3.mono e.le⟩
    | _ => exact h2.elim
  | k ks xs =>
    cases v with
    | ref a =>
      obtain ⟨q1, vs, q2, q4, q3⟩ := h2
      exact ⟨nn a _ q1 q2, vs, e.at q2 (nA a rfl rfl), q4, q3.mono e.le⟩
    | _ => exact h2.elim
  | p =>
    cases v with
    | ref a => exact h2
    | _ => exact h2.elim
theorem pv_calP {k i : Nat} {ps : List Str} {m : Bw → List D → Rp} (C : Cal X.prog X.w X.K X.mg X.base k x ps (spP K m)) (room : Room k X.A) (gd : X.A.guards = some []) (gl : Gl X x) (hp : PE X e (tVar i)) (args : PA X es (tVA K pa W fr))
    (n1 : (x == ("__debug__" : Str)) = false := by decide) (n2 : starEach (e :: es) X.env = (false, eval e X.env) :: starEach es X.env := by rfl) (n3 : (backTo pos (starEach es X.env)).any (·.1) = false := by rfl) :
    PE X (.Call (.Name x p) (e :: es) [] pos) (tV K pa W (mCalP i m fr)) := by
  refine (pe_cal C room gd gl (pa_cons hp args n2) n1 n2 n3).mono ?_
  rintro σ H Q ⟨F, s, rep, h⟩
  unfold mCalP at h
  split at h
  · rename_i e0
    refine ⟨_, rep.potAt e0, F, s, rep, (Fin.bind h).mono ?_⟩
    rintro vs H1 ⟨F1, s1, ds, st1, rep1, dv, h1⟩
    rw [List.append_nil]
    try dsimp only at h1
    split at h1
    · rename_i e1
      obtain ⟨q1, q2, q3⟩ := rep1.pot ⟨i, e1⟩
      refine ⟨F1, pa, s1.p, vs, ds, rfl, rep1.sub, q1, q2, dv, ?_⟩
      cases q : m s1.p ds with
      | no =>
        rw [q] at h1
        exact h1.elim
      | ok d p' =>
        rw [q] at h1
        intro v H2 F2 ex hh dv2
        obtain ⟨st2, rep2⟩ := rep1.drawn ⟨i, e1⟩ ex hh
        exact h1 v H2 F2 st2 rep2 dv2
    · exact h1.elim
  · exact h.elim
/-! the pot's own numbers -/
def mPotAt (i : Nat) (fb : S → Rs D) : S → Rs D := fun s => match s.e[i]? with
  | some (some .p) => (fb s).bind fun k s1 => (match s1.e[i]?, k with
    | some (some .p), .int k => (match s1.p with
      | .pot pt => (match atI pt.vs k with
        | some (.int n) => .ok (.int n) s1
        | _ => .no)
      | _ => .no)
    | _, _ => .no)
  | _ => .no
theorem pv_potAt {i : Nat} (ek : X.K = K) (ha : PE X a (tVar i)) (hb : PE X b (tV K pa W fb)) (hs : PlainIx b) : PE X (.Subscript a b pos) (tV K pa W (mPotAt i fb)) := by
  subst ek
  refine (pe_ix ix_seq ha hb hs).mono ?_
  rintro σ H Q ⟨F, s, rep, h⟩
  unfold mPotAt at h
  split at h
  · rename_i e0
    refine ⟨_, rep.potAt e0, F, s, rep, (Fin.bind h).mono ?_⟩
    rintro w H1 ⟨F1, s1, k, st1, rep1, dv, h1⟩
    have dv : Den X.K F1 w k := dv
    try dsimp only at h1
    split at h1
    · rename_i k e1 _
      cases dv
      obtain ⟨q1, q2, q3⟩ := rep1.pot ⟨i, e1⟩
      split at h1
      · rename_i pt ep
        rw [ep] at q2
        split at h1
        · rename_i n en
          exact .inl ⟨pa.root, _, k, _, rfl, rfl, SqL.of q2.2, en, h1 _ _ _ Step.refl rep1 (.int n)⟩
        · exact h1.elim
      · exact h1.elim
    · exact h1.elim
  · exact h.elim
def Pot.set (p : Pot) (k : Int) (n : Int) : Option Pot := if k = 0 then some { p with a := n } else if k = 1 then some { p with b := n } else if k = 2 then some { p with c := n } else none
def sPotSet (i : Nat) (fa fb : S → Rs D) : S → Ro := fun s => (fa s).st fun d s1 => match s1.e[i]? with
  | some (some .p) => (fb s1).st fun k s2 => (match s2.e[i]?, k, d with
    | some (some .p), .int k, .int n => (match s2.p with
      | .pot pt => (match pt.set k n with
        | some p' => .nx { s2 with p := .pot p' }
        | none => .no)
      | _ => .no)
    | _, _, _ => .no)
  | _ => .no
theorem Pot.set_ok {p p' : Pot} {k n : Int} (h : p.set k n = some p') : ∃ j, ixN p.vs.length k = some j ∧ p.vs.set j (.int n) = p'.vs := by
  unfold Pot.set at h
  by_cases h0 : k = 0
  · rw [if_pos h0] at h
    cases h
    subst h0
    exact ⟨0, rfl, rfl⟩
  · rw [if_neg h0] at h
    by_cases h1 : k = 1
    · rw [if_pos h1] at h
      cases h
      subst h1
      exact ⟨1, rfl, rfl⟩
    · rw [if_neg h1] at h
      by_cases h2 : k = 2
      · rw [if_pos h2] at h
        cases h
        subst h2
        exact ⟨2, rfl, rfl⟩
      · rw [if_neg h2] at h
        cases h
theorem q_potSet {i : Nat} (h : PS X st (tAsg (tV K pa W fa) (gSub (tVar i) (tV K pa W fb) rSetL))) : PS X st (tS K pa W (sPotSet i fa fb)) := by
  refine h.mono ?_
  rintro E σ H ⟨F, s, rep, h⟩
  refine ⟨F, s, rep, (FinS.st h).mono ?_⟩
  rintro v H1 ⟨F1, s1, d, st1, rep1, dv, h1⟩
  try dsimp only at h1
  split at h1
  · rename_i e0
    refine ⟨_, rep1.potAt e0, F1, s1, rep1, (FinS.st h1).mono ?_⟩
    rintro w H2 ⟨F2, s2, k, st2, rep2, dk, h2⟩
    have dk : Den K F2 w k := dk
    have dv : Den K F1 v d := dv
    try dsimp only at h2
    split at h2
    · rename_i k n e1 _ _
      cases dk
      cases dv
      obtain ⟨q1, q2, q3⟩ := rep2.pot ⟨i, e1⟩
      split at h2
      · rename_i pt ept
        rw [ept] at q2
        split at h2
        case h_2 => exact h2.elim
        rename_i p' ep
        obtain ⟨j, j1, j2⟩ := Pot.set_ok ep
        refine ⟨pa.root, _, k, j, rfl, rfl, q2.2, j1, ?_⟩
        rw [j2]
        have ex : ExtP pa F2 H2 F2 (upd H2 pa.root (.lst p'.vs)) := by
          exact ⟨Le.refl, rep2.sub.updN (q1 _ (.inl rfl)) (plain_of q2.2), fun b o hb n => ⟨o, by rw [upd_ne (fun z => n (.inl z))]; exact hb, fun _ => rfl⟩, fun b hb => .inl hb, q1⟩
        obtain ⟨st3, rep3⟩ := rep2.drawn (pt := .pot p') ⟨i, e1⟩ ex ⟨q2.1, upd_same⟩
        exact h2 _ _ _ st3 rep3
      · exact h2.elim
    · exact h2.elim
  · exact h1.elim
end

/-! ### looks at what a name owns, by results that hold nothing -/
def mOpL (i : Nat) (g : D → D → Option D) (fb : S → Rs D) : S → Rs D := fun s => match s.e[i]? with
  | some (some (.l _)) => (fb s).bind fun y s1 => (match s1.e[i]? with
    | some (some (.l xs)) => (match g (.lst xs) y with
      | some z => if z.isFlat then .ok z s1 else .no
      | none => .no)
    | _ => .no)
  | _ => .no
def mOpR (g : D → D → Option D) (fa : S → Rs D) (i : Nat) : S → Rs D := fun s => (fa s).bind fun x s1 => match s1.e[i]? with
  | some (some (.l xs)) => (match g x (.lst xs) with
    | some z => if z.isFlat then .ok z s1 else .no
    | none => .no)
  | _ => .no
def mCBO (g : List D → Option D) (i : Nat) : S → Rs D := fun s => match s.e[i]? with
  | some (some (.l xs)) => (match g [.lst xs] with
    | some z => if z.isFlat then .ok z s else .no
    | none => .no)
  | _ => .no
section
variable {X : Cx} {K : PySem.W.Frag} {pa : Plc} {W : L2.St → XK} {a b c tg : Expr} {fa fb fc : S → Rs D} {pos p : Pos} {es : List Expr} {fr : S → Rs (List D)}
theorem Den.any {F F' : Hp} {v : V} {d : D} (h : Den K F v d) (e : d.isFlat = true) : Den K F' v d := by
  cases h <;> first | exact .non | exact .bl _ | exact .int _ | exact .str _ | cases e
/-- the thing at a frozen for a look -/
theorem look_out {F H : Hp} {σ : L2.St} {s : S} {a : Addr} {o : HO} {z : D} {Q : VK} (rep : Rep K pa F H σ s) (hf : F a = none) (hh : H a = some o) (fl : z.isFlat = true) (h : Fin (dV K) K pa W F H σ s (.ok z s) Q) (nt : NoTab o := by intro ps z; cases z) : Sub (upd F a o) H ∧ Out K (upd F a o) H z Q := by
  refine ⟨rep.sub.laid hh nt, fun v H' F' ext dv => ?_⟩
  · have e2 : Ext F H F H' := ⟨Le.refl, ⟨fun b u e => ext.sub b u (ext.le b u (upd_le hf b u e)), rep.sub.tb⟩, ext.same, fun b h => .inl h⟩
    exact h v H' F e2.step (rep.ext e2) (dv.any fl)
theorem opL_of {i : Nat} {r : R2} {g : D → D → Option D} (l : LiftOp K r g) {σ : L2.St} {H : Hp} {Q : VK} (h : tV K pa W (mOpL i g fb) σ H Q) : tOp r (tVar i) (tV K pa W fb) σ H Q := by
  obtain ⟨F, s, rep, h⟩ := h
  unfold mOpL at h
  split at h
  · rename_i xs0 e0
    obtain ⟨a0, vs0, h0, _, _, q0, _⟩ := ownL rep e0
    refine ⟨_, h0, F, s, rep, (Fin.bind h).mono ?_⟩
    rintro w H1 ⟨F1, s1, y, st1, rep1, dw, h1⟩
    have dw : Den K F1 w y := dw
    split at h1
    · rename_i xs e1
      obtain ⟨a, ws, g1, g2, g3, g4, g5⟩ := ownL rep1 e1
      rw [h0] at g1
      cases g1
      split at h1
      · rename_i z ez
        by_cases fl : z.isFlat = true
        · rw [if_pos fl] at h1
          obtain ⟨sb, out⟩ := look_out rep1 g3 g4 fl h1
          exact l _ _ _ _ _ _ z Q sb (.lst upd_same (g5.mono (upd_le g3))) (dw.mono (upd_le g3)) ez out
        · rw [if_neg fl] at h1
          exact h1.elim
      · exact h1.elim
    · exact h1.elim
  · exact h.elim
theorem opR_of {i : Nat} {r : R2} {g : D → D → Option D} (l : LiftOp K r g) {σ : L2.St} {H : Hp} {Q : VK} (h : tV K pa W (mOpR g fa i) σ H Q) : tOp r (tV K pa W fa) (tVar i) σ H Q := by
  obtain ⟨F, s, rep, h⟩ := h
  refine ⟨F, s, rep, (Fin.bind h).mono ?_⟩
  rintro w H1 ⟨F1, s1, y, st1, rep1, dw, h1⟩
  have dw : Den K F1 w y := dw
  split at h1
  · rename_i xs e1
    obtain ⟨a, ws, g1, g2, g3, g4, g5⟩ := ownL rep1 e1
    refine ⟨_, g1, ?_⟩
    split at h1
    · rename_i z ez
      by_cases fl : z.isFlat = true
      · rw [if_pos fl] at h1
        obtain ⟨sb, out⟩ := look_out rep1 g3 g4 fl h1
        exact l _ _ _ _ _ _ z Q sb (dw.mono (upd_le g3)) (.lst upd_same (g5.mono (upd_le g3))) ez out
      · rw [if_neg fl] at h1
        exact h1.elim
    · exact h1.elim
  · exact h1.elim
theorem pv_cmpL {i : Nat} {op : CmpOp} {r : R2} {g : D → D → Option D} (ho : OpR X (compareOp op) r) (l : LiftOp K r g) (ha : PE X a (tVar i)) (hb : PE X b (tV K pa W fb)) (hm : behindInMarks op b = false) : PE X (.Compare a [op] [b] pos) (tV K pa W (mOpL i g fb)) :=
  (pe_cmpR ho ha hb hm).mono fun _ _ _ h => opL_of l h
theorem pv_cmpRt {i : Nat} {op : CmpOp} {r : R2} {g : D → D → Option D} (ho : OpR X (compareOp op) r) (l : LiftOp K r g) (ha : PE X a (tV K pa W fa)) (hb : PE X b (tVar i)) (hm : behindInMarks op b = false) : PE X (.Compare a [op] [b] pos) (tV K pa W (mOpR g fa i)) :=
  (pe_cmpR ho ha hb hm).mono fun _ _ _ h => opR_of l h
theorem qt_cmpL {i : Nat} {op : CmpOp} {r : R2} {g : D → D → Option D} (ho : OpR X (compareOp op) r) (l : LiftOp K r g) (ha : PE X a (tVar i)) (hb : PE X b (tV K pa W fb)) (hm : behindInMarks op b = false) : PT X (.Compare a [op] [b] pos) (tVB K pa W (mTest (mOpL i g fb))) := by
  refine (pt_cmpR ho ha hb hm).mono fun σ H Q h => ?_
  obtain ⟨F, s, rep, h⟩ := h
  refine opL_of l ⟨F, s, rep, (Fin.bind h).mono ?_⟩
  rintro v H1 ⟨F1, s1, x, st1, rep1, dv, h1⟩
  cases x with
  | bl b => exact ⟨b, dv.isBl, h1 b H1 F1 Step.refl rep1 rfl⟩
  | _ => exact False.elim h1
theorem qt_cmpRt {i : Nat} {op : CmpOp} {r : R2} {g : D → D → Option D} (ho : OpR X (compareOp op) r) (l : LiftOp K r g) (ha : PE X a (tV K pa W fa)) (hb : PE X b (tVar i)) (hm : behindInMarks op b = false) : PT X (.Compare a [op] [b] pos) (tVB K pa W (mTest (mOpR g fa i))) := by
  refine (pt_cmpR ho ha hb hm).mono fun σ H Q h => ?_
  obtain ⟨F, s, rep, h⟩ := h
  refine opR_of l ⟨F, s, rep, (Fin.bind h).mono ?_⟩
  rintro v H1 ⟨F1, s1, x, st1, rep1, dv, h1⟩
  cases x with
  | bl b => exact ⟨b, dv.isBl, h1 b H1 F1 Step.refl rep1 rfl⟩
  | _ => exact False.elim h1
theorem pv_lenO {i : Nat} (ek : X.K = K) (hg : Gl X "len") (hm : X.mg "len" = none) (ha : PE X a (tVar i)) (h1 : starEach [a] X.env = (false, eval a X.env) :: starEach [] X.env := by rfl) (hpl : (backTo pos (starEach [] X.env)).any (·.1) = false := by rfl) :
    PE X (.Call (.Name "len" p) [a] [] pos) (tV K pa W (mCBO lenD i)) := by
  refine (pe_callB (c_lenAll ek) hg hm (by decide +kernel) (pa_cons ha pa_nil h1) (by decide) (by decide) h1 hpl).mono ?_
  rintro σ H Q ⟨F, s, rep, h⟩
  unfold mCBO at h
  split at h
  · rename_i xs e
    obtain ⟨a, ws, g1, g2, g3, g4, g5⟩ := ownL rep e
    refine ⟨_, g1, ?_⟩
    split at h
    · rename_i z ez
      by_cases fl : z.isFlat = true
      · rw [if_pos fl] at h
        obtain ⟨sb, out⟩ := look_out rep g3 g4 fl h
        exact l_len _ _ _ _ z Q sb (.cons (.lst upd_same (g5.mono (upd_le g3))) .nil) ez out
      · rw [if_neg fl] at h
        exact h.elim
    · exact h.elim
  · exact h.elim
end
/-- xs[k] of an owned list -/
def mAtL (i : Nat) (fb : S → Rs D) : S → Rs D := fun s => match s.e[i]? with
  | some (some (.l _)) => (fb s).bind fun y s1 => (match s1.e[i]? with
    | some (some (.l xs)) => (match y with
      | .int k => liftO (atI xs k) s1
      | _ => .no)
    | _ => .no)
  | _ => .no
section
variable {X : Cx} {K : PySem.W.Frag} {pa : Plc} {W : L2.St → XK} {a b : Expr} {fb : S → Rs D} {pos : Pos}
theorem atL_of {i : Nat} {σ : L2.St} {H : Hp} {Q : VK} (h : tV K pa W (mAtL i fb) σ H Q) : tOp (rIx K) (tVar i) (tV K pa W fb) σ H Q := by
  obtain ⟨F, s, rep, h⟩ := h
  unfold mAtL at h
  split at h
  · rename_i xs0 e0
    obtain ⟨a0, vs0, h0, _, _, q0, _⟩ := ownL rep e0
    refine ⟨_, h0, F, s, rep, (Fin.bind h).mono ?_⟩
    rintro w H1 ⟨F1, s1, y, st1, rep1, dw, h1⟩
    have dw : Den K F1 w y := dw
    split at h1
    · rename_i xs e1
      obtain ⟨a, ws, g1, g2, g3, g4, g5⟩ := ownL rep1 e1
      rw [h0] at g1
      cases g1
      cases y with
      | int k =>
        cases dw
        replace h1 : Fin (dV K) K pa W F1 H1 σ s1 (liftO (atI xs k) s1) Q := h1
        cases e : atI xs k with
        | none =>
          rw [e] at h1
          exact h1.elim
        | some d =>
          rw [e] at h1
          obtain ⟨v, ev, dv⟩ := atI_map g5 e
          exact .inl ⟨_, ws, k, v, rfl, rfl, .inl (.inl g4), ev, h1 v H1 F1 Step.refl rep1 dv⟩
      | _ => exact h1.elim
    · exact h1.elim
  · exact h.elim
theorem pv_atL {i : Nat} (ho : IxR X (rIx K)) (ha : PE X a (tVar i)) (hb : PE X b (tV K pa W fb)) (hs : PlainIx b) : PE X (.Subscript a b pos) (tV K pa W (mAtL i fb)) :=
  (pe_ix ho ha hb hs).mono fun _ _ _ h => atL_of h
end
/-- len(xs) of a list, owned or not -/
def mLenX (i : Nat) : S → Rs D := fun s => match s.e[i]? with
  | some (some (.l xs)) => .ok (.int (xs.length : Nat)) s
  | some (some (.d (.lst xs))) => .ok (.int (xs.length : Nat)) s
  | _ => .no
section
variable {X : Cx} {K : PySem.W.Frag} {pa : Plc} {W : L2.St → XK} {a : Expr} {p pos : Pos}
theorem pv_lenX {i : Nat} (ek : X.K = K) (hg : Gl X "len") (hm : X.mg "len" = none) (ha : PE X a (tVar i)) (h1 : starEach [a] X.env = (false, eval a X.env) :: starEach [] X.env := by rfl) (hpl : (backTo pos (starEach [] X.env)).any (·.1) = false := by rfl) :
    PE X (.Call (.Name "len" p) [a] [] pos) (tV K pa W (mLenX i)) := by
  refine (pe_callB (c_lenAll ek) hg hm (by decide +kernel) (pa_cons ha pa_nil h1) (by decide) (by decide) h1 hpl).mono ?_
  rintro σ H Q ⟨F, s, rep, h⟩
  unfold mLenX at h
  split at h
  · rename_i xs e
    obtain ⟨a, ws, g1, g2, g3, g4, g5⟩ := ownL rep e
    obtain ⟨sb, out⟩ := look_out rep g3 g4 (z := .int (xs.length : Nat)) rfl h
    exact ⟨_, g1, l_len _ _ _ _ (.int (xs.length : Nat)) Q sb (.cons (.lst upd_same (g5.mono (upd_le g3))) .nil) rfl out⟩
  · rename_i xs e
    obtain ⟨v, g1, g2⟩ := rep.slot i _ e
    have g2 : Den K F v (.lst xs) := g2
    exact ⟨_, g1, l_len _ _ _ _ (.int (xs.length : Nat)) Q rep.sub (.cons g2 .nil) rfl fun v' H' F' ext dv => h v' H' F' ext.step (rep.ext ext) dv⟩
  · exact h.elim
end

theorem u1 {k : Nat} {A : Around} (r : Room k A) : A.units + 1 < cLine := by
  have := r.units
  omega
/-! ### dicts as trees -/
section
variable {α β : Type}
def findL (k : Key) : List Key → List α → Option α
  | k' :: ks, y :: ys => if k' = k then some y else findL k ks ys
  | _, _ => none
def replL (k : Key) (x : α) : List Key → List α → List α
  | k' :: ks, y :: ys => (if k' = k then x else y) :: replL k x ks ys
  | _, _ => []
def hasK (k : Key) (ks : List Key) : Bool := ks.any fun k' => decide (k' = k)
def putKs (ks : List Key) (k : Key) : List Key := if hasK k ks then ks else ks ++ [k]
def putVs (ks : List Key) (vs : List α) (k : Key) (v : α) : List α := if hasK k ks then replL k v ks vs else vs ++ [v]
theorem replL_len {k : Key} {x : α} : ∀ {ks : List Key} {vs : List α}, ks.length = vs.length → (replL k x ks vs).length = vs.length
  | [], [], _ => rfl
  | [], _ :: _, h => by cases h
  | _ :: _, [], h => by cases h
  | _ :: ks, _ :: vs, h => congrArg (· + 1) (replL_len (Nat.succ.inj h))
theorem putVs_len {ks : List Key} {vs : List α} {k : Key} {v : α} (h : ks.length = vs.length) : (putKs ks k).length = (putVs ks vs k v).length := by
  unfold putKs putVs
  split
  · rw [replL_len h, h]
  · simp [h]
end
theorem zip_any {k : Key} : ∀ {ks : List Key} {vs : List V}, ks.length = vs.length → ((ks.zip vs).any fun kv => decide (kv.1 = k)) = hasK k ks
  | [], [], _ => rfl
  | [], _ :: _, h => by cases h
  | _ :: _, [], h => by cases h
  | k' :: ks, v :: vs, h => by
    have := zip_any (k := k) (ks := ks) (vs := vs) (Nat.succ.inj h)
    unfold hasK at this ⊢
    rw [List.zip_cons_cons, List.any_cons, List.any_cons, this]
theorem zip_repl {k : Key} {v : V} : ∀ {ks : List Key} {vs : List V}, ks.length = vs.length → (ks.zip vs).map (fun kv => if kv.1 = k then (kv.1, v) else kv) = ks.zip (replL k v ks vs)
  | [], [], _ => rfl
  | [], _ :: _, h => by cases h
  | _ :: _, [], h => by cases h
  | k' :: ks, w :: vs, h => by
    have := zip_repl (k := k) (v := v) (ks := ks) (vs := vs) (Nat.succ.inj h)
    rw [List.zip_cons_cons, List.map_cons, this]
    show _ = (k' :: ks).zip ((if k' = k then v else w) :: replL k v ks vs)
    rw [List.zip_cons_cons]
    congr 1
    by_cases e : k' = k
    · rw [if_pos e, if_pos e]
    · rw [if_neg e, if_neg e]
theorem zip_put {k : Key} {v : V} {ks : List Key} {vs : List V} (h : ks.length = vs.length) : putK (ks.zip vs) k v = (putKs ks k).zip (putVs ks vs k v) := by
  unfold putK putKs putVs
  rw [zip_any h]
  cases hasK k ks with
  | true => exact zip_repl h
  | false =>
    show ks.zip vs ++ [(k, v)] = (ks ++ [k]).zip (vs ++ [v])
    rw [List.zip_append h]
    rfl
theorem zip_val {k : Key} : ∀ {ks : List Key} {vs : List V}, ks.length = vs.length → valV (ks.zip vs) k = findL k ks vs
  | [], [], _ => rfl
  | [], _ :: _, h => by cases h
  | _ :: _, [], h => by cases h
  | k' :: ks, v :: vs, h => by
    rw [List.zip_cons_cons]
    unfold findL
    by_cases e : k' = k
    · rw [if_pos e, valV_pos e]
    · rw [if_neg e, valV_neg e]
      exact zip_val (Nat.succ.inj h)
section
variable {K : PySem.W.Frag} {F H : Hp}
theorem DenAll.repl {k : Key} {v : V} {d : D} (h2 : Den K F v d) : ∀ {ks : List Key} {vs : List V} {ds : List D}, DenAll K F vs ds → DenAll K F (replL k v ks vs) (replL k d ks ds)
  | [], _, _, _ => .nil
  | _ :: _, _, _, .nil => .nil
  | k' :: ks, _, _, .cons h r => by
    unfold replL
    by_cases e : k' = k
    · rw [if_pos e, if_pos e]
      exact .cons h2 (DenAll.repl h2 r)
    · rw [if_neg e, if_neg e]
      exact .cons h (DenAll.repl h2 r)
theorem DenAll.put {k : Key} {v : V} {d : D} {ks : List Key} {vs : List V} {ds : List D} (h2 : Den K F v d) (h : DenAll K F vs ds) : DenAll K F (putVs ks vs k v) (putVs ks ds k d) := by
  unfold putVs
  cases hasK k ks with
  | true => exact h.repl h2
  | false => exact h.snoc h2
theorem DenAll.find {k : Key} {d : D} : ∀ {ks : List Key} {vs : List V} {ds : List D}, DenAll K F vs ds → findL k ks ds = some d → ∃ v, findL k ks vs = some v ∧ Den K F v d
  | [], _, _, _, e => by cases e
  | _ :: _, _, _, .nil, e => by cases e
  | k' :: ks, _, _, .cons h r, e => by
    unfold findL at e ⊢
    by_cases q : k' = k
    · rw [if_pos q] at e ⊢
      cases e
      exact ⟨_, rfl, h⟩
    · rw [if_neg q] at e ⊢
      exact r.find e
theorem DenAll.findN {k : Key} : ∀ {ks : List Key} {vs : List V} {ds : List D}, DenAll K F vs ds → (findL k ks vs).isSome = (findL k ks ds).isSome
  | [], _, _, .nil => rfl
  | [], _, _, .cons _ _ => rfl
  | _ :: _, _, _, .nil => rfl
  | k' :: ks, _, _, .cons h r => by
    unfold findL
    by_cases q : k' = k
    · rw [if_pos q, if_pos q]
      rfl
    · rw [if_neg q, if_neg q]
      exact DenAll.findN r
end
def D.key : D → Option Key
  | .int i => some (.inl i)
  | .str x => some (.inr x)
  | _ => none
theorem Den.key {K : PySem.W.Frag} {F : Hp} {v : V} {d : D} {k : Key} (h : Den K F v d) (e : d.key = some k) : v = kV k := by
  cases h <;> cases e <;> rfl
def dgetD : D → D → Option D
  | .dic ks vs, y => match y.key with
    | some k => findL k ks vs
    | none => none
  | _, _ => none
def dinB : D → D → Option Bool
  | y, .dic ks vs => match y.key with
    | some k => some (findL k ks vs).isSome
    | none => none
  | _, _ => none
def dinD (y d : D) : Option D := match dinB y d with
  | some k => some (.bl k)
  | none => none
def dnotInD (y d : D) : Option D := match dinB y d with
  | some k => some (.bl (!k))
  | none => none
section
variable {X : Cx} {K : PySem.W.Frag} {pa : Plc} {W : L2.St → XK} {a b c tg : Expr} {fa fb fc : S → Rs D} {pos p : Pos} {es : List Expr} {fr : S → Rs (List D)} {st : Stmt}
theorem Den.dict {F H : Hp} {v : V} {ks : List Key} {ds : List D} (s : Sub F H) (h : Den K F v (.dic ks ds)) : ∃ a vs, v = .ref a ∧ F a = some (.dK (ks.zip vs)) ∧ Rd H a (.dK (ks.zip vs)) ∧ ks.length = vs.length ∧ DenAll K F vs ds := by
  cases h with
  | dic q l r => exact ⟨_, _, rfl, q, s.rd q, l, r⟩
theorem pv_dget (hu : X.A.units + 1 < cLine) (ha : PE X a (tV K pa W fa)) (hb : PE X b (tV K pa W fb)) (hs : NoSl b) : PE X (.Subscript a b pos) (tV K pa W (mOp dgetD fa fb)) := by
  refine (pe_dget hu ha hb hs).mono ?_
  rintro σ H Q ⟨F, s, rep, h⟩
  refine ⟨F, s, rep, (Fin.bind h).mono ?_⟩
  rintro v H1 ⟨F1, s1, x, st1, rep1, dv, h1⟩
  refine ⟨F1, s1, rep1, (Fin.bind h1).mono ?_⟩
  rintro w H2 ⟨F2, s2, y, st2, rep2, dw, h2⟩
  obtain ⟨z, e, o⟩ := Fin.lift rep2 h2
  have dv : Den K F1 v x := dv
  have dw : Den K F2 w y := dw
  cases x with
  | dic ks ds =>
    obtain ⟨a, vs, rfl, q1, q2, q3, q4⟩ := Den.dict rep2.sub (dv.mono st2.le)
    dsimp only [dgetD] at e
    cases ek : y.key with
    | none =>
      rw [ek] at e
      cases e
    | some k =>
      rw [ek] at e
      obtain ⟨u, e1, e2⟩ := q4.find e
      rw [dw.key ek]
      exact ⟨a, u, rfl, .inl ⟨_, k, q2, rfl, by rw [zip_val q3, e1]⟩, o.here rep2.sub e2⟩
  | _ => cases e
theorem din_of {y d : D} {k : Bool} {F H : Hp} {v w : V} (s : Sub F H) (dy : Den K F w y) (dv : Den K F v d) (e : dinB y d = some k) : ∃ a o, v = .ref a ∧ DGet H a w o ∧ k = o.isSome := by
  cases d with
  | dic ks ds =>
    obtain ⟨a, vs, rfl, q1, q2, q3, q4⟩ := Den.dict s dv
    have e : (match y.key with
      | some k => some (findL k ks ds).isSome
      | none => none) = some k := by
      cases y <;> exact e
    cases ek : y.key with
    | none =>
      rw [ek] at e
      cases e
    | some k' =>
      rw [ek] at e
      cases e
      exact ⟨a, _, rfl, .inl ⟨_, k', q2, dy.key ek, rfl⟩, by rw [zip_val q3, q4.findN]⟩
  | _ => cases y <;> cases e
theorem tDIn_of {σ : L2.St} {H : Hp} {Q : VK} (h : tV K pa W (mOp dinD fa fb) σ H Q) : tDIn (tV K pa W fa) (tV K pa W fb) σ H Q := by
  obtain ⟨F, s, rep, h⟩ := h
  refine ⟨F, s, rep, (Fin.bind h).mono ?_⟩
  rintro v H1 ⟨F1, s1, x, st1, rep1, dv, h1⟩
  refine ⟨F1, s1, rep1, (Fin.bind h1).mono ?_⟩
  rintro w H2 ⟨F2, s2, y, st2, rep2, dw, h2⟩
  obtain ⟨z, e, o⟩ := Fin.lift rep2 h2
  unfold dinD at e
  cases q : dinB x y with
  | none =>
    rw [q] at e
    cases e
  | some k =>
    rw [q] at e
    cases e
    obtain ⟨a, o', e1, e2, e3⟩ := din_of rep2.sub (Den.mono st2.le dv) dw q
    exact ⟨a, o', e1, e2, by rw [← e3]; exact o.here rep2.sub (.bl _)⟩
theorem tDNotIn_of {σ : L2.St} {H : Hp} {Q : VK} (h : tV K pa W (mOp dnotInD fa fb) σ H Q) : tDNotIn (tV K pa W fa) (tV K pa W fb) σ H Q := by
  obtain ⟨F, s, rep, h⟩ := h
  refine ⟨F, s, rep, (Fin.bind h).mono ?_⟩
  rintro v H1 ⟨F1, s1, x, st1, rep1, dv, h1⟩
  refine ⟨F1, s1, rep1, (Fin.bind h1).mono ?_⟩
  rintro w H2 ⟨F2, s2, y, st2, rep2, dw, h2⟩
  obtain ⟨z, e, o⟩ := Fin.lift rep2 h2
  unfold dnotInD at e
  cases q : dinB x y with
  | none =>
    rw [q] at e
    cases e
  | some k =>
    rw [q] at e
    cases e
    obtain ⟨a, o', e1, e2, e3⟩ := din_of rep2.sub (Den.mono st2.le dv) dw q
    exact ⟨a, o', e1, e2, by rw [← e3]; exact o.here rep2.sub (.bl _)⟩
theorem pv_din (hu : X.A.units + 1 < cLine) (ha : PE X a (tV K pa W fa)) (hb : PE X b (tV K pa W fb)) (hm : behindInMarks .In b = false := by rfl) : PE X (.Compare a [.In] [b] pos) (tV K pa W (mOp dinD fa fb)) := (pe_cmp (pc_din hu ha hb) hm).mono fun _ _ _ h => tDIn_of h
theorem pv_dnotin (hu : X.A.units + 1 < cLine) (ha : PE X a (tV K pa W fa)) (hb : PE X b (tV K pa W fb)) (hm : behindInMarks .NotIn b = false := by rfl) : PE X (.Compare a [.NotIn] [b] pos) (tV K pa W (mOp dnotInD fa fb)) := (pe_cmp (pc_dnotin hu ha hb) hm).mono fun _ _ _ h => tDNotIn_of h
theorem qt_din (hu : X.A.units + 1 < cLine) (ha : PE X a (tV K pa W fa)) (hb : PE X b (tV K pa W fb)) (hm : behindInMarks .In b = false := by rfl) : PT X (.Compare a [.In] [b] pos) (tVB K pa W (mTest (mOp dinD fa fb))) := by
  refine (pt_cmp (pc_din hu ha hb) hm).mono fun σ H Q h => ?_
  obtain ⟨F, s, rep, h⟩ := h
  refine tDIn_of ⟨F, s, rep, (Fin.bind h).mono ?_⟩
  rintro v H1 ⟨F1, s1, x, st1, rep1, dv, h1⟩
  cases x with
  | bl b => exact ⟨b, dv.isBl, h1 b H1 F1 Step.refl rep1 rfl⟩
  | _ => exact False.elim h1
theorem qt_dnotin (hu : X.A.units + 1 < cLine) (ha : PE X a (tV K pa W fa)) (hb : PE X b (tV K pa W fb)) (hm : behindInMarks .NotIn b = false := by rfl) : PT X (.Compare a [.NotIn] [b] pos) (tVB K pa W (mTest (mOp dnotInD fa fb))) := by
  refine (pt_cmp (pc_dnotin hu ha hb) hm).mono fun σ H Q h => ?_
  obtain ⟨F, s, rep, h⟩ := h
  refine tDNotIn_of ⟨F, s, rep, (Fin.bind h).mono ?_⟩
  rintro v H1 ⟨F1, s1, x, st1, rep1, dv, h1⟩
  cases x with
  | bl b => exact ⟨b, dv.isBl, h1 b H1 F1 Step.refl rep1 rfl⟩
  | _ => exact False.elim h1
/-! d[k] = v, d a name that owns it -/
theorem ownK {F H : Hp} {σ : L2.St} {s : S} {i : Nat} {ks : List Key} {xs : List D} (rep : Rep K pa F H σ s) (e : s.e[i]? = some (some (.k ks xs))) : ∃ a vs, σ[i]? = some (some (.ref a)) ∧ Owns σ s.e i a ∧ F a = none ∧ H a = some (.dK (ks.zip vs)) ∧ ks.length = vs.length ∧ DenAll K F vs xs := by
  obtain ⟨v, h1, h2⟩ := rep.slot i _ e
  cases v with
  | ref a =>
    obtain ⟨q1, vs, q2, q4, q3⟩ := h2
    exact ⟨a, vs, h1, ⟨h1, _, e, rfl⟩, q1, q2, q4, q3⟩
  | _ => exact h2.elim
def sDPutO (i : Nat) (fa fb : S → Rs D) : S → Ro := fun s => (fa s).st fun d s1 => match s1.e[i]? with
  | some (some (.k _ _)) => (fb s1).st fun y s2 => (match s2.e[i]?, y.key with
    | some (some (.k ks vs)), some k => if ks.length < 100000 then .nx (s2.put i (some (.k (putKs ks k) (putVs ks vs k d)))) else .no
    | _, _ => .no)
  | _ => .no
theorem q_dput {i : Nat} (h : PS X st (sDPut (tVar i) (tV K pa W fb) (tV K pa W fa))) : PS X st (tS K pa W (sDPutO i fa fb)) := by
  refine h.mono ?_
  rintro E σ H ⟨F, s, rep, h⟩
  refine ⟨F, s, rep, (FinS.st h).mono ?_⟩
  rintro v H1 ⟨F1, s1, d, st1, rep1, dv, h1⟩
  try dsimp only at h1
  split at h1
  · rename_i ks0 xs0 e0
    obtain ⟨a0, vs0, h0, _, _, q0, _⟩ := ownK rep1 e0
    refine ⟨_, h0, F1, s1, rep1, (FinS.st h1).mono ?_⟩
    rintro w H2 ⟨F2, s2, y, st2, rep2, dw, h2⟩
    have dw : Den K F2 w y := dw
    try dsimp only at h2
    split at h2
    · rename_i ks xs k e1 ek
      obtain ⟨a, ws, g1, g2, g3, g4, g5, g6⟩ := ownK rep2 e1
      rw [h0] at g1
      cases g1
      by_cases hl : ks.length < 100000
      · rw [if_pos hl] at h2
        have hz : (ks.zip ws).length < sizeLine := by
          rw [List.length_zip]
          exact Nat.lt_of_le_of_lt (Nat.min_le_left _ _) (Nat.lt_of_lt_of_le hl (by decide))
        refine ⟨a0, _, rfl, .inl ⟨_, k, g4, dw.key ek, hz, rfl⟩, ?_⟩
        rw [zip_put g5]
        obtain ⟨st3, rep3⟩ := rep2.change (o := .dK ((putKs ks k).zip (putVs ks ws k v))) (x := .k (putKs ks k) (putVs ks xs k d)) g2 g3 ⟨_, upd_same, putVs_len g5, g6.put (Den.mono st2.le dv)⟩
        exact h2 _ _ _ st3 rep3
      · rw [if_neg hl] at h2
        exact h2.elim
    · exact h2.elim
  · exact h1.elim
/-! {k: v, ..} -/
def mPairs : List ((S → Rs D) × (S → Rs D)) → S → Rs (List Key × List D)
  | [], s => .ok ([], []) s
  | (f, g) :: r, s => (f s).bind fun x s1 => (g s1).bind fun y s2 => match x.key with
    | some k => (mPairs r s2).bind fun z s3 => .ok (k :: z.1, y :: z.2) s3
    | none => .no
def mergeL (ks0 : List Key) (vs0 : List D) : List Key → List D → List Key × List D
  | k :: ks, v :: vs => mergeL (putKs ks0 k) (putVs ks0 vs0 k v) ks vs
  | _, _ => (ks0, vs0)
def mDisp (fs : List ((S → Rs D) × (S → Rs D))) : S → Rs LV := fun s => (mPairs fs s).bind fun z s1 => if z.1.length ≤ 15 then .ok (.k (mergeL [] [] z.1 z.2).1 (mergeL [] [] z.1 z.2).2) s1 else .no
def DenP (K : PySem.W.Frag) : Hp → Hp → List (V × V) → List Key × List D → Prop := fun F _ ps z => ∃ vs, z.1.length = vs.length ∧ ps = (z.1.zip vs).map (fun kv => (kV kv.1, kv.2)) ∧ DenAll K F vs z.2
theorem merge_ok {F : Hp} : ∀ {ks : List Key} {vs : List V} {ds : List D} {ks0 : List Key} {vs0 : List V} {ds0 : List D}, ks.length = vs.length → DenAll K F vs ds → ks0.length = vs0.length → DenAll K F vs0 ds0 →
    ∃ ws, mergeK (ks0.zip vs0) (ks.zip vs) = (mergeL ks0 ds0 ks ds).1.zip ws ∧ (mergeL ks0 ds0 ks ds).1.length = ws.length ∧ DenAll K F ws (mergeL ks0 ds0 ks ds).2
  | [], _, _, _, vs0, _, h, .nil, h0, r0 => ⟨vs0, rfl, h0, r0⟩
  | [], _, _, _, _, _, h, .cons _ _, _, _ => by cases h
  | k :: ks, _, _, ks0, vs0, ds0, h, r, h0, r0 => by
    cases r with
    | nil => cases h
    | cons hd hr =>
    rename_i v vs d ds
    obtain ⟨ws, e1, e2, e3⟩ := merge_ok (ks := ks) (vs := vs) (ds := ds) (ks0 := putKs ks0 k) (vs0 := putVs ks0 vs0 k v) (ds0 := putVs ks0 ds0 k d) (Nat.succ.inj h) hr (putVs_len h0) (r0.put hd)
    refine ⟨ws, ?_, e2, e3⟩
    rw [List.zip_cons_cons]
    show mergeK (putK (ks0.zip vs0) k v) (ks.zip vs) = _
    rw [zip_put h0, e1]
    rfl
theorem pairs_of : ∀ {trs : List ((S → Rs D) × (S → Rs D))} {σ : L2.St} {H : Hp} {Q : List (V × V) → Hp → Prop}, tG (DenP K) K pa W (mPairs trs) σ H Q → tPairs (trs.map fun f => (tV K pa W f.1, tV K pa W f.2)) σ H Q
  | [], σ, H, Q, ⟨F, s, rep, h⟩ => h [] H F Step.refl rep ⟨[], rfl, rfl, .nil⟩
  | (f, g) :: r, σ, H, Q, ⟨F, s, rep, h⟩ => by
    refine ⟨F, s, rep, (Fin.bind h).mono ?_⟩
    rintro v H1 ⟨F1, s1, x, st1, rep1, dv, h1⟩
    have dv : Den K F1 v x := dv
    refine ⟨F1, s1, rep1, (Fin.bind h1).mono ?_⟩
    rintro w H2 ⟨F2, s2, y, st2, rep2, dw, h2⟩
    have dw : Den K F2 w y := dw
    cases ek : x.key with
    | none =>
      rw [ek] at h2
      exact h2.elim
    | some k =>
      rw [ek] at h2
      refine pairs_of ⟨F2, s2, rep2, (Fin.bind h2).mono ?_⟩
      rintro ps H3 ⟨F3, s3, z, st3, rep3, ⟨vs, e1, e2, e3⟩, h3⟩
      refine h3 _ _ _ Step.refl rep3 ⟨w :: vs, by simp [e1], ?_, .cons (dw.mono st3.le) e3⟩
      subst e2
      rw [dv.key ek, List.zip_cons_cons, List.map_cons]
theorem disp_of {trs : List ((S → Rs D) × (S → Rs D))} {σ : L2.St} {H : Hp} {Q : VK} (h : tM K pa W (mDisp trs) σ H Q) : tDisp (trs.map fun f => (tV K pa W f.1, tV K pa W f.2)) σ H Q := by
  obtain ⟨F, s, rep, h⟩ := h
  intro p hp
  have ext : Ext F H F (upd H p (.dK [])) := Ext.fresh rep.sub hp
  have pd : Pend K pa F (upd H p (.dK [])) σ s p (.k [] []) := ⟨rep.sub.isN hp, ⟨[], upd_same, rfl, .nil⟩, not_own_new rep hp⟩
  refine pairs_of ⟨F, s, rep.ext ext, ?_⟩
  unfold mDisp at h
  cases e : mPairs trs s with
  | no =>
    rw [e] at h
    exact h.elim
  | ex c d s1 =>
    rw [e] at h
    exact fun H' F' a b => h H' F' ((ext.step (σ := σ) (s := s) (pa := pa)).trans a) b
  | ok z s1 =>
    rw [e] at h
    have h : FinM K pa W F H σ s (if z.1.length ≤ 15 then .ok (.k (mergeL [] [] z.1 z.2).1 (mergeL [] [] z.1 z.2).2) s1 else .no) Q := h
    by_cases hl : z.1.length ≤ 15
    · rw [if_pos hl] at h
      rintro ps H2 F2 st2 rep2 ⟨vs, e1, e2, e3⟩
      have pd2 := pd.step st2
      obtain ⟨us, g1, g2, g3⟩ := pd2.ho
      have g1 : H2 p = some (.dK []) := g1
      refine ⟨g1, z.1.zip vs, e2, by rw [List.length_zip]; exact Nat.le_trans (Nat.min_le_left _ _) hl, ?_⟩
      obtain ⟨ws, m1, m2, m3⟩ := merge_ok (ks := z.1) (ks0 := []) (vs0 := []) (ds0 := []) e1 e3 rfl DenAll.nil
      have m1 : mergeK [] (z.1.zip vs) = _ := m1
      rw [m1]
      have rpc : Rep K pa F2 (cutH H2 p) σ s1 := rep2.aside pd2.hf pd2.hn (plain_of g1) fun b hb => cutH_ne hb
      have st : Step pa F H σ s F2 H2 σ s1 := (ext.step (σ := σ) (s := s) (pa := pa)).trans st2
      have := h p (cutH H2 p) F2 (.dK ((mergeL [] [] z.1 z.2).1.zip ws)) ⟨st.le, fun a o hh nn => by
        rw [cutH_ne (fun z => by rw [z, hp] at hh; cases hh)]
        exact st.keep a o hh nn, st.new, st.own⟩ rpc (if_pos rfl) ⟨ws, upd_same, m2, m3⟩
      have ee : upd (cutH H2 p) p (.dK ((mergeL [] [] z.1 z.2).1.zip ws)) = upd H2 p (.dK ((mergeL [] [] z.1 z.2).1.zip ws)) := by
        funext b
        unfold upd cutH
        by_cases q : b = p
        · rw [if_pos q, if_pos q]
        · rw [if_neg q, if_neg q, if_neg q]
      rw [ee] at this
      exact this
    · rw [if_neg hl] at h
      exact h.elim
theorem pm_disp {keys : List (Option Expr)} {values : List Expr} {fs : List ((S → Rs D) × (S → Rs D))} (h : PPs X pos keys values (fs.map fun f => (tV K pa W f.1, tV K pa W f.2))) (hall : keys.all (·.isSome) = true) (hl : keys.length = values.length) (h0 : keys ≠ []) (h15 : keys.length ≤ 15) : PE X (.Dict keys values pos) (tM K pa W (mDisp fs)) :=
  (pe_disp h hall hl h0 h15).mono fun _ _ _ z => disp_of z
end

/-! ### texts -/
def mS1 (g : Str → D → Option D) (fa fb : S → Rs D) : S → Rs D := fun s => (fa s).bind fun x s1 => match x with
  | .str a => (fb s1).bind fun y s2 => liftO (g a y) s2
  | _ => .no
def mS0 (g : Str → Option D) (fa : S → Rs D) : S → Rs D := fun s => (fa s).bind fun x s1 => match x with
  | .str a => liftO (g a) s1
  | _ => .no
def splitD (a : Str) : D → Option D
  | .str b => if (b.length == 0) = false ∧ a.length ≤ 100000 then some (.lst ((Txt.split a b).map D.str)) else none
  | _ => none
def joinD (a : Str) : D → Option D
  | .lst xs => match strsOf xs with
    | some ys => if (ys.map (·.length)).sum + ys.length * a.length ≤ 16777216 then some (.str (Txt.join a ys)) else none
    | none => none
  | .tup xs => match strsOf xs with
    | some ys => if (ys.map (·.length)).sum + ys.length * a.length ≤ 16777216 then some (.str (Txt.join a ys)) else none
    | none => none
  | _ => none
def upperD (a : Str) : Option D := if a.length ≤ 100000 then some (.str (Txt.upper a)) else none
section
variable {X : Cx} {K : PySem.W.Frag} {pa : Plc} {W : L2.St → XK} {a b c tg o e : Expr} {fa fb fc : S → Rs D} {pos p apos : Pos} {es : List Expr} {fr : S → Rs (List D)} {st : Stmt}
theorem m1_of {r : V → List V → Hp → VK → Prop} {g : Str → D → Option D} (l : ∀ (F H : Hp) (x : Str) (w : V) (y z : D) (Q : VK), Sub F H → Den K F w y → g x y = some z → Out K F H z Q → r (.str x) [w] H Q) {σ : L2.St} {H : Hp} {Q : VK} (h : tV K pa W (mS1 g fa fb) σ H Q) : tM1 r (tV K pa W fa) (tV K pa W fb) σ H Q := by
  obtain ⟨F, s, rep, h⟩ := h
  refine ⟨F, s, rep, (Fin.bind h).mono ?_⟩
  rintro v H1 ⟨F1, s1, x, st1, rep1, dv, h1⟩
  cases dv with
  | str z =>
    refine ⟨⟨z, rfl⟩, F1, s1, rep1, (Fin.bind h1).mono ?_⟩
    rintro w H2 ⟨F2, s2, y, st2, rep2, dw, h2⟩
    obtain ⟨u, e, out⟩ := Fin.lift rep2 h2
    exact l F2 H2 z w y u Q rep2.sub dw e out
  | _ => exact False.elim h1
theorem pv_split (ho : PE X o (tV K pa W fa)) (he : PE X e (tV K pa W fb)) (hs : starEach [e] X.env = [(false, eval e X.env)] := by rfl) (hbase : attributeBase o "split" X.env (eval o X.env) = eval o X.env := by rfl) (hline : (apos.endLine == pos.line) = true := by rfl) :
    PE X (.Call (.Attribute o "split" apos) [e] [] pos) (tV K pa W (mS1 splitD fa fb)) := by
  refine (pe_split ho he hs hbase hline).mono fun σ H Q h => m1_of (fun F H x w y z Q sb dw e out => ?_) h
  cases dw with
  | str b =>
    dsimp only [splitD] at e
    by_cases hl : (b.length == 0) = false ∧ x.length ≤ 100000
    · rw [if_pos hl] at e
      cases e
      refine ⟨x, b, rfl, rfl, hl.1, Nat.le_trans (Nat.add_le_add_right hl.2 2) (by decide), fun p hp => ?_⟩
      exact out.lst sb DenAll.ofStrs hp
    · rw [if_neg hl] at e
      cases e
  | _ => cases e
theorem pv_join (ek : X.K = K) (ho : PE X o (tV K pa W fa)) (he : PE X e (tV K pa W fb)) (hs : starEach [e] X.env = [(false, eval e X.env)] := by rfl) (hbase : attributeBase o "join" X.env (eval o X.env) = eval o X.env := by rfl) (hline : (apos.endLine == pos.line) = true := by rfl) :
    PE X (.Call (.Attribute o "join" apos) [e] [] pos) (tV K pa W (mS1 joinD fa fb)) := by
  subst ek
  refine (pe_join ho he hs hbase hline).mono fun σ H Q h => m1_of (fun F H x w y z Q sb dw e out => ?_) h
  cases dw with
  | @lst a vs ds q r =>
    dsimp only [joinD] at e
    cases es : strsOf ds with
    | none =>
      rw [es] at e
      cases e
    | some ys =>
      rw [es] at e
      dsimp only at e
      by_cases hl : (ys.map (·.length)).sum + ys.length * x.length ≤ 16777216
      · rw [if_pos hl] at e
        cases e
        exact ⟨x, a, ys, rfl, rfl, .inl (by rw [← r.strsD es]; exact sb.sqL q), hl, out.here sb (.str _)⟩
      · rw [if_neg hl] at e
        cases e
  | @tup a vs ds q r =>
    dsimp only [joinD] at e
    cases es : strsOf ds with
    | none =>
      rw [es] at e
      cases e
    | some ys =>
      rw [es] at e
      dsimp only at e
      by_cases hl : (ys.map (·.length)).sum + ys.length * x.length ≤ 16777216
      · rw [if_pos hl] at e
        cases e
        exact ⟨x, a, ys, rfl, rfl, .inr (by rw [← r.strsD es]; exact sb.sqT q), hl, out.here sb (.str _)⟩
      · rw [if_neg hl] at e
        cases e
  | _ => cases e
theorem pv_upper (ho : PE X o (tV K pa W fa)) (hbase : attributeBase o "upper" X.env (eval o X.env) = eval o X.env := by rfl) (hline : (apos.endLine == pos.line) = true := by rfl) :
    PE X (.Call (.Attribute o "upper" apos) [] [] pos) (tV K pa W (mS0 upperD fa)) := by
  refine (pe_upper ho hbase hline).mono ?_
  rintro σ H Q ⟨F, s, rep, h⟩
  refine ⟨F, s, rep, (Fin.bind h).mono ?_⟩
  rintro v H1 ⟨F1, s1, x, st1, rep1, dv, h1⟩
  cases dv with
  | str z =>
    obtain ⟨u, e, out⟩ := Fin.lift rep1 h1
    unfold upperD at e
    by_cases hl : z.length ≤ 100000
    · rw [if_pos hl] at e
      cases e
      exact ⟨⟨z, rfl⟩, z, rfl, rfl, Nat.le_trans hl (by decide), out.here rep1.sub (.str _)⟩
    · rw [if_neg hl] at e
      cases e
  | _ => exact False.elim h1
theorem c_strAll : CallR X (.type "str") rStrAll := CallR.or call_str_int SkE.call_str_str
theorem l_str : LiftCB K rStrAll strD := by
  intro F H xs as z Q s d e o
  match as, e with
  | [.int i], e =>
    obtain ⟨v, rfl, dd⟩ := d.one
    cases dd
    dsimp only [strD] at e
    by_cases hl : i.natAbs.log2 < 1920
    · rw [if_pos hl] at e
      cases e
      exact .inl ⟨i, rfl, hl, o.here s (.str _)⟩
    · rw [if_neg hl] at e
      cases e
  | [.str x], e =>
    cases e
    obtain ⟨v, rfl, dd⟩ := d.one
    cases dd
    exact .inr ⟨x, rfl, o.here s (.str _)⟩
/-! ### dicts walked: they are locked meanwhile -/
def kD : Key → D
  | .inl i => .int i
  | .inr x => .str x
theorem den_kV {F : Hp} (k : Key) : Den K F (kV k) (kD k) := by
  cases k with
  | inl i => exact .int i
  | inr x => exact .str x
def keysD : D → Option (List D)
  | .dic ks _ => some (ks.map kD)
  | _ => none
def valuesD : D → Option (List D)
  | .dic _ vs => some vs
  | _ => none
def itemsD : D → Option (List D)
  | .dic ks vs => some (zipD (ks.map kD) vs)
  | _ => none
/-- a reading that gives a thing that is known ahead, whatever is locked -/
def Pur (K : PySem.W.Frag) (pa : Plc) (t : TE) (f : S → Rs D) : Prop := ∀ (F H : Hp) (σ : L2.St) (s : S) (x : D) (s' : S), Rep K pa F H σ s → f s = .ok x s' → s' = s ∧ ∃ v, Den K F v x ∧ ∀ (H' : Hp) (Q : VK), (∀ a u, F a = some u → (∀ kvs, u ≠ .dK kvs) → NoTab u → H' a = some u) → Q v H' → t σ H' Q
/-- no error, whatever it is -/
def pureR (f : S → Rs D) : S → Rs D := fun s => match f s with
  | .ok x s' => .ok x s'
  | _ => .no
def mVarP (i : Nat) : S → Rs D := fun s => match s.e[i]? with
  | some (some (.d x)) => .ok x s
  | _ => .no
theorem pur_var {i : Nat} : Pur K pa (tVar i) (mVarP i) := by
  intro F H σ s x s' rep e
  unfold mVarP at e
  split at e
  · rename_i y ey
    cases e
    obtain ⟨v, h1, h2⟩ := rep.slot i _ ey
    exact ⟨rfl, v, by cases v <;> exact h2, fun H' Q _ q => ⟨v, h1, q⟩⟩
  · cases e
theorem pur_fld {t : TE} {f : S → Rs D} {fl : Str} {cs : List Str} (h : Pur K pa t f) (hcs : ∀ c ∈ cs, NoAttr K (He.ga K c) fl) : Pur K pa (tFld K t fl) (mUn (fldC cs fl) f) := by
  intro F H σ s x s' rep e
  unfold mUn at e
  cases q : f s with
  | no =>
    rw [q] at e
    cases e
  | ex c d s1 =>
    rw [q] at e
    cases e
  | ok y s1 =>
    rw [q] at e
    obtain ⟨rfl, v, dv, k⟩ := h F H σ s y s1 rep q
    have e : liftO (fldC cs fl y) s1 = .ok x s' := e
    cases q2 : fldC cs fl y with
    | none =>
      rw [q2] at e
      cases e
    | some z =>
      rw [q2] at e
      cases e
      cases dv with
      | @obj a dx c ks vs ds w hF l r =>
        dsimp only [fldC] at q2
        by_cases hc : cs.contains c = true
        · rw [if_pos hc] at q2
          obtain ⟨u, h1, h2⟩ := lookD_ok r q2
          exact ⟨rfl, u, h2, fun H' Q keep qq => k H' _ keep ⟨a, _, dx, _, u, rfl, keep a _ hF (fun _ z => nomatch z) (fun _ z => nomatch z), w.cl, hcs c (by simpa using hc), h1, qq⟩⟩
        · rw [if_neg hc] at q2
          cases q2
      | _ => cases q2
theorem Rep.flip {F H : Hp} {σ : L2.St} {s : S} {d : Addr} {kvs : List (Key × V)} {ob : HO} (rep : Rep K pa F H σ s) (hF : F d = some (.dK kvs)) (ho : ob = .dK kvs ∨ ∃ od, ob = .frz od (.dK kvs)) : Rep K pa F (upd H d ob) σ s := by
  have nown : ¬ OwnA pa σ s d := frozen_not_own rep (by rw [hF]; exact fun z => nomatch z)
  refine ⟨⟨fun a u h => ?_, rep.sub.tb⟩, rep.len, fun i x h => ?_, rep.uniq, fun h => ?_⟩
  · by_cases e : a = d
    · subst e
      rw [hF] at h
      cases h
      refine .inl ⟨fun _ z => (nomatch z), ?_⟩
      rcases ho with rfl | ⟨od, rfl⟩
      · exact .inl upd_same
      · exact .inr ⟨⟨kvs, rfl⟩, od, upd_same⟩
    · rcases rep.sub a u h with ⟨n, q | ⟨k, o, q⟩⟩ | ⟨q, e0, e1, t⟩
      · exact .inl ⟨n, .inl (by rw [upd_ne e]; exact q)⟩
      · exact .inl ⟨n, .inr ⟨k, o, by rw [upd_ne e]; exact q⟩⟩
      · refine .inr ⟨q, e0, e1, tabS_upd t ?_⟩
        rcases rep.sub.rc hF with z | ⟨_, o, z⟩
        · exact plain_of z
        · exact plain_of z
  · obtain ⟨v, h1, h2⟩ := rep.slot i x h
    refine ⟨v, h1, ?_⟩
    have nA : ∀ a, v = .ref a → x.own = true → a ≠ d := fun a e1 e2 e3 => by
      subst e1 e3
      exact nown (.inl ⟨i, h1, x, h, e2⟩)
    cases x with
    | d x => cases v <;> exact h2
    | l xs =>
      cases v with
      | ref a =>
        obtain ⟨q1, vs, q2, q3⟩ := h2
        exact ⟨q1, vs, by rw [upd_ne (nA a rfl rfl)]; exact q2, q3⟩
      | _ => exact h2.elim
    | k ks xs =>
      cases v with
      | ref a =>
        obtain ⟨q1, vs, q2, q4, q3⟩ := h2
        exact ⟨q1, vs, by rw [upd_ne (nA a rfl rfl)]; exact q2, q4, q3⟩
      | _ => exact h2.elim
    | p =>
      cases v with
      | ref a => exact h2
      | _ => exact h2.elim
  · obtain ⟨q1, q2, q3⟩ := rep.pot h
    exact ⟨q1, q2.to Le.refl (fun a o ha z _ => by rw [upd_ne (fun e => nown (.inr ⟨h, by rw [← e]; exact ha⟩))]; exact z), q3⟩
theorem Step.unlock {F H F1 H1 : Hp} {σ σ1 : L2.St} {s s1 : S} {d : Addr} {kvs : List (Key × V)} {od : Obj} (st : Step pa F (upd H d (.frz od (.dK kvs))) σ s F1 H1 σ1 s1) (hd : H d = some (.dK kvs)) : Step pa F H σ s F1 (upd H1 d (.dK kvs)) σ1 s1 := by
  have nn : ∀ a, upd H d (.frz od (.dK kvs)) a = none → H a = none := fun a h => by
    by_cases e : a = d
    · rw [e, upd_same] at h
      cases h
    · rw [upd_ne e] at h
      exact h
  refine ⟨st.le, fun a o h n => ?_, fun a h => (st.new a h).imp_right fun z => z.imp_left (nn a), fun a h => (st.own a h).imp_right (nn a)⟩
  by_cases e : a = d
  · subst e
    rw [hd] at h
    cases h
    exact ⟨_, upd_same, fun _ => rfl⟩
  · rw [upd_ne e]
    exact st.keep a o (by rw [upd_ne e]; exact h) n
theorem upd_comm {H : Hp} {a d : Addr} {o u : HO} (h : a ≠ d) : upd (upd H a o) d u = upd (upd H d u) a o := by
  funext b
  unfold upd
  by_cases e : b = d
  · rw [if_pos e, if_neg (fun z => h (z.symm.trans e)), if_pos e]
  · rw [if_neg e, if_neg e]
/-- the three walks of a dict -/
structure DWalk (K : PySem.W.Frag) (iw : TE → TI) (Jd : Addr → Obj → List (Key × V) → It) (gd : D → Option (List D)) : Prop where
  rd : ∀ (td : TE) (σ : L2.St) (H : Hp) (R : It → Hp → Prop) (d : Addr) (o : Obj) (kvs : List (Key × V)), (∀ Q : VK, Q (.ref d) H → td σ H Q) → H d = some (.frz o (.dK kvs)) → R (Jd d o kvs) H → iw td σ H R
  it : ∀ (F H : Hp) (d : Addr) (o : Obj) (ks : List Key) (vs : List V) (ds : List D) (ys : List D), F d = some (.dK (ks.zip vs)) → H d = some (.frz o (.dK (ks.zip vs))) → ks.length = vs.length → DenAll K F vs ds → gd (.dic ks ds) = some ys → IterOf K F H (Jd d o (ks.zip vs)) ys
  only : ∀ x ys, gd x = some ys → ∃ ks ds, x = .dic ks ds
theorem zip_get {ks : List Key} {vs : List V} {i : Nat} {k : Key} {v : V} (h : (ks.zip vs)[i]? = some (k, v)) : ks[i]? = some k ∧ vs[i]? = some v := by
  rw [List.getElem?_zip_eq_some] at h
  exact h
theorem dw_keys : DWalk K iKeys (fun d o kvs => Itk d o kvs) keysD := by
  refine ⟨fun td σ H R d o kvs k h q => k _ ⟨d, o, rfl, .inl ⟨kvs, h, q⟩⟩, fun F H d o ks vs ds ys hF hH hl r e => ?_, fun x ys e => ?_⟩
  · cases e
    refine ⟨_, _, by rw [show (ks.map kD).length = (ks.zip vs).length by simp [hl]]; exact walk_keys (d := d) (o := o) (kvs := ks.zip vs), fun F' H' le s keep => keep d _ (by rw [hF]; exact fun z => nomatch z) hH (fun _ z => nomatch z), fun i F' H' x H'' le s _ y => ?_⟩
    obtain ⟨rfl, k, v, e1, rfl⟩ := y
    obtain ⟨e2, e3⟩ := zip_get e1
    exact ⟨kD k, F', by simp [e2], Ext.refl s, den_kV k⟩
  · cases x <;> cases e
    exact ⟨_, _, rfl⟩
theorem dw_values : DWalk K iVals (fun d o kvs => Itd d o kvs) valuesD := by
  refine ⟨fun td σ H R d o kvs k h q => k _ ⟨d, o, kvs, rfl, h, q⟩, fun F H d o ks vs ds ys hF hH hl r e => ?_, fun x ys e => ?_⟩
  · cases e
    refine ⟨_, _, by rw [show ds.length = (ks.zip vs).length by simp [hl, r.length]]; exact walk_values (d := d) (o := o) (kvs := ks.zip vs), fun F' H' le s keep => keep d _ (by rw [hF]; exact fun z => nomatch z) hH (fun _ z => nomatch z), fun i F' H' x H'' le s _ y => ?_⟩
    obtain ⟨rfl, k, e1⟩ := y
    obtain ⟨e2, e3⟩ := zip_get e1
    obtain ⟨d', q1, q2⟩ := (r.mono le).get e3
    exact ⟨d', F', q1, Ext.refl s, q2⟩
  · cases x <;> cases e
    exact ⟨_, _, rfl⟩
theorem dw_items : DWalk K iItems (fun d o kvs => Iti d o kvs) itemsD := by
  refine ⟨fun td σ H R d o kvs k h q => k _ ⟨d, o, kvs, rfl, h, q⟩, fun F H d o ks vs ds ys hF hH hl r e => ?_, fun x ys e => ?_⟩
  · cases e
    refine ⟨_, _, by rw [show (zipD (ks.map kD) ds).length = (ks.zip vs).length by simp [zipD, hl, r.length]]; exact walk_items (d := d) (o := o) (kvs := ks.zip vs), fun F' H' le s keep => keep d _ (by rw [hF]; exact fun z => nomatch z) hH (fun _ z => nomatch z), fun i F' H' x H'' le s _ y => ?_⟩
    obtain ⟨T, u, v, rfl, n, rfl, e1, e2⟩ := y
    dsimp only at e1 e2
    cases q : (ks.zip vs)[i]? with
    | none =>
      rw [q] at e1
      cases e1
    | some kv =>
      obtain ⟨k, w⟩ := kv
      rw [q] at e1 e2
      cases e1
      cases e2
      obtain ⟨q1, q2⟩ := zip_get q
      obtain ⟨d', q3, q4⟩ := (r.mono le).get q2
      obtain ⟨x1, x2⟩ := ext_pair s n (den_kV k) q4
      exact ⟨pairD (kD k) d', _, by simp [zipD, List.getElem?_zipWith, q1, q3], x1, x2⟩
  · cases x <;> cases e
    exact ⟨_, _, rfl⟩
theorem compL_noex {bd : D → S → Option S} {ft : S → Rs Bool} {fe : S → Rs D} {vs : List Nat} : ∀ (l : List D) (s : S) (c : Str) (d : D) (s2 : S), compL bd ft fe vs l s ≠ .ex c d s2 := by
  intro l
  induction l with
  | nil => intro s c d s2 z; cases z
  | cons x l ih =>
    intro s c d s2 z
    unfold compL at z
    cases q1 : bd x (s.wipe vs) with
    | none => rw [q1] at z; cases z
    | some s3 =>
      rw [q1] at z
      dsimp only at z
      cases q2 : ft s3 with
      | no => rw [q2] at z; cases z
      | ex _ _ _ => rw [q2] at z; cases z
      | ok k s4 =>
        rw [q2] at z
        cases k with
        | false => exact ih _ _ _ _ z
        | true =>
          dsimp only at z
          cases q3 : fe s4 with
          | no => rw [q3] at z; cases z
          | ex _ _ _ => rw [q3] at z; cases z
          | ok y s5 =>
            rw [q3] at z
            dsimp only at z
            cases q4 : compL bd ft fe vs l (s5.back s vs) with
            | no => rw [q4] at z; cases z
            | ex _ _ _ => rw [q4] at z; cases z
            | ok _ _ => rw [q4] at z; cases z
theorem dcomp_of {iw : TE → TI} {Jd : Addr → Obj → List (Key × V) → It} {gd : D → Option (List D)} (dw : DWalk K iw Jd gd) {td : TE} {fd : S → Rs D} (pur : Pur K pa td fd) {vs : List Nat} {is : List Nat} {bd : D → S → Option S} {ft : S → Rs Bool} {fe : S → Rs D} {tt : TT}
    (ht : ∀ σ H Q, tVB K pa W0 ft σ H Q → tt σ H Q) (hsub : ∀ k ∈ is, k ∈ vs) : ∀ (σ : L2.St) (H : Hp) (Q : VK), tM K pa W (mComp (mIter gd (pureR fd)) bd ft fe vs) σ H Q →
      tLockE (tLc (iw td) (tGt K pa is bd) tt (tV K pa W0 fe) vs) σ H Q ∨ tLc (iw td) (tGt K pa is bd) tt (tV K pa W0 fe) vs σ H Q := by
  rintro σ H Q ⟨F, s, rep, h⟩
  unfold mComp mIter pureR at h
  cases e : fd s with
  | no =>
    rw [e] at h
    exact h.elim
  | ex c d s1 =>
    rw [e] at h
    exact h.elim
  | ok x s' =>
    rw [e] at h
    obtain ⟨rfl, v, dv, k⟩ := pur F H σ s x s' rep e
    cases eg : gd x with
    | none =>
      dsimp only [Rs.bind] at h
      rw [eg] at h
      exact h.elim
    | some ys =>
      dsimp only [Rs.bind] at h
      rw [eg] at h
      have h : FinM K pa W F H σ s' (if ys.length ≤ 100000 then (compL bd ft fe vs ys s').bind fun ys s2 => .ok (.l ys) s2 else .no) Q := h
      by_cases hl : ys.length ≤ 100000
      · rw [if_pos hl] at h
        obtain ⟨ks, ds, rfl⟩ := dw.only x ys eg
        obtain ⟨d, ws, rfl, hF, _, hz, r⟩ := Den.dict rep.sub dv
        rcases rep.sub.rc hF with hd | ⟨_, o, hd⟩
        · refine .inl ⟨d, .dK (ks.zip ws), hd, trivial, fun od => ?_⟩
          have rp := rep.flip (ob := .frz od (.dK (ks.zip ws))) hF (.inr ⟨od, rfl⟩)
          have cc : LcJ (Jd d od (ks.zip ws)) (tGt K pa is bd) tt (tV K pa W0 fe) vs σ (upd H d (.frz od (.dK (ks.zip ws)))) (fun v H' => H' d = some (.frz od (.dK (ks.zip ws))) ∧ Q v (upd H' d (.dK (ks.zip ws)))) := by
            refine comp_core (ft := ft) (W := W) ht hsub rp (dw.it F _ d od ks ws ds ys hF upd_same hz r eg) hl ?_
            cases ec : compL bd ft fe vs ys s' with
            | no =>
              rw [ec] at h
              exact h
            | ex c d s2 => exact absurd ec (compL_noex _ _ _ _ _)
            | ok zs s2 =>
              rw [ec] at h
              intro a H1 F1 o st1 rep1 hn ho
              have ndn : F d ≠ none := by rw [hF]; exact fun z => nomatch z
              have hfz : H1 d = some (.frz od (.dK (ks.zip ws))) := st1.at upd_same (frozen_not_own rp ndn)
              have nad : a ≠ d := fun z => by
                rw [z, hfz] at hn
                cases hn
              refine ⟨by rw [upd_ne nad.symm]; exact hfz, ?_⟩
              rw [upd_comm nad]
              have hF1 := st1.le _ _ hF
              refine h a (upd H1 d (.dK (ks.zip ws))) F1 o (st1.unlock hd) (rep1.flip hF1 (.inl rfl)) (by rw [upd_ne nad]; exact hn) ?_
              obtain ⟨us, g1, g2⟩ := ho
              exact ⟨us, by rw [upd_same] at g1 ⊢; exact g1, g2⟩
          refine dw.rd td σ _ _ d od _ (fun Q q => k _ Q (fun a u ha n nt => ?_) q) upd_same cc
          rw [upd_ne (fun z => by rw [z, hF] at ha; cases ha; exact n _ rfl)]
          exact rep.sub.at ha n nt
        · exact .inr (dw.rd td σ H _ d o _ (fun Q q => k H Q (fun a u ha n nt => rep.sub.at ha n nt) q) hd (show LcJ (Jd d o (ks.zip ws)) (tGt K pa is bd) tt (tV K pa W0 fe) vs σ H Q from comp_core (ft := ft) (W := W) ht hsub rep (dw.it F H d o ks ws ds ys hF hd hz r eg) hl h))
      · rw [if_neg hl] at h
        exact h.elim
theorem pm_dcomp {iw : TE → TI} {Jd : Addr → Obj → List (Key × V) → It} {gd : D → Option (List D)} (dw : DWalk K iw Jd gd) {td : TE} {fd : S → Rs D} (pur : Pur K pa td fd) {vs : List Nat} {is : List Nat} {bd : D → S → Option S} {ft : S → Rs Bool} {fe : S → Rs D} {tt : TT}
    (h : PE X a (tLc (iw td) (tGt K pa is bd) tt (tV K pa W0 fe) vs)) (ht : ∀ σ H Q, tVB K pa W0 ft σ H Q → tt σ H Q) (hsub : ∀ k ∈ is, k ∈ vs) : PE X a (tM K pa W (mComp (mIter gd (pureR fd)) bd ft fe vs)) := (PE.or (pe_lock h) h).mono (dcomp_of dw pur ht hsub)
theorem q_asgDComp {iw : TE → TI} {Jd : Addr → Obj → List (Key × V) → It} {gd : D → Option (List D)} (dw : DWalk K iw Jd gd) {td : TE} {fd : S → Rs D} (pur : Pur K pa td fd) {vs : List Nat} {is : List Nat} {i : Nat} {bd : D → S → Option S} {ft : S → Rs Bool} {fe : S → Rs D} {tt : TT}
    (h : PS X st (tAsg (tLc (iw td) (tGt K pa is bd) tt (tV K pa W0 fe) vs) (gName i))) (ht : ∀ σ H Q, tVB K pa W0 ft σ H Q → tt σ H Q) (hsub : ∀ k ∈ is, k ∈ vs) : PS X st (tAsg (tM K pa W (mComp (mIter gd (pureR fd)) bd ft fe vs)) (gName i)) :=
  (PS.or (ps_lock h) h).mono fun E σ H z => dcomp_of dw pur ht hsub σ H (fun x H1 => E.nx (σ.set i (some x)) H1) z
/-! for over a dict -/
def noEx (g : S → Ro) : S → Ro := fun s => match g s with
  | .nx s => .nx s
  | .rt d s => .rt d s
  | .bk s => .bk s
  | .ct s => .ct s
  | _ => .no
theorem noEx_of {g : S → Ro} {l : List Stmt} (h : PSs X l (tS K pa W g)) : PSs X l (tS K pa W (noEx g)) := by
  refine h.mono ?_
  rintro E σ H ⟨F, s, rep, h⟩
  refine ⟨F, s, rep, ?_⟩
  unfold noEx at h
  cases q : g s with
  | ex c v s1 =>
    rw [q] at h
    exact h.elim
  | _ =>
    rw [q] at h
    exact h
theorem forL_noex {b : D → S → Option S} {g : S → Ro} : ∀ (l : List D) (s : S) (c : Str) (d : D) (s2 : S), forL b (noEx g) l s ≠ .ex c d s2 := by
  intro l
  induction l with
  | nil => intro s c d s2 z; cases z
  | cons x l ih =>
    intro s c d s2 z
    unfold forL at z
    cases q1 : b x s with
    | none => rw [q1] at z; cases z
    | some s3 =>
      rw [q1] at z
      dsimp only at z
      cases q2 : noEx g s3 with
      | nx s4 =>
        rw [q2] at z
        exact ih _ _ _ _ z
      | ct s4 =>
        rw [q2] at z
        exact ih _ _ _ _ z
      | bk s4 => rw [q2] at z; cases z
      | rt d s4 => rw [q2] at z; cases z
      | no => rw [q2] at z; cases z
      | ex c v s4 =>
        unfold noEx at q2
        split at q2 <;> cases q2
theorem q_forD {iw : TE → TI} {Jd : Addr → Obj → List (Key × V) → It} {gd : D → Option (List D)} (dw : DWalk K iw Jd gd) {td : TE} {fd : S → Rs D} (pur : Pur K pa td fd) {body : List Stmt} {is : List Nat} {b : D → S → Option S} {g : S → Ro}
    (h : PSs X body (tS K pa W (noEx g)) → PS X st (tFor (iw td) (tGt K pa is b) (tS K pa W (noEx g)))) (hb : PSs X body (tS K pa W g)) : PS X st (tS K pa W (sFor (mIter gd (pureR fd)) b (noEx g))) := by
  have h := h (noEx_of hb)
  refine (PS.or (ps_lock h) h).mono ?_
  rintro E σ H ⟨F, s, rep, h⟩
  unfold sFor mIter pureR at h
  cases e : fd s with
  | no =>
    rw [e] at h
    exact h.elim
  | ex c d s1 =>
    rw [e] at h
    exact h.elim
  | ok x s' =>
    rw [e] at h
    obtain ⟨rfl, v, dv, k⟩ := pur F H σ s x s' rep e
    cases eg : gd x with
    | none =>
      dsimp only [Rs.bind, Rs.st] at h
      rw [eg] at h
      exact h.elim
    | some ys =>
      dsimp only [Rs.bind, Rs.st] at h
      rw [eg] at h
      have h : FinS K pa W F H σ s' (forL b (noEx g) ys s') E := h
      obtain ⟨ks, ds, rfl⟩ := dw.only x ys eg
      obtain ⟨d, ws, rfl, hF, _, hz, r⟩ := Den.dict rep.sub dv
      rcases rep.sub.rc hF with hd | ⟨_, o, hd⟩
      · refine .inl ⟨d, .dK (ks.zip ws), hd, trivial, fun od => ?_⟩
        have rp := rep.flip (ob := .frz od (.dK (ks.zip ws))) hF (.inr ⟨od, rfl⟩)
        have ndn : F d ≠ none := by rw [hF]; exact fun z => nomatch z
        refine dw.rd td σ _ _ d od _ (fun Q q => k _ Q (fun a u ha n nt => ?_) q) upd_same (for_core rp (dw.it F _ d od ks ws ds ys hF upd_same hz r eg) ?_)
        · rw [upd_ne (fun z => by rw [z, hF] at ha; cases ha; exact n _ rfl)]
          exact rep.sub.at ha n nt
        · have fz : ∀ {F1 H1 : Hp} {σ1 : L2.St} {s1 : S}, Step pa F (upd H d (.frz od (.dK (ks.zip ws)))) σ s' F1 H1 σ1 s1 → H1 d = some (.frz od (.dK (ks.zip ws))) := fun st => st.at upd_same (frozen_not_own rp ndn)
          cases ec : forL b (noEx g) ys s' with
          | no =>
            rw [ec] at h
            exact h
          | ex c d s2 => exact absurd ec (forL_noex _ _ _ _ _)
          | nx s2 =>
            rw [ec] at h
            exact fun σ' H' F' st rp1 => ⟨fz st, h _ _ _ (st.unlock hd) (rp1.flip (st.le _ _ hF) (.inl rfl))⟩
          | bk s2 =>
            rw [ec] at h
            exact fun σ' H' F' st rp1 => ⟨fz st, h _ _ _ (st.unlock hd) (rp1.flip (st.le _ _ hF) (.inl rfl))⟩
          | ct s2 =>
            rw [ec] at h
            exact fun σ' H' F' st rp1 => ⟨fz st, h _ _ _ (st.unlock hd) (rp1.flip (st.le _ _ hF) (.inl rfl))⟩
          | rt d2 s2 =>
            rw [ec] at h
            exact fun σ' v H' F' st rp1 dv => ⟨fz st, h _ _ _ _ (st.unlock hd) (rp1.flip (st.le _ _ hF) (.inl rfl)) dv⟩
      · exact .inr (dw.rd td σ H _ d o _ (fun Q q => k H Q (fun a u ha n nt => rep.sub.at ha n nt) q) hd (for_core rep (dw.it F H d o ks ws ds ys hF hd hz r eg) h))
end

/-! ### classes of the program's own -/
theorem ownB_ok {K : PySem.W.Frag} {c : Str} (h : ownB K c = true) (cl : Cls K (He.ga K c)) : OwnC K (He.ga K c) := by
  obtain ⟨h1, h⟩ := Bool.and_eq_true_iff.mp h
  obtain ⟨h2, h⟩ := Bool.and_eq_true_iff.mp h
  obtain ⟨h3, h⟩ := Bool.and_eq_true_iff.mp h
  obtain ⟨h4, h5⟩ := Bool.and_eq_true_iff.mp h
  exact ⟨cl, He.eqO_ok h1, He.eqO_ok h2, of_decide_eq_true h3, of_decide_eq_true h4, fun T hT => of_decide_eq_true (List.all_eq_true.mp h5 T hT)⟩
/-- isinstance(x, c) for all that trees can be; cs: the classes of the program's own -/
structure IsiC (K : PySem.W.Frag) (c : Str) (cs : List Str) : Prop where
  tys : ∀ T ∈ "NoneType" :: sixT, PySem.W.kitOne K (.type T) (.ref (He.ga K c)) = some false
  own : ∀ c' ∈ cs, PySem.W.kitOne K (.ref (He.ga K c')) (.ref (He.ga K c)) = some (decide (c' = c))
theorem isiB_ok {K : PySem.W.Frag} {c : Str} {cs : List Str} (h : isiB K c cs = true) : IsiC K c cs := by
  obtain ⟨h1, h2⟩ := Bool.and_eq_true_iff.mp h
  exact ⟨fun T hT => of_decide_eq_true (List.all_eq_true.mp h1 T hT), fun c' hc => of_decide_eq_true (List.all_eq_true.mp h2 c' hc)⟩
def isiO (c : Str) (cs : List Str) : D → Option D
  | .obj c' _ _ => if cs.contains c' then some (.bl (decide (c' = c))) else none
  | .exc _ _ => none
  | _ => some (.bl false)
section
variable {K : PySem.W.Frag} {F H : Hp}
theorem Den.tyO {v : V} {d z : D} {c : Str} {cs : List Str} (s : Sub F H) (i : IsiC K c cs) (h : Den K F v d) (e : isiO c cs d = some z) : ∃ t b, TyX K H v t ∧ PySem.W.kitOne K t (.ref (He.ga K c)) = some b ∧ z = .bl b := by
  cases h with
  | int j =>
    cases e
    exact ⟨_, _, .base (.int j), i.tys _ (by decide), rfl⟩
  | bl b =>
    cases e
    exact ⟨_, _, .base (.bl b), i.tys _ (by decide), rfl⟩
  | str x =>
    cases e
    exact ⟨_, _, .base (.str x), i.tys _ (by decide), rfl⟩
  | non =>
    cases e
    exact ⟨_, _, .base .non, i.tys _ (by decide), rfl⟩
  | @tup a vs ds h r =>
    cases e
    have ty : TyX K H (.ref a) (.type "tuple") := by
      rcases h with h | h
      · exact .base (.tup (s.at h (fun _ z => nomatch z)))
      · rcases h (fun _ => none) with (z | ⟨_, z⟩) | ⟨o, its, n, h1, h2, _⟩
        · cases z
        · cases z
        · exact .kTuple h1 h2
    exact ⟨_, _, ty, i.tys _ (by decide), rfl⟩
  | @lst a vs ds h r =>
    cases e
    exact ⟨_, _, .base (.lst (s.lst h)), i.tys _ (by decide), rfl⟩
  | @dic a ks vs ds h l r =>
    cases e
    have ty : TyX K H (.ref a) (.type "dict") := by
      rcases s.rc h with h | ⟨_, o, h⟩
      · exact .base (.dK h)
      · exact .fDict h
    exact ⟨_, _, ty, i.tys _ (by decide), rfl⟩
  | @obj a dx c' ks vs ds w h l r =>
    dsimp only [isiO] at e
    by_cases hc : cs.contains c' = true
    · rw [if_pos hc] at e
      cases e
      exact ⟨_, _, .base (.ins (s.ins h) w.cl w.ha w.hn w.htk w.hm), i.own c' (by simpa using hc), rfl⟩
    · rw [if_neg hc] at e
      cases e
end
section
variable {X : Cx} {K : PySem.W.Frag} {pa : Plc} {W : L2.St → XK} {a b c o e : Expr} {fa fb fc : S → Rs D} {pos p apos : Pos} {es : List Expr} {fr : S → Rs (List D)} {st : Stmt}
theorem pv_isiO {cn : Str} {cs : List Str} (ek : X.K = K) (i : IsiC K cn cs) (hg : Gl X "isinstance") (hm : X.mg "isinstance" = none) (ha : PE X a (tV K pa W fa)) (hc : PE X c (tC (.ref (He.ga K cn))))
    (h1 : starEach [a, c] X.env = (false, eval a X.env) :: starEach [c] X.env := by rfl) (h2 : starEach [c] X.env = (false, eval c X.env) :: starEach [] X.env := by rfl) (hpl : (backTo pos (starEach [c] X.env)).any (·.1) = false := by rfl) :
    PE X (.Call (.Name "isinstance" p) [a, c] [] pos) (tV K pa W (mUn (isiO cn cs) fa)) := by
  subst ek
  refine (pe_callB call_isi hg hm (by decide +kernel) (pa_cons ha (pa_cons hc pa_nil h2) h1) (by decide) (by decide) h1 hpl).mono ?_
  rintro σ H Q ⟨F, s, rep, h⟩
  refine ⟨F, s, rep, (Fin.bind h).mono ?_⟩
  rintro v H1 ⟨F1, s1, x, st1, rep1, dv, h1⟩
  obtain ⟨z, e, out⟩ := h1.lift rep1
  obtain ⟨t, b, h1, h2, rfl⟩ := Den.tyO rep1.sub i dv e
  exact ⟨v, _, t, _, b, rfl, .own _, h1, h2, out.here rep1.sub (.bl _)⟩
/-! methods, properties of things that are not changed -/
def mMeth (cn m : Str) (mm : List D → Rv) (fa : S → Rs D) (fr : S → Rs (List D)) : S → Rs D := fun s => (fa s).bind fun x s1 => match x with
  | .obj c' ks vs => if c' = cn ∧ ks.contains m = false then (fr s1).bind fun ds s2 => (match mm (.obj c' ks vs :: ds) with
    | .ok d => .ok d s2
    | _ => .no) else .no
  | _ => .no
theorem look_none {m : Str} : ∀ {ks : List Str} {vs : List V}, ks.contains m = false → (ks.zip vs).lookup m = none
  | [], _, _ => rfl
  | k :: ks, [], _ => rfl
  | k :: ks, v :: vs, h => by
    rw [List.contains_cons, Bool.or_eq_false_iff] at h
    rw [List.zip_cons_cons, List.lookup_cons, h.1]
    exact look_none h.2
theorem meth_of {cn m : Str} {mm : List D → Rv} {σ : L2.St} {H : Hp} {Q : VK} (h : tV K pa W (mMeth cn m mm fa fr) σ H Q) : tMeth (He.ga K cn) m (spV K mm) [] E0 (tV K pa W fa) (tVA K pa W fr) σ H Q := by
  obtain ⟨F, s, rep, h⟩ := h
  refine ⟨F, s, rep, (Fin.bind h).mono ?_⟩
  rintro v H1 ⟨F1, s1, x, st1, rep1, dv, h1⟩
  have dv : Den K F1 v x := dv
  cases x with
  | obj c' ks ds =>
    dsimp only at h1
    by_cases hc : c' = cn ∧ ks.contains m = false
    · rw [if_pos hc] at h1
      obtain ⟨rfl, hk⟩ := hc
      cases id dv with
      | @obj a dx _ _ vs _ w q l r =>
        refine ⟨a, dx, _, rfl, rep1.sub.ins q, look_none hk, F1, s1, rep1, (Fin.bind h1).mono ?_⟩
        rintro ws H2 ⟨F2, s2, es, st2, rep2, dvs, h2⟩
        rw [List.append_nil]
        exact spV_of rep2 (.cons (Den.mono st2.le dv) dvs) h2
    · rw [if_neg hc] at h1
      exact h1.elim
  | _ => exact False.elim h1
theorem pv_meth {k : Nat} {cn m : Str} {ps : List Str} {mm : List D → Rv} {pl : Sem Bool} (he : PE X o (tV K pa W fa)) (M : MCal X.prog X.w X.K X.mg X.base k (He.ga K cn) m ps (spV K mm)) (room : Room k X.A) (gd : X.A.guards = some []) (args : PA X (e :: es) (tVA K pa W fr))
    (hst : starEach (e :: es) X.env = (false, eval e X.env) :: starEach es X.env := by rfl) (hpl : (backTo pos (starEach es X.env)).any (·.1) = false := by rfl)
    (ht : eval (.Call (.Attribute o m apos) (e :: es) [] pos) X.env = (do
      let ov ← eval o X.env
      standAt apos.atName
      let (f, first) ← holding [ov] (getMethod ov m pl)
      callWith pos f first (backTo pos (starEach (e :: es) X.env)) (backToKw pos (keywordEach [] X.env))) := by rfl) :
    PE X (.Call (.Attribute o m apos) (e :: es) [] pos) (tV K pa W (mMeth cn m mm fa fr)) := (pe_mcal (pl := pl) he M room gd args hst hpl ht).mono fun _ _ _ h => meth_of h
theorem meth0_of {cn m : Str} {mm : List D → Rv} {σ : L2.St} {H : Hp} {Q : VK} (h : tV K pa W (mMeth cn m mm fa mNil) σ H Q) : tMeth (He.ga K cn) m (spV K mm) [] E0 (tV K pa W fa) tNil σ H Q := by
  obtain ⟨F, s, rep, h⟩ := h
  refine ⟨F, s, rep, (Fin.bind h).mono ?_⟩
  rintro v H1 ⟨F1, s1, x, st1, rep1, dv, h1⟩
  have dv : Den K F1 v x := dv
  cases x with
  | obj c' ks ds =>
    dsimp only at h1
    by_cases hc : c' = cn ∧ ks.contains m = false
    · rw [if_pos hc] at h1
      obtain ⟨rfl, hk⟩ := hc
      cases id dv with
      | @obj a dx _ _ vs _ w q l r => exact ⟨a, dx, _, rfl, rep1.sub.ins q, look_none hk, spV_of (W := W) rep1 (.cons dv .nil) h1⟩
    · rw [if_neg hc] at h1
      exact h1.elim
  | _ => exact False.elim h1
theorem pv_meth0 {k : Nat} {cn m : Str} {ps : List Str} {mm : List D → Rv} {pl : Sem Bool} (he : PE X o (tV K pa W fa)) (M : MCal X.prog X.w X.K X.mg X.base k (He.ga K cn) m ps (spV K mm)) (room : Room k X.A) (gd : X.A.guards = some [])
    (ht : eval (.Call (.Attribute o m apos) [] [] pos) X.env = (do
      let ov ← eval o X.env
      standAt apos.atName
      let (f, first) ← holding [ov] (getMethod ov m pl)
      callWith pos f first (backTo pos (starEach [] X.env)) (backToKw pos (keywordEach [] X.env))) := by rfl) :
    PE X (.Call (.Attribute o m apos) [] [] pos) (tV K pa W (mMeth cn m mm fa mNil)) := (pe_mcal0 (pl := pl) he M room gd ht).mono fun _ _ _ h => meth0_of h
def mProp (cn : Str) (mm : List D → Rv) (fa : S → Rs D) : S → Rs D := fun s => (fa s).bind fun x s1 => match x with
  | .obj c' ks vs => if c' = cn then (match mm [.obj c' ks vs] with
    | .ok d => .ok d s1
    | _ => .no) else .no
  | _ => .no
theorem pv_prop {k : Nat} {cn n : Str} {ps : List Str} {mm : List D → Rv} (he : PE X e (tV K pa W fa)) (M : PCal X.prog X.w X.K X.mg X.base k (He.ga K cn) n ps (spV K mm)) (room : Room (k + 1) X.A) (gd : X.A.guards = some []) (hab : attributeBase e n X.env (eval e X.env) = eval e X.env := by rfl) :
    PE X (.Attribute e n pos) (tV K pa W (mProp cn mm fa)) := by
  refine (pe_pcal he M room gd hab).mono ?_
  rintro σ H Q ⟨F, s, rep, h⟩
  refine ⟨F, s, rep, (Fin.bind h).mono ?_⟩
  rintro v H1 ⟨F1, s1, x, st1, rep1, dv, h1⟩
  have dv : Den K F1 v x := dv
  cases x with
  | obj c' ks ds =>
    dsimp only at h1
    by_cases hc : c' = cn
    · rw [if_pos hc] at h1
      subst hc
      cases id dv with
      | @obj a dx _ _ vs _ w q l r => exact ⟨a, dx, _, rfl, rep1.sub.ins q, spV_of (W := W) rep1 (.cons dv .nil) h1⟩
    · rw [if_neg hc] at h1
      exact h1.elim
  | _ => exact False.elim h1
/-! in, [], len by own methods -/
def inO (cn : Str) (mm : List D → Rv) (neg : Bool) : D → D → Option D
  | x, .obj c' ks vs => if c' = cn then (match mm [.obj c' ks vs, x] with
    | .ok (.bl b) => some (.bl (if neg then !b else b))
    | _ => none) else none
  | _, _ => none
def ixO (cn : Str) (mm : List D → Rv) : D → D → Option D
  | .obj c' ks vs, x => if c' = cn then (match mm [.obj c' ks vs, x] with
    | .ok d => some d
    | _ => none) else none
  | _, _ => none
def lenO (cn : Str) (mm : List D → Rv) : List D → Option D
  | [.obj c' ks vs] => if c' = cn then (match mm [.obj c' ks vs] with
    | .ok (.int n) => if 0 ≤ n ∧ n < 9223372036854775808 then some (.int n) else none
    | _ => none) else none
  | _ => none
theorem spV_out {F H : Hp} {mm : List D → Rv} {vs : List V} {ds : List D} {d : D} {Q : VK} {E : XK} (s : Sub F H) (r : DenAll K F vs ds) (e : mm ds = .ok d) (o : Out K F H d Q) : spV K mm vs H Q E := ⟨F, ds, s, r, by rw [e]; exact o⟩
theorem l_inO {cn : Str} {mm : List D → Rv} {neg : Bool} : LiftOp K (rInO (He.ga K cn) (spV K mm) neg) (inO cn mm neg) := by
  intro F H x y a b z Q s dx dy e o
  cases b with
  | obj c' ks ds =>
    have e' : (if c' = cn then (match mm [.obj c' ks ds, a] with
      | .ok (.bl b) => some (.bl (if neg then !b else b))
      | _ => none) else none) = some z := by cases a <;> exact e
    by_cases hc : c' = cn
    · rw [if_pos hc] at e'
      split at e'
      · rename_i bb eb
        cases e'
        subst hc
        cases id dy with
        | @obj p dx' _ _ vs _ w q l r =>
          refine ⟨p, dx', _, rfl, s.ins q, spV_out s (.cons dy (.cons dx .nil)) eb (fun v H' F' ext dv => ?_)⟩
          exact ⟨bb, dv.isBl, o _ _ _ ext (.bl _)⟩
      · cases e'
    · rw [if_neg hc] at e'
      cases e'
  | _ => cases a <;> cases e
theorem l_ixO {cn : Str} {mm : List D → Rv} : LiftOp K (rIxO (He.ga K cn) (spV K mm)) (ixO cn mm) := by
  intro F H x y a b z Q s dx dy e o
  cases a with
  | obj c' ks ds =>
    dsimp only [ixO] at e
    by_cases hc : c' = cn
    · rw [if_pos hc] at e
      subst hc
      split at e
      · rename_i d ed
        cases e
        cases id dx with
        | @obj p dx' _ _ vs _ w q l r => exact ⟨p, dx', _, rfl, s.ins q, spV_out s (.cons dx (.cons dy .nil)) ed o⟩
      · cases e
    · rw [if_neg hc] at e
      cases e
  | _ => cases e
theorem pv_ixO {k : Nat} {cn : Str} {ps : List Str} {mm : List D → Rv} (M : MCal X.prog X.w X.K X.mg X.base k (He.ga K cn) "__getitem__" ps (spV K mm)) (room : Room (k + 1) X.A) (gd : X.A.guards = some []) (ha : PE X a (tV K pa W fa)) (hb : PE X b (tV K pa W fb)) (hs : ∀ v u, subscripted b true v u = runValue (.builtin "lifetime.subscript" ⟨[v, u], []⟩) := by intro _ _; rfl) :
    PE X (.Subscript a b pos) (tV K pa W (mOp (ixO cn mm) fa fb)) := (pe_ixO M room gd ha hb hs).mono fun _ _ _ h => tOp_of l_ixO h
theorem l_lenO {cn : Str} {mm : List D → Rv} : LiftCB K (rLenO (He.ga K cn) (spV K mm)) (lenO cn mm) := by
  intro F H xs as z Q s d e o
  match as, e with
  | [.obj c' ks ds], e =>
    obtain ⟨v, rfl, dd⟩ := d.one
    dsimp only [lenO] at e
    by_cases hc : c' = cn
    · rw [if_pos hc] at e
      split at e
      · rename_i n en
        by_cases hn : 0 ≤ n ∧ n < 9223372036854775808
        · rw [if_pos hn] at e
          cases e
          subst hc
          cases id dd with
          | @obj p dx' _ _ vs _ w q l r =>
            refine ⟨p, dx', _, rfl, s.ins q, spV_out s (.cons dd .nil) en (fun v H' F' ext dv => ?_)⟩
            cases dv
            exact ⟨n, rfl, hn.1, hn.2, o _ _ _ ext (.int _)⟩
        · rw [if_neg hn] at e
          cases e
      · cases e
    · rw [if_neg hc] at e
      cases e
/-! ### the borrowed object: its fields, its methods -/
def mSelf (i : Nat) (cn f : Str) : S → Rs D := fun s => match s.e[i]?, s.p with
  | some (some .p), .obj c ks vs => if c = cn then liftO (lookD f ks vs) s else .no
  | _, _ => .no
theorem pv_self {i : Nat} {cn f : Str} (ek : X.K = K) (na : NoAttr K (He.ga K cn) f) (ha : PE X a (tVar i)) (hb : attributeBase a f X.env (eval a X.env) = eval a X.env := by rfl) : PE X (.Attribute a f pos) (tV K pa W (mSelf i cn f)) := by
  subst ek
  refine (pe_fld ha hb).mono ?_
  rintro σ H Q ⟨F, s, rep, h⟩
  unfold mSelf at h
  split at h
  · rename_i c ks ds e0 ep
    by_cases hc : c = cn
    · rw [if_pos hc] at h
      subst hc
      obtain ⟨q1, q2, q3⟩ := rep.pot ⟨i, e0⟩
      rw [ep] at q2
      obtain ⟨_, w, dx, vs, g1, g2, g3⟩ := q2
      obtain ⟨z, e, out⟩ := Fin.lift rep h
      obtain ⟨u, h1, h2⟩ := lookD_ok g3 e
      exact ⟨_, rep.potAt e0, pa.root, _, dx, _, u, rfl, g1, w.cl, na, h1, out.here rep.sub h2⟩
    · rw [if_neg hc] at h
      exact h.elim
  · exact h.elim
def fsK (f : Str) : List Str → List Str
  | [] => [f]
  | g :: r => if g = f then g :: r else g :: fsK f r
def fsV {α : Type} (f : Str) (x : α) : List Str → List α → List α
  | [], _ => [x]
  | g :: r, y :: ys => if g = f then x :: ys else y :: fsV f x r ys
  | _ :: _, [] => []
theorem zip_putF {f : Str} {v : V} : ∀ {ks : List Str} {vs : List V}, ks.length = vs.length → putF f v (ks.zip vs) = (fsK f ks).zip (fsV f v ks vs) ∧ (fsK f ks).length = (fsV f v ks vs).length
  | [], [], _ => ⟨rfl, rfl⟩
  | [], _ :: _, h => by cases h
  | _ :: _, [], h => by cases h
  | g :: ks, w :: vs, h => by
    obtain ⟨h1, h2⟩ := zip_putF (f := f) (v := v) (ks := ks) (vs := vs) (Nat.succ.inj h)
    rw [List.zip_cons_cons]
    unfold putF fsK fsV
    by_cases e : g = f
    · rw [if_pos e, if_pos e, if_pos e]
      exact ⟨rfl, h⟩
    · rw [if_neg e, if_neg e, if_neg e, h1]
      exact ⟨rfl, congrArg (· + 1) h2⟩
theorem DenAll.fs {F : Hp} {f : Str} {v : V} {d : D} (h2 : Den K F v d) : ∀ {ks : List Str} {vs : List V} {ds : List D}, DenAll K F vs ds → DenAll K F (fsV f v ks vs) (fsV f d ks ds)
  | [], _, _, _ => .cons h2 .nil
  | _ :: _, _, _, .nil => .nil
  | g :: ks, _, _, .cons h r => by
    unfold fsV
    by_cases e : g = f
    · rw [if_pos e, if_pos e]
      exact .cons h2 r
    · rw [if_neg e, if_neg e]
      exact .cons h (DenAll.fs h2 r)
def sSelf (i : Nat) (cn f : Str) (fa : S → Rs D) : S → Ro := fun s => (fa s).st fun d s1 => match s1.e[i]?, s1.p with
  | some (some .p), .obj c ks vs => if c = cn ∧ ks.length < 100 then .nx { s1 with p := .obj c (fsK f ks) (fsV f d ks vs) } else .no
  | _, _ => .no
theorem q_self {i : Nat} {cn f : Str} (na : NoAttr K (He.ga K cn) f) (h : PS X st (sFld K (tVar i) (tV K pa W fa) f)) : PS X st (tS K pa W (sSelf i cn f fa)) := by
  refine h.mono ?_
  rintro E σ H ⟨F, s, rep, h⟩
  refine ⟨F, s, rep, (FinS.st h).mono ?_⟩
  rintro v H1 ⟨F1, s1, d, st1, rep1, dv, h1⟩
  have dv : Den K F1 v d := dv
  split at h1
  · rename_i c ks ds e0 ep
    by_cases hc : c = cn ∧ ks.length < 100
    · rw [if_pos hc] at h1
      obtain ⟨rfl, hk⟩ := hc
      obtain ⟨q1, q2, q3⟩ := rep1.pot ⟨i, e0⟩
      rw [ep] at q2
      obtain ⟨qm, w, dx, vs, g1, g2, g3⟩ := q2
      obtain ⟨z1, z2⟩ := zip_putF (f := f) (v := v) g2
      refine ⟨_, rep1.potAt e0, pa.root, _, dx, _, rfl, g1, w.cl, na, ?_, ?_⟩
      · rw [List.length_zip]
        exact Nat.lt_of_le_of_lt (Nat.min_le_left _ _) (Nat.lt_trans hk (by decide))
      · rw [z1]
        have ex : ExtP pa F1 H1 F1 (upd H1 pa.root (.ins (He.ga K c) dx ((fsK f ks).zip (fsV f v ks vs)))) := by
          exact ⟨Le.refl, rep1.sub.updN (q1 _ (.inl rfl)) (plain_of g1), fun b o hb n => ⟨o, by rw [upd_ne (fun z => n (.inl z))]; exact hb, fun _ => rfl⟩, fun b hb => .inl hb, q1⟩
        obtain ⟨st2, rep2⟩ := rep1.drawn (pt := .obj c (fsK f ks) (fsV f d ks ds)) ⟨i, e0⟩ ex ⟨qm, w, dx, _, upd_same, z2, g3.fs dv⟩
        exact h1 _ _ _ st2 rep2
    · rw [if_neg hc] at h1
      exact h1.elim
  · exact h1.elim
/-! ### new objects -/
def mNew (cn : Str) (m : Bw → List D → Rp) (fr : S → Rs (List D)) : S → Rs D := fun s => (fr s).bind fun ds s1 => match m (.obj cn [] []) ds with
  | .ok .non (.obj c ks vs) => if c = cn then .ok (.obj c ks vs) s1 else .no
  | _ => .no
theorem pv_new {k : Nat} {cn x : Str} {ps : List Str} {m : Bw → List D → Rp} (w : OwnC K (He.ga K cn)) (M : NCal X.prog X.w X.K X.mg X.base k x (He.ga K cn) ps (spP K m)) (room : Room (k + 1) X.A) (gd : X.A.guards = some []) (gl : Gl X x) (args : PA X (e :: es) (tVA K pa W fr))
    (n1 : (x == ("__debug__" : Str)) = false := by decide) (n2 : starEach (e :: es) X.env = (false, eval e X.env) :: starEach es X.env := by rfl) (n3 : (backTo pos (starEach es X.env)).any (·.1) = false := by rfl) :
    PE X (.Call (.Name x p) (e :: es) [] pos) (tV K pa W (mNew cn m fr)) := by
  refine (pe_ncal M room gd gl args n1 n2 n3).mono ?_
  rintro σ H Q ⟨F, s, rep, h⟩
  refine ⟨F, s, rep, (Fin.bind h).mono ?_⟩
  rintro vs H1 ⟨F1, s1, ds, st1, rep1, dv, h1⟩
  have dv : DenAll K F1 vs ds := dv
  intro y dx hy hdx ne
  rw [List.append_nil]
  have e1 : Ext F1 H1 F1 (upd H1 dx (.own y)) := Ext.fresh rep1.sub hdx
  have hy2 : upd H1 dx (.own y) y = none := by rw [upd_ne ne.symm]; exact hy
  have e2 : Ext F1 (upd H1 dx (.own y)) F1 (upd (upd H1 dx (.own y)) y (.ins (He.ga K cn) dx [])) := Ext.fresh e1.sub hy2
  refine ⟨F1, ⟨y, []⟩, .obj cn [] [], vs, ds, rfl, e2.sub, fun a ha => ?_, ⟨rfl, w, dx, [], upd_same, rfl, .nil⟩, dv, ?_⟩
  · rcases ha with rfl | ha
    · exact rep1.sub.isN hy
    · cases ha
  split at h1
  · rename_i c ks us em
    rw [em]
    by_cases hc : c = cn
    · rw [if_pos hc] at h1
      subst hc
      rintro v H' F' ex ⟨_, _, dx', ws, g1, g2, g3⟩ dn
      cases dn
      refine ⟨rfl, ?_⟩
      have fy : F' y = none := ex.np y (.inl rfl)
      have le : Le F' (upd F' y (.ins (He.ga K c) dx' (ks.zip ws))) := upd_le fy
      have ext : Ext F1 H1 (upd F' y (.ins (He.ga K c) dx' (ks.zip ws))) H' := by
        refine ⟨ex.le.trans le, ex.sub.laid g1 (fun _ z => nomatch z), fun a o ho => ?_, fun a ha => ?_⟩
        · have na : a ≠ y := fun z => by
            rw [z, hy] at ho
            cases ho
          have nd : a ≠ dx := fun z => by
            rw [z, hdx] at ho
            cases ho
          exact ex.keep a o (by rw [upd_ne na, upd_ne nd]; exact ho) (fun z => z.elim na (fun z => nomatch z))
        · by_cases q : a = y
          · subst q
            exact .inr hy
          · rw [upd_ne q] at ha
            rcases ex.new a ha with z | z
            · exact .inl z
            · rw [upd_ne q] at z
              refine .inr ?_
              by_cases q2 : a = dx
              · rw [q2, upd_same] at z
                cases z
              · rw [upd_ne q2] at z
                exact z
      exact h1 _ _ _ ext.step (rep1.ext ext) (.obj w upd_same g2 (g3.mono le))
    · rw [if_neg hc] at h1
      exact h1.elim
  · exact h1.elim
end

/-! ### len(d), tuple(d) of dicts -/
section
variable {prog : Program} {w : World} {A : Around} {E : Value → Shared → Prop} {s : Shared} {d : Addr} {vs : List (Key × Value)} {ep : Nat}
theorem code_tuple_new_dict {Q₁ : Value → Shared → Prop} (hh : A.handled = none) (lo : (d == sysModules) = false) (hat : s.heap.DictAt (mixKind prog w) d vs ep) (hty : s.TypeIs (.ref d) "dict") (h16 : vs.length ≤ sizeLine)
    (h : ∀ (h' : Heap) (tk : Nat) (acc : Array Value), (∀ b o, s.heap.get? b = some o → h'.get? b = some o) → acc.size = vs.length → (∀ (j : Nat) (v : Value), acc[j]? = some v → ∃ (k : Key) (x : Value), vs[j]? = some (k, x) ∧ keyIs k v = true) →
      Q₁ (.ref h'.objs.size) { s with heap := h'.push { cls := .type "tuple", data := .seq acc }, toks := tk }) :
    codeAny (model prog w) A (.call (.builtin "tuple.__new__") ⟨[.type "tuple", .ref d], []⟩) (wants Q₁ E) s := by
  refine codeAny_of_tree ?_
  show wpAny _ A.in1 (do checkBuiltinCall "tuple.__new__" ⟨[.type "tuple", .ref d], []⟩; again (.builtin "tuple.__new__" ⟨[.type "tuple", .ref d], []⟩)) _ _ s
  refine wpAny_bind (wpAny_of_eq (F.newCall_tuple_1 _) (wpAny_pure ⟨plainId_quiet F.plain_tuple_new _, codeAny_builtin F.entry_tuple_new ?_⟩))
  rw [Around.under_plainId F.plain_tuple_new _]
  have hsub := sub_tuple_self
  have hinit := init_tuple_lookup
  have hmh := madeHere_tuple
  have hh1 : A.in1.handled = none := hh
  wp_walk using wpAny_typeOf hty, PySem.W.kdu_collect (A := A.in1) (PySem.W.kdl_dict (knd := mixKind prog w) (kvs := vs) (ep := ep) lo) hh1 hat h16
  intro h' tk acc hk hacc
  show wpAny _ _ (Builtin.Tuple.tupleExact acc.toList.toArray >>= fun v => ret v) _ _ _
  unfold Builtin.Tuple.tupleExact
  refine wpAny_bind (wpAny_newObj_type ?_ (by show acc.toList.toArray.size ≤ sizeLine; simp only [Array.toArray_toList]; rw [hacc.1]; exact h16))
  refine wpAny_pure ?_
  have e : acc.toList.toArray = acc := by simp
  rw [e]
  exact h h' tk acc hk hacc.1 hacc.2
theorem call_tuple_dict {Q : Value → Shared → Prop} (hh : A.handled = none) (lo : (d == sysModules) = false) (hat : s.heap.DictAt (mixKind prog w) d vs ep) (hty : s.TypeIs (.ref d) "dict") (h16 : vs.length ≤ sizeLine)
    (hQ : ∀ (h' : Heap) (tk : Nat) (acc : Array Value), (∀ b o, s.heap.get? b = some o → h'.get? b = some o) → acc.size = vs.length → (∀ (j : Nat) (v : Value), acc[j]? = some v → ∃ (k : Key) (x : Value), vs[j]? = some (k, x) ∧ keyIs k v = true) →
      Q (.ref h'.objs.size) { s with heap := h'.push { cls := .type "tuple", data := .seq acc }, toks := tk }) :
    wpAny (model prog w) A (call (.type "tuple") [.ref d]) Q E s := by
  refine callType_codes (Q₁ := fun obj s₁ => s₁.TypeIs obj "tuple" ∧ Q obj s₁) F.called_tuple (F.typeCall_tuple_1 _) F.entry_object_init
    (code_tuple_new_dict (A := A.in1) hh lo hat hty h16 fun h' tk acc hk h1 h2 => ⟨⟨_, Heap.get?_push_size _ rfl, rfl⟩, hQ h' tk acc hk h1 h2⟩) fun obj s₁ h₁ => ?_
  exact ⟨h₁.1, F.args_object_init_2 obj _, object_init_meets F.called_tuple.init.lookup F.called_tuple.made (by decide) prog w A.in1 _ s₁ ⟨h₁.1, rfl, h₁.2⟩⟩
end
section
variable {X : Cx} {K : PySem.W.Frag}
def rTupD : List V → Hp → VK → Prop := fun xs H Q => ∃ (a : Addr) (kvs : List (Key × V)), xs = [.ref a] ∧ Rd H a (.dK kvs) ∧ ∀ p, H p = none → Q (.ref p) (upd H p (.tup (kvs.map fun kv => kV kv.1)))
theorem c_tupleD (hc : X.calm = true) : CallR X (.type "tuple") rTupD := by
  intro pins s σ H xs us Q I r h
  obtain ⟨a, kvs, rfl, hd, q⟩ := h
  obtain ⟨u, rfl, ru⟩ := vals1 r
  cases ru
  obtain ⟨z, lo, vs, rel, dd⟩ := dk_rd I.hok hd
  obtain ⟨ep, hat⟩ := dd.dictAt
  have hl : kvs.length = vs.length := rel.length
  have hty : s.TypeIs (.ref a) "dict" := by
    obtain ⟨o, es, e2, h1, h2, _⟩ := dd
    exact ⟨o, h1, h2.1⟩
  refine call_tuple_dict (I.ok.hd hc) lo hat hty (by omega) fun h' tk acc hk h1 h2 => ?_
  have I1 : Inv X pins σ H { s with heap := h', toks := tk } := I.kept hk
  have vals : Vals (vs.map fun p => kV p.1) acc.toList := keys_at (by rw [Array.length_toList, h1]) fun j v e => h2 j v (by rw [← Array.getElem?_toList]; exact e)
  have ek : (kvs.map fun kv => kV kv.1) = vs.map fun p => kV p.1 := by
    have e := congrArg (List.map kV) rel.keys
    rw [List.map_map, List.map_map] at e
    exact e
  rw [← ek] at vals
  have hz : (kvs.map fun kv => kV kv.1).length ≤ sizeLine := by rw [List.length_map]; exact z
  refine ⟨.ref h'.objs.size, upd H h'.objs.size (.tup (kvs.map fun kv => kV kv.1)), I1.laid (t' := tk) (fun b o e => Heap.get?_push_of_some _ e) (Nat.le_refl _) (show ObjOk X.prog X.w _ _ _ (.tup _) from ⟨hz, acc.toList, vals, by
    have e : acc.toList.toArray = acc := by simp
    rw [e]
    exact IsTup.new _ _⟩), rfl, q _ (I1.hok.fresh (Nat.le_refl _))⟩
def tupleDD : List D → Option D
  | [.dic ks _] => some (.tup (ks.map kD))
  | _ => none
theorem den_keys {F : Hp} : ∀ ks : List Key, DenAll K F (ks.map kV) (ks.map kD)
  | [] => .nil
  | k :: ks => .cons (den_kV k) (den_keys ks)
theorem zip_keys : ∀ {ks : List Key} {vs : List V}, ks.length = vs.length → (ks.zip vs).map (fun kv => kV kv.1) = ks.map kV
  | [], [], _ => rfl
  | [], _ :: _, h => by cases h
  | _ :: _, [], h => by cases h
  | k :: ks, v :: vs, h => by
    rw [List.zip_cons_cons, List.map_cons, List.map_cons, zip_keys (Nat.succ.inj h)]
theorem l_tupleD : LiftCB K rTupD tupleDD := by
  intro F H xs as z Q s d e o
  match as, e with
  | [.dic ks ds], e =>
    cases e
    obtain ⟨v, rfl, dd⟩ := d.one
    obtain ⟨a, ws, rfl, q1, q2, q3, q4⟩ := Den.dict s dd
    exact ⟨a, _, rfl, q2, fun p hp => by rw [zip_keys q3]; exact o.tup s (den_keys ks) hp⟩
def rLenD : List V → Hp → VK → Prop := fun xs H Q => ∃ (a : Addr) (kvs : List (Key × V)), xs = [.ref a] ∧ Rd H a (.dK kvs) ∧ Q (.int kvs.length) H
theorem c_lenD : CallR X (.builtin "len") rLenD := by
  intro pins s σ H xs us Q I r h
  obtain ⟨a, kvs, rfl, ha, q⟩ := h
  obtain ⟨u, rfl, ru⟩ := vals1 r
  cases ru
  exact d_len I ha fun t s' I' => ⟨.int kvs.length, H, I', ⟨t, rfl⟩, q⟩
def lenDD : List D → Option D
  | [.dic ks _] => some (.int ks.length)
  | _ => none
theorem l_lenD : LiftCB K rLenD lenDD := by
  intro F H xs as z Q s d e o
  match as, e with
  | [.dic ks ds], e =>
    cases e
    obtain ⟨v, rfl, dd⟩ := d.one
    obtain ⟨a, ws, rfl, q1, q2, q3, q4⟩ := Den.dict s dd
    exact ⟨a, _, rfl, q2, by rw [List.length_zip, ← q3, Nat.min_self]; exact o.here s (.int _)⟩
/-! {} -/
def mDNew : S → Rs LV := fun s => .ok (.k [] []) s
theorem pm_dnew {pa : Plc} {W : L2.St → XK} {pos : Pos} : PE X (.Dict [] [] pos) (tM K pa W mDNew) := by
  refine pe_dnewK.mono ?_
  rintro σ H Q ⟨F, s, rep, h⟩
  intro p hp
  exact h p H F _ Step.refl rep hp ⟨[], upd_same, rfl, .nil⟩
end

/-! ### a Reading that is changed -/
def rdK : List Str := ["own_units", "own_rows", "own_depths"]
def rdObj (u : D) (ks : List Key) (vs : List D) (ks2 : List Key) (vs2 : List D) : D := .obj "Reading" rdK [u, .dic ks vs, .dic ks2 vs2]
def plainE : Env' → Bool
  | [] => true
  | none :: r => plainE r
  | some (.d _) :: r => plainE r
  | _ :: _ => false
theorem plainE_ok : ∀ {e : Env'} {i : Nat} {x : LV}, plainE e = true → e[i]? = some (some x) → ∃ d, x = .d d
  | [], _, _, _, h => by simp at h
  | none :: r, 0, _, _, h => by simp at h
  | none :: r, i + 1, x, p, h => plainE_ok (e := r) (i := i) (by simpa [plainE] using p) (by simpa using h)
  | some (.d d) :: r, 0, x, _, h => by
    simp at h
    exact ⟨d, h.symm⟩
  | some (.d d) :: r, i + 1, x, p, h => plainE_ok (e := r) (i := i) (by simpa [plainE] using p) (by simpa using h)
  | some (.l _) :: r, _, _, p, _ => by cases p
  | some (.k _ _) :: r, _, _, p, _ => by cases p
  | some .p :: r, _, _, p, _ => by cases p
/-- a look: the object frozen for it; the result holds nothing -/
def mPeekG {α : Type} (ok : α → Bool) (f : S → Rs α) : S → Rs α := fun s => match s.e, s.p with
  | some LV.p :: r, .rd u ks vs ks2 vs2 => if plainE r then (match f ⟨some (.d (rdObj u ks vs ks2 vs2)) :: r, s.p⟩ with
    | .ok d _ => if ok d then .ok d s else .no
    | _ => .no) else .no
  | _, _ => .no
def mPeek (f : S → Rs D) : S → Rs D := mPeekG D.isFlat f
def mPeekT (f : S → Rs Bool) : S → Rs Bool := mPeekG (fun _ => true) f
section
variable {X : Cx} {K : PySem.W.Frag} {pa : Plc} {W : L2.St → XK} {a b c o e : Expr} {fa fb fc : S → Rs D} {pos p apos : Pos} {es : List Expr} {fr : S → Rs (List D)} {st : Stmt}
theorem upd3 {F : Hp} {x r q : Addr} {o1 o2 o3 : HO} (h1 : F x = none) (h2 : F r = none) (h3 : F q = none) (n1 : r ≠ q) (n2 : x ≠ r) (n3 : x ≠ q) :
    Le F (upd (upd (upd F x o1) r o2) q o3) ∧ upd (upd (upd F x o1) r o2) q o3 x = some o1 ∧ upd (upd (upd F x o1) r o2) q o3 r = some o2 ∧ upd (upd (upd F x o1) r o2) q o3 q = some o3 := by
  refine ⟨(upd_le h1).trans ((upd_le (by rw [upd_ne n2.symm]; exact h2)).trans (upd_le (by rw [upd_ne n1.symm, upd_ne n3.symm]; exact h3))), ?_, ?_, upd_same⟩
  · rw [upd_ne n3, upd_ne n2, upd_same]
  · rw [upd_ne n1, upd_same]
theorem peek_of {α β : Type} {den : Hp → Hp → β → α → Prop} {ok : α → Bool} {fa : S → Rs α} (any : ∀ F' H' F H v x, ok x = true → den F' H' v x → den F H v x) {σ : L2.St} {H : Hp} {Q : β → Hp → Prop} : tG den K pa W (mPeekG ok fa) σ H Q → tG den K pa W0 fa σ H Q := by
  rintro ⟨F, s, rep, h⟩
  unfold mPeekG at h
  split at h
  · rename_i r u ks vs ks2 vs2 ee ep
    by_cases hp : plainE r = true
    · rw [if_pos hp] at h
      split at h
      · rename_i d s1 ed
        by_cases fl : ok d = true
        · rw [if_pos fl] at h
          have e0 : s.e[0]? = some (some .p) := by rw [ee]; rfl
          obtain ⟨q1, q2, q3⟩ := rep.pot ⟨0, e0⟩
          rw [ep] at q2
          obtain ⟨w, r1, r2, dx, uv, us, us2, hm, n1, n2, n3, g1, gu, g2, l2, d2, g3, l3, d3⟩ := q2
          have hx := q1 pa.root (.inl rfl)
          have hr1 := q1 r1 (.inr (by rw [hm]; exact .head _))
          have hr2 := q1 r2 (.inr (by rw [hm]; exact .tail _ (.head _)))
          obtain ⟨le, f1, f2, f3⟩ := upd3 (o1 := .ins (He.ga K "Reading") dx [("own_units", uv), ("own_rows", .ref r1), ("own_depths", .ref r2)]) (o2 := .dK (ks.zip us)) (o3 := .dK (ks2.zip us2)) hx hr1 hr2 n1 n2 n3
          generalize hF : upd (upd (upd F pa.root (.ins (He.ga K "Reading") dx [("own_units", uv), ("own_rows", .ref r1), ("own_depths", .ref r2)])) r1 (.dK (ks.zip us))) r2 (.dK (ks2.zip us2)) = F1 at le f1 f2 f3
          have other : ∀ b, b ≠ pa.root → b ≠ r1 → b ≠ r2 → F1 b = F b := fun b z1 z2 z3 => by rw [← hF, upd_ne z3, upd_ne z2, upd_ne z1]
          have sub1 : Sub F1 H := ⟨fun b v hb => by
            by_cases z1 : b = pa.root
            · subst z1
              rw [f1] at hb
              cases hb
              exact .inl ⟨fun _ z => (nomatch z), .inl g1⟩
            · by_cases z2 : b = r1
              · subst z2
                rw [f2] at hb
                cases hb
                exact .inl ⟨fun _ z => (nomatch z), .inl g2⟩
              · by_cases z3 : b = r2
                · subst z3
                  rw [f3] at hb
                  cases hb
                  exact .inl ⟨fun _ z => (nomatch z), .inl g3⟩
                · rw [other b z1 z2 z3] at hb
                  exact rep.sub b v hb, fun p hp => le _ _ (rep.sub.tb p hp)⟩
          have dobj : Den K F1 (.ref pa.root) (rdObj u ks vs ks2 vs2) := .obj (ks := rdK) (vs := [uv, .ref r1, .ref r2]) w f1 rfl (.cons (gu.mono le) (.cons (.dic f2 l2 (d2.mono le)) (.cons (.dic f3 l3 (d3.mono le)) .nil)))
          have pl : ∀ (i : Nat) (x : LV), (some (LV.d (rdObj u ks vs ks2 vs2)) :: r)[i]? = some (some x) → ∃ d, x = .d d := fun i x hi => plainE_ok (e := some (.d (rdObj u ks vs ks2 vs2)) :: r) (by simpa [plainE] using hp) hi
          have no : ∀ i b, ¬ Owns σ (some (LV.d (rdObj u ks vs ks2 vs2)) :: r) i b := fun i b ⟨_, y, hy, ho⟩ => by
            obtain ⟨d, rfl⟩ := pl i y hy
            cases ho
          have nop : ¬ HasP (some (LV.d (rdObj u ks vs ks2 vs2)) :: r) := fun ⟨i, hi⟩ => by
            obtain ⟨d, z⟩ := pl i _ hi
            cases z
          have rep1 : Rep K pa F1 H σ ⟨some (.d (rdObj u ks vs ks2 vs2)) :: r, s.p⟩ := by
            refine ⟨sub1, by rw [rep.len, ee]; rfl, fun i x hi => ?_, fun i j b h1 => absurd h1 (no i b), fun z => absurd z nop⟩
            cases i with
            | zero =>
              cases hi
              exact ⟨_, rep.potAt e0, dobj⟩
            | succ i =>
              obtain ⟨d, rfl⟩ := pl (i + 1) x hi
              obtain ⟨v, h1, h2⟩ := rep.slot (i + 1) (.d d) (by rw [ee]; simpa using hi)
              exact ⟨v, h1, by cases v <;> exact Den.mono le h2⟩
          refine ⟨F1, _, rep1, ?_⟩
          rw [ed]
          intro v H' F' st rp dv
          have same : Kept H H' := fun b ob hb => st.keep b ob hb (by
            rintro (⟨i, z⟩ | ⟨z, _⟩)
            · exact no i b z
            · exact nop z)
          have ext : Ext F H F H' := ⟨Le.refl, ⟨fun b v hb => rp.sub b v (st.le b v (le b v hb)), rep.sub.tb⟩, same, fun b hb => .inl hb⟩
          exact h v H' F ext.step (rep.ext ext) (any _ _ _ _ _ _ fl dv)
        · rw [if_neg fl] at h
          exact h.elim
      · exact h.elim
    · rw [if_neg hp] at h
      exact h.elim
  · exact h.elim
theorem pv_peek (h : PE X a (tV K pa W0 fa)) : PE X a (tV K pa W (mPeek fa)) := h.mono fun _ _ _ z => peek_of (den := dV K) (fun _ _ _ _ _ _ fl dv => Den.any (show Den K _ _ _ from dv) fl) z
theorem qt_peek {fa : S → Rs Bool} (h : PT X a (tVB K pa W0 fa)) : PT X a (tVB K pa W (mPeekT fa)) := h.mono fun _ _ _ z => peek_of (fun _ _ _ _ _ _ _ dv => dv) z
/-- self.own_units -/
def mRdU (i : Nat) : S → Rs D := fun s => match s.e[i]?, s.p with
  | some (some LV.p), .rd u _ _ _ _ => .ok u s
  | _, _ => .no
theorem pv_rdU {i : Nat} (ek : X.K = K) (na : NoAttr K (He.ga K "Reading") "own_units") (ha : PE X a (tVar i)) (hb : attributeBase a "own_units" X.env (eval a X.env) = eval a X.env := by rfl) : PE X (.Attribute a "own_units" pos) (tV K pa W (mRdU i)) := by
  subst ek
  refine (pe_fld ha hb).mono ?_
  rintro σ H Q ⟨F, s, rep, h⟩
  unfold mRdU at h
  split at h
  · rename_i u ks vs ks2 vs2 e0 ep
    obtain ⟨q1, q2, q3⟩ := rep.pot ⟨i, e0⟩
    rw [ep] at q2
    obtain ⟨w, r1, r2, dx, uv, us, us2, hm, n1, n2, n3, g1, gu, _⟩ := q2
    exact ⟨_, rep.potAt e0, pa.root, _, dx, _, uv, rfl, g1, w.cl, na, rfl, h _ _ _ Step.refl rep gu⟩
  · exact h.elim
/-- self.own_rows[k] = v, self.own_depths[k] = v -/
def sRdPut (rows : Bool) (fa fb : S → Rs D) : S → Ro := fun s => (fa s).st fun d s1 => match s1.e[0]?, s1.p with
  | some (some LV.p), .rd _ _ _ _ _ => (fb s1).st fun y s2 => (match s2.e[0]?, s2.p, y.key with
    | some (some LV.p), .rd u ks vs ks2 vs2, some k => if ks.length < 1000 ∧ ks2.length < 1000 then .nx { s2 with p := if rows then .rd u (putKs ks k) (putVs ks vs k d) ks2 vs2 else .rd u ks vs (putKs ks2 k) (putVs ks2 vs2 k d) } else .no
    | _, _, _ => .no)
  | _, _ => .no
def rdF (rows : Bool) : Str := if rows then "own_rows" else "own_depths"
theorem ext_more {F H : Hp} {r : Addr} {ob : HO} (sub : Sub F H) (q1 : ∀ a, pa.has a → F a = none) (hr : pa.has r) (hp : ∀ o', H r = some o' → Plain o') : ExtP pa F H F (upd H r ob) :=
  ⟨Le.refl, sub.updN (q1 r hr) hp, fun b o hb n => ⟨o, by rw [upd_ne (fun z => n (by rw [z]; exact hr))]; exact hb, fun _ => rfl⟩, fun b hb => .inl hb, q1⟩
theorem q_rdPut {rows : Bool} (na : NoAttr K (He.ga K "Reading") (rdF rows)) (h : PS X st (sDPut (tFld K (tVar 0) (rdF rows)) (tV K pa W fb) (tV K pa W fa))) : PS X st (tS K pa W (sRdPut rows fa fb)) := by
  refine h.mono ?_
  rintro E σ H ⟨F, s, rep, h⟩
  refine ⟨F, s, rep, (FinS.st h).mono ?_⟩
  rintro v H1 ⟨F1, s1, d, st1, rep1, dv, h1⟩
  have dv : Den K F1 v d := dv
  try dsimp only at h1
  split at h1
  · rename_i _ _ _ _ _ e0 ep0
    obtain ⟨q1, q2, q3⟩ := rep1.pot ⟨0, e0⟩
    rw [ep0] at q2
    obtain ⟨w, r1, r2, dx, uv, us, us2, hm, n1, n2, n3, g1, gu, g2, l2, d2, g3, l3, d3⟩ := q2
    have look : [(("own_units" : Str), uv), ("own_rows", V.ref r1), ("own_depths", V.ref r2)].lookup (rdF rows) = some (.ref (if rows then r1 else r2)) := by
      cases rows <;> rfl
    refine ⟨_, rep1.potAt e0, pa.root, _, dx, _, _, rfl, g1, w.cl, na, look, F1, s1, rep1, (FinS.st h1).mono ?_⟩
    rintro y H2 ⟨F2, s2, yd, st2, rep2, dy, h2⟩
    have dy : Den K F2 y yd := dy
    try dsimp only at h2
    split at h2
    · rename_i u ks vs ks2 vs2 k e1 ep ek
      obtain ⟨p1, p2, p3⟩ := rep2.pot ⟨0, e1⟩
      rw [ep] at p2
      obtain ⟨w', r1', r2', dx', uv', ws, ws2, hm', n1', n2', n3', k1, ku, k2, m2, e2, k3, m3, e3⟩ := p2
      rw [hm] at hm'
      cases hm'
      have dv2 := dv.mono st2.le
      by_cases hl : ks.length < 1000 ∧ ks2.length < 1000
      · rw [if_pos hl] at h2
        have hz : (ks.zip ws).length < sizeLine := by
          rw [List.length_zip]
          exact Nat.lt_of_le_of_lt (Nat.min_le_left _ _) (Nat.lt_trans hl.1 (by decide))
        have hz2 : (ks2.zip ws2).length < sizeLine := by
          rw [List.length_zip]
          exact Nat.lt_of_le_of_lt (Nat.min_le_left _ _) (Nat.lt_trans hl.2 (by decide))
        cases rows with
        | true =>
          refine ⟨r1, _, rfl, .inl ⟨_, k, k2, dy.key ek, hz, rfl⟩, ?_⟩
          rw [zip_put m2]
          have ex := ext_more (pa := pa) (ob := .dK ((putKs ks k).zip (putVs ks ws k v))) rep2.sub p1 (r := r1) (.inr (by rw [hm]; exact .head _)) (plain_of k2)
          obtain ⟨st3, rep3⟩ := rep2.drawn (pt := .rd u (putKs ks k) (putVs ks vs k d) ks2 vs2) ⟨0, e1⟩ ex ⟨w, r1, r2, dx', uv', _, ws2, hm, n1, n2, n3, by rw [upd_ne n2]; exact k1, ku, upd_same, putVs_len m2, e2.put dv2, by rw [upd_ne n1.symm]; exact k3, m3, e3⟩
          exact h2 _ _ _ st3 rep3
        | false =>
          refine ⟨r2, _, rfl, .inl ⟨_, k, k3, dy.key ek, hz2, rfl⟩, ?_⟩
          rw [zip_put m3]
          have ex := ext_more (pa := pa) (ob := .dK ((putKs ks2 k).zip (putVs ks2 ws2 k v))) rep2.sub p1 (r := r2) (.inr (by rw [hm]; exact .tail _ (.head _))) (plain_of k3)
          obtain ⟨st3, rep3⟩ := rep2.drawn (pt := .rd u ks vs (putKs ks2 k) (putVs ks2 vs2 k d)) ⟨0, e1⟩ ex ⟨w, r1, r2, dx', uv', ws, _, hm, n1, n2, n3, by rw [upd_ne n3]; exact k1, ku, by rw [upd_ne n1]; exact k2, m2, e2, upd_same, putVs_len m3, e3.put dv2⟩
          exact h2 _ _ _ st3 rep3
      · rw [if_neg hl] at h2
        exact h2.elim
    · exact h2.elim
  · exact h1.elim
/-- self.m(..), which may change self -/
def mMethP (m : Bw → List D → Rp) (fr : S → Rs (List D)) : S → Rs D := fun s => match s.e[0]?, s.p with
  | some (some LV.p), .rd _ _ _ _ _ => (fr s).bind fun ds s1 => (match s1.e[0]? with
    | some (some LV.p) => (match m s1.p ds with
      | .ok d p' => .ok d { s1 with p := p' }
      | .no => .no)
    | _ => .no)
  | _, _ => .no
theorem pv_methP {k : Nat} {mn : Str} {ps : List Str} {m : Bw → List D → Rp} {pl : Sem Bool} (he : PE X o (tVar 0)) (M : MCal X.prog X.w X.K X.mg X.base k (He.ga K "Reading") mn ps (spP K m)) (room : Room k X.A) (gd : X.A.guards = some []) (hmn : rdK.contains mn = false) (args : PA X (e :: es) (tVA K pa W fr))
    (hst : starEach (e :: es) X.env = (false, eval e X.env) :: starEach es X.env := by rfl) (hpl : (backTo pos (starEach es X.env)).any (·.1) = false := by rfl)
    (ht : eval (.Call (.Attribute o mn apos) (e :: es) [] pos) X.env = (do
      let ov ← eval o X.env
      standAt apos.atName
      let (f, first) ← holding [ov] (getMethod ov mn pl)
      callWith pos f first (backTo pos (starEach (e :: es) X.env)) (backToKw pos (keywordEach [] X.env))) := by rfl) :
    PE X (.Call (.Attribute o mn apos) (e :: es) [] pos) (tV K pa W (mMethP m fr)) := by
  refine (pe_mcal (pl := pl) he M room gd args hst hpl ht).mono ?_
  rintro σ H Q ⟨F, s, rep, h⟩
  unfold mMethP at h
  split at h
  · rename_i _ _ _ _ _ e0 ep0
    obtain ⟨q1, q2, q3⟩ := rep.pot ⟨0, e0⟩
    rw [ep0] at q2
    obtain ⟨w, r1, r2, dx, uv, us, us2, hm, n1, n2, n3, g1, _⟩ := q2
    have nl : (rdK.zip [uv, V.ref r1, V.ref r2]).lookup mn = none := look_none hmn
    refine ⟨_, rep.potAt e0, pa.root, dx, _, rfl, g1, nl, F, s, rep, (Fin.bind h).mono ?_⟩
    rintro vs H1 ⟨F1, s1, ds, st1, rep1, dv, h1⟩
    rw [List.append_nil]
    try dsimp only at h1
    split at h1
    · rename_i e1
      obtain ⟨p1, p2, p3⟩ := rep1.pot ⟨0, e1⟩
      refine ⟨F1, pa, s1.p, vs, ds, rfl, rep1.sub, p1, p2, dv, ?_⟩
      cases q : m s1.p ds with
      | no =>
        rw [q] at h1
        exact h1.elim
      | ok d p' =>
        rw [q] at h1
        intro v H2 F2 ex hh dv2
        obtain ⟨st2, rep2⟩ := rep1.drawn ⟨0, e1⟩ ex hh
        exact h1 v H2 F2 st2 rep2 dv2
    · exact h1.elim
  · exact h.elim
/-! odd places of a list; the module's table TAILS; enumerate(list, 2) -/
def oddD : D → Option D
  | .lst [] => some (.lst [])
  | .lst [_, b] => some (.lst [b])
  | .lst [_, b, _, d] => some (.lst [b, d])
  | _ => none
theorem odd_ok {F : Hp} {vs : List V} {ds es : List D} (r : DenAll K F vs ds) (e : oddD (.lst ds) = some (.lst es)) : ∃ ws, OddOf vs ws ∧ DenAll K F ws es := by
  match ds, r, e with
  | [], .nil, e =>
    cases e
    exact ⟨[], .inl ⟨rfl, rfl⟩, .nil⟩
  | [a, b], .cons h1 (.cons h2 .nil), e =>
    cases e
    exact ⟨_, .inr (.inl ⟨_, _, rfl, rfl⟩), .cons h2 .nil⟩
  | [a, b, c, d], .cons h1 (.cons h2 (.cons h3 (.cons h4 .nil))), e =>
    cases e
    exact ⟨_, .inr (.inr ⟨_, _, _, _, rfl, rfl⟩), .cons h2 (.cons h4 .nil)⟩
theorem oddD_is {x z : D} (e : oddD x = some z) : ∃ ds es, x = .lst ds ∧ z = .lst es := by
  unfold oddD at e
  split at e <;> first | (cases e; exact ⟨_, _, rfl, rfl⟩) | cases e
theorem pv_odd {k1 k2 : Nat} {p1 p2 p3 : Pos} (ek : X.K = K) (he : PE X e (tV K pa W fa)) : PE X (.Subscript e (.Slice (some (.Constant (.int 1) k1 p1)) none (some (.Constant (.int 2) k2 p2)) p3) pos) (tV K pa W (mUn oddD fa)) := by
  refine (xe_odd ek he).mono ?_
  rintro σ H Q ⟨F, s, rep, h⟩
  refine ⟨F, s, rep, (Fin.bind h).mono ?_⟩
  rintro v H1 ⟨F1, s1, x, st1, rep1, dv, h1⟩
  have dv : Den K F1 v x := dv
  obtain ⟨z, ez, out⟩ := h1.lift rep1
  obtain ⟨ds, es, rfl, rfl⟩ := oddD_is ez
  cases dv with
  | lst q r =>
    obtain ⟨ws, o1, o2⟩ := odd_ok r ez
    exact ⟨_, _, ws, rfl, rep1.sub.sqL q, o1, fun p hp => out.lst rep1.sub o2 hp⟩
def notInI (ks : List Int) : D → Option D
  | .int i => some (.bl (!decide (i ∈ ks)))
  | _ => none
theorem qt_notInI {nm : Str} {ks : List Int} (ek : X.K = K) (D0 : IDict K nm ks) (ha : PE X a (tV K pa W fa)) (hb : PE X b (tC (.ref (He.ga K nm)))) (hm : behindInMarks .NotIn b = false) : PT X (.Compare a [.NotIn] [b] pos) (tVB K pa W (mTest (mUn (notInI ks) fa))) := by
  refine (pt_cmpR (x_notInId ek D0) ha hb hm).mono ?_
  rintro σ H Q ⟨F, s, rep, h⟩
  unfold mTest mUn at h
  refine ⟨F, s, rep, ?_⟩
  cases e : fa s with
  | no =>
    rw [e] at h
    exact h.elim
  | ex c d s1 =>
    rw [e] at h
    exact h
  | ok x s1 =>
    rw [e] at h
    intro v H1 F1 st1 rep1 dv
    have dv : Den K F1 v x := dv
    cases dv with
    | int i => exact ⟨i, rfl, rfl, _, rfl, h _ _ _ st1 rep1 rfl⟩
    | _ => exact h.elim
def tabI (tab : List (Int × List D)) : D → Option D
  | .int i => match tab.lookup i with
    | some ds => some (.tup ds)
    | none => none
  | _ => none
theorem pv_tabI {nm : Str} {ks : List Int} {tab : List (Int × List D)} (ek : X.K = K) (D0 : IDict K nm ks) (ht : ∀ i ds, tab.lookup i = some ds → idR K nm i = true ∧ ∃ vs, (∀ H, SqT K H (idA K nm i) vs) ∧ ∀ F, DenAll K F vs ds) (ha : PE X a (tV K pa W fa)) (hb : PE X b (tC (.ref (He.ga K nm)))) (hs : PlainIx a) :
    PE X (.Subscript b a pos) (tV K pa W (mUn (tabI tab) fa)) := by
  refine (pe_ix (x_ixId ek D0) hb ha hs).mono ?_
  rintro σ H Q ⟨F, s, rep, h⟩
  refine ⟨F, s, rep, (Fin.bind h).mono ?_⟩
  rintro v H1 ⟨F1, s1, x, st1, rep1, dv, h1⟩
  have dv : Den K F1 v x := dv
  obtain ⟨z, ez, out⟩ := h1.lift rep1
  cases dv with
  | int i =>
    dsimp only [tabI] at ez
    cases q : tab.lookup i with
    | none =>
      rw [q] at ez
      cases ez
    | some ds =>
      rw [q] at ez
      cases ez
      obtain ⟨h2, vs, h3, h4⟩ := ht i ds q
      exact ⟨i, rfl, rfl, h2, out.here rep1.sub (.tup (.inr h3) (h4 F1))⟩
  | _ => cases ez
theorem iter_enum2 {F H : Hp} {a : Addr} {vs : List V} {ds : List D} (h : F a = some (.lst vs)) (r : DenAll K F vs ds) : IterOf K F H (It2 K a) (enumD 2 ds) := by
  refine ⟨_, _, by rw [enumD_len, ← r.length]; exact walk_enS (xs := vs), fun F' H' le s _ => s.sqL (le _ _ h), fun i F' H' x H'' le s _ y => ?_⟩
  obtain ⟨T, u, v, rfl, n, rfl, e1, e2⟩ := y
  cases e1
  obtain ⟨d, q1, q2⟩ := (r.mono le).get e2
  obtain ⟨x1, x2⟩ := ext_pair (x := .int (2 + (i : Nat))) s n (.int _) q2
  refine ⟨_, _, ?_, x1, x2⟩
  rw [enumD_get q1]
  have : ((2 + i : Nat) : Int) = 2 + (i : Nat) := by omega
  rw [this]
def mEnum2 (fr : S → Rs (List D)) : S → Rs (List D) := fun s => (fr s).bind fun xs s1 => match xs with
  | [.lst xs, .int 2] => .ok (enumD 2 xs) s1
  | _ => .no
theorem qi_enum2 {e2 : Expr} {elts : List Expr} {kk : Nat} {tpos : Pos} (ek : X.K = K) (hg : Gl X "enumerate") (hm : X.mg "enumerate" = none) (ha : PA X [a, e2] (tVA K pa W fr)) (hs : starEach [a, e2] X.env = (false, eval a X.env) :: starEach [e2] X.env := by rfl) (hpl : (backTo pos (starEach [e2] X.env)).any (·.1) = false := by rfl) :
    PI X (.Tuple elts kk tpos) (.Call (.Name "enumerate" p) [a, e2] [] pos) (tVI K pa W (mEnum2 fr)) := by
  refine (xi_en2 ek hg hm ha hs hpl).mono ?_
  rintro σ H R ⟨F, s, rep, h⟩
  refine ⟨F, s, rep, (Fin.bind h).mono ?_⟩
  rintro vs H1 ⟨F1, s1, xs, st1, rep1, dv, h1⟩
  have dv : DenAll K F1 vs xs := dv
  split at h1
  · obtain ⟨v, w, rfl, d1, d2⟩ := dv.two
    cases d2
    cases d1 with
    | lst q r => exact ⟨_, _, rfl, rep1.sub.sqL q, h1 _ _ _ Step.refl rep1 (iter_enum2 q r)⟩
  · exact h1.elim
end

/-! ### a new Reading -/
structure ExtN (y : Addr) (F H F' H' : Hp) : Prop where
  le : Le F F'
  sub : Sub F' H'
  keep : ∀ a o, H a = some o → a ≠ y → ∃ o', H' a = some o' ∧ (NoTab o → o' = o)
  new : ∀ a, F' a ≠ none → F a ≠ none ∨ H a = none ∨ a = y
def spNew (K : PySem.W.Frag) (cn : Str) (m : List D → Rv) : Sp := fun vs H Q _ => ∃ F y dx ws ds, vs = .ref y :: ws ∧ Sub F H ∧ F y = none ∧ H y = some (.ins (He.ga K cn) dx []) ∧ DenAll K F ws ds ∧ match m ds with
  | .ok d => ∀ H' F', ExtN y F H F' H' → Den K F' (.ref y) d → Q .non H'
  | _ => False
def initN (n : Nat) (ds : List D) : S := ⟨none :: (ds.map (fun d => some (.d d)) ++ List.replicate (n - (ds.length + 1)) none), .pot ⟨0, 0, 0⟩⟩
def endN : Ro → Rv
  | .nx s => (match s.e[0]?, s.p with
    | some (some LV.p), .rd u ks vs ks2 vs2 => .ok (rdObj u ks vs ks2 vs2)
    | _, _ => .no)
  | _ => .no
def mDefN (np n : Nat) (g1 : S → Rs D) (g : S → Ro) : List D → Rv := fun ds => if ds.length + 1 = np then (match g1 (initN n ds) with
  | .ok u ⟨none :: r, _⟩ => if plainE r then endN (g ⟨some .p :: r, .rd u [] [] [] []⟩) else .no
  | _ => .no) else .no
theorem PSs.exi {X : Cx} {ss : List Stmt} {t : Plc → TS} (h : ∀ pa, PSs X ss (t pa)) : PSs X ss (fun E σ H => ∃ pa, t pa E σ H) := ⟨fun pins s σ H E I ⟨pa, w⟩ => (h pa).run pins s σ H E I w⟩
section
variable {K : PySem.W.Frag} {pa : Plc} {F H : Hp}
theorem plain_upd {a b : Addr} {o : HO} (h : ∀ o', H b = some o' → Plain o') (ho : Plain o) : ∀ o', upd H a o b = some o' → Plain o' := fun o' e => by
  by_cases q : b = a
  · subst q
    rw [upd_same] at e
    cases e
    exact ho
  · rw [upd_ne q] at e
    exact h o' e
theorem rd_freeze {u : D} {ks ks2 : List Key} {vs vs2 : List D} (sub : Sub F H) (q1 : ∀ a, pa.has a → F a = none) (q2 : BorAt K F H pa (.rd u ks vs ks2 vs2)) :
    ∃ F1, Le F F1 ∧ Sub F1 H ∧ Den K F1 (.ref pa.root) (rdObj u ks vs ks2 vs2) ∧ ∀ a, F1 a ≠ none → F a ≠ none ∨ pa.has a := by
  obtain ⟨w, r1, r2, dx, uv, us, us2, hm, n1, n2, n3, g1, gu, g2, l2, d2, g3, l3, d3⟩ := q2
  have p1 : pa.has r1 := .inr (by rw [hm]; exact .head _)
  have p2 : pa.has r2 := .inr (by rw [hm]; exact .tail _ (.head _))
  obtain ⟨le, f1, f2, f3⟩ := upd3 (o1 := .ins (He.ga K "Reading") dx [("own_units", uv), ("own_rows", .ref r1), ("own_depths", .ref r2)]) (o2 := .dK (ks.zip us)) (o3 := .dK (ks2.zip us2)) (q1 pa.root (.inl rfl)) (q1 r1 p1) (q1 r2 p2) n1 n2 n3
  generalize hF : upd (upd (upd F pa.root (.ins (He.ga K "Reading") dx [("own_units", uv), ("own_rows", .ref r1), ("own_depths", .ref r2)])) r1 (.dK (ks.zip us))) r2 (.dK (ks2.zip us2)) = F1 at le f1 f2 f3
  have other : ∀ b, b ≠ pa.root → b ≠ r1 → b ≠ r2 → F1 b = F b := fun b z1 z2 z3 => by rw [← hF, upd_ne z3, upd_ne z2, upd_ne z1]
  refine ⟨F1, le, ⟨fun b v hb => ?_, fun p hp => le _ _ (sub.tb p hp)⟩, .obj (ks := rdK) (vs := [uv, .ref r1, .ref r2]) w f1 rfl (.cons (gu.mono le) (.cons (.dic f2 l2 (d2.mono le)) (.cons (.dic f3 l3 (d3.mono le)) .nil))), fun b hb => ?_⟩
  · by_cases z1 : b = pa.root
    · subst z1
      rw [f1] at hb
      cases hb
      exact .inl ⟨fun _ z => (nomatch z), .inl g1⟩
    · by_cases z2 : b = r1
      · subst z2
        rw [f2] at hb
        cases hb
        exact .inl ⟨fun _ z => (nomatch z), .inl g2⟩
      · by_cases z3 : b = r2
        · subst z3
          rw [f3] at hb
          cases hb
          exact .inl ⟨fun _ z => (nomatch z), .inl g3⟩
        · rw [other b z1 z2 z3] at hb
          exact sub b v hb
  · by_cases z1 : b = pa.root
    · exact .inr (.inl z1)
    · by_cases z2 : b = r1
      · exact .inr (z2 ▸ p1)
      · by_cases z3 : b = r2
        · exact .inr (z3 ▸ p2)
        · rw [other b z1 z2 z3] at hb
          exact .inl hb
theorem initN_get {n i : Nat} {ds : List D} {x : LV} (h : (initN n ds).e[i]? = some (some x)) : ∃ d k, i = k + 1 ∧ ds[k]? = some d ∧ x = .d d := by
  unfold initN at h
  cases i with
  | zero => cases h
  | succ i =>
    have h : (ds.map (fun d => some (LV.d d)) ++ List.replicate (n - (ds.length + 1)) none)[i]? = some (some x) := by simpa using h
    by_cases hl : i < ds.length
    · rw [List.getElem?_append_left (by simpa using hl), List.getElem?_map] at h
      cases e : ds[i]? with
      | none =>
        rw [e] at h
        cases h
      | some d =>
        rw [e] at h
        cases h
        exact ⟨d, i, rfl, e, rfl⟩
    · rw [List.getElem?_append_right (by simpa using Nat.le_of_not_lt hl), List.getElem?_replicate] at h
      split at h <;> cases h
theorem initN_no {n : Nat} {ds : List D} {σ : L2.St} {a : Addr} : ¬ OwnA pa σ (initN n ds) a := by
  rintro (⟨i, h1, y, h2, h3⟩ | ⟨⟨i, h⟩, e⟩)
  · obtain ⟨d, k, _, _, rfl⟩ := initN_get h2
    cases h3
  · obtain ⟨d, k, _, _, q⟩ := initN_get h
    cases q
theorem Rep.initN {N : List Str} {y : Addr} {vs : List V} {ds : List D} (sub : Sub F H) (r : DenAll K F vs ds) : Rep K pa F H (L2.start N (.ref y :: vs)) (initN N.length ds) := by
  refine ⟨sub, ?_, fun i x h => ?_, fun i j a h1 h2 => absurd (.inl ⟨i, h1⟩) (initN_no (pa := pa) (a := a)), fun h => ?_⟩
  · unfold L2.start Ak.initN
    simp [r.length]
  · obtain ⟨d, k, rfl, e, rfl⟩ := initN_get h
    obtain ⟨v, e1, e2⟩ := r.getD e
    refine ⟨v, ?_, by cases v <;> exact e2⟩
    unfold L2.start
    have hl : k < vs.length := (List.getElem?_eq_some_iff.mp e1).1
    rw [List.getElem?_append_left (by simp; omega), List.getElem?_map, List.getElem?_cons_succ, e1]
    rfl
  · obtain ⟨i, h⟩ := h
    obtain ⟨d, k, _, _, q⟩ := initN_get h
    cases q
theorem spNew_len {cn : Str} {np n : Nat} {g1 : S → Rs D} {g : S → Ro} {vs : List V} {Q : VK} {E : XK} (h : spNew K cn (mDefN np n g1 g) vs H Q E) : vs.length = np := by
  obtain ⟨F, y, dx, ws, ds, rfl, _, _, _, r, h⟩ := h
  unfold mDefN at h
  by_cases hl : ds.length + 1 = np
  · rw [List.length_cons, r.length, hl]
  · rw [if_neg hl] at h
    exact h.elim
theorem start0 {N : List Str} {v : V} {vs : List V} : (L2.start N (v :: vs))[0]? = some (some v) := rfl
theorem init_of {N : List Str} {np : Nat} {g1 : S → Rs D} {g : S → Ro} {vs : List V} {Q : VK} {E : XK} (w : OwnC K (He.ga K "Reading")) (na1 : NoAttr K (He.ga K "Reading") "own_units") (na2 : NoAttr K (He.ga K "Reading") "own_rows") (na3 : NoAttr K (He.ga K "Reading") "own_depths") (h : spNew K "Reading" (mDefN np N.length g1 g) vs H Q E) :
    tSeq (sFld K (tVar 0) (tV K ⟨0, []⟩ W0 g1) "own_units") (tSeq (sFld K (tVar 0) tDNewK "own_rows") (tSeq (sFld K (tVar 0) tDNewK "own_depths") (fun E σ H => ∃ pa, tS K pa W0 g E σ H))) { nx := fun _ H' => Q .non H', rt := Q } (L2.start N vs) H := by
  obtain ⟨F, y, dx, ws, ds, rfl, sub, fy, hy, r, h⟩ := h
  unfold mDefN at h
  by_cases hl : ds.length + 1 = np
  · rw [if_pos hl] at h
    refine ⟨F, _, Rep.initN sub r, ?_⟩
    cases e : g1 (initN N.length ds) with
    | no =>
      rw [e] at h
      exact h.elim
    | ex c d s1 =>
      rw [e] at h
      exact h.elim
    | ok u s1 =>
      rw [e] at h
      intro uv H1 F1 st1 rep1 du
      have du : Den K F1 uv u := du
      have hy1 : H1 y = some (.ins (He.ga K "Reading") dx []) := st1.at hy initN_no
      have fy1 : F1 y = none := by
        cases q : F1 y with
        | none => rfl
        | some o =>
          rcases st1.new y (by rw [q]; exact fun z => nomatch z) with z | z | z
          · exact absurd fy z
          · rw [hy] at z
            cases z
          · exact absurd z initN_no
      refine ⟨_, start0, y, _, dx, _, rfl, hy1, w.cl, na1, by decide, ?_⟩
      intro r1 hr1
      have n1 : r1 ≠ y := fun z => by
        rw [z, upd_same] at hr1
        cases hr1
      have hr1' : H1 r1 = none := by rw [upd_ne n1] at hr1; exact hr1
      refine ⟨_, start0, y, _, dx, _, rfl, by rw [upd_ne n1.symm, upd_same], w.cl, na2, by show 1 < 1000; decide, ?_⟩
      intro r2 hr2
      have n2 : r2 ≠ y := fun z => by
        rw [z, upd_same] at hr2
        cases hr2
      have n3 : r2 ≠ r1 := fun z => by
        rw [z, upd_ne n1, upd_same] at hr2
        cases hr2
      have hr2' : H1 r2 = none := by rw [upd_ne n2, upd_ne n3, upd_ne n2] at hr2; exact hr2
      refine ⟨_, start0, y, _, dx, _, rfl, by rw [upd_ne n2.symm, upd_same], w.cl, na3, by show 2 < 1000; decide, ?_⟩
      have fs : putF "own_depths" (V.ref r2) (putF "own_rows" (V.ref r1) (putF "own_units" uv [])) = [(("own_units" : Str), uv), ("own_rows", .ref r1), ("own_depths", .ref r2)] := rfl
      rw [fs]
      generalize hH : upd (upd (upd (upd (upd H1 y (HO.ins (He.ga K "Reading") dx (putF "own_units" uv []))) r1 (HO.dK [])) y (HO.ins (He.ga K "Reading") dx (putF "own_rows" (V.ref r1) (putF "own_units" uv [])))) r2 (HO.dK [])) y (HO.ins (He.ga K "Reading") dx [("own_units", uv), ("own_rows", .ref r1), ("own_depths", .ref r2)]) = H3
      have k1 : H3 y = some (HO.ins (He.ga K "Reading") dx [("own_units", uv), ("own_rows", .ref r1), ("own_depths", .ref r2)]) := by rw [← hH, upd_same]
      have k2 : H3 r1 = some (.dK []) := by rw [← hH, upd_ne n1, upd_ne n3.symm, upd_ne n1, upd_same]
      have k3 : H3 r2 = some (.dK []) := by rw [← hH, upd_ne n2, upd_same]
      have k4 : ∀ a, a ≠ y → a ≠ r1 → a ≠ r2 → H3 a = H1 a := fun a z1 z2 z3 => by rw [← hH, upd_ne z1, upd_ne z3, upd_ne z1, upd_ne z2, upd_ne z1]
      have fr1 : F1 r1 = none := rep1.sub.isN hr1'
      have fr2 : F1 r2 = none := rep1.sub.isN hr2'
      have sub3 : Sub F1 H3 := by
        rw [← hH]
        have pI : ∀ fs, Plain (.ins (He.ga K "Reading") dx fs) := fun _ => ⟨fun _ z => (nomatch z), fun _ z => (nomatch z)⟩
        have pD : ∀ kv, Plain (.dK kv) := fun _ => ⟨fun _ z => (nomatch z), fun _ z => (nomatch z)⟩
        have py : ∀ o', H1 y = some o' → Plain o' := plain_of hy1
        have p1 : ∀ o', H1 r1 = some o' → Plain o' := plain_none hr1'
        have p2 : ∀ o', H1 r2 = some o' → Plain o' := plain_none hr2'
        exact ((((rep1.sub.updN fy1 py).updN fr1 (plain_upd p1 (pI _))).updN fy1 (plain_upd (plain_upd py (pI _)) (pD _))).updN fr2 (plain_upd (plain_upd (plain_upd p2 (pI _)) (pD _)) (pI _))).updN fy1 (plain_upd (plain_upd (plain_upd (plain_upd py (pI _)) (pD _)) (pI _)) (pD _))
      have np : ∀ a, (Plc.mk y [r1, r2]).has a → F1 a = none := fun a ha => by
        rcases ha with rfl | ha
        · exact fy1
        · rcases List.mem_cons.mp ha with rfl | ha
          · exact fr1
          · rcases List.mem_cons.mp ha with rfl | ha
            · exact fr2
            · cases ha
      have bor : BorAt K F1 H3 ⟨y, [r1, r2]⟩ (.rd u [] [] [] []) := ⟨w, r1, r2, dx, uv, [], [], rfl, n3.symm, n1.symm, n2.symm, k1, du, k2, rfl, .nil, k3, rfl, .nil⟩
      obtain ⟨se, sp⟩ := s1
      split at h
      · rename_i d q
        split at q
        · rename_i u' r' p' e2
          cases e2
          by_cases hp : plainE r' = true
          · rw [if_pos hp] at q
            have pl : ∀ (i : Nat) (x : LV), (some LV.p :: r')[i]? = some (some x) → i = 0 ∧ x = .p ∨ ∃ k d, i = k + 1 ∧ x = .d d ∧ r'[k]? = some (some x) := fun i x hi => by
              cases i with
              | zero =>
                cases hi
                exact .inl ⟨rfl, rfl⟩
              | succ i =>
                have hi : r'[i]? = some (some x) := by simpa using hi
                obtain ⟨d, rfl⟩ := plainE_ok hp hi
                exact .inr ⟨i, d, rfl, rfl, hi⟩
            have no : ∀ i b, ¬ Owns (L2.start N (.ref y :: ws)) (some LV.p :: r') i b := fun i b ⟨_, x, hx, ho⟩ => by
              rcases pl i x hx with ⟨_, z⟩ | ⟨k, d, _, z, _⟩ <;> subst z <;> cases ho
            have rep3 : Rep K ⟨y, [r1, r2]⟩ F1 H3 (L2.start N (.ref y :: ws)) ⟨some .p :: r', .rd u [] [] [] []⟩ := by
              refine ⟨sub3, by have := rep1.len; simpa using this, fun i x hi => ?_, fun i j b h1 => absurd h1 (no i b), fun _ => ⟨np, bor, fun i a _ => no i a⟩⟩
              rcases pl i x hi with ⟨z, rfl⟩ | ⟨k, d, z, rfl, hk⟩
              · subst z
                exact ⟨_, start0, rfl⟩
              · subst z
                obtain ⟨v, h1, h2⟩ := rep1.slot (k + 1) (.d d) (by simpa using hk)
                exact ⟨v, h1, by cases v <;> exact h2⟩
            refine ⟨⟨y, [r1, r2]⟩, F1, _, rep3, ?_⟩
            cases eg : g ⟨some .p :: r', .rd u [] [] [] []⟩ with
            | nx s2 =>
              rw [eg] at q
              dsimp only [endN] at q
              split at q
              · rename_i u2 ks vs ks2 vs2 e0 ep
                cases q
                intro σ' H' F' st rp
                obtain ⟨q1, q2, _⟩ := rp.pot ⟨0, e0⟩
                rw [ep] at q2
                obtain ⟨F2, le2, sub2, den2, new2⟩ := rd_freeze rp.sub q1 q2
                have ow : ∀ a, OwnA ⟨y, [r1, r2]⟩ (L2.start N (.ref y :: ws)) ⟨some .p :: r', .rd u [] [] [] []⟩ a → (Plc.mk y [r1, r2]).has a := fun a z => by
                  rcases z with ⟨i, z⟩ | ⟨_, z⟩
                  · exact absurd z (no i a)
                  · exact z
                have far : ∀ a, (Plc.mk y [r1, r2]).has a → a = y ∨ H1 a = none := fun a ha => by
                  rcases ha with rfl | ha
                  · exact .inl rfl
                  · rcases List.mem_cons.mp ha with rfl | ha
                    · exact .inr hr1'
                    · rcases List.mem_cons.mp ha with rfl | ha
                      · exact .inr hr2'
                      · cases ha
                have back : ∀ a, H1 a = none → H a = none := fun a ha => by
                  cases q : H a with
                  | none => rfl
                  | some o =>
                    obtain ⟨_, e, _⟩ := st1.keep a o q initN_no
                    rw [e] at ha
                    cases ha
                refine h H' F2 ⟨st1.le.trans (st.le.trans le2), sub2, fun a o ho ne => ?_, fun a ha => ?_⟩ den2
                · obtain ⟨o1, ho1, hq1⟩ := st1.keep a o ho initN_no
                  have z2 : a ≠ r1 := fun z => by
                    rw [z, hr1'] at ho1
                    cases ho1
                  have z3 : a ≠ r2 := fun z => by
                    rw [z, hr2'] at ho1
                    cases ho1
                  obtain ⟨o2, ho2, hq2⟩ := st.keep a o1 (by rw [k4 a ne z2 z3]; exact ho1) fun z => by
                    rcases far a (ow a z) with z | z
                    · exact ne z
                    · rw [ho1] at z
                      cases z
                  refine ⟨o2, ho2, fun m => ?_⟩
                  have e := hq1 m
                  rw [e] at hq2
                  exact hq2 m
                · have old : F1 a ≠ none → F a ≠ none ∨ H a = none ∨ a = y := fun z => by
                    rcases st1.new a z with z | z | z
                    · exact .inl z
                    · exact .inr (.inl z)
                    · exact absurd z initN_no
                  have at_ : (Plc.mk y [r1, r2]).has a → F a ≠ none ∨ H a = none ∨ a = y := fun z => by
                    rcases far a z with z | z
                    · exact .inr (.inr z)
                    · exact .inr (.inl (back a z))
                  rcases new2 a ha with z | z
                  · rcases st.new a z with z | z | z
                    · exact old z
                    · by_cases z1 : a = y
                      · exact .inr (.inr z1)
                      · by_cases z2 : a = r1
                        · exact .inr (.inl (back a (z2 ▸ hr1')))
                        · by_cases z3 : a = r2
                          · exact .inr (.inl (back a (z3 ▸ hr2')))
                          · rw [k4 a z1 z2 z3] at z
                            exact .inr (.inl (back a z))
                    · exact at_ (ow a z)
                  · exact at_ z
              · cases q
            | _ =>
              rw [eg] at q
              cases q
          · rw [if_neg hp] at q
            cases q
        · cases q
      · exact h.elim
  · rw [if_neg hl] at h
    exact h.elim
end
section
variable {X : Cx} {K : PySem.W.Frag} {pa : Plc} {W : L2.St → XK} {e : Expr} {pos p : Pos} {es : List Expr} {fr : S → Rs (List D)}
theorem pv_newV {k : Nat} {cn x : Str} {ps : List Str} {m : List D → Rv} (M : NCal X.prog X.w X.K X.mg X.base k x (He.ga K cn) ps (spNew K cn m)) (room : Room (k + 1) X.A) (gd : X.A.guards = some []) (gl : Gl X x) (args : PA X (e :: es) (tVA K pa W fr))
    (n1 : (x == ("__debug__" : Str)) = false := by decide) (n2 : starEach (e :: es) X.env = (false, eval e X.env) :: starEach es X.env := by rfl) (n3 : (backTo pos (starEach es X.env)).any (·.1) = false := by rfl) :
    PE X (.Call (.Name x p) (e :: es) [] pos) (tV K pa W (mCal m fr)) := by
  refine (pe_ncal M room gd gl args n1 n2 n3).mono ?_
  rintro σ H Q ⟨F, s, rep, h⟩
  refine ⟨F, s, rep, (Fin.bind h).mono ?_⟩
  rintro vs H1 ⟨F1, s1, ds, st1, rep1, dv, h1⟩
  have dv : DenAll K F1 vs ds := dv
  intro y dx hy hdx ne
  rw [List.append_nil]
  have e1 : Ext F1 H1 F1 (upd H1 dx (.own y)) := Ext.fresh rep1.sub hdx
  have hy2 : upd H1 dx (.own y) y = none := by rw [upd_ne ne.symm]; exact hy
  have e2 : Ext F1 (upd H1 dx (.own y)) F1 (upd (upd H1 dx (.own y)) y (.ins (He.ga K cn) dx [])) := Ext.fresh e1.sub hy2
  refine ⟨F1, y, dx, vs, ds, rfl, e2.sub, rep1.sub.isN hy, upd_same, dv, ?_⟩
  cases em : m ds with
  | no =>
    rw [em] at h1
    exact h1.elim
  | ex c d =>
    rw [em] at h1
    exact h1.elim
  | ok d =>
    rw [em] at h1
    intro H' F' ex dn
    refine ⟨rfl, ?_⟩
    have ext : Ext F1 H1 F' H' := by
      refine ⟨ex.le, ex.sub, fun a o ho => ?_, fun a ha => ?_⟩
      · have na : a ≠ y := fun z => by
          rw [z, hy] at ho
          cases ho
        have nd : a ≠ dx := fun z => by
          rw [z, hdx] at ho
          cases ho
        exact ex.keep a o (by rw [upd_ne na, upd_ne nd]; exact ho) na
      · rcases ex.new a ha with z | z | z
        · exact .inl z
        · by_cases q : a = y
          · exact .inr (q ▸ hy)
          · rw [upd_ne q] at z
            by_cases q2 : a = dx
            · rw [q2, upd_same] at z
              cases z
            · rw [upd_ne q2] at z
              exact .inr z
        · exact .inr (z ▸ hy)
    exact h1 _ _ _ ext.step (rep1.ext ext) dn
end

/-! ### tests: a if t else b -/
def mIfT (ft fa fb : S → Rs Bool) : S → Rs Bool := fun s => (ft s).bind fun c s1 => match c with
  | true => fa s1
  | false => fb s1
theorem pt_ifE {X : Cx} {c a b : Expr} {pos : Pos} {tc ta tb : TT} (hc : PT X c tc) (ha : PT X a ta) (hb : PT X b tb) : PT X (.IfExp c a b pos) (fun σ H Q => tc σ H fun d H1 => if d = true then ta σ H1 Q else tb σ H1 Q) := by
  refine ⟨fun pins s σ H Q I h => isTrue_IfExp (thn (hc.run pins s σ H _ I h) fun d s1 ⟨H1, I1, q1⟩ => ?_)⟩
  cases d with
  | true => exact ha.run pins s1 σ H1 Q I1 q1
  | false => exact hb.run pins s1 σ H1 Q I1 q1
theorem qt_ifE {X : Cx} {K : PySem.W.Frag} {pa : Plc} {W : L2.St → XK} {c a b : Expr} {pos : Pos} {ft fa fb : S → Rs Bool} (hc : PT X c (tVB K pa W ft)) (ha : PT X a (tVB K pa W fa)) (hb : PT X b (tVB K pa W fb)) : PT X (.IfExp c a b pos) (tVB K pa W (mIfT ft fa fb)) := by
  refine (pt_ifE hc ha hb).mono ?_
  rintro σ H Q ⟨F, s, rep, h⟩
  refine ⟨F, s, rep, (Fin.bind h).mono ?_⟩
  rintro v H1 ⟨F1, s1, x, st1, rep1, rfl, h1⟩
  cases v with
  | true => exact ⟨F1, s1, rep1, h1⟩
  | false => exact ⟨F1, s1, rep1, h1⟩
/-! ### dict([(k, v), ..]) -/
def pairsK : List D → Option (List Key × List D)
  | [] => some ([], [])
  | .tup [a, v] :: r => match a.key, pairsK r with
    | some k, some (ks, vs) => some (k :: ks, v :: vs)
    | _, _ => none
  | _ :: _ => none
section
variable {α : Type}
def mergeKs : List Key → List Key → List Key
  | ks, [] => ks
  | ks, k :: r => mergeKs (putKs ks k) r
def mergeVs : List Key → List α → List Key → List α → List α
  | ks, vs, k :: r, v :: s => mergeVs (putKs ks k) (putVs ks vs k v) r s
  | _, vs, _, _ => vs
end
def dictD : List D → Option D
  | [.lst ds] => match pairsK ds with
    | some (ks, vs) => some (.dic (mergeKs [] ks) (mergeVs [] [] ks vs))
    | none => none
  | _ => none
def rDictP (K : PySem.W.Frag) : List V → Hp → VK → Prop := fun xs H Q => ∃ (a : Addr) (ps : List Addr) (kvs : List (Key × V)), xs = [.ref a] ∧ SqL K H a (ps.map V.ref) ∧ Paired (fun p kv => SqT K H p [kV kv.1, kv.2]) ps kvs ∧ ∀ p, H p = none → Q (.ref p) (upd H p (.dK (mergeK [] kvs)))
theorem merge_zip : ∀ {r : List Key} {s : List V} {ks : List Key} {vs : List V}, r.length = s.length → ks.length = vs.length → mergeK (ks.zip vs) (r.zip s) = (mergeKs ks r).zip (mergeVs ks vs r s) ∧ (mergeKs ks r).length = (mergeVs ks vs r s).length
  | [], [], ks, vs, _, h => ⟨rfl, h⟩
  | [], _ :: _, _, _, h, _ => by cases h
  | _ :: _, [], _, _, h, _ => by cases h
  | k :: r, v :: s, ks, vs, h, h2 => by
    have ih := merge_zip (r := r) (s := s) (ks := putKs ks k) (vs := putVs ks vs k v) (Nat.succ.inj h) (putVs_len h2)
    rw [← zip_put h2] at ih
    exact ih
theorem DenAll.merge {K : PySem.W.Frag} {F : Hp} : ∀ {r : List Key} {s : List V} {t : List D} {ks : List Key} {vs : List V} {ds : List D}, DenAll K F s t → DenAll K F vs ds → DenAll K F (mergeVs ks vs r s) (mergeVs ks ds r t)
  | [], _, _, _, _, _, .nil, h => h
  | [], _, _, _, _, _, .cons _ _, h => h
  | _ :: _, _, _, _, _, _, .nil, h => h
  | k :: r, _, _, ks, vs, ds, .cons h1 h2, h => DenAll.merge (r := r) (ks := putKs ks k) h2 (h.put h1)
section
variable {K : PySem.W.Frag} {F H : Hp}
theorem DenAll.put' {k : Key} {v : V} {d : D} {ks : List Key} {vs : List V} {ds : List D} (h : DenAll K F vs ds) (h2 : Den K F v d) : DenAll K F (putVs ks vs k v) (putVs ks ds k d) := DenAll.put h2 h
theorem pairs_ok (s : Sub F H) : ∀ {ds : List D} {vs : List V} {ks : List Key} {ws : List D}, DenAll K F vs ds → pairsK ds = some (ks, ws) → ∃ ps us, vs = ps.map V.ref ∧ ks.length = us.length ∧ Paired (fun p kv => SqT K H p [kV kv.1, kv.2]) ps (ks.zip us) ∧ DenAll K F us ws
  | [], _, _, _, .nil, e => by
    cases e
    exact ⟨[], [], rfl, rfl, .nil, .nil⟩
  | d :: ds, _, ks, ws, .cons h1 h2, e => by
    unfold pairsK at e
    split at e
    · cases ‹_ = []›
    · rename_i a v r hd
      cases hd
      split at e
      · rename_i k ks' vs' e1 e2
        cases e
        obtain ⟨ps, us, rfl, l, pr, dn⟩ := pairs_ok s h2 e2
        cases h1 with
        | tup q d2 =>
          obtain ⟨x, y, rfl, dx, dy⟩ := d2.two
          have ex := dx.key e1
          subst ex
          exact ⟨_ :: ps, _ :: us, rfl, congrArg (· + 1) l, .cons (s.sqT q) pr, .cons dy dn⟩
      · cases e
    · cases e
theorem l_dict : LiftCB K (rDictP K) dictD := by
  intro F H xs as z Q s d e o
  match as, e with
  | [.lst ds], e =>
    dsimp only [dictD] at e
    split at e
    · rename_i ks ws ep
      cases e
      obtain ⟨v, rfl, dd⟩ := d.one
      cases dd with
      | lst q r =>
        obtain ⟨ps, us, rfl, l, pr, dn⟩ := pairs_ok s r ep
        refine ⟨_, ps, ks.zip us, rfl, s.sqL q, pr, fun p hp => ?_⟩
        obtain ⟨m1, m2⟩ := merge_zip (r := ks) (s := us) (ks := []) (vs := []) l rfl
        have m1 : mergeK [] (ks.zip us) = (mergeKs [] ks).zip (mergeVs [] [] ks us) := m1
        rw [m1]
        exact o _ _ _ (Ext.laid s hp) (.dic upd_same m2 ((DenAll.merge dn .nil).mono (upd_le (s.isN hp))))
    · cases e
end
/-! ### own __eq__ -/
def rEqO (K : PySem.W.Frag) (C : Addr) (sp : Sp) (neg : Bool) : R2 := fun x y H Q => ∃ a dx fs t, x = .ref a ∧ H a = some (.ins C dx fs) ∧ TyX K H y t ∧ PySem.W.notFirst K C t = true ∧ sp [.ref a, y] H (fun v H' => ∃ b, v = .bl b ∧ Q (.bl (if neg then !b else b)) H') E0
section
variable {X : Cx} {k : Nat} {C : Addr} {ps : List Str} {sp : Sp}
theorem o_eqO (M : MCal X.prog X.w X.K X.mg X.base k C "__eq__" ps sp) (room : Room k X.A) (gd : X.A.guards = some []) : OpR X (compareOp .Eq) (rEqO X.K C sp false) := by
  intro pins s σ H x y v u Q I rx ry h
  obtain ⟨a, dx, fs, t, rfl, ea, ty, nf, q⟩ := h
  obtain rfl : v = Value.ref a := rx
  obtain ⟨f, fd, G, hm, b, _⟩ := M.ex
  obtain ⟨mA, O, _, _, _, _⟩ := ins_get I.hok ea
  obtain ⟨od, J, _⟩ := O.look
  obtain ⟨mm, fr⟩ := I.fr
  obtain ⟨P, Z, hP, _⟩ := kit_of I ry ty
  show wpAny _ _ (richCompare .Eq (.ref a) u) _ _ s
  refine PySem.W.cmp_K (op := .Eq) (tb := t) room.units0 fr I.ok.mod.kin J (Z.ty _ _ I.kIn hP) nf hm.at_ hm.fn (wpAny_mono (runG (us := [.ref a, u]) (vs := [.ref a, y]) G room gd b passL I (.cons rfl (.cons ry .nil)) q) (fun r s' z => ?_) fun _ _ z => z)
  obtain ⟨z, H', I', rz, bb, rfl, q'⟩ := z
  obtain rfl : r = Value.bool bb := rz
  exact ⟨.bl bb, H', I', rfl, q'⟩
end
def eqO (cn : Str) (cs : List Str) (m : List D → Rv) (neg : Bool) : D → D → Option D
  | .obj c ks vs, y => if c = cn then (match isiO cn cs y, m [.obj c ks vs, y] with
    | some _, .ok (.bl b) => some (.bl (if neg then !b else b))
    | _, _ => none) else none
  | _, _ => none
theorem nf_of {K : PySem.W.Frag} {C : Addr} {t : Value} {b : Bool} (h : PySem.W.kitOne K t (.ref C) = some b) (e : b = false ∨ t = .ref C) : PySem.W.notFirst K C t = true := by
  unfold PySem.W.notFirst
  by_cases q : (t == Value.ref C) = true
  · rw [q]
    rfl
  · rcases e with rfl | rfl
    · unfold PySem.W.kitOne at h
      rw [if_neg q] at h
      unfold PySem.W.kitCls at h
      dsimp only at h
      split at h
      · rw [h]
        simp
      · cases h
    · exact absurd (by simp) q
section
variable {K : PySem.W.Frag} {F H : Hp}
theorem Den.tyNF {v : V} {d z : D} {c : Str} {cs : List Str} (s : Sub F H) (i : IsiC K c cs) (h : Den K F v d) (e : isiO c cs d = some z) : ∃ t, TyX K H v t ∧ PySem.W.notFirst K (He.ga K c) t = true := by
  cases d with
  | obj c' ks vs =>
    cases h with
    | @obj a dx _ _ ws _ w q l r =>
      dsimp only [isiO] at e
      by_cases hc : cs.contains c' = true
      · rw [if_pos hc] at e
        refine ⟨_, .base (.ins (s.ins q) w.cl w.ha w.hn w.htk w.hm), nf_of (i.own c' (by simpa using hc)) ?_⟩
        by_cases z : c' = c
        · exact .inr (by rw [z])
        · exact .inl (decide_eq_false z)
      · rw [if_neg hc] at e
        cases e
  | exc c' x => cases e
  | _ =>
    obtain ⟨t, b, h1, h2, h3⟩ := Den.tyO s i h e
    cases e
    cases h3
    exact ⟨t, h1, nf_of h2 (.inl rfl)⟩
theorem l_eqO {cn : Str} {cs : List Str} {mm : List D → Rv} {neg : Bool} (i : IsiC K cn cs) : LiftOp K (rEqO K (He.ga K cn) (spV K mm) neg) (eqO cn cs mm neg) := by
  intro F H x y a b z Q s dx dy e o
  cases a with
  | obj c' ks ds =>
    dsimp only [eqO] at e
    by_cases hc : c' = cn
    · rw [if_pos hc] at e
      split at e
      · rename_i _ bb e1 eb
        cases e
        subst hc
        obtain ⟨t, ty, nf⟩ := Den.tyNF s i dy e1
        cases id dx with
        | @obj p dx' _ _ vs _ w q l r =>
          refine ⟨p, dx', _, t, rfl, s.ins q, ty, nf, spV_out s (.cons dx (.cons dy .nil)) eb (fun v H' F' ext dv => ?_)⟩
          exact ⟨bb, dv.isBl, o _ _ _ ext (.bl _)⟩
      · cases e
    · rw [if_neg hc] at e
      cases e
  | _ => cases e
end
/-! ### != by object's own -/
section
variable {prog : Program} {w : World} {A : Around} {E : Value → Shared → Prop} {s : Shared} {K : PySem.W.Frag} {x C : Addr} {ox : Obj} {od : Option Obj} {name : Str} {id T : String}
theorem ifBoundB {M : Model} {args : List Value} {Q : Option Value → Shared → Prop} (X : K.In s.heap) (I : PySem.W.InstAt s.heap x ox C od) (hs : PySem.W.findIn K (.ref C) name = some (some (.builtin id))) (S : Slot T name id)
    (h : wpAny M A (call (.builtin id) (.ref x :: args)) (fun v => Q (some v)) E s) : wpAny M A (callSpecialIfBound? (.ref x) name args) Q E s := by
  simp only [callSpecialIfBound?, bindSpecialIfBound?]
  refine wpAny_holding (wpAny_bind (wpAny_bind (wpAny_bind (I.type.here ((PySem.W.looks_findIn X hs).here ?_)))))
  simp only [S.bind]
  refine wpAny_bind (wpAny_askSetting (wpAny_ite ?_))
  have fin : wpAny M A (call (.builtin id) ([.ref x] ++ args) >>= fun v => pure (some v)) Q E s := wpAny_bind (wpAny_mono h (fun v s' h' => wpAny_pure h') fun _ _ h' => h')
  split
  · exact wpAny_bind (wpAny_pure (wpAny_pure fin))
  · exact wpAny_tryCatch (wpAny_bind (wpAny_pure (wpAny_pure fin)))
theorem check_own {M : Model} {owner n : String} {rest : List Value} {Q : Unit → Shared → Prop} (hk : builtinKind id = some .slot) (hs : splitId id = some (owner, n)) (ha : argsOk id ⟨.ref x :: rest, []⟩) (X : K.In s.heap) (I : PySem.W.InstAt s.heap x ox C od)
    (hob : PySem.W.mroIn K C (.type owner) = some true) (hq : Q () s) : wpAny M A (checkBuiltinCall id ⟨.ref x :: rest, []⟩) Q E s := by
  simp only [checkBuiltinCall, hk, hs]
  refine wpAny_bind ?_
  unfold isInstance
  refine wpAny_bind (I.type.here ((PySem.W.looks_mroIn X hob).here ?_))
  simp only [Bool.not_true, Bool.false_eq_true, if_false]
  repeat (with_reducible wp_step)
  cases hsig : Manifest.signature? id with
  | none => exact wpAny_pure hq
  | some sig =>
    simp only [argsOk, hsig] at ha
    have h2 : Bind.checkArgs id sig ⟨.ref x :: rest, []⟩ = pure () := ha
    show wpAny M A (Bind.checkArgs id sig ⟨.ref x :: rest, []⟩) Q E _
    rw [h2]; exact wpAny_pure hq
end
section
variable {X : Cx} {k : Nat} {C : Addr} {ps : List Str} {sp : Sp}
theorem o_neO (w : OwnC X.K C) (hne : PySem.W.findIn X.K (.ref C) "__ne__" = some (some (.builtin "object.__ne__"))) (M : MCal X.prog X.w X.K X.mg X.base k C "__eq__" ps sp) (room : Room (k + 1) X.A) (gd : X.A.guards = some []) : OpR X (compareOp .NotEq) (rEqO X.K C sp true) := by
  intro pins s σ H x y v u Q I rx ry h
  obtain ⟨a, dx, fs, t, rfl, ea, ty, nf, q⟩ := h
  obtain rfl : v = Value.ref a := rx
  obtain ⟨f, fd, G, hm, b, _⟩ := M.ex
  obtain ⟨mA, O, _, _, _, _⟩ := ins_get I.hok ea
  obtain ⟨od, J, _⟩ := O.look
  obtain ⟨P, Z, hP, _⟩ := kit_of I ry ty
  have hb := Z.ty (model X.prog X.w) _ I.kIn hP
  have hu := room.units0
  have hu1 := room.in1.units0
  show wpAny _ _ (richCompare .NotEq (.ref a) u) _ _ s
  have entry : wpAny (model X.prog X.w) X.A.in1 (Builtin.«object.__ne__» ⟨[.ref a, u], []⟩) (fun r s' => ∃ bb, r = .done (.ret (.bool (!bb))) ∧ EP X pins σ Q (.bool (!bb)) s') X.xe s := by
    have sp1 : wpAny (model X.prog X.w) X.A.in1 (callSpecialIfBound? (.ref a) "__eq__" [u]) (fun r s' => ∃ bb, r = some (.bool bb) ∧ EP X pins σ Q (.bool (!bb)) s') X.xe s := by
      refine PySem.W.ifBound_K I.kIn J hm.at_ hm.fn (wpAny_mono (runI (us := [.ref a, u]) (vs := [.ref a, y]) G room gd b I (.cons rfl (.cons ry .nil)) q) (fun r s' z => ?_) fun _ _ z => z)
      obtain ⟨z, H', I', rz, bb, rfl, q'⟩ := z
      obtain rfl : r = Value.bool bb := rz
      exact ⟨bb, rfl, .bl (!bb), H', I', rfl, q'⟩
    unfold Builtin.«object.__ne__»
    repeat (first | with_reducible refine wpAny_cRoomFor hu1 ?_ | (refine wpAny_mono sp1 ?_ (fun _ _ z => z); rintro _ s' ⟨bb, rfl, z⟩) | wp_step)
    exact ⟨_, rfl, z⟩
  have one : wpAny (model X.prog X.w) X.A (tryCompare (.ref a) "__ne__" u) (fun r s' => ∃ v, r = some v ∧ EP X pins σ Q v s') X.xe s := by
    unfold tryCompare
    refine wpAny_bind (ifBoundB I.kIn J hne F.cmp_object.ne (wpAny_call (codeAny_call_builtin F.cmp_object.ne.plain F.cmpEntry_ne (check_own F.cmpKind_ne F.cmpSplit_ne (F.cmpArgs_ne _ _) I.kIn J w.hm (wpAny_mono entry (fun r s' z => ?_) fun _ _ z => z)))))
    obtain ⟨bb, rfl, z⟩ := z
    exact wpAny_pure ⟨_, rfl, z⟩
  unfold richCompare
  simp only [oneThing_ref]
  refine wpAny_holding (wpAny_bind (wpAny_cRoomFor hu ?_))
  refine wpAny_bind (J.type.here (wpAny_bind (hb.here ?_)))
  split
  · rename_i q
    have e : PySem.W.subIn X.K t (.ref C) = some false := by
      rcases Bool.or_eq_true_iff.mp nf with e | e
      · rw [beq_iff_eq.mp e] at q; simp at q
      · exact beq_iff_eq.mp e
    refine wpAny_bind ((PySem.W.looks_subIn I.kIn e).here ?_)
    simp only [Bool.false_eq_true, if_false]
    refine wpAny_bind (wpAny_mono one (fun r s' z => ?_) fun _ _ e => e)
    obtain ⟨v, rfl, hq⟩ := z
    exact wpAny_pure hq
  · refine wpAny_bind (wpAny_pure ?_)
    simp only [Bool.false_eq_true, if_false]
    refine wpAny_bind (wpAny_mono one (fun r s' z => ?_) fun _ _ e => e)
    obtain ⟨v, rfl, hq⟩ := z
    exact wpAny_pure hq
end

/-! ### divmod, is True -/
section
variable {X : Cx} {K : PySem.W.Frag}
def divmodD : List D → Option D
  | [.int i, .int j] => if 0 < j ∧ j < 1073741824 then some (.tup [.int (i / j), .int (i % j)]) else none
  | _ => none
theorem l_divmod : LiftCB K rDivmod divmodD := by
  intro F H xs as z Q s d e o
  match as, e with
  | [.int i, .int j], e =>
    dsimp only [divmodD] at e
    by_cases hl : 0 < j ∧ j < 1073741824
    · rw [if_pos hl] at e
      cases e
      obtain ⟨v, w, rfl, d1, d2⟩ := d.two
      cases d1
      cases d2
      exact ⟨i, j, rfl, ⟨hl.1, PyProof.noPylong_small (by omega)⟩, fun p hp => o.tup s (.cons (.int _) (.cons (.int _) .nil)) hp⟩
    · rw [if_neg hl] at e
      cases e
def rIsTr : R2 := fun x y H Q => ∃ a b, x = .bl a ∧ y = .bl b ∧ Q (.bl (decide (a = b))) H
theorem o_isB : OpR X (compareOp .Is) rIsTr := op_is_bl
def rNotTr : R2 := fun x y H Q => ∃ a b, x = .bl a ∧ y = .bl b ∧ Q (.bl (!decide (a = b))) H
theorem o_notB : OpR X (compareOp .IsNot) rNotTr := op_isnot_bl
def isBD : D → D → Option D
  | .bl a, .bl b => some (.bl (decide (a = b)))
  | _, _ => none
def notBD : D → D → Option D
  | .bl a, .bl b => some (.bl (!decide (a = b)))
  | _, _ => none
theorem l_isB : LiftOp K rIsTr isBD := by
  intro F H x y a b z Q s dx dy e o
  cases dx <;> cases dy <;> first | (cases e; done) | skip
  cases e
  exact ⟨_, _, rfl, rfl, o.here s (.bl _)⟩
theorem l_notB : LiftOp K rNotTr notBD := by
  intro F H x y a b z Q s dx dy e o
  cases dx <;> cases dy <;> first | (cases e; done) | skip
  cases e
  exact ⟨_, _, rfl, rfl, o.here s (.bl _)⟩
end

end Ak
namespace Ak
open PySem PySem.Spec PyProof.Rows L2
abbrev FnP (K : PySem.W.Frag) (x : Str) (st : Stmt) (f : Addr) (fd : FuncData) : Prop := FunD K x x (defArgs st) (defBody st) (defScope st) [] [] f fd
structure Txt (K : PySem.W.Frag) (mg : Str → Option Value) : Prop where
  d_wall : ∃ fd, FnP K "_wall" s_wall (He.ga K "_wall") fd
  g_wall : mg "_wall" = some (.ref (He.ga K "_wall"))
  d_is_integer : ∃ fd, FnP K "is_integer" s_is_integer (He.ga K "is_integer") fd
  g_is_integer : mg "is_integer" = some (.ref (He.ga K "is_integer"))
  d_is_between : ∃ fd, FnP K "is_between" s_is_between (He.ga K "is_between") fd
  g_is_between : mg "is_between" = some (.ref (He.ga K "is_between"))
  d_is_tuple : ∃ fd, FnP K "is_tuple" s_is_tuple (He.ga K "is_tuple") fd
  g_is_tuple : mg "is_tuple" = some (.ref (He.ga K "is_tuple"))
  d_is_word : ∃ fd, FnP K "is_word" s_is_word (He.ga K "is_word") fd
  g_is_word : mg "is_word" = some (.ref (He.ga K "is_word"))
  d_is_name : ∃ fd, FnP K "is_name" s_is_name (He.ga K "is_name") fd
  g_is_name : mg "is_name" = some (.ref (He.ga K "is_name"))
  d_number_in : ∃ fd, FnP K "number_in" s_number_in (He.ga K "number_in") fd
  g_number_in : mg "number_in" = some (.ref (He.ga K "number_in"))
  d_divisor_of : ∃ fd, FnP K "divisor_of" s_divisor_of (He.ga K "divisor_of") fd
  g_divisor_of : mg "divisor_of" = some (.ref (He.ga K "divisor_of"))
  d_fraction : ∃ fd, FnP K "fraction" s_fraction (He.ga K "fraction") fd
  g_fraction : mg "fraction" = some (.ref (He.ga K "fraction"))
  d_is_units : ∃ fd, FnP K "is_units" s_is_units (He.ga K "is_units") fd
  g_is_units : mg "is_units" = some (.ref (He.ga K "is_units"))
  d_is_share : ∃ fd, FnP K "is_share" s_is_share (He.ga K "is_share") fd
  g_is_share : mg "is_share" = some (.ref (He.ga K "is_share"))
  d_check_share : ∃ fd, FnP K "check_share" s_check_share (He.ga K "check_share") fd
  g_check_share : mg "check_share" = some (.ref (He.ga K "check_share"))
  d_rounded : ∃ fd, FnP K "rounded" s_rounded (He.ga K "rounded") fd
  g_rounded : mg "rounded" = some (.ref (He.ga K "rounded"))
  d_is_right : ∃ fd, FnP K "is_right" s_is_right (He.ga K "is_right") fd
  g_is_right : mg "is_right" = some (.ref (He.ga K "is_right"))
  d_are_counts : ∃ fd, FnP K "are_counts" s_are_counts (He.ga K "are_counts") fd
  g_are_counts : mg "are_counts" = some (.ref (He.ga K "are_counts"))
  d_many_in : ∃ fd, FnP K "many_in" s_many_in (He.ga K "many_in") fd
  g_many_in : mg "many_in" = some (.ref (He.ga K "many_in"))
  d_do_fit : ∃ fd, FnP K "do_fit" s_do_fit (He.ga K "do_fit") fd
  g_do_fit : mg "do_fit" = some (.ref (He.ga K "do_fit"))
  d_share_in : ∃ fd, FnP K "share_in" s_share_in (He.ga K "share_in") fd
  g_share_in : mg "share_in" = some (.ref (He.ga K "share_in"))
  d_units_in : ∃ fd, FnP K "units_in" s_units_in (He.ga K "units_in") fd
  g_units_in : mg "units_in" = some (.ref (He.ga K "units_in"))
  d_shares_in : ∃ fd, FnP K "shares_in" s_shares_in (He.ga K "shares_in") fd
  g_shares_in : mg "shares_in" = some (.ref (He.ga K "shares_in"))
  d_line_of : ∃ fd, FnP K "line_of" s_line_of (He.ga K "line_of") fd
  g_line_of : mg "line_of" = some (.ref (He.ga K "line_of"))
  d_ends_beneath : ∃ fd, FnP K "ends_beneath" s_ends_beneath (He.ga K "ends_beneath") fd
  g_ends_beneath : mg "ends_beneath" = some (.ref (He.ga K "ends_beneath"))
  d_weights_in : ∃ fd, FnP K "weights_in" s_weights_in (He.ga K "weights_in") fd
  g_weights_in : mg "weights_in" = some (.ref (He.ga K "weights_in"))
  d_l_pot : ∃ fd, FnP K "_law_pot" s_l_pot (He.ga K "_law_pot") fd
  g_l_pot : mg "_law_pot" = some (.ref (He.ga K "_law_pot"))
  d_l_take : ∃ fd, FnP K "_law_take" s_l_take (He.ga K "_law_take") fd
  g_l_take : mg "_law_take" = some (.ref (He.ga K "_law_take"))
  d_l_of : ∃ fd, FnP K "_law_of" s_l_of (He.ga K "_law_of") fd
  g_l_of : mg "_law_of" = some (.ref (He.ga K "_law_of"))
  d_l_some : ∃ fd, FnP K "_law_some" s_l_some (He.ga K "_law_some") fd
  g_l_some : mg "_law_some" = some (.ref (He.ga K "_law_some"))
  d_l_cells : ∃ fd, FnP K "_law_cells" s_l_cells (He.ga K "_law_cells") fd
  g_l_cells : mg "_law_cells" = some (.ref (He.ga K "_law_cells"))
  d_l_names : ∃ fd, FnP K "_law_names" s_l_names (He.ga K "_law_names") fd
  g_l_names : mg "_law_names" = some (.ref (He.ga K "_law_names"))
  d_l_tree : ∃ fd, FnP K "_law_tree" s_l_tree (He.ga K "_law_tree") fd
  g_l_tree : mg "_law_tree" = some (.ref (He.ga K "_law_tree"))
  d_l_shapes : ∃ fd, FnP K "_law_shapes" s_l_shapes (He.ga K "_law_shapes") fd
  g_l_shapes : mg "_law_shapes" = some (.ref (He.ga K "_law_shapes"))
  d_l_units : ∃ fd, FnP K "_law_units" s_l_units (He.ga K "_law_units") fd
  g_l_units : mg "_law_units" = some (.ref (He.ga K "_law_units"))
  d_l_rounded : ∃ fd, FnP K "_law_rounded" s_l_rounded (He.ga K "_law_rounded") fd
  g_l_rounded : mg "_law_rounded" = some (.ref (He.ga K "_law_rounded"))
  d_l_is_right : ∃ fd, FnP K "_law_is_right" s_l_is_right (He.ga K "_law_is_right") fd
  g_l_is_right : mg "_law_is_right" = some (.ref (He.ga K "_law_is_right"))
  d_l_parts : ∃ fd, FnP K "_law_parts" s_l_parts (He.ga K "_law_parts") fd
  g_l_parts : mg "_law_parts" = some (.ref (He.ga K "_law_parts"))
  d_l_ends : ∃ fd, FnP K "_law_ends" s_l_ends (He.ga K "_law_ends") fd
  g_l_ends : mg "_law_ends" = some (.ref (He.ga K "_law_ends"))
  d_l_ends_of : ∃ fd, FnP K "_law_ends_of" s_l_ends_of (He.ga K "_law_ends_of") fd
  g_l_ends_of : mg "_law_ends_of" = some (.ref (He.ga K "_law_ends_of"))
  d_l_weights : ∃ fd, FnP K "_law_weights" s_l_weights (He.ga K "_law_weights") fd
  g_l_weights : mg "_law_weights" = some (.ref (He.ga K "_law_weights"))
  d_l_number : ∃ fd, FnP K "_law_number" s_l_number (He.ga K "_law_number") fd
  g_l_number : mg "_law_number" = some (.ref (He.ga K "_law_number"))
  d_l_fits : ∃ fd, FnP K "_law_fits" s_l_fits (He.ga K "_law_fits") fd
  g_l_fits : mg "_law_fits" = some (.ref (He.ga K "_law_fits"))
  d_l_share_of : ∃ fd, FnP K "_law_share_of" s_l_share_of (He.ga K "_law_share_of") fd
  g_l_share_of : mg "_law_share_of" = some (.ref (He.ga K "_law_share_of"))
  d_l_lore : ∃ fd, FnP K "_law_lore" s_l_lore (He.ga K "_law_lore") fd
  g_l_lore : mg "_law_lore" = some (.ref (He.ga K "_law_lore"))
  d_l_bent_lore : ∃ fd, FnP K "_law_bent_lore" s_l_bent_lore (He.ga K "_law_bent_lore") fd
  g_l_bent_lore : mg "_law_bent_lore" = some (.ref (He.ga K "_law_bent_lore"))
  d_l_line : ∃ fd, FnP K "_law_line" s_l_line (He.ga K "_law_line") fd
  g_l_line : mg "_law_line" = some (.ref (He.ga K "_law_line"))
  d_l_text : ∃ fd, FnP K "_law_text" s_l_text (He.ga K "_law_text") fd
  g_l_text : mg "_law_text" = some (.ref (He.ga K "_law_text"))
  d_l_wide_shapes : ∃ fd, FnP K "_law_wide_shapes" s_l_wide_shapes (He.ga K "_law_wide_shapes") fd
  g_l_wide_shapes : mg "_law_wide_shapes" = some (.ref (He.ga K "_law_wide_shapes"))
  d_l_shown_due : ∃ fd, FnP K "_law_shown_due" s_l_shown_due (He.ga K "_law_shown_due") fd
  g_l_shown_due : mg "_law_shown_due" = some (.ref (He.ga K "_law_shown_due"))
  d_l_is_right_of : ∃ fd, FnP K "_law_is_right_of" s_l_is_right_of (He.ga K "_law_is_right_of") fd
  g_l_is_right_of : mg "_law_is_right_of" = some (.ref (He.ga K "_law_is_right_of"))
  d_l_near_counts : ∃ fd, FnP K "_law_near_counts" s_l_near_counts (He.ga K "_law_near_counts") fd
  g_l_near_counts : mg "_law_near_counts" = some (.ref (He.ga K "_law_near_counts"))
  d_l_right : ∃ fd, FnP K "_law_right" s_l_right (He.ga K "_law_right") fd
  g_l_right : mg "_law_right" = some (.ref (He.ga K "_law_right"))
  d_law : ∃ fd, FnP K "law" s_law (He.ga K "law") fd
  g_law : mg "law" = some (.ref (He.ga K "law"))
  g_Table : mg "Table" = some (.ref (He.ga K "Table"))
  k_Table : Cls K (He.ga K "Table")
  n_Table : Mk K (He.ga K "Table") (He.ma K (He.ga K "Table") "__init__")
  w_Table : OwnC K (He.ga K "Table")
  v_Table : IsiC K "Table" ["Table", "Reading", "Page"]
  e_Table : PySem.W.findIn K (.ref (He.ga K "Table")) "__ne__" = some (some (.builtin "object.__ne__"))
  a_Table_own_page : NoAttr K (He.ga K "Table") "own_page"
  a_Table_own_counts : NoAttr K (He.ga K "Table") "own_counts"
  a_Table_own_numbers : NoAttr K (He.ga K "Table") "own_numbers"
  a_Table_own_fits : NoAttr K (He.ga K "Table") "own_fits"
  m_Table___init__ : Meth K (He.ga K "Table") "__init__" (He.ma K (He.ga K "Table") "__init__")
  d_Table___init__ : ∃ fd, FunD K "__init__" "Table.__init__" (defArgs s_Table___init__) (defBody s_Table___init__) (defScope s_Table___init__) [] [] (He.ma K (He.ga K "Table") "__init__") fd
  m_Table___eq__ : Meth K (He.ga K "Table") "__eq__" (He.ma K (He.ga K "Table") "__eq__")
  d_Table___eq__ : ∃ fd, FunD K "__eq__" "Table.__eq__" (defArgs s_Table___eq__) (defBody s_Table___eq__) (defScope s_Table___eq__) [] [] (He.ma K (He.ga K "Table") "__eq__") fd
  m_Table___getitem__ : Meth K (He.ga K "Table") "__getitem__" (He.ma K (He.ga K "Table") "__getitem__")
  d_Table___getitem__ : ∃ fd, FunD K "__getitem__" "Table.__getitem__" (defArgs s_Table___getitem__) (defBody s_Table___getitem__) (defScope s_Table___getitem__) [] [] (He.ma K (He.ga K "Table") "__getitem__") fd
  m_Table___iter__ : Meth K (He.ga K "Table") "__iter__" (He.ma K (He.ga K "Table") "__iter__")
  d_Table___iter__ : ∃ fd, FunD K "__iter__" "Table.__iter__" (defArgs s_Table___iter__) (defBody s_Table___iter__) (defScope s_Table___iter__) [] [] (He.ma K (He.ga K "Table") "__iter__") fd
  m_Table___add__ : Meth K (He.ga K "Table") "__add__" (He.ma K (He.ga K "Table") "__add__")
  d_Table___add__ : ∃ fd, FunD K "__add__" "Table.__add__" (defArgs s_Table___add__) (defBody s_Table___add__) (defScope s_Table___add__) [] [] (He.ma K (He.ga K "Table") "__add__") fd
  m_Table___mul__ : Meth K (He.ga K "Table") "__mul__" (He.ma K (He.ga K "Table") "__mul__")
  d_Table___mul__ : ∃ fd, FunD K "__mul__" "Table.__mul__" (defArgs s_Table___mul__) (defBody s_Table___mul__) (defScope s_Table___mul__) [] [] (He.ma K (He.ga K "Table") "__mul__") fd
  m_Table___rmul__ : Meth K (He.ga K "Table") "__rmul__" (He.ma K (He.ga K "Table") "__rmul__")
  d_Table___rmul__ : ∃ fd, FunD K "__rmul__" "Table.__rmul__" (defArgs s_Table___rmul__) (defBody s_Table___rmul__) (defScope s_Table___rmul__) [] [] (He.ma K (He.ga K "Table") "__rmul__") fd
  p_Table_page : PropOf K (He.ga K "Table") "page" (prA K "Table" "page") (prG K "Table" "page") ∧ ∃ fd, FunD K "page" "Table.page" (defArgs s_Table_page) (defBody s_Table_page) (defScope s_Table_page) [] [] (prG K "Table" "page") fd
  p_Table_counts : PropOf K (He.ga K "Table") "counts" (prA K "Table" "counts") (prG K "Table" "counts") ∧ ∃ fd, FunD K "counts" "Table.counts" (defArgs s_Table_counts) (defBody s_Table_counts) (defScope s_Table_counts) [] [] (prG K "Table" "counts") fd
  p_Table_total : PropOf K (He.ga K "Table") "total" (prA K "Table" "total") (prG K "Table" "total") ∧ ∃ fd, FunD K "total" "Table.total" (defArgs s_Table_total) (defBody s_Table_total) (defScope s_Table_total) [] [] (prG K "Table" "total") fd
  p_Table_fits : PropOf K (He.ga K "Table") "fits" (prA K "Table" "fits") (prG K "Table" "fits") ∧ ∃ fd, FunD K "fits" "Table.fits" (defArgs s_Table_fits) (defBody s_Table_fits) (defScope s_Table_fits) [] [] (prG K "Table" "fits") fd
  m_Table_share : Meth K (He.ga K "Table") "share" (He.ma K (He.ga K "Table") "share")
  d_Table_share : ∃ fd, FunD K "share" "Table.share" (defArgs s_Table_share) (defBody s_Table_share) (defScope s_Table_share) [] [] (He.ma K (He.ga K "Table") "share") fd
  m_Table_shows : Meth K (He.ga K "Table") "shows" (He.ma K (He.ga K "Table") "shows")
  d_Table_shows : ∃ fd, FunD K "shows" "Table.shows" (defArgs s_Table_shows) (defBody s_Table_shows) (defScope s_Table_shows) [] [] (He.ma K (He.ga K "Table") "shows") fd
  g_Reading : mg "Reading" = some (.ref (He.ga K "Reading"))
  k_Reading : Cls K (He.ga K "Reading")
  n_Reading : Mk K (He.ga K "Reading") (He.ma K (He.ga K "Reading") "__init__")
  w_Reading : OwnC K (He.ga K "Reading")
  v_Reading : IsiC K "Reading" ["Table", "Reading", "Page"]
  a_Reading_own_units : NoAttr K (He.ga K "Reading") "own_units"
  a_Reading_own_rows : NoAttr K (He.ga K "Reading") "own_rows"
  a_Reading_own_depths : NoAttr K (He.ga K "Reading") "own_depths"
  m_Reading___init__ : Meth K (He.ga K "Reading") "__init__" (He.ma K (He.ga K "Reading") "__init__")
  d_Reading___init__ : ∃ fd, FunD K "__init__" "Reading.__init__" (defArgs s_Reading___init__) (defBody s_Reading___init__) (defScope s_Reading___init__) [] [] (He.ma K (He.ga K "Reading") "__init__") fd
  m_Reading_reads_first : Meth K (He.ga K "Reading") "reads_first" (He.ma K (He.ga K "Reading") "reads_first")
  d_Reading_reads_first : ∃ fd, FunD K "reads_first" "Reading.reads_first" (defArgs s_Reading_reads_first) (defBody s_Reading_reads_first) (defScope s_Reading_reads_first) [] [] (He.ma K (He.ga K "Reading") "reads_first") fd
  m_Reading_reads_part : Meth K (He.ga K "Reading") "reads_part" (He.ma K (He.ga K "Reading") "reads_part")
  d_Reading_reads_part : ∃ fd, FunD K "reads_part" "Reading.reads_part" (defArgs s_Reading_reads_part) (defBody s_Reading_reads_part) (defScope s_Reading_reads_part) [] [] (He.ma K (He.ga K "Reading") "reads_part") fd
  m_Reading_lowest : Meth K (He.ga K "Reading") "lowest" (He.ma K (He.ga K "Reading") "lowest")
  d_Reading_lowest : ∃ fd, FunD K "lowest" "Reading.lowest" (defArgs s_Reading_lowest) (defBody s_Reading_lowest) (defScope s_Reading_lowest) [] [] (He.ma K (He.ga K "Reading") "lowest") fd
  g_Page : mg "Page" = some (.ref (He.ga K "Page"))
  k_Page : Cls K (He.ga K "Page")
  n_Page : Mk K (He.ga K "Page") (He.ma K (He.ga K "Page") "__init__")
  w_Page : OwnC K (He.ga K "Page")
  v_Page : IsiC K "Page" ["Table", "Reading", "Page"]
  e_Page : PySem.W.findIn K (.ref (He.ga K "Page")) "__ne__" = some (some (.builtin "object.__ne__"))
  a_Page_own_text : NoAttr K (He.ga K "Page") "own_text"
  a_Page_own_units : NoAttr K (He.ga K "Page") "own_units"
  a_Page_own_rows : NoAttr K (He.ga K "Page") "own_rows"
  a_Page_own_ends : NoAttr K (He.ga K "Page") "own_ends"
  a_Page_own_weights : NoAttr K (He.ga K "Page") "own_weights"
  m_Page___init__ : Meth K (He.ga K "Page") "__init__" (He.ma K (He.ga K "Page") "__init__")
  d_Page___init__ : ∃ fd, FunD K "__init__" "Page.__init__" (defArgs s_Page___init__) (defBody s_Page___init__) (defScope s_Page___init__) [] [] (He.ma K (He.ga K "Page") "__init__") fd
  m_Page___eq__ : Meth K (He.ga K "Page") "__eq__" (He.ma K (He.ga K "Page") "__eq__")
  d_Page___eq__ : ∃ fd, FunD K "__eq__" "Page.__eq__" (defArgs s_Page___eq__) (defBody s_Page___eq__) (defScope s_Page___eq__) [] [] (He.ma K (He.ga K "Page") "__eq__") fd
  m_Page___len__ : Meth K (He.ga K "Page") "__len__" (He.ma K (He.ga K "Page") "__len__")
  d_Page___len__ : ∃ fd, FunD K "__len__" "Page.__len__" (defArgs s_Page___len__) (defBody s_Page___len__) (defScope s_Page___len__) [] [] (He.ma K (He.ga K "Page") "__len__") fd
  m_Page___iter__ : Meth K (He.ga K "Page") "__iter__" (He.ma K (He.ga K "Page") "__iter__")
  d_Page___iter__ : ∃ fd, FunD K "__iter__" "Page.__iter__" (defArgs s_Page___iter__) (defBody s_Page___iter__) (defScope s_Page___iter__) [] [] (He.ma K (He.ga K "Page") "__iter__") fd
  m_Page___contains__ : Meth K (He.ga K "Page") "__contains__" (He.ma K (He.ga K "Page") "__contains__")
  d_Page___contains__ : ∃ fd, FunD K "__contains__" "Page.__contains__" (defArgs s_Page___contains__) (defBody s_Page___contains__) (defScope s_Page___contains__) [] [] (He.ma K (He.ga K "Page") "__contains__") fd
  m_Page___getitem__ : Meth K (He.ga K "Page") "__getitem__" (He.ma K (He.ga K "Page") "__getitem__")
  d_Page___getitem__ : ∃ fd, FunD K "__getitem__" "Page.__getitem__" (defArgs s_Page___getitem__) (defBody s_Page___getitem__) (defScope s_Page___getitem__) [] [] (He.ma K (He.ga K "Page") "__getitem__") fd
  p_Page_text : PropOf K (He.ga K "Page") "text" (prA K "Page" "text") (prG K "Page" "text") ∧ ∃ fd, FunD K "text" "Page.text" (defArgs s_Page_text) (defBody s_Page_text) (defScope s_Page_text) [] [] (prG K "Page" "text") fd
  p_Page_units : PropOf K (He.ga K "Page") "units" (prA K "Page" "units") (prG K "Page" "units") ∧ ∃ fd, FunD K "units" "Page.units" (defArgs s_Page_units) (defBody s_Page_units) (defScope s_Page_units) [] [] (prG K "Page" "units") fd
  p_Page_parts : PropOf K (He.ga K "Page") "parts" (prA K "Page" "parts") (prG K "Page" "parts") ∧ ∃ fd, FunD K "parts" "Page.parts" (defArgs s_Page_parts) (defBody s_Page_parts) (defScope s_Page_parts) [] [] (prG K "Page" "parts") fd
  p_Page_ends : PropOf K (He.ga K "Page") "ends" (prA K "Page" "ends") (prG K "Page" "ends") ∧ ∃ fd, FunD K "ends" "Page.ends" (defArgs s_Page_ends) (defBody s_Page_ends) (defScope s_Page_ends) [] [] (prG K "Page" "ends") fd
  m_Page_check_part : Meth K (He.ga K "Page") "check_part" (He.ma K (He.ga K "Page") "check_part")
  d_Page_check_part : ∃ fd, FunD K "check_part" "Page.check_part" (defArgs s_Page_check_part) (defBody s_Page_check_part) (defScope s_Page_check_part) [] [] (He.ma K (He.ga K "Page") "check_part") fd
  m_Page_check_above : Meth K (He.ga K "Page") "check_above" (He.ma K (He.ga K "Page") "check_above")
  d_Page_check_above : ∃ fd, FunD K "check_above" "Page.check_above" (defArgs s_Page_check_above) (defBody s_Page_check_above) (defScope s_Page_check_above) [] [] (He.ma K (He.ga K "Page") "check_above") fd
  m_Page_beneath : Meth K (He.ga K "Page") "beneath" (He.ma K (He.ga K "Page") "beneath")
  d_Page_beneath : ∃ fd, FunD K "beneath" "Page.beneath" (defArgs s_Page_beneath) (defBody s_Page_beneath) (defScope s_Page_beneath) [] [] (He.ma K (He.ga K "Page") "beneath") fd
  m_Page_ends_of : Meth K (He.ga K "Page") "ends_of" (He.ma K (He.ga K "Page") "ends_of")
  d_Page_ends_of : ∃ fd, FunD K "ends_of" "Page.ends_of" (defArgs s_Page_ends_of) (defBody s_Page_ends_of) (defScope s_Page_ends_of) [] [] (He.ma K (He.ga K "Page") "ends_of") fd
  m_Page_with_row : Meth K (He.ga K "Page") "with_row" (He.ma K (He.ga K "Page") "with_row")
  d_Page_with_row : ∃ fd, FunD K "with_row" "Page.with_row" (defArgs s_Page_with_row) (defBody s_Page_with_row) (defScope s_Page_with_row) [] [] (He.ma K (He.ga K "Page") "with_row") fd
  m_Page_checked : Meth K (He.ga K "Page") "checked" (He.ma K (He.ga K "Page") "checked")
  d_Page_checked : ∃ fd, FunD K "checked" "Page.checked" (defArgs s_Page_checked) (defBody s_Page_checked) (defScope s_Page_checked) [] [] (He.ma K (He.ga K "Page") "checked") fd
  m_Page_told : Meth K (He.ga K "Page") "told" (He.ma K (He.ga K "Page") "told")
  d_Page_told : ∃ fd, FunD K "told" "Page.told" (defArgs s_Page_told) (defBody s_Page_told) (defScope s_Page_told) [] [] (He.ma K (He.ga K "Page") "told") fd
  m_Page_told_far : Meth K (He.ga K "Page") "told_far" (He.ma K (He.ga K "Page") "told_far")
  d_Page_told_far : ∃ fd, FunD K "told_far" "Page.told_far" (defArgs s_Page_told_far) (defBody s_Page_told_far) (defScope s_Page_told_far) [] [] (He.ma K (He.ga K "Page") "told_far") fd
  c_LETTERS : ∃ t, mg "LETTERS" = some (.str "abcdefghijklmnopqrstuvwxyz" t)
  c_FIGURES : ∃ t, mg "FIGURES" = some (.str "0123456789" t)
  c_MOST_LETTERS : ∃ t, mg "MOST_LETTERS" = some (.int 8 t)
  c_MOST_FIGURES : ∃ t, mg "MOST_FIGURES" = some (.int 9 t)
  c_PAIR : ∃ t, mg "PAIR" = some (.int 2 t)
  c_NEAR : ∃ t, mg "NEAR" = some (.str "near" t)
  c_EVEN : ∃ t, mg "EVEN" = some (.str "even" t)
  c_DOWN : ∃ t, mg "DOWN" = some (.str "down" t)
  c_UP : ∃ t, mg "UP" = some (.str "up" t)
  c_HOWS : mg "HOWS" = some (.ref (He.ga K "HOWS"))
  t_HOWS : ∀ H, SqT K H (He.ga K "HOWS") [(.str "near"), (.str "even"), (.str "down"), (.str "up")]
  c_NONE : ∃ t, mg "NONE" = some (.str "none" t)
  c_SOME : ∃ t, mg "SOME" = some (.str "some" t)
  c_LEAST_UNITS : ∃ t, mg "LEAST_UNITS" = some (.int 2 t)
  c_MOST_UNITS : ∃ t, mg "MOST_UNITS" = some (.int 100 t)
  c_MOST_TIMES : ∃ t, mg "MOST_TIMES" = some (.int 9999 t)
  c_FEED : ∃ t, mg "FEED" = some (.str "\n" t)
  c_BLANK : ∃ t, mg "BLANK" = some (.str " " t)
  c_IN : ∃ t, mg "IN" = some (.str "in" t)
  c_ASKED : ∃ t, mg "ASKED" = some (.str "asked" t)
  c_PART : ∃ t, mg "PART" = some (.str "part" t)
  c_OF : ∃ t, mg "OF" = some (.str "of" t)
  c_IS : ∃ t, mg "IS" = some (.str "is" t)
  c_ALL : ∃ t, mg "ALL" = some (.str "all" t)
  c_MOST_PARTS : ∃ t, mg "MOST_PARTS" = some (.int 10 t)
  c_MOST_ENDS : ∃ t, mg "MOST_ENDS" = some (.int 6 t)
  c_MOST_DEPTH : ∃ t, mg "MOST_DEPTH" = some (.int 3 t)
  c_UNITS_WORDS : ∃ t, mg "UNITS_WORDS" = some (.int 3 t)
  c_ASKED_WORDS : ∃ t, mg "ASKED_WORDS" = some (.int 2 t)
  c_PART_WORDS : ∃ t, mg "PART_WORDS" = some (.int 4 t)
  c_BOTH_WORDS : ∃ t, mg "BOTH_WORDS" = some (.int 4 t)
  c_UNTOLD : mg "UNTOLD" = some (.ref (He.ga K "UNTOLD"))
  t_UNTOLD : ∀ H, SqT K H (He.ga K "UNTOLD") [.non, .non, .non]
  c_TAILS : mg "TAILS" = some (.ref (He.ga K "TAILS"))
  i_TAILS : IDict K "TAILS" [0, 2, 4]
  r_TAILS_0 : idR K "TAILS" 0 = true
  t_TAILS_0 : ∀ H, SqT K H (idA K "TAILS" 0) []
  r_TAILS_2 : idR K "TAILS" 2 = true
  t_TAILS_2 : ∀ H, SqT K H (idA K "TAILS" 2) [(.str "is"), (.str "all")]
  r_TAILS_4 : idR K "TAILS" 4 = true
  t_TAILS_4 : ∀ H, SqT K H (idA K "TAILS" 4) [(.str "is")]
  z_NotImplemented : mg "NotImplemented" = none
  z_TypeError : mg "TypeError" = none
  z_abs : mg "abs" = none
  z_all : mg "all" = none
  z_bool : mg "bool" = none
  z_dict : mg "dict" = none
  z_divmod : mg "divmod" = none
  z_enumerate : mg "enumerate" = none
  z_int : mg "int" = none
  z_isinstance : mg "isinstance" = none
  z_len : mg "len" = none
  z_list : mg "list" = none
  z_max : mg "max" = none
  z_min : mg "min" = none
  z_property : mg "property" = none
  z_range : mg "range" = none
  z_repr : mg "repr" = none
  z_str : mg "str" = none
  z_sum : mg "sum" = none
  z_tuple : mg "tuple" = none
  z_zip : mg "zip" = none
end Ak
namespace Ak
open PySem PySem.Spec PyProof.Rows L2
def g_is_integer : S → Ro := (sRet (mAnd (mUn (isiD "int") (mVar 0)) (mNot (mUn (isiD "bool") (mVar 0)))))
def m_is_integer : List D → Rv := mDef 1 1 g_is_integer
section
variable {P : Program} {w : World} {K : PySem.W.Frag} {mg : Str → Option Value} {base : Heap}
theorem C_is_integer (T : Txt K mg) : Cal P w K mg base 1 "is_integer" ["value"] (spV K m_is_integer) := by
  obtain ⟨fd, F⟩ := T.d_is_integer
  refine ⟨_, fd, okG F sc_is_integer (fun vs H Q E h => spV_len h) (fun cdv A outer s H vs Q E hr hgd h => ?_), T.g_is_integer, F.kp, (F.bindsN fun _ _ _ _ _ _ us hl => match us, hl with | [_], _ => rfl)⟩
  exact ⟨tS K ⟨0, []⟩ W0 g_is_integer, PSs.nox (qs_one (q_ret (pv_and (pv_isi (K := K) (T := "") (x := "") rfl (by decide) (by rfl) T.z_isinstance (pv_var (pv 0)) (pe_bltn (v := .ty "int") (u := .type "int") (by rfl) T.z_int (by decide +kernel) rfl)) (pe_one (pv_not (pv_isi (K := K) (T := "") (x := "") rfl (by decide) (by rfl) T.z_isinstance (pv_var (pv 0)) (pe_bltn (v := .ty "bool") (u := .type "bool") (by rfl) T.z_bool (by decide +kernel) rfl))))))), spV_body h⟩
end
def g_is_between : S → Ro := (sRet (mAnd (mCal m_is_integer (mCons (mVar 0) mNil)) (mChain leD leD (mVar 1) (mVar 0) (mVar 2))))
def m_is_between : List D → Rv := mDef 3 3 g_is_between
section
variable {P : Program} {w : World} {K : PySem.W.Frag} {mg : Str → Option Value} {base : Heap}
theorem C_is_between (T : Txt K mg) : Cal P w K mg base 2 "is_between" ["value", "low", "high"] (spV K m_is_between) := by
  have C_is_integer := C_is_integer (P := P) (w := w) (base := base) T
  obtain ⟨fd, F⟩ := T.d_is_between
  refine ⟨_, fd, okG F sc_is_between (fun vs H Q E h => spV_len h) (fun cdv A outer s H vs Q E hr hgd h => ?_), T.g_is_between, F.kp, (F.bindsN fun _ _ _ _ _ _ us hl => match us, hl with | [_, _, _], _ => rfl)⟩
  exact ⟨tS K ⟨0, []⟩ W0 g_is_between, PSs.nox (qs_one (q_ret (pv_and (pv_cal C_is_integer (hr.mono (by decide)) hgd (by rfl) (qa_cons (pv_var (pv 0)) qa_nil)) (pe_one (pv_chain o_le l_le o_le l_le (pv_var (pv 1)) (pv_var (pv 0)) (pv_var (pv 2))))))), spV_body h⟩
end
def g_is_tuple : S → Ro := (sRet (mAnd (mUn (isiD "tuple") (mVar 0)) (mChain leD leD (mVar 1) (mCB lenD (mCons (mVar 0) mNil)) (mVar 2))))
def m_is_tuple : List D → Rv := mDef 3 3 g_is_tuple
section
variable {P : Program} {w : World} {K : PySem.W.Frag} {mg : Str → Option Value} {base : Heap}
theorem C_is_tuple (T : Txt K mg) : Cal P w K mg base 1 "is_tuple" ["value", "least", "most"] (spV K m_is_tuple) := by
  obtain ⟨fd, F⟩ := T.d_is_tuple
  refine ⟨_, fd, okG F sc_is_tuple (fun vs H Q E h => spV_len h) (fun cdv A outer s H vs Q E hr hgd h => ?_), T.g_is_tuple, F.kp, (F.bindsN fun _ _ _ _ _ _ us hl => match us, hl with | [_, _, _], _ => rfl)⟩
  exact ⟨tS K ⟨0, []⟩ W0 g_is_tuple, PSs.nox (qs_one (q_ret (pv_and (pv_isi (K := K) (T := "") (x := "") rfl (by decide) (by rfl) T.z_isinstance (pv_var (pv 0)) (pe_bltn (v := .ty "tuple") (u := .type "tuple") (by rfl) T.z_tuple (by decide +kernel) rfl)) (pe_one (pv_chain o_le l_le o_le l_le (pv_var (pv 1)) (pv_callB (c_lenAll (K := K) rfl) l_len (by rfl) T.z_len (by decide +kernel) (qa_cons (pv_var (pv 0)) qa_nil)) (pv_var (pv 2))))))), spV_body h⟩
end
def g_is_word : S → Ro := (sRet (mAnd (mUn (isiD "str") (mVar 0)) (mOp inD (mVar 0) (mVar 1))))
def m_is_word : List D → Rv := mDef 2 2 g_is_word
section
variable {P : Program} {w : World} {K : PySem.W.Frag} {mg : Str → Option Value} {base : Heap}
theorem C_is_word (T : Txt K mg) : Cal P w K mg base 1 "is_word" ["value", "words"] (spV K m_is_word) := by
  obtain ⟨fd, F⟩ := T.d_is_word
  refine ⟨_, fd, okG F sc_is_word (fun vs H Q E h => spV_len h) (fun cdv A outer s H vs Q E hr hgd h => ?_), T.g_is_word, F.kp, (F.bindsN fun _ _ _ _ _ _ us hl => match us, hl with | [_, _], _ => rfl)⟩
  exact ⟨tS K ⟨0, []⟩ W0 g_is_word, PSs.nox (qs_one (q_ret (pv_and (pv_isi (K := K) (T := "") (x := "") rfl (by decide) (by rfl) T.z_isinstance (pv_var (pv 0)) (pe_bltn (v := .ty "str") (u := .type "str") (by rfl) T.z_str (by decide +kernel) rfl)) (pe_one (pv_cmp (o_inAll (K := K) rfl) l_in (pv_var (pv 0)) (pv_var (pv 1)) (by rfl)))))), spV_body h⟩
end
def g_is_name : S → Ro := (sSeq (sIf (mOrT (mNotT (mTest (mUn (isiD "str") (mVar 0)))) (mNotT (mTest (mChain leD leD (mC (.int 1)) (mCB lenD (mCons (mVar 0) mNil)) (mC (.int 8)))))) (sRet (mC (.bl false))) sNil)
    (sRet (mCB allD (mCons (mFrz (mComp (mIter iterD (mVar 0)) (bName 1) mYes (mOp inD (mVar 1) (mC (.str "abcdefghijklmnopqrstuvwxyz"))) [1])) mNil))))
def m_is_name : List D → Rv := mDef 1 2 g_is_name
section
variable {P : Program} {w : World} {K : PySem.W.Frag} {mg : Str → Option Value} {base : Heap}
theorem C_is_name (T : Txt K mg) : Cal P w K mg base 1 "is_name" ["value"] (spV K m_is_name) := by
  obtain ⟨fd, F⟩ := T.d_is_name
  refine ⟨_, fd, okG F sc_is_name (fun vs H Q E h => spV_len h) (fun cdv A outer s H vs Q E hr hgd h => ?_), T.g_is_name, F.kp, (F.bindsN fun _ _ _ _ _ _ us hl => match us, hl with | [_], _ => rfl)⟩
  exact ⟨tS K ⟨0, []⟩ W0 g_is_name, PSs.nox (qs_cons (q_if (PW.pt (qw_or (qt_not (qt_val (pv_isi (K := K) (T := "") (x := "") rfl (by decide) (by rfl) T.z_isinstance (pv_var (pv 0)) (pe_bltn (v := .ty "str") (u := .type "str") (by rfl) T.z_str (by decide +kernel) rfl)))) (qw_or1 (qt_not (qt_chain o_le l_le o_le l_le v_int (pv_callB (c_lenAll (K := K) rfl) l_len (by rfl) T.z_len (by decide +kernel) (qa_cons (pv_var (pv 0)) qa_nil)) (pv_c (pe_ci T.c_MOST_LETTERS rfl) (fun _ => .int _))))))) (qs_one (q_ret v_bl)) qs_nil)
    (qs_one (q_ret (pv_callB (x_all (K := K) rfl rfl) l_all (by rfl) T.z_all (by decide +kernel) (qa_cons (pv_frz (pm_comp (pe_lc (own := [("letter", 1)]) rfl sc_is_name.nd (qi_any (K := K) rfl (pv_var (pv 0))) (blkOk_by (own := [("letter", 1)]) (N := ["value", "letter"]) (sc := defScope s_is_name) (by decide +kernel)) (fun _ _ _ _ _ => (qg_name (i := 1) sc_is_name.nd rfl (.inl rfl))) (fun _ _ _ _ _ => pts_nil) (fun _ _ _ _ _ => (pv_cmp (o_inAll (K := K) rfl) l_in (pv_var (pv 1)) (pv_c (pe_cs T.c_LETTERS rfl) (fun _ => .str _)) (by rfl)))) (fun _ _ _ z => yes_of z) (by decide))) qa_nil))))), spV_body h⟩
end
def g_number_in : S → Ro := (sSeq (sIf (mOrT (mNotT (mTest (mChain leD leD (mC (.int 1)) (mCB lenD (mCons (mVar 0) mNil)) (mC (.int 9))))) (mNotT (mTest (mCB allD (mCons (mFrz (mComp (mIter iterD (mVar 0)) (bName 1) mYes (mOp inD (mVar 1) (mC (.str "0123456789"))) [1])) mNil))))) (sRet (mUn negD (mC (.int 1)))) sNil)
    (sRet (mIf (mOrT (mTest (mOp eqD (mVar 0) (mC (.str "0")))) (mTest (mOp neD (mOp ixD (mVar 0) (mC (.int 0))) (mC (.str "0"))))) (mCB intD (mCons (mVar 0) mNil)) (mUn negD (mC (.int 1))))))
def m_number_in : List D → Rv := mDef 1 2 g_number_in
section
variable {P : Program} {w : World} {K : PySem.W.Frag} {mg : Str → Option Value} {base : Heap}
theorem C_number_in (T : Txt K mg) : Cal P w K mg base 1 "number_in" ["word"] (spV K m_number_in) := by
  obtain ⟨fd, F⟩ := T.d_number_in
  refine ⟨_, fd, okG F sc_number_in (fun vs H Q E h => spV_len h) (fun cdv A outer s H vs Q E hr hgd h => ?_), T.g_number_in, F.kp, (F.bindsN fun _ _ _ _ _ _ us hl => match us, hl with | [_], _ => rfl)⟩
  exact ⟨tS K ⟨0, []⟩ W0 g_number_in, PSs.nox (qs_cons (q_if (PW.pt (qw_or (qt_not (qt_chain o_le l_le o_le l_le v_int (pv_callB (c_lenAll (K := K) rfl) l_len (by rfl) T.z_len (by decide +kernel) (qa_cons (pv_var (pv 0)) qa_nil)) (pv_c (pe_ci T.c_MOST_FIGURES rfl) (fun _ => .int _)))) (qw_or1 (qt_not (qt_val (pv_callB (x_all (K := K) rfl rfl) l_all (by rfl) T.z_all (by decide +kernel) (qa_cons (pv_frz (pm_comp (pe_lc (own := [("figure", 1)]) rfl sc_number_in.nd (qi_any (K := K) rfl (pv_var (pv 0))) (blkOk_by (own := [("figure", 1)]) (N := ["word", "figure"]) (sc := defScope s_number_in) (by decide +kernel)) (fun _ _ _ _ _ => (qg_name (i := 1) sc_number_in.nd rfl (.inl rfl))) (fun _ _ _ _ _ => pts_nil) (fun _ _ _ _ _ => (pv_cmp (o_inAll (K := K) rfl) l_in (pv_var (pv 1)) (pv_c (pe_cs T.c_FIGURES rfl) (fun _ => .str _)) (by rfl)))) (fun _ _ _ z => yes_of z) (by decide))) qa_nil))))))) (qs_one (q_ret (pv_un u_neg l_neg v_int))) qs_nil)
    (qs_one (q_ret (pv_if (PW.pt (qw_or (qt_cmp (x_eqD (K := K) rfl hr.units) l_eq (pv_var (pv 0)) v_str (nomark _)) (qw_or1 (qt_cmp (x_neD (K := K) rfl hr.units) l_ne (pv_ix (x_ix (K := K) rfl) l_ix (pv_var (pv 0)) v_int (fun _ _ => rfl)) v_str (nomark _))))) (pv_callTy c_intAll l_int (by rfl) T.z_int (by decide +kernel) (qa_cons (pv_var (pv 0)) qa_nil)) (pv_un u_neg l_neg v_int))))), spV_body h⟩
end
def g_is_units : S → Ro := (sRet (mAnd (mCal m_is_tuple (mCons (mVar 0) (mCons (mC (.int 2)) (mCons (mC (.int 2)) mNil)))) (mAnd (mCal m_is_between (mCons (mOp ixD (mVar 0) (mC (.int 0))) (mCons (mC (.int 2)) (mCons (mC (.int 100)) mNil)))) (mCal m_is_word (mCons (mOp ixD (mVar 0) (mC (.int 1))) (mCons (mC (.tup [(.str "near"), (.str "even"), (.str "down"), (.str "up")])) mNil))))))
def m_is_units : List D → Rv := mDef 1 1 g_is_units
section
variable {P : Program} {w : World} {K : PySem.W.Frag} {mg : Str → Option Value} {base : Heap}
theorem C_is_units (T : Txt K mg) : Cal P w K mg base 3 "is_units" ["value"] (spV K m_is_units) := by
  have C_is_between := C_is_between (P := P) (w := w) (base := base) T
  have C_is_tuple := C_is_tuple (P := P) (w := w) (base := base) T
  have C_is_word := C_is_word (P := P) (w := w) (base := base) T
  obtain ⟨fd, F⟩ := T.d_is_units
  refine ⟨_, fd, okG F sc_is_units (fun vs H Q E h => spV_len h) (fun cdv A outer s H vs Q E hr hgd h => ?_), T.g_is_units, F.kp, (F.bindsN fun _ _ _ _ _ _ us hl => match us, hl with | [_], _ => rfl)⟩
  exact ⟨tS K ⟨0, []⟩ W0 g_is_units, PSs.nox (qs_one (q_ret (pv_and (pv_cal C_is_tuple (hr.mono (by decide)) hgd (by rfl) (qa_cons (pv_var (pv 0)) (qa_cons (pv_c (pe_ci T.c_PAIR rfl) (fun _ => .int _)) (qa_cons (pv_c (pe_ci T.c_PAIR rfl) (fun _ => .int _)) qa_nil)))) (pv_and (pv_cal C_is_between (hr.mono (by decide)) hgd (by rfl) (qa_cons (pv_ix (x_ix (K := K) rfl) l_ix (pv_var (pv 0)) v_int (fun _ _ => rfl)) (qa_cons (pv_c (pe_ci T.c_LEAST_UNITS rfl) (fun _ => .int _)) (qa_cons (pv_c (pe_ci T.c_MOST_UNITS rfl) (fun _ => .int _)) qa_nil)))) (pe_one (pv_cal C_is_word (hr.mono (by decide)) hgd (by rfl) (qa_cons (pv_ix (x_ix (K := K) rfl) l_ix (pv_var (pv 0)) v_int (fun _ _ => rfl)) (qa_cons (pv_c (pe_glob (v := .ref (He.ga K "HOWS")) rfl T.c_HOWS rfl) (fun _ => .tup (.inr T.t_HOWS) (.cons (.str _) (.cons (.str _) (.cons (.str _) (.cons (.str _) .nil)))))) qa_nil)))))))), spV_body h⟩
end
def g_is_share : S → Ro := (sRet (mOr (mCal m_is_word (mCons (mVar 1) (mCons (mTup (mCons (mC (.str "none")) (mCons (mC (.str "some")) mNil))) mNil))) (mCal m_is_between (mCons (mVar 1) (mCons (mC (.int 0)) (mCons (mOp ixD (mVar 0) (mC (.int 0))) mNil))))))
def m_is_share : List D → Rv := mDef 2 2 g_is_share
section
variable {P : Program} {w : World} {K : PySem.W.Frag} {mg : Str → Option Value} {base : Heap}
theorem C_is_share (T : Txt K mg) : Cal P w K mg base 3 "is_share" ["units", "value"] (spV K m_is_share) := by
  have C_is_between := C_is_between (P := P) (w := w) (base := base) T
  have C_is_word := C_is_word (P := P) (w := w) (base := base) T
  obtain ⟨fd, F⟩ := T.d_is_share
  refine ⟨_, fd, okG F sc_is_share (fun vs H Q E h => spV_len h) (fun cdv A outer s H vs Q E hr hgd h => ?_), T.g_is_share, F.kp, (F.bindsN fun _ _ _ _ _ _ us hl => match us, hl with | [_, _], _ => rfl)⟩
  exact ⟨tS K ⟨0, []⟩ W0 g_is_share, PSs.nox (qs_one (q_ret (pv_or (pv_cal C_is_word (hr.mono (by decide)) hgd (by rfl) (qa_cons (pv_var (pv 1)) (qa_cons (pv_tup (qa_cons (pv_c (pe_cs T.c_NONE rfl) (fun _ => .str _)) (qa_cons (pv_c (pe_cs T.c_SOME rfl) (fun _ => .str _)) qa_nil))) qa_nil))) (pe_one (pv_cal C_is_between (hr.mono (by decide)) hgd (by rfl) (qa_cons (pv_var (pv 1)) (qa_cons v_int (qa_cons (pv_ix (x_ix (K := K) rfl) l_ix (pv_var (pv 0)) v_int (fun _ _ => rfl)) qa_nil)))))))), spV_body h⟩
end
def g_check_share : S → Ro := (sIf (mNotT (mTest (mCal m_is_share (mCons (mVar 0) (mCons (mVar 1) mNil))))) (fun _ => .no) sNil)
def m_check_share : List D → Rv := mDef 2 2 g_check_share
section
variable {P : Program} {w : World} {K : PySem.W.Frag} {mg : Str → Option Value} {base : Heap}
theorem C_check_share (T : Txt K mg) : Cal P w K mg base 4 "check_share" ["units", "value"] (spV K m_check_share) := by
  have C_is_share := C_is_share (P := P) (w := w) (base := base) T
  obtain ⟨fd, F⟩ := T.d_check_share
  refine ⟨_, fd, okG F sc_check_share (fun vs H Q E h => spV_len h) (fun cdv A outer s H vs Q E hr hgd h => ?_), T.g_check_share, F.kp, (F.bindsN fun _ _ _ _ _ _ us hl => match us, hl with | [_, _], _ => rfl)⟩
  exact ⟨tS K ⟨0, []⟩ W0 g_check_share, PSs.nox (qs_one (q_if (qt_not (qt_val (pv_cal C_is_share (hr.mono (by decide)) hgd (by rfl) (qa_cons (pv_var (pv 0)) (qa_cons (pv_var (pv 1)) qa_nil))))) (qs_one q_never) qs_nil)), spV_body h⟩
end
def g_rounded : S → Ro := (sSeq (sAsg (bTup 2 (bCons (bName 3) (bCons (bName 4) bNil))) (mCB divmodD (mCons (mVar 1) (mCons (mVar 2) mNil))))
    (sSeq (sIf (mOrT (mTest (mOp eqD (mVar 0) (mC (.str "down")))) (mTest (mOp eqD (mVar 4) (mC (.int 0))))) (sRet (mVar 3)) sNil)
    (sSeq (sIf (mTest (mOp eqD (mVar 0) (mC (.str "up")))) (sRet (mOp addD (mVar 3) (mC (.int 1)))) sNil)
    (sSeq (sIf (mTest (mOp neD (mOp mulD (mC (.int 2)) (mVar 4)) (mVar 2))) (sRet (mOp addD (mVar 3) (mCB intD (mCons (mOp gtD (mOp mulD (mC (.int 2)) (mVar 4)) (mVar 2)) mNil)))) sNil)
    (sRet (mIf (mTest (mOp eqD (mVar 0) (mC (.str "near")))) (mOp addD (mVar 3) (mC (.int 1))) (mOp addD (mVar 3) (mOp modD (mVar 3) (mC (.int 2))))))))))
def m_rounded : List D → Rv := mDef 3 5 g_rounded
section
variable {P : Program} {w : World} {K : PySem.W.Frag} {mg : Str → Option Value} {base : Heap}
theorem C_rounded (T : Txt K mg) : Cal P w K mg base 1 "rounded" ["how", "above", "under"] (spV K m_rounded) := by
  obtain ⟨fd, F⟩ := T.d_rounded
  refine ⟨_, fd, okG F sc_rounded (fun vs H Q E h => spV_len h) (fun cdv A outer s H vs Q E hr hgd h => ?_), T.g_rounded, F.kp, (F.bindsN fun _ _ _ _ _ _ us hl => match us, hl with | [_, _, _], _ => rfl)⟩
  exact ⟨tS K ⟨0, []⟩ W0 g_rounded, PSs.nox (qs_cons (q_asg (pv_callB c_divmod l_divmod (by rfl) T.z_divmod (by decide +kernel) (qa_cons (pv_var (pv 1)) (qa_cons (pv_var (pv 2)) qa_nil))) (qg_tup (K := K) (n := 2) rfl rfl (qgs_cons (qg_name (i := 3) sc_rounded.nd rfl (.inl rfl)) (qgs_cons (qg_name (i := 4) sc_rounded.nd rfl (.inl rfl)) qgs_nil))))
    (qs_cons (q_if (PW.pt (qw_or (qt_cmp (x_eqD (K := K) rfl hr.units) l_eq (pv_var (pv 0)) (pv_c (pe_cs T.c_DOWN rfl) (fun _ => .str _)) (nomark _)) (qw_or1 (qt_cmp (x_eqD (K := K) rfl hr.units) l_eq (pv_var (pv 4)) v_int (nomark _))))) (qs_one (q_ret (pv_var (pv 3)))) qs_nil)
    (qs_cons (q_if (qt_cmp (x_eqD (K := K) rfl hr.units) l_eq (pv_var (pv 0)) (pv_c (pe_cs T.c_UP rfl) (fun _ => .str _)) (nomark _)) (qs_one (q_ret (pv_op (o_addAll (K := K) rfl) l_add (pv_var (pv 3)) v_int))) qs_nil)
    (qs_cons (q_if (qt_cmp (x_neD (K := K) rfl hr.units) l_ne (pv_op (o_mulAll (K := K) rfl) l_mul v_int (pv_var (pv 4))) (pv_var (pv 2)) (nomark _)) (qs_one (q_ret (pv_op (o_addAll (K := K) rfl) l_add (pv_var (pv 3)) (pv_callTy c_intAll l_int (by rfl) T.z_int (by decide +kernel) (qa_cons (pv_cmp o_gt l_gt (pv_op (o_mulAll (K := K) rfl) l_mul v_int (pv_var (pv 4))) (pv_var (pv 2)) (nomark _)) qa_nil))))) qs_nil)
    (qs_one (q_ret (pv_if (qt_cmp (x_eqD (K := K) rfl hr.units) l_eq (pv_var (pv 0)) (pv_c (pe_cs T.c_NEAR rfl) (fun _ => .str _)) (nomark _)) (pv_op (o_addAll (K := K) rfl) l_add (pv_var (pv 3)) v_int) (pv_op (o_addAll (K := K) rfl) l_add (pv_var (pv 3)) (pv_op o_mod l_mod (pv_var (pv 3)) v_int))))))))), spV_body h⟩
end
def g_is_right : S → Ro := (sSeq (sIf (mTest (mOp isND (mVar 1) (mC .non))) (sRet (mOp leD (mVar 2) (mVar 3))) sNil)
    (sSeq (sIf (mOrT (mTest (mOp eqD (mVar 3) (mC (.int 0)))) (mTest (mOp gtD (mVar 2) (mVar 3)))) (sRet (mC (.bl false))) sNil)
    (sSeq (sIf (mTest (mOp eqD (mVar 1) (mC (.str "none")))) (sRet (mOp eqD (mVar 2) (mC (.int 0)))) sNil)
    (sSeq (sIf (mTest (mOp eqD (mVar 1) (mC (.str "some")))) (sRet (mChain ltD ltD (mC (.int 0)) (mOp mulD (mOp ixD (mVar 0) (mC (.int 0))) (mVar 2)) (mVar 3))) sNil)
    (sRet (mOp eqD (mCal m_rounded (mCons (mOp ixD (mVar 0) (mC (.int 1))) (mCons (mOp mulD (mOp ixD (mVar 0) (mC (.int 0))) (mVar 2)) (mCons (mVar 3) mNil)))) (mVar 1)))))))
def m_is_right : List D → Rv := mDef 4 4 g_is_right
section
variable {P : Program} {w : World} {K : PySem.W.Frag} {mg : Str → Option Value} {base : Heap}
theorem C_is_right (T : Txt K mg) : Cal P w K mg base 2 "is_right" ["units", "share", "many", "whole"] (spV K m_is_right) := by
  have C_rounded := C_rounded (P := P) (w := w) (base := base) T
  obtain ⟨fd, F⟩ := T.d_is_right
  refine ⟨_, fd, okG F sc_is_right (fun vs H Q E h => spV_len h) (fun cdv A outer s H vs Q E hr hgd h => ?_), T.g_is_right, F.kp, (F.bindsN fun _ _ _ _ _ _ us hl => match us, hl with | [_, _, _, _], _ => rfl)⟩
  exact ⟨tS K ⟨0, []⟩ W0 g_is_right, PSs.nox (qs_cons (q_if (qt_cmp o_isN l_isN (pv_var (pv 1)) v_non (nomark _)) (qs_one (q_ret (pv_cmp o_le l_le (pv_var (pv 2)) (pv_var (pv 3)) (nomark _)))) qs_nil)
    (qs_cons (q_if (PW.pt (qw_or (qt_cmp (x_eqD (K := K) rfl hr.units) l_eq (pv_var (pv 3)) v_int (nomark _)) (qw_or1 (qt_cmp o_gt l_gt (pv_var (pv 2)) (pv_var (pv 3)) (nomark _))))) (qs_one (q_ret v_bl)) qs_nil)
    (qs_cons (q_if (qt_cmp (x_eqD (K := K) rfl hr.units) l_eq (pv_var (pv 1)) (pv_c (pe_cs T.c_NONE rfl) (fun _ => .str _)) (nomark _)) (qs_one (q_ret (pv_cmp (x_eqD (K := K) rfl hr.units) l_eq (pv_var (pv 2)) v_int (nomark _)))) qs_nil)
    (qs_cons (q_if (qt_cmp (x_eqD (K := K) rfl hr.units) l_eq (pv_var (pv 1)) (pv_c (pe_cs T.c_SOME rfl) (fun _ => .str _)) (nomark _)) (qs_one (q_ret (pv_chain o_lt l_lt o_lt l_lt v_int (pv_op (o_mulAll (K := K) rfl) l_mul (pv_ix (x_ix (K := K) rfl) l_ix (pv_var (pv 0)) v_int (fun _ _ => rfl)) (pv_var (pv 2))) (pv_var (pv 3))))) qs_nil)
    (qs_one (q_ret (pv_cmp (x_eqD (K := K) rfl hr.units) l_eq (pv_cal C_rounded (hr.mono (by decide)) hgd (by rfl) (qa_cons (pv_ix (x_ix (K := K) rfl) l_ix (pv_var (pv 0)) v_int (fun _ _ => rfl)) (qa_cons (pv_op (o_mulAll (K := K) rfl) l_mul (pv_ix (x_ix (K := K) rfl) l_ix (pv_var (pv 0)) v_int (fun _ _ => rfl)) (pv_var (pv 2))) (qa_cons (pv_var (pv 3)) qa_nil)))) (pv_var (pv 1)) (nomark _)))))))), spV_body h⟩
end
def g_share_in : S → Ro := (sRet (mIf (mTest (mOp inD (mVar 0) (mTup (mCons (mC (.str "none")) (mCons (mC (.str "some")) mNil))))) (mVar 0) (mCal m_number_in (mCons (mVar 0) mNil))))
def m_share_in : List D → Rv := mDef 1 1 g_share_in
section
variable {P : Program} {w : World} {K : PySem.W.Frag} {mg : Str → Option Value} {base : Heap}
theorem C_share_in (T : Txt K mg) : Cal P w K mg base 2 "share_in" ["word"] (spV K m_share_in) := by
  have C_number_in := C_number_in (P := P) (w := w) (base := base) T
  obtain ⟨fd, F⟩ := T.d_share_in
  refine ⟨_, fd, okG F sc_share_in (fun vs H Q E h => spV_len h) (fun cdv A outer s H vs Q E hr hgd h => ?_), T.g_share_in, F.kp, (F.bindsN fun _ _ _ _ _ _ us hl => match us, hl with | [_], _ => rfl)⟩
  exact ⟨tS K ⟨0, []⟩ W0 g_share_in, PSs.nox (qs_one (q_ret (pv_if (qt_cmp (o_inAll (K := K) rfl) l_in (pv_var (pv 0)) (pv_tup (qa_cons (pv_c (pe_cs T.c_NONE rfl) (fun _ => .str _)) (qa_cons (pv_c (pe_cs T.c_SOME rfl) (fun _ => .str _)) qa_nil))) (by rfl)) (pv_var (pv 0)) (pv_cal C_number_in (hr.mono (by decide)) hgd (by rfl) (qa_cons (pv_var (pv 0)) qa_nil))))), spV_body h⟩
end
def g_l_take : S → Ro := (sSeq (sIf (mTest (mOp gtD (mPotAt 0 (mC (.int 0))) (mC (.int 0)))) (sSeq (sSet 2 (mOp modD (mCB intD (mCons (mPotAt 0 (mC (.int 0))) mNil)) (mVar 1)))
    (sSeq (sPotSet 0 (mOp fdivD (mPotAt 0 (mC (.int 0))) (mVar 1)) (mC (.int 0)))
    (sRet (mVar 2)))) sNil)
    (sSeq (sPotSet 0 (mOp addD (mPotAt 0 (mC (.int 2))) (mC (.int 1))) (mC (.int 2)))
    (sSeq (sSet 3 (mOp ixD (mLst (mCons (mC (.int 2147483647)) (mCons (mC (.int 2147483629)) (mCons (mC (.int 2147483587)) (mCons (mC (.int 2147483579)) (mCons (mC (.int 2147483563)) mNil)))))) (mOp modD (mCB intD (mCons (mPotAt 0 (mC (.int 2))) mNil)) (mC (.int 5)))))
    (sSeq (sSet 4 (mOp modD (mCB intD (mCons (mOp powD (mCB intD (mCons (mOp addD (mOp addD (mPotAt 0 (mC (.int 1))) (mOp mulD (mOp mulD (mC (.int 110017)) (mPotAt 0 (mC (.int 2)))) (mPotAt 0 (mC (.int 2))))) (mC (.int 61))) mNil)) (mC (.int 3))) mNil)) (mVar 3)))
    (sSeq (sSet 4 (mOp modD (mCB intD (mCons (mOp mulD (mVar 4) (mOp addD (mOp modD (mCB intD (mCons (mVar 4) mNil)) (mC (.int 10037))) (mOp mulD (mC (.int 101)) (mPotAt 0 (mC (.int 2)))))) mNil)) (mC (.int 2305843009213693907))))
    (sRet (mOp modD (mCB intD (mCons (mOp fdivD (mVar 4) (mC (.int 131))) mNil)) (mVar 1))))))))
def m_l_take : Bw → List D → Rp := mDefP 2 5 g_l_take
section
variable {P : Program} {w : World} {K : PySem.W.Frag} {mg : Str → Option Value} {base : Heap}
theorem C_l_take (T : Txt K mg) : Cal P w K mg base 1 "_law_take" ["_law_pot_here", "_law_upto"] (spP K m_l_take) := by
  obtain ⟨fd, F⟩ := T.d_l_take
  refine ⟨_, fd, okG F sc_l_take (fun vs H Q E h => spP_len h) (fun cdv A outer s H vs Q E hr hgd h => ?_), T.g_l_take, F.kp, (F.bindsN fun _ _ _ _ _ _ us hl => match us, hl with | [_, _], _ => rfl)⟩
  obtain ⟨pa, h⟩ := spP_body (N := ["_law_pot_here", "_law_upto", "_law_digit", "_law_prime", "_law_mixed"]) h
  exact ⟨tS K pa W0 g_l_take, PSs.nox (qs_cons (q_if (qt_cmp o_gt l_gt (pv_potAt (K := K) rfl (pv 0) v_int (fun _ _ => rfl)) v_int (nomark _)) (qs_cons (q_set (ps_set (i := 2) sc_l_take.nd rfl (.inl rfl) (pv_op o_mod l_mod (pv_callTy c_intAll l_int (by rfl) T.z_int (by decide +kernel) (qa_cons (pv_potAt (K := K) rfl (pv 0) v_int (fun _ _ => rfl)) qa_nil)) (pv_var (pv 1)))))
    (qs_cons (q_potSet (ps_asg (pv_op o_fdiv l_fdiv (pv_potAt (K := K) rfl (pv 0) v_int (fun _ _ => rfl)) (pv_var (pv 1))) (pg_sub (pv 0) v_int set_list)))
    (qs_one (q_ret (pv_var (pv 2)))))) qs_nil)
    (qs_cons (q_potSet (ps_asg (pv_op (o_addAll (K := K) rfl) l_add (pv_potAt (K := K) rfl (pv 0) v_int (fun _ _ => rfl)) v_int) (pg_sub (pv 0) v_int set_list)))
    (qs_cons (q_set (ps_set (i := 3) sc_l_take.nd rfl (.inl rfl) (pv_ix (x_ix (K := K) rfl) l_ix (pv_lst (qa_cons v_int (qa_cons v_int (qa_cons v_int (qa_cons v_int (qa_cons v_int qa_nil)))))) (pv_op o_mod l_mod (pv_callTy c_intAll l_int (by rfl) T.z_int (by decide +kernel) (qa_cons (pv_potAt (K := K) rfl (pv 0) v_int (fun _ _ => rfl)) qa_nil)) v_int) (fun _ _ => rfl))))
    (qs_cons (q_set (ps_set (i := 4) sc_l_take.nd rfl (.inl rfl) (pv_op o_mod l_mod (pv_callTy c_intAll l_int (by rfl) T.z_int (by decide +kernel) (qa_cons (pv_op o_pow l_pow (pv_callTy c_intAll l_int (by rfl) T.z_int (by decide +kernel) (qa_cons (pv_op (o_addAll (K := K) rfl) l_add (pv_op (o_addAll (K := K) rfl) l_add (pv_potAt (K := K) rfl (pv 0) v_int (fun _ _ => rfl)) (pv_op (o_mulAll (K := K) rfl) l_mul (pv_op (o_mulAll (K := K) rfl) l_mul v_int (pv_potAt (K := K) rfl (pv 0) v_int (fun _ _ => rfl))) (pv_potAt (K := K) rfl (pv 0) v_int (fun _ _ => rfl)))) v_int) qa_nil)) v_int) qa_nil)) (pv_var (pv 3)))))
    (qs_cons (q_set (ps_set (i := 4) sc_l_take.nd rfl (.inl rfl) (pv_op o_mod l_mod (pv_callTy c_intAll l_int (by rfl) T.z_int (by decide +kernel) (qa_cons (pv_op (o_mulAll (K := K) rfl) l_mul (pv_var (pv 4)) (pv_op (o_addAll (K := K) rfl) l_add (pv_op o_mod l_mod (pv_callTy c_intAll l_int (by rfl) T.z_int (by decide +kernel) (qa_cons (pv_var (pv 4)) qa_nil)) v_int) (pv_op (o_mulAll (K := K) rfl) l_mul v_int (pv_potAt (K := K) rfl (pv 0) v_int (fun _ _ => rfl))))) qa_nil)) v_int)))
    (qs_one (q_ret (pv_op o_mod l_mod (pv_callTy c_intAll l_int (by rfl) T.z_int (by decide +kernel) (qa_cons (pv_op o_fdiv l_fdiv (pv_var (pv 4)) v_int) qa_nil)) (pv_var (pv 1)))))))))), h⟩
end
def g_l_of : S → Ro := (sRet (mOp ixD (mVar 1) (mCalP 0 m_l_take (mCons (mCB lenD (mCons (mVar 1) mNil)) mNil))))
def m_l_of : Bw → List D → Rp := mDefP 2 2 g_l_of
section
variable {P : Program} {w : World} {K : PySem.W.Frag} {mg : Str → Option Value} {base : Heap}
theorem C_l_of (T : Txt K mg) : Cal P w K mg base 2 "_law_of" ["_law_pot_here", "_law_some_here"] (spP K m_l_of) := by
  have C_l_take := C_l_take (P := P) (w := w) (base := base) T
  obtain ⟨fd, F⟩ := T.d_l_of
  refine ⟨_, fd, okG F sc_l_of (fun vs H Q E h => spP_len h) (fun cdv A outer s H vs Q E hr hgd h => ?_), T.g_l_of, F.kp, (F.bindsN fun _ _ _ _ _ _ us hl => match us, hl with | [_, _], _ => rfl)⟩
  obtain ⟨pa, h⟩ := spP_body (N := ["_law_pot_here", "_law_some_here"]) h
  exact ⟨tS K pa W0 g_l_of, PSs.nox (qs_one (q_ret (pv_ix (x_ix (K := K) rfl) l_ix (pv_var (pv 1)) (pv_calP C_l_take (hr.mono (by decide)) hgd (by rfl) (pv 0) (qa_cons (pv_callB (c_lenAll (K := K) rfl) l_len (by rfl) T.z_len (by decide +kernel) (qa_cons (pv_var (pv 1)) qa_nil)) qa_nil)) (fun _ _ => rfl)))), h⟩
end
def g_l_some : S → Ro := (sSeq (sParMM 3 4 (mMkO seqOf (mVar 1)) (mMkL mNil))
    (sSeq (sFor (mRng1 (mCons (mVar 2) mNil)) (bName 5)
    (sApp 4 (mCons (mPopAt 3 (mCons (mCalP 0 m_l_take (mCons (mCBO lenD 3) mNil)) mNil)) mNil)))
    (sRet (mVar 4))))
def m_l_some : Bw → List D → Rp := mDefP 3 6 g_l_some
section
variable {P : Program} {w : World} {K : PySem.W.Frag} {mg : Str → Option Value} {base : Heap}
theorem C_l_some (T : Txt K mg) : Cal P w K mg base 2 "_law_some" ["_law_pot_here", "_law_pool", "_law_many"] (spP K m_l_some) := by
  have C_l_take := C_l_take (P := P) (w := w) (base := base) T
  obtain ⟨fd, F⟩ := T.d_l_some
  refine ⟨_, fd, okG F sc_l_some (fun vs H Q E h => spP_len h) (fun cdv A outer s H vs Q E hr hgd h => ?_), T.g_l_some, F.kp, (F.bindsN fun _ _ _ _ _ _ us hl => match us, hl with | [_, _, _], _ => rfl)⟩
  obtain ⟨pa, h⟩ := spP_body (N := ["_law_pot_here", "_law_pool", "_law_many", "_law_left", "_law_found", "_law_lap"]) h
  exact ⟨tS K pa W0 g_l_some, PSs.nox (qs_cons (q_parMM (by decide) (ps_par (i := 3) (j := 4) (by rfl) sc_l_some.nd rfl rfl (by decide) rfl rfl (pa_cons (pm_list (K := K) rfl (by rfl) T.z_list (pv_var (pv 1))) (pa_cons (pm_lst qa_nil) pa_nil)) (by rfl)))
    (qs_cons (q_for PassesOwn.never rfl (qi_range1 (by rfl) T.z_range (qa_cons (pv_var (pv 2)) qa_nil)) (qg_name (i := 5) sc_l_some.nd rfl (.inl rfl))
    (qs_one (q_app (ps_expr (pe_bm PySem.F.plainAttrs_list PySem.F.slot_list_append PySem.F.type_list_append mt_append (pv 4) (qa_cons (pv_popAt (pe_bm PySem.F.plainAttrs_list PySem.F.slot_list_pop PySem.F.type_list_pop mt_popAt (pv 3) (qa_cons (pv_calP C_l_take (hr.mono (by decide)) hgd (by rfl) (pv 0) (qa_cons (pv_lenO (K := K) rfl (by rfl) T.z_len (pv 3)) qa_nil)) qa_nil))) qa_nil))))))
    (qs_one (q_ret (pv_var (pv 4)))))), h⟩
end
def g_l_names : S → Ro := (sSeq (sSet 2 (mLst (mCons (mC (.str "a")) (mCons (mC (.str "b")) (mCons (mC (.str "all")) (mCons (mC (.str "is")) (mCons (mC (.str "of")) (mCons (mC (.str "part")) (mCons (mC (.str "some")) (mCons (mC (.str "none")) (mCons (mC (.str "told")) (mCons (mC (.str "in")) (mCons (mC (.str "zzzzzzzz")) (mCons (mC (.str "x")) mNil))))))))))))))
    (sRet (mCalP 0 m_l_some (mCons (mVar 2) (mCons (mVar 1) mNil)))))
def m_l_names : Bw → List D → Rp := mDefP 2 3 g_l_names
section
variable {P : Program} {w : World} {K : PySem.W.Frag} {mg : Str → Option Value} {base : Heap}
theorem C_l_names (T : Txt K mg) : Cal P w K mg base 3 "_law_names" ["_law_pot_here", "_law_many"] (spP K m_l_names) := by
  have C_l_some := C_l_some (P := P) (w := w) (base := base) T
  obtain ⟨fd, F⟩ := T.d_l_names
  refine ⟨_, fd, okG F sc_l_names (fun vs H Q E h => spP_len h) (fun cdv A outer s H vs Q E hr hgd h => ?_), T.g_l_names, F.kp, (F.bindsN fun _ _ _ _ _ _ us hl => match us, hl with | [_, _], _ => rfl)⟩
  obtain ⟨pa, h⟩ := spP_body (N := ["_law_pot_here", "_law_many", "_law_pool"]) h
  exact ⟨tS K pa W0 g_l_names, PSs.nox (qs_cons (q_set (ps_set (i := 2) sc_l_names.nd rfl (.inl rfl) (pv_lst (qa_cons v_str (qa_cons v_str (qa_cons v_str (qa_cons v_str (qa_cons v_str (qa_cons v_str (qa_cons v_str (qa_cons v_str (qa_cons v_str (qa_cons v_str (qa_cons v_str (qa_cons v_str qa_nil)))))))))))))))
    (qs_one (q_ret (pv_calP C_l_some (hr.mono (by decide)) hgd (by rfl) (pv 0) (qa_cons (pv_var (pv 2)) (qa_cons (pv_var (pv 1)) qa_nil)))))), h⟩
end
def g_l_tree : S → Ro := (sSeq (sSet 2 (mCalP 0 m_l_of (mCons (mVar 1) mNil)))
    (sRet (mTup (mCons (mCalP 0 m_l_names (mCons (mOp addD (mCB lenD (mCons (mVar 2) mNil)) (mC (.int 1))) mNil)) (mCons (mVar 2) mNil)))))
def m_l_tree : Bw → List D → Rp := mDefP 2 3 g_l_tree
section
variable {P : Program} {w : World} {K : PySem.W.Frag} {mg : Str → Option Value} {base : Heap}
theorem C_l_tree (T : Txt K mg) : Cal P w K mg base 4 "_law_tree" ["_law_pot_here", "_law_shapes_here"] (spP K m_l_tree) := by
  have C_l_names := C_l_names (P := P) (w := w) (base := base) T
  have C_l_of := C_l_of (P := P) (w := w) (base := base) T
  obtain ⟨fd, F⟩ := T.d_l_tree
  refine ⟨_, fd, okG F sc_l_tree (fun vs H Q E h => spP_len h) (fun cdv A outer s H vs Q E hr hgd h => ?_), T.g_l_tree, F.kp, (F.bindsN fun _ _ _ _ _ _ us hl => match us, hl with | [_, _], _ => rfl)⟩
  obtain ⟨pa, h⟩ := spP_body (N := ["_law_pot_here", "_law_shapes_here", "_law_shape"]) h
  exact ⟨tS K pa W0 g_l_tree, PSs.nox (qs_cons (q_set (ps_set (i := 2) sc_l_tree.nd rfl (.inl rfl) (pv_calP C_l_of (hr.mono (by decide)) hgd (by rfl) (pv 0) (qa_cons (pv_var (pv 1)) qa_nil))))
    (qs_one (q_ret (pv_tup (qa_cons (pv_calP C_l_names (hr.mono (by decide)) hgd (by rfl) (pv 0) (qa_cons (pv_op (o_addAll (K := K) rfl) l_add (pv_callB (c_lenAll (K := K) rfl) l_len (by rfl) T.z_len (by decide +kernel) (qa_cons (pv_var (pv 2)) qa_nil)) v_int) qa_nil)) (qa_cons (pv_var (pv 2)) qa_nil)))))), h⟩
end
def g_l_shapes : S → Ro := (sRet (mLst (mCons (mLst (mCons (mC (.int 0)) (mCons (mC (.int 0)) mNil))) (mCons (mLst (mCons (mC (.int 0)) (mCons (mC (.int 0)) (mCons (mC (.int 0)) mNil)))) (mCons (mLst (mCons (mC (.int 0)) (mCons (mC (.int 0)) (mCons (mC (.int 1)) (mCons (mC (.int 1)) mNil))))) (mCons (mLst (mCons (mC (.int 0)) mNil)) (mCons (mLst (mCons (mC (.int 0)) (mCons (mC (.int 1)) (mCons (mC (.int 1)) mNil)))) (mCons (mLst (mCons (mC (.int 0)) (mCons (mC (.int 0)) (mCons (mC (.int 0)) (mCons (mC (.int 0)) mNil))))) (mCons (mLst (mCons (mC (.int 0)) (mCons (mC (.int 0)) (mCons (mC (.int 1)) (mCons (mC (.int 1)) (mCons (mC (.int 2)) mNil)))))) (mCons (mLst (mCons (mC (.int 0)) (mCons (mC (.int 0)) (mCons (mC (.int 1)) (mCons (mC (.int 1)) (mCons (mC (.int 3)) (mCons (mC (.int 3)) mNil))))))) mNil))))))))))
def m_l_shapes : List D → Rv := mDef 0 0 g_l_shapes
section
variable {P : Program} {w : World} {K : PySem.W.Frag} {mg : Str → Option Value} {base : Heap}
theorem C_l_shapes (T : Txt K mg) : Cal P w K mg base 1 "_law_shapes" [] (spV K m_l_shapes) := by
  obtain ⟨fd, F⟩ := T.d_l_shapes
  refine ⟨_, fd, okG F sc_l_shapes (fun vs H Q E h => spV_len h) (fun cdv A outer s H vs Q E hr hgd h => ?_), T.g_l_shapes, F.kp, (F.bindsN fun _ _ _ _ _ _ us hl => match us, hl with | [], _ => rfl)⟩
  exact ⟨tS K ⟨0, []⟩ W0 g_l_shapes, PSs.nox (qs_one (q_ret (pv_lst (qa_cons (pv_lst (qa_cons v_int (qa_cons v_int qa_nil))) (qa_cons (pv_lst (qa_cons v_int (qa_cons v_int (qa_cons v_int qa_nil)))) (qa_cons (pv_lst (qa_cons v_int (qa_cons v_int (qa_cons v_int (qa_cons v_int qa_nil))))) (qa_cons (pv_lst (qa_cons v_int qa_nil)) (qa_cons (pv_lst (qa_cons v_int (qa_cons v_int (qa_cons v_int qa_nil)))) (qa_cons (pv_lst (qa_cons v_int (qa_cons v_int (qa_cons v_int (qa_cons v_int qa_nil))))) (qa_cons (pv_lst (qa_cons v_int (qa_cons v_int (qa_cons v_int (qa_cons v_int (qa_cons v_int qa_nil)))))) (qa_cons (pv_lst (qa_cons v_int (qa_cons v_int (qa_cons v_int (qa_cons v_int (qa_cons v_int (qa_cons v_int qa_nil))))))) qa_nil))))))))))), spV_body h⟩
end
def g_l_units : S → Ro := (sRet (mTup (mCons (mOp addD (mC (.int 2)) (mCalP 0 m_l_take (mCons (mOp subD (mVar 1) (mC (.int 1))) mNil))) (mCons (mCalP 0 m_l_of (mCons (mLst (mCons (mC (.str "near")) (mCons (mC (.str "even")) (mCons (mC (.str "down")) (mCons (mC (.str "up")) mNil))))) mNil)) mNil))))
def m_l_units : Bw → List D → Rp := mDefP 2 2 g_l_units
section
variable {P : Program} {w : World} {K : PySem.W.Frag} {mg : Str → Option Value} {base : Heap}
theorem C_l_units (T : Txt K mg) : Cal P w K mg base 3 "_law_units" ["_law_pot_here", "_law_most"] (spP K m_l_units) := by
  have C_l_of := C_l_of (P := P) (w := w) (base := base) T
  have C_l_take := C_l_take (P := P) (w := w) (base := base) T
  obtain ⟨fd, F⟩ := T.d_l_units
  refine ⟨_, fd, okG F sc_l_units (fun vs H Q E h => spP_len h) (fun cdv A outer s H vs Q E hr hgd h => ?_), T.g_l_units, F.kp, (F.bindsN fun _ _ _ _ _ _ us hl => match us, hl with | [_, _], _ => rfl)⟩
  obtain ⟨pa, h⟩ := spP_body (N := ["_law_pot_here", "_law_most"]) h
  exact ⟨tS K pa W0 g_l_units, PSs.nox (qs_one (q_ret (pv_tup (qa_cons (pv_op (o_addAll (K := K) rfl) l_add v_int (pv_calP C_l_take (hr.mono (by decide)) hgd (by rfl) (pv 0) (qa_cons (pv_op o_sub l_sub (pv_var (pv 1)) v_int) qa_nil))) (qa_cons (pv_calP C_l_of (hr.mono (by decide)) hgd (by rfl) (pv 0) (qa_cons (pv_lst (qa_cons v_str (qa_cons v_str (qa_cons v_str (qa_cons v_str qa_nil))))) qa_nil)) qa_nil))))), h⟩
end
def g_l_rounded : S → Ro := (sSeq (sPar 3 4 (mCons (mOp fdivD (mVar 1) (mVar 2)) (mCons (mOp modD (mCB intD (mCons (mVar 1) mNil)) (mVar 2)) mNil)))
    (sSeq (sIf (mOrT (mTest (mOp eqD (mVar 4) (mC (.int 0)))) (mTest (mOp eqD (mVar 0) (mC (.str "down"))))) (sRet (mVar 3)) sNil)
    (sSeq (sIf (mTest (mOp eqD (mVar 0) (mC (.str "up")))) (sRet (mOp addD (mVar 3) (mC (.int 1)))) sNil)
    (sSeq (sIf (mTest (mOp eqD (mOp mulD (mC (.int 2)) (mVar 4)) (mVar 2))) (sRet (mIf (mOrT (mTest (mOp eqD (mVar 0) (mC (.str "near")))) (mTest (mOp eqD (mOp modD (mCB intD (mCons (mVar 3) mNil)) (mC (.int 2))) (mC (.int 1))))) (mOp addD (mVar 3) (mC (.int 1))) (mVar 3))) sNil)
    (sRet (mIf (mTest (mOp gtD (mOp mulD (mC (.int 2)) (mVar 4)) (mVar 2))) (mOp addD (mVar 3) (mC (.int 1))) (mVar 3)))))))
def m_l_rounded : List D → Rv := mDef 3 5 g_l_rounded
section
variable {P : Program} {w : World} {K : PySem.W.Frag} {mg : Str → Option Value} {base : Heap}
theorem C_l_rounded (T : Txt K mg) : Cal P w K mg base 1 "_law_rounded" ["_law_how", "_law_above", "_law_under"] (spV K m_l_rounded) := by
  obtain ⟨fd, F⟩ := T.d_l_rounded
  refine ⟨_, fd, okG F sc_l_rounded (fun vs H Q E h => spV_len h) (fun cdv A outer s H vs Q E hr hgd h => ?_), T.g_l_rounded, F.kp, (F.bindsN fun _ _ _ _ _ _ us hl => match us, hl with | [_, _, _], _ => rfl)⟩
  exact ⟨tS K ⟨0, []⟩ W0 g_l_rounded, PSs.nox (qs_cons (q_par (ps_par (i := 3) (j := 4) (by rfl) sc_l_rounded.nd rfl rfl (by decide) rfl rfl (qa_cons (pv_op o_fdiv l_fdiv (pv_var (pv 1)) (pv_var (pv 2))) (qa_cons (pv_op o_mod l_mod (pv_callTy c_intAll l_int (by rfl) T.z_int (by decide +kernel) (qa_cons (pv_var (pv 1)) qa_nil)) (pv_var (pv 2))) qa_nil)) (by rfl)))
    (qs_cons (q_if (PW.pt (qw_or (qt_cmp (x_eqD (K := K) rfl hr.units) l_eq (pv_var (pv 4)) v_int (nomark _)) (qw_or1 (qt_cmp (x_eqD (K := K) rfl hr.units) l_eq (pv_var (pv 0)) v_str (nomark _))))) (qs_one (q_ret (pv_var (pv 3)))) qs_nil)
    (qs_cons (q_if (qt_cmp (x_eqD (K := K) rfl hr.units) l_eq (pv_var (pv 0)) v_str (nomark _)) (qs_one (q_ret (pv_op (o_addAll (K := K) rfl) l_add (pv_var (pv 3)) v_int))) qs_nil)
    (qs_cons (q_if (qt_cmp (x_eqD (K := K) rfl hr.units) l_eq (pv_op (o_mulAll (K := K) rfl) l_mul v_int (pv_var (pv 4))) (pv_var (pv 2)) (nomark _)) (qs_one (q_ret (pv_if (PW.pt (qw_or (qt_cmp (x_eqD (K := K) rfl hr.units) l_eq (pv_var (pv 0)) v_str (nomark _)) (qw_or1 (qt_cmp (x_eqD (K := K) rfl hr.units) l_eq (pv_op o_mod l_mod (pv_callTy c_intAll l_int (by rfl) T.z_int (by decide +kernel) (qa_cons (pv_var (pv 3)) qa_nil)) v_int) v_int (nomark _))))) (pv_op (o_addAll (K := K) rfl) l_add (pv_var (pv 3)) v_int) (pv_var (pv 3))))) qs_nil)
    (qs_one (q_ret (pv_if (qt_cmp o_gt l_gt (pv_op (o_mulAll (K := K) rfl) l_mul v_int (pv_var (pv 4))) (pv_var (pv 2)) (nomark _)) (pv_op (o_addAll (K := K) rfl) l_add (pv_var (pv 3)) v_int) (pv_var (pv 3))))))))), spV_body h⟩
end
def g_l_is_right : S → Ro := (sSeq (sIf (mTest (mOp isND (mVar 1) (mC .non))) (sRet (mC (.bl true))) sNil)
    (sSeq (sIf (mTest (mOp eqD (mVar 3) (mC (.int 0)))) (sRet (mC (.bl false))) sNil)
    (sSeq (sIf (mTest (mOp eqD (mVar 1) (mC (.str "none")))) (sRet (mOp eqD (mVar 2) (mC (.int 0)))) sNil)
    (sSeq (sIf (mTest (mOp eqD (mVar 1) (mC (.str "some")))) (sRet (mChain ltD ltD (mC (.int 0)) (mOp mulD (mOp ixD (mVar 0) (mC (.int 0))) (mVar 2)) (mVar 3))) sNil)
    (sRet (mOp eqD (mCal m_l_rounded (mCons (mOp ixD (mVar 0) (mC (.int 1))) (mCons (mOp mulD (mOp ixD (mVar 0) (mC (.int 0))) (mVar 2)) (mCons (mVar 3) mNil)))) (mVar 1)))))))
def m_l_is_right : List D → Rv := mDef 4 4 g_l_is_right
section
variable {P : Program} {w : World} {K : PySem.W.Frag} {mg : Str → Option Value} {base : Heap}
theorem C_l_is_right (T : Txt K mg) : Cal P w K mg base 2 "_law_is_right" ["_law_units_here", "_law_share", "_law_many", "_law_whole"] (spV K m_l_is_right) := by
  have C_l_rounded := C_l_rounded (P := P) (w := w) (base := base) T
  obtain ⟨fd, F⟩ := T.d_l_is_right
  refine ⟨_, fd, okG F sc_l_is_right (fun vs H Q E h => spV_len h) (fun cdv A outer s H vs Q E hr hgd h => ?_), T.g_l_is_right, F.kp, (F.bindsN fun _ _ _ _ _ _ us hl => match us, hl with | [_, _, _, _], _ => rfl)⟩
  exact ⟨tS K ⟨0, []⟩ W0 g_l_is_right, PSs.nox (qs_cons (q_if (qt_cmp o_isN l_isN (pv_var (pv 1)) v_non (nomark _)) (qs_one (q_ret v_bl)) qs_nil)
    (qs_cons (q_if (qt_cmp (x_eqD (K := K) rfl hr.units) l_eq (pv_var (pv 3)) v_int (nomark _)) (qs_one (q_ret v_bl)) qs_nil)
    (qs_cons (q_if (qt_cmp (x_eqD (K := K) rfl hr.units) l_eq (pv_var (pv 1)) v_str (nomark _)) (qs_one (q_ret (pv_cmp (x_eqD (K := K) rfl hr.units) l_eq (pv_var (pv 2)) v_int (nomark _)))) qs_nil)
    (qs_cons (q_if (qt_cmp (x_eqD (K := K) rfl hr.units) l_eq (pv_var (pv 1)) v_str (nomark _)) (qs_one (q_ret (pv_chain o_lt l_lt o_lt l_lt v_int (pv_op (o_mulAll (K := K) rfl) l_mul (pv_ix (x_ix (K := K) rfl) l_ix (pv_var (pv 0)) v_int (fun _ _ => rfl)) (pv_var (pv 2))) (pv_var (pv 3))))) qs_nil)
    (qs_one (q_ret (pv_cmp (x_eqD (K := K) rfl hr.units) l_eq (pv_cal C_l_rounded (hr.mono (by decide)) hgd (by rfl) (qa_cons (pv_ix (x_ix (K := K) rfl) l_ix (pv_var (pv 0)) v_int (fun _ _ => rfl)) (qa_cons (pv_op (o_mulAll (K := K) rfl) l_mul (pv_ix (x_ix (K := K) rfl) l_ix (pv_var (pv 0)) v_int (fun _ _ => rfl)) (pv_var (pv 2))) (qa_cons (pv_var (pv 3)) qa_nil)))) (pv_var (pv 1)) (nomark _)))))))), spV_body h⟩
end
end Ak
namespace Ak
open PySem PySem.Spec PyProof.Rows L2
def g_units_in : S → Ro := (sSeq (sSet 1 (mS1 splitD (mVar 0) (mC (.str " "))))
    (sSeq (sIf (mOrT (mTest (mOp neD (mCB lenD (mCons (mVar 1) mNil)) (mC (.int 3)))) (mTest (mOp neD (mOp ixD (mVar 1) (mC (.int 0))) (mC (.str "in"))))) (sRet (mC .non)) sNil)
    (sSeq (sSet 2 (mTup (mCons (mCal m_number_in (mCons (mOp ixD (mVar 1) (mC (.int 1))) mNil)) (mCons (mOp ixD (mVar 1) (mC (.int 2))) mNil))))
    (sRet (mIf (mTest (mCal m_is_units (mCons (mVar 2) mNil))) (mVar 2) (mC .non))))))
def m_units_in : List D → Rv := mDef 1 3 g_units_in
section
variable {P : Program} {w : World} {K : PySem.W.Frag} {mg : Str → Option Value} {base : Heap}
theorem C_units_in (T : Txt K mg) : Cal P w K mg base 4 "units_in" ["line"] (spV K m_units_in) := by
  have C_is_units := C_is_units (P := P) (w := w) (base := base) T
  have C_number_in := C_number_in (P := P) (w := w) (base := base) T
  obtain ⟨fd, F⟩ := T.d_units_in
  refine ⟨_, fd, okG F sc_units_in (fun vs H Q E h => spV_len h) (fun cdv A outer s H vs Q E hr hgd h => ?_), T.g_units_in, F.kp, (F.bindsN fun _ _ _ _ _ _ us hl => match us, hl with | [_], _ => rfl)⟩
  exact ⟨tS K ⟨0, []⟩ W0 g_units_in, PSs.nox (qs_cons (q_set (ps_set (i := 1) sc_units_in.nd rfl (.inl rfl) (pv_split (pv_var (pv 0)) (pv_c (pe_cs T.c_BLANK rfl) (fun _ => .str _)))))
    (qs_cons (q_if (PW.pt (qw_or (qt_cmp (x_neD (K := K) rfl hr.units) l_ne (pv_callB (c_lenAll (K := K) rfl) l_len (by rfl) T.z_len (by decide +kernel) (qa_cons (pv_var (pv 1)) qa_nil)) (pv_c (pe_ci T.c_UNITS_WORDS rfl) (fun _ => .int _)) (nomark _)) (qw_or1 (qt_cmp (x_neD (K := K) rfl hr.units) l_ne (pv_ix (x_ix (K := K) rfl) l_ix (pv_var (pv 1)) v_int (fun _ _ => rfl)) (pv_c (pe_cs T.c_IN rfl) (fun _ => .str _)) (nomark _))))) (qs_one (q_ret v_non)) qs_nil)
    (qs_cons (q_set (ps_set (i := 2) sc_units_in.nd rfl (.inl rfl) (pv_tup (qa_cons (pv_cal C_number_in (hr.mono (by decide)) hgd (by rfl) (qa_cons (pv_ix (x_ix (K := K) rfl) l_ix (pv_var (pv 1)) v_int (fun _ _ => rfl)) qa_nil)) (qa_cons (pv_ix (x_ix (K := K) rfl) l_ix (pv_var (pv 1)) v_int (fun _ _ => rfl)) qa_nil)))))
    (qs_one (q_ret (pv_if (qt_val (pv_cal C_is_units (hr.mono (by decide)) hgd (by rfl) (qa_cons (pv_var (pv 2)) qa_nil))) (pv_var (pv 2)) v_non)))))), spV_body h⟩
end
def g_ends_beneath : S → Ro := (sSeq (sParMM 2 3 (mMkL mNil) (mMkL (mCons (mVar 1) mNil)))
    (sSeq (whileL (mTest (mOpL 3 neD (mLst mNil))) (sSeq (sSet 4 (mPop 3))
    (sSeq (sSet 5 (mFrz (mComp (mIter itemsD (pureR (mVarP 0))) (bTup 2 (bCons (bName 6) (bCons (bName 7) bNil))) (mTest (mOp eqD (mOp ixD (mVar 7) (mC (.int 0))) (mVar 4))) (mVar 6) [6, 7])))
    (sSeq (sExt 3 (mCons (mVar 5) mNil))
    (sIf (mTest (mOp eqD (mVar 5) (mLst mNil))) (sApp 2 (mCons (mVar 4) mNil)) sNil)))) 10000)
    (sRet (mVar 2))))
def m_ends_beneath : List D → Rv := mDef 2 8 g_ends_beneath
section
variable {P : Program} {w : World} {K : PySem.W.Frag} {mg : Str → Option Value} {base : Heap}
theorem C_ends_beneath (T : Txt K mg) : Cal P w K mg base 1 "ends_beneath" ["rows", "part"] (spV K m_ends_beneath) := by
  obtain ⟨fd, F⟩ := T.d_ends_beneath
  refine ⟨_, fd, okG F sc_ends_beneath (fun vs H Q E h => spV_len h) (fun cdv A outer s H vs Q E hr hgd h => ?_), T.g_ends_beneath, F.kp, (F.bindsN fun _ _ _ _ _ _ us hl => match us, hl with | [_, _], _ => rfl)⟩
  exact ⟨tS K ⟨0, []⟩ W0 g_ends_beneath, PSs.nox (qs_cons (q_parMM (by decide) (ps_par (i := 2) (j := 3) (by rfl) sc_ends_beneath.nd rfl rfl (by decide) rfl rfl (pa_cons (pm_lst qa_nil) (pa_cons (pm_lst (qa_cons (pv_var (pv 1)) qa_nil)) pa_nil)) (by rfl)))
    (qs_cons (q_while (n := 10000) PassesOwn.never (qt_cmpL (x_neD (K := K) rfl hr.units) l_ne (pv 3) (pv_lst qa_nil) (nomark _)) (qs_cons (q_set (ps_set (i := 4) sc_ends_beneath.nd rfl (.inr rfl) (pv_pop (pe_bm0 PySem.F.plainAttrs_list PySem.F.slot_list_pop PySem.F.type_list_pop mt_pop (pv 3)))))
    (qs_cons (q_set (q_asgFrz (q_asgDComp dw_items pur_var (ps_setLc (i := 5) (own := [("other", 6), ("row", 7)]) rfl sc_ends_beneath.nd rfl rfl (sw_true rfl rfl rfl (by decide +kernel)) (pi_items (pv 0)) (blkOk_by (own := [("other", 6), ("row", 7)]) (N := ["rows", "part", "found", "left", "name", "beneath", "other", "row"]) (sc := defScope s_ends_beneath) (by decide +kernel)) (fun _ _ _ _ _ => (qg_tup (K := K) (n := 2) rfl rfl (qgs_cons (qg_name (i := 6) sc_ends_beneath.nd rfl (.inl rfl)) (qgs_cons (qg_name (i := 7) sc_ends_beneath.nd rfl (.inl rfl)) qgs_nil)))) (fun _ _ _ _ _ => (pts_one (qt_cmp (x_eqD (K := K) rfl hr.units) l_eq (pv_ix (x_ix (K := K) rfl) l_ix (pv_var (pv 7)) v_int (fun _ _ => rfl)) (pv_var (pv 4)) (nomark _)))) (fun _ _ _ _ _ => (pv_var (pv 6)))) (fun _ _ _ z => z) (by decide))))
    (qs_cons (q_ext (ps_expr (pe_bm PySem.F.plainAttrs_list PySem.F.slot_list_extend PySem.F.type_list_extend mt_extend (pv 3) (qa_cons (pv_var (pv 5)) qa_nil))))
    (qs_one (q_if (qt_cmp (x_eqD (K := K) rfl hr.units) l_eq (pv_var (pv 5)) (pv_lst qa_nil) (nomark _)) (qs_one (q_app (ps_expr (pe_bm PySem.F.plainAttrs_list PySem.F.slot_list_append PySem.F.type_list_append mt_append (pv 2) (qa_cons (pv_var (pv 4)) qa_nil))))) qs_nil))))))
    (qs_one (q_ret (pv_var (pv 2)))))), spV_body h⟩
end
def g_weights_in : S → Ro := (sSeq (sSet 3 (mCal m_ends_beneath (mCons (mVar 0) (mCons (mVar 1) mNil))))
    (sRet (mCB tupleD (mCons (mFrz (mComp (mIter iterD (mVar 2)) (bName 4) mYes (mCB intD (mCons (mOp inD (mVar 4) (mVar 3)) mNil)) [4])) mNil))))
def m_weights_in : List D → Rv := mDef 3 5 g_weights_in
section
variable {P : Program} {w : World} {K : PySem.W.Frag} {mg : Str → Option Value} {base : Heap}
theorem C_weights_in (T : Txt K mg) : Cal P w K mg base 2 "weights_in" ["rows", "part", "ends"] (spV K m_weights_in) := by
  have C_ends_beneath := C_ends_beneath (P := P) (w := w) (base := base) T
  obtain ⟨fd, F⟩ := T.d_weights_in
  refine ⟨_, fd, okG F sc_weights_in (fun vs H Q E h => spV_len h) (fun cdv A outer s H vs Q E hr hgd h => ?_), T.g_weights_in, F.kp, (F.bindsN fun _ _ _ _ _ _ us hl => match us, hl with | [_, _, _], _ => rfl)⟩
  exact ⟨tS K ⟨0, []⟩ W0 g_weights_in, PSs.nox (qs_cons (q_set (ps_set (i := 3) sc_weights_in.nd rfl (.inr rfl) (pv_cal C_ends_beneath (hr.mono (by decide)) hgd (by rfl) (qa_cons (pv_var (pv 0)) (qa_cons (pv_var (pv 1)) qa_nil)))))
    (qs_one (q_ret (pv_callTy (c_tupleOf (K := K) rfl) l_tuple (by rfl) T.z_tuple (by decide +kernel) (qa_cons (pv_frz (pm_comp (pe_lc (own := [("end", 4)]) rfl sc_weights_in.nd (qi_any (K := K) rfl (pv_var (pv 2))) (blkOk_by (own := [("end", 4)]) (N := ["rows", "part", "ends", "own", "end"]) (sc := defScope s_weights_in) (by decide +kernel)) (fun _ _ _ _ _ => (qg_name (i := 4) sc_weights_in.nd rfl (.inl rfl))) (fun _ _ _ _ _ => pts_nil) (fun _ _ _ _ _ => (pv_callTy c_intAll l_int (by rfl) T.z_int (by decide +kernel) (qa_cons (pv_cmp (o_inAll (K := K) rfl) l_in (pv_var (pv 4)) (pv_var (pv 3)) (by rfl)) qa_nil)))) (fun _ _ _ z => yes_of z) (by decide))) qa_nil))))), spV_body h⟩
end
def g_l_parts : S → Ro := (sRet (mOp addD (mLst (mCons (mOp dgetD (mVar 0) (mC (.str "first"))) mNil)) (mFrz (mComp (mIter iterD (mOp dgetD (mVar 0) (mC (.str "rows")))) (bName 1) mYes (mOp ixD (mVar 1) (mC (.int 0))) [1]))))
def m_l_parts : List D → Rv := mDef 1 2 g_l_parts
section
variable {P : Program} {w : World} {K : PySem.W.Frag} {mg : Str → Option Value} {base : Heap}
theorem C_l_parts (T : Txt K mg) : Cal P w K mg base 1 "_law_parts" ["_law_lore_here"] (spV K m_l_parts) := by
  obtain ⟨fd, F⟩ := T.d_l_parts
  refine ⟨_, fd, okG F sc_l_parts (fun vs H Q E h => spV_len h) (fun cdv A outer s H vs Q E hr hgd h => ?_), T.g_l_parts, F.kp, (F.bindsN fun _ _ _ _ _ _ us hl => match us, hl with | [_], _ => rfl)⟩
  exact ⟨tS K ⟨0, []⟩ W0 g_l_parts, PSs.nox (qs_one (q_ret (pv_op (o_addAll (K := K) rfl) l_add (pv_lst (qa_cons (pv_dget (u1 hr) (pv_var (pv 0)) v_str (fun _ _ => rfl)) qa_nil)) (pv_frz (pm_comp (pe_lc (own := [("_law_row", 1)]) rfl sc_l_parts.nd (qi_any (K := K) rfl (pv_dget (u1 hr) (pv_var (pv 0)) v_str (fun _ _ => rfl))) (blkOk_by (own := [("_law_row", 1)]) (N := ["_law_lore_here", "_law_row"]) (sc := defScope s_l_parts) (by decide +kernel)) (fun _ _ _ _ _ => (qg_name (i := 1) sc_l_parts.nd rfl (.inl rfl))) (fun _ _ _ _ _ => pts_nil) (fun _ _ _ _ _ => (pv_ix (x_ix (K := K) rfl) l_ix (pv_var (pv 1)) v_int (fun _ _ => rfl)))) (fun _ _ _ z => yes_of z) (by decide)))))), spV_body h⟩
end
def g_l_ends : S → Ro := (sSeq (sSet 1 (mFrz (mComp (mIter iterD (mOp dgetD (mVar 0) (mC (.str "rows")))) (bName 2) mYes (mOp ixD (mVar 2) (mC (.int 1))) [2])))
    (sRet (mFrz (mComp (mIter iterD (mCal m_l_parts (mCons (mVar 0) mNil))) (bName 3) (mTest (mOp notInD (mVar 3) (mVar 1))) (mVar 3) [3]))))
def m_l_ends : List D → Rv := mDef 1 4 g_l_ends
section
variable {P : Program} {w : World} {K : PySem.W.Frag} {mg : Str → Option Value} {base : Heap}
theorem C_l_ends (T : Txt K mg) : Cal P w K mg base 2 "_law_ends" ["_law_lore_here"] (spV K m_l_ends) := by
  have C_l_parts := C_l_parts (P := P) (w := w) (base := base) T
  obtain ⟨fd, F⟩ := T.d_l_ends
  refine ⟨_, fd, okG F sc_l_ends (fun vs H Q E h => spV_len h) (fun cdv A outer s H vs Q E hr hgd h => ?_), T.g_l_ends, F.kp, (F.bindsN fun _ _ _ _ _ _ us hl => match us, hl with | [_], _ => rfl)⟩
  exact ⟨tS K ⟨0, []⟩ W0 g_l_ends, PSs.nox (qs_cons (q_set (ps_set (i := 1) sc_l_ends.nd rfl (.inr rfl) (pv_frz (pm_comp (pe_lc (own := [("_law_row", 2)]) rfl sc_l_ends.nd (qi_any (K := K) rfl (pv_dget (u1 hr) (pv_var (pv 0)) v_str (fun _ _ => rfl))) (blkOk_by (own := [("_law_row", 2)]) (N := ["_law_lore_here", "_law_wholes", "_law_row", "_law_part"]) (sc := defScope s_l_ends) (by decide +kernel)) (fun _ _ _ _ _ => (qg_name (i := 2) sc_l_ends.nd rfl (.inl rfl))) (fun _ _ _ _ _ => pts_nil) (fun _ _ _ _ _ => (pv_ix (x_ix (K := K) rfl) l_ix (pv_var (pv 2)) v_int (fun _ _ => rfl)))) (fun _ _ _ z => yes_of z) (by decide)))))
    (qs_one (q_ret (pv_frz (pm_comp (pe_lc (own := [("_law_part", 3)]) rfl sc_l_ends.nd (qi_any (K := K) rfl (pv_cal C_l_parts (hr.mono (by decide)) hgd (by rfl) (qa_cons (pv_var (pv 0)) qa_nil))) (blkOk_by (own := [("_law_part", 3)]) (N := ["_law_lore_here", "_law_wholes", "_law_row", "_law_part"]) (sc := defScope s_l_ends) (by decide +kernel)) (fun _ _ _ _ _ => (qg_name (i := 3) sc_l_ends.nd rfl (.inl rfl))) (fun _ _ _ _ _ => (pts_one (qt_cmp (o_notInAll (K := K) rfl) l_notIn (pv_var (pv 3)) (pv_var (pv 1)) (by rfl)))) (fun _ _ _ _ _ => (pv_var (pv 3)))) (fun _ _ _ z => z) (by decide)))))), spV_body h⟩
end
def g_l_ends_of : S → Ro := (sSeq (sMk 2 (mMkL (mCons (mVar 1) mNil)))
    (sSeq (sFor (mIter iterD (mOp dgetD (mVar 0) (mC (.str "rows")))) (bTup 4 (bCons (bName 3) (bCons (bName 4) (bCons (bName 5) (bCons (bName 6) bNil)))))
    (sIf (mTest (mOpR inD (mVar 4) 2)) (sApp 2 (mCons (mVar 3) mNil)) sNil))
    (sRet (mFrz (mComp (mIter iterD (mCal m_l_ends (mCons (mVar 0) mNil))) (bName 7) (mTest (mOpR inD (mVar 7) 2)) (mVar 7) [7])))))
def m_l_ends_of : List D → Rv := mDef 2 8 g_l_ends_of
section
variable {P : Program} {w : World} {K : PySem.W.Frag} {mg : Str → Option Value} {base : Heap}
theorem C_l_ends_of (T : Txt K mg) : Cal P w K mg base 3 "_law_ends_of" ["_law_lore_here", "_law_part"] (spV K m_l_ends_of) := by
  have C_l_ends := C_l_ends (P := P) (w := w) (base := base) T
  obtain ⟨fd, F⟩ := T.d_l_ends_of
  refine ⟨_, fd, okG F sc_l_ends_of (fun vs H Q E h => spV_len h) (fun cdv A outer s H vs Q E hr hgd h => ?_), T.g_l_ends_of, F.kp, (F.bindsN fun _ _ _ _ _ _ us hl => match us, hl with | [_, _], _ => rfl)⟩
  exact ⟨tS K ⟨0, []⟩ W0 g_l_ends_of, PSs.nox (qs_cons (q_mk (ps_set (i := 2) sc_l_ends_of.nd rfl (.inr rfl) (pm_lst (qa_cons (pv_var (pv 1)) qa_nil))))
    (qs_cons (q_for PassesOwn.never rfl (qi_any (K := K) rfl (pv_dget (u1 hr) (pv_var (pv 0)) v_str (fun _ _ => rfl))) (qg_tup (K := K) (n := 4) rfl rfl (qgs_cons (qg_name (i := 3) sc_l_ends_of.nd rfl (.inl rfl)) (qgs_cons (qg_name (i := 4) sc_l_ends_of.nd rfl (.inl rfl)) (qgs_cons (qg_name (i := 5) sc_l_ends_of.nd rfl (.inl rfl)) (qgs_cons (qg_name (i := 6) sc_l_ends_of.nd rfl (.inl rfl)) qgs_nil)))))
    (qs_one (q_if (qt_cmpRt (o_inAll (K := K) rfl) l_in (pv_var (pv 4)) (pv 2) (by rfl)) (qs_one (q_app (ps_expr (pe_bm PySem.F.plainAttrs_list PySem.F.slot_list_append PySem.F.type_list_append mt_append (pv 2) (qa_cons (pv_var (pv 3)) qa_nil))))) qs_nil)))
    (qs_one (q_ret (pv_frz (pm_comp (pe_lc (own := [("_law_end", 7)]) rfl sc_l_ends_of.nd (qi_any (K := K) rfl (pv_cal C_l_ends (hr.mono (by decide)) hgd (by rfl) (qa_cons (pv_var (pv 0)) qa_nil))) (blkOk_by (own := [("_law_end", 7)]) (N := ["_law_lore_here", "_law_part", "_law_known", "_law_name", "_law_above", "_law_share", "_law_far", "_law_end"]) (sc := defScope s_l_ends_of) (by decide +kernel)) (fun _ _ _ _ _ => (qg_name (i := 7) sc_l_ends_of.nd rfl (.inl rfl))) (fun _ _ _ _ _ => (pts_one (qt_cmpRt (o_inAll (K := K) rfl) l_in (pv_var (pv 7)) (pv 2) (by rfl)))) (fun _ _ _ _ _ => (pv_var (pv 7)))) (fun _ _ _ z => z) (by decide))))))), spV_body h⟩
end
def g_l_weights : S → Ro := (sSeq (sSet 2 (mCal m_l_ends_of (mCons (mVar 0) (mCons (mVar 1) mNil))))
    (sRet (mCB tupleD (mCons (mFrz (mComp (mIter iterD (mCal m_l_ends (mCons (mVar 0) mNil))) (bName 3) mYes (mCB intD (mCons (mOp inD (mVar 3) (mVar 2)) mNil)) [3])) mNil))))
def m_l_weights : List D → Rv := mDef 2 4 g_l_weights
section
variable {P : Program} {w : World} {K : PySem.W.Frag} {mg : Str → Option Value} {base : Heap}
theorem C_l_weights (T : Txt K mg) : Cal P w K mg base 4 "_law_weights" ["_law_lore_here", "_law_part"] (spV K m_l_weights) := by
  have C_l_ends := C_l_ends (P := P) (w := w) (base := base) T
  have C_l_ends_of := C_l_ends_of (P := P) (w := w) (base := base) T
  obtain ⟨fd, F⟩ := T.d_l_weights
  refine ⟨_, fd, okG F sc_l_weights (fun vs H Q E h => spV_len h) (fun cdv A outer s H vs Q E hr hgd h => ?_), T.g_l_weights, F.kp, (F.bindsN fun _ _ _ _ _ _ us hl => match us, hl with | [_, _], _ => rfl)⟩
  exact ⟨tS K ⟨0, []⟩ W0 g_l_weights, PSs.nox (qs_cons (q_set (ps_set (i := 2) sc_l_weights.nd rfl (.inr rfl) (pv_cal C_l_ends_of (hr.mono (by decide)) hgd (by rfl) (qa_cons (pv_var (pv 0)) (qa_cons (pv_var (pv 1)) qa_nil)))))
    (qs_one (q_ret (pv_callTy (c_tupleOf (K := K) rfl) l_tuple (by rfl) T.z_tuple (by decide +kernel) (qa_cons (pv_frz (pm_comp (pe_lc (own := [("_law_end", 3)]) rfl sc_l_weights.nd (qi_any (K := K) rfl (pv_cal C_l_ends (hr.mono (by decide)) hgd (by rfl) (qa_cons (pv_var (pv 0)) qa_nil))) (blkOk_by (own := [("_law_end", 3)]) (N := ["_law_lore_here", "_law_part", "_law_own", "_law_end"]) (sc := defScope s_l_weights) (by decide +kernel)) (fun _ _ _ _ _ => (qg_name (i := 3) sc_l_weights.nd rfl (.inl rfl))) (fun _ _ _ _ _ => pts_nil) (fun _ _ _ _ _ => (pv_callTy c_intAll l_int (by rfl) T.z_int (by decide +kernel) (qa_cons (pv_cmp (o_inAll (K := K) rfl) l_in (pv_var (pv 3)) (pv_var (pv 2)) (by rfl)) qa_nil)))) (fun _ _ _ z => yes_of z) (by decide))) qa_nil))))), spV_body h⟩
end
def g_l_number : S → Ro := (sRet (mCB sumD (mCons (mFrz (mComp (mZip (mCons (mCal m_l_weights (mCons (mVar 0) (mCons (mVar 2) mNil))) (mCons (mVar 1) mNil))) (bTup 2 (bCons (bName 3) (bCons (bName 4) bNil))) mYes (mOp mulD (mVar 3) (mVar 4)) [3, 4])) mNil)))
def m_l_number : List D → Rv := mDef 3 5 g_l_number
section
variable {P : Program} {w : World} {K : PySem.W.Frag} {mg : Str → Option Value} {base : Heap}
theorem C_l_number (T : Txt K mg) : Cal P w K mg base 5 "_law_number" ["_law_lore_here", "_law_counts", "_law_part"] (spV K m_l_number) := by
  have C_l_weights := C_l_weights (P := P) (w := w) (base := base) T
  obtain ⟨fd, F⟩ := T.d_l_number
  refine ⟨_, fd, okG F sc_l_number (fun vs H Q E h => spV_len h) (fun cdv A outer s H vs Q E hr hgd h => ?_), T.g_l_number, F.kp, (F.bindsN fun _ _ _ _ _ _ us hl => match us, hl with | [_, _, _], _ => rfl)⟩
  exact ⟨tS K ⟨0, []⟩ W0 g_l_number, PSs.nox (qs_one (q_ret (pv_callB (x_sumA (K := K) rfl rfl) l_sum (by rfl) T.z_sum (by decide +kernel) (qa_cons (pv_frz (pm_comp (pe_lc (own := [("_law_weight", 3), ("_law_many", 4)]) rfl sc_l_number.nd (qi_zip (K := K) rfl (by rfl) T.z_zip (qa_cons (pv_cal C_l_weights (hr.mono (by decide)) hgd (by rfl) (qa_cons (pv_var (pv 0)) (qa_cons (pv_var (pv 2)) qa_nil))) (qa_cons (pv_var (pv 1)) qa_nil))) (blkOk_by (own := [("_law_weight", 3), ("_law_many", 4)]) (N := ["_law_lore_here", "_law_counts", "_law_part", "_law_weight", "_law_many"]) (sc := defScope s_l_number) (by decide +kernel)) (fun _ _ _ _ _ => (qg_tup (K := K) (n := 2) rfl rfl (qgs_cons (qg_name (i := 3) sc_l_number.nd rfl (.inl rfl)) (qgs_cons (qg_name (i := 4) sc_l_number.nd rfl (.inl rfl)) qgs_nil)))) (fun _ _ _ _ _ => pts_nil) (fun _ _ _ _ _ => (pv_op (o_mulAll (K := K) rfl) l_mul (pv_var (pv 3)) (pv_var (pv 4))))) (fun _ _ _ z => yes_of z) (by decide))) qa_nil)))), spV_body h⟩
end
def g_l_fits : S → Ro := (sSeq (sFor (mIter iterD (mOp dgetD (mVar 0) (mC (.str "rows")))) (bTup 4 (bCons (bName 2) (bCons (bName 3) (bCons (bName 4) (bCons (bName 5) bNil)))))
    (sSeq (sSet 6 (mCal m_l_number (mCons (mVar 0) (mCons (mVar 1) (mCons (mVar 2) mNil)))))
    (sSeq (sIf (mNotT (mTest (mCal m_l_is_right (mCons (mOp dgetD (mVar 0) (mC (.str "units"))) (mCons (mVar 4) (mCons (mVar 6) (mCons (mCal m_l_number (mCons (mVar 0) (mCons (mVar 1) (mCons (mVar 3) mNil)))) mNil))))))) (sRet (mC (.bl false))) sNil)
    (sIf (mNotT (mTest (mCal m_l_is_right (mCons (mOp dgetD (mVar 0) (mC (.str "units"))) (mCons (mVar 5) (mCons (mVar 6) (mCons (mCB sumD (mCons (mVar 1) mNil)) mNil))))))) (sRet (mC (.bl false))) sNil))))
    (sRet (mC (.bl true))))
def m_l_fits : List D → Rv := mDef 2 7 g_l_fits
section
variable {P : Program} {w : World} {K : PySem.W.Frag} {mg : Str → Option Value} {base : Heap}
theorem C_l_fits (T : Txt K mg) : Cal P w K mg base 6 "_law_fits" ["_law_lore_here", "_law_counts"] (spV K m_l_fits) := by
  have C_l_is_right := C_l_is_right (P := P) (w := w) (base := base) T
  have C_l_number := C_l_number (P := P) (w := w) (base := base) T
  obtain ⟨fd, F⟩ := T.d_l_fits
  refine ⟨_, fd, okG F sc_l_fits (fun vs H Q E h => spV_len h) (fun cdv A outer s H vs Q E hr hgd h => ?_), T.g_l_fits, F.kp, (F.bindsN fun _ _ _ _ _ _ us hl => match us, hl with | [_, _], _ => rfl)⟩
  exact ⟨tS K ⟨0, []⟩ W0 g_l_fits, PSs.nox (qs_cons (q_for PassesOwn.never rfl (qi_any (K := K) rfl (pv_dget (u1 hr) (pv_var (pv 0)) v_str (fun _ _ => rfl))) (qg_tup (K := K) (n := 4) rfl rfl (qgs_cons (qg_name (i := 2) sc_l_fits.nd rfl (.inl rfl)) (qgs_cons (qg_name (i := 3) sc_l_fits.nd rfl (.inl rfl)) (qgs_cons (qg_name (i := 4) sc_l_fits.nd rfl (.inl rfl)) (qgs_cons (qg_name (i := 5) sc_l_fits.nd rfl (.inl rfl)) qgs_nil)))))
    (qs_cons (q_set (ps_set (i := 6) sc_l_fits.nd rfl (.inl rfl) (pv_cal C_l_number (hr.mono (by decide)) hgd (by rfl) (qa_cons (pv_var (pv 0)) (qa_cons (pv_var (pv 1)) (qa_cons (pv_var (pv 2)) qa_nil))))))
    (qs_cons (q_if (qt_not (qt_val (pv_cal C_l_is_right (hr.mono (by decide)) hgd (by rfl) (qa_cons (pv_dget (u1 hr) (pv_var (pv 0)) v_str (fun _ _ => rfl)) (qa_cons (pv_var (pv 4)) (qa_cons (pv_var (pv 6)) (qa_cons (pv_cal C_l_number (hr.mono (by decide)) hgd (by rfl) (qa_cons (pv_var (pv 0)) (qa_cons (pv_var (pv 1)) (qa_cons (pv_var (pv 3)) qa_nil)))) qa_nil))))))) (qs_one (q_ret v_bl)) qs_nil)
    (qs_one (q_if (qt_not (qt_val (pv_cal C_l_is_right (hr.mono (by decide)) hgd (by rfl) (qa_cons (pv_dget (u1 hr) (pv_var (pv 0)) v_str (fun _ _ => rfl)) (qa_cons (pv_var (pv 5)) (qa_cons (pv_var (pv 6)) (qa_cons (pv_callB (x_sumA (K := K) rfl rfl) l_sum (by rfl) T.z_sum (by decide +kernel) (qa_cons (pv_var (pv 1)) qa_nil)) qa_nil))))))) (qs_one (q_ret v_bl)) qs_nil)))))
    (qs_one (q_ret v_bl))), spV_body h⟩
end
def g_l_share_of : S → Ro := (sSeq (sIf (mOrT (mTest (mOp eqD (mVar 3) (mC (.int 0)))) (mTest (mOp eqD (mCalP 0 m_l_take (mCons (mC (.int 4)) mNil)) (mC (.int 0))))) (sRet (mC .non)) sNil)
    (sSeq (sIf (mAndT (mTest (mOp eqD (mVar 2) (mC (.int 0)))) (mTest (mOp eqD (mCalP 0 m_l_take (mCons (mC (.int 3)) mNil)) (mC (.int 0))))) (sRet (mC (.str "none"))) sNil)
    (sSeq (sIf (mAndT (mTest (mChain ltD ltD (mC (.int 0)) (mOp mulD (mOp ixD (mVar 1) (mC (.int 0))) (mVar 2)) (mVar 3))) (mTest (mOp eqD (mCalP 0 m_l_take (mCons (mC (.int 2)) mNil)) (mC (.int 0))))) (sRet (mC (.str "some"))) sNil)
    (sRet (mCal m_l_rounded (mCons (mOp ixD (mVar 1) (mC (.int 1))) (mCons (mOp mulD (mOp ixD (mVar 1) (mC (.int 0))) (mVar 2)) (mCons (mVar 3) mNil))))))))
def m_l_share_of : Bw → List D → Rp := mDefP 4 4 g_l_share_of
section
variable {P : Program} {w : World} {K : PySem.W.Frag} {mg : Str → Option Value} {base : Heap}
theorem C_l_share_of (T : Txt K mg) : Cal P w K mg base 2 "_law_share_of" ["_law_pot_here", "_law_units_here", "_law_many", "_law_whole"] (spP K m_l_share_of) := by
  have C_l_rounded := C_l_rounded (P := P) (w := w) (base := base) T
  have C_l_take := C_l_take (P := P) (w := w) (base := base) T
  obtain ⟨fd, F⟩ := T.d_l_share_of
  refine ⟨_, fd, okG F sc_l_share_of (fun vs H Q E h => spP_len h) (fun cdv A outer s H vs Q E hr hgd h => ?_), T.g_l_share_of, F.kp, (F.bindsN fun _ _ _ _ _ _ us hl => match us, hl with | [_, _, _, _], _ => rfl)⟩
  obtain ⟨pa, h⟩ := spP_body (N := ["_law_pot_here", "_law_units_here", "_law_many", "_law_whole"]) h
  exact ⟨tS K pa W0 g_l_share_of, PSs.nox (qs_cons (q_if (PW.pt (qw_or (qt_cmp (x_eqD (K := K) rfl hr.units) l_eq (pv_var (pv 3)) v_int (nomark _)) (qw_or1 (qt_cmp (x_eqD (K := K) rfl hr.units) l_eq (pv_calP C_l_take (hr.mono (by decide)) hgd (by rfl) (pv 0) (qa_cons v_int qa_nil)) v_int (nomark _))))) (qs_one (q_ret v_non)) qs_nil)
    (qs_cons (q_if (PW.pt (qw_and (qt_cmp (x_eqD (K := K) rfl hr.units) l_eq (pv_var (pv 2)) v_int (nomark _)) (qw_and1 (qt_cmp (x_eqD (K := K) rfl hr.units) l_eq (pv_calP C_l_take (hr.mono (by decide)) hgd (by rfl) (pv 0) (qa_cons v_int qa_nil)) v_int (nomark _))))) (qs_one (q_ret v_str)) qs_nil)
    (qs_cons (q_if (PW.pt (qw_and (qt_chain o_lt l_lt o_lt l_lt v_int (pv_op (o_mulAll (K := K) rfl) l_mul (pv_ix (x_ix (K := K) rfl) l_ix (pv_var (pv 1)) v_int (fun _ _ => rfl)) (pv_var (pv 2))) (pv_var (pv 3))) (qw_and1 (qt_cmp (x_eqD (K := K) rfl hr.units) l_eq (pv_calP C_l_take (hr.mono (by decide)) hgd (by rfl) (pv 0) (qa_cons v_int qa_nil)) v_int (nomark _))))) (qs_one (q_ret v_str)) qs_nil)
    (qs_one (q_ret (pv_cal C_l_rounded (hr.mono (by decide)) hgd (by rfl) (qa_cons (pv_ix (x_ix (K := K) rfl) l_ix (pv_var (pv 1)) v_int (fun _ _ => rfl)) (qa_cons (pv_op (o_mulAll (K := K) rfl) l_mul (pv_ix (x_ix (K := K) rfl) l_ix (pv_var (pv 1)) v_int (fun _ _ => rfl)) (pv_var (pv 2))) (qa_cons (pv_var (pv 3)) qa_nil))))))))), h⟩
end
def g_l_lore : S → Ro := (sSeq (sAsg (bTup 2 (bCons (bName 4) (bCons (bName 5) bNil))) (mCalP 0 m_l_tree (mCons (mVar 1) mNil)))
    (sSeq (sSet 6 (mCalP 0 m_l_units (mCons (mVar 2) mNil)))
    (sSeq (sMk 7 (mDisp [((mC (.str "units")), (mVar 6)), ((mC (.str "first")), (mOp ixD (mVar 4) (mC (.int 0)))), ((mC (.str "rows")), (mLst mNil))]))
    (sSeq (sDPutO 7 (mFrz (mComp (mZip (mCons (mSl (mVar 4) (mPart (mC (.int 1))) mNoPart) (mCons (mVar 5) mNil))) (bTup 2 (bCons (bName 10) (bCons (bName 11) bNil))) mYes (mTup (mCons (mVar 10) (mCons (mOp ixD (mVar 4) (mVar 11)) (mCons (mC .non) (mCons (mC .non) mNil))))) [10, 11])) (mC (.str "rows")))
    (sSeq (sSet 8 (mCB tupleD (mCons (mFrz (mComp (mIter iterD (mCal m_l_ends (mCons (mVar 7) mNil))) (bName 17) mYes (mCalP 0 m_l_take (mCons (mVar 3) mNil)) [17])) mNil)))
    (sSeq (sSet 8 (mIf (mTest (mOp gtD (mCB sumD (mCons (mVar 8) mNil)) (mC (.int 0)))) (mVar 8) (mOp addD (mTup (mCons (mC (.int 1)) mNil)) (mSl (mVar 8) (mPart (mC (.int 1))) mNoPart))))
    (sSeq (sMk 9 (mMkL mNil))
    (sSeq (sFor (mIter iterD (mOp dgetD (mVar 7) (mC (.str "rows")))) (bTup 4 (bCons (bName 10) (bCons (bName 11) (bCons (bName 12) (bCons (bName 13) bNil)))))
    (sSeq (sPar 14 15 (mCons (mCal m_l_number (mCons (mVar 7) (mCons (mVar 8) (mCons (mVar 10) mNil)))) (mCons (mCal m_l_number (mCons (mVar 7) (mCons (mVar 8) (mCons (mVar 11) mNil)))) mNil)))
    (sSeq (sPar 16 13 (mCons (mCalP 0 m_l_share_of (mCons (mVar 6) (mCons (mVar 14) (mCons (mVar 15) mNil)))) (mCons (mC .non) mNil)))
    (sSeq (sIf (mTest (mOp eqD (mCalP 0 m_l_take (mCons (mC (.int 4)) mNil)) (mC (.int 0)))) (sSet 13 (mCalP 0 m_l_share_of (mCons (mVar 6) (mCons (mVar 14) (mCons (mCB sumD (mCons (mVar 8) mNil)) mNil))))) sNil)
    (sApp 9 (mCons (mTup (mCons (mVar 10) (mCons (mVar 11) (mCons (mVar 16) (mCons (mVar 13) mNil))))) mNil))))))
    (sRet (mTup (mCons (mFrz (mDisp [((mC (.str "units")), (mVar 6)), ((mC (.str "first")), (mOp ixD (mVar 4) (mC (.int 0)))), ((mC (.str "rows")), (mVar 9))])) (mCons (mVar 8) mNil))))))))))))
def m_l_lore : Bw → List D → Rp := mDefP 4 18 g_l_lore
section
variable {P : Program} {w : World} {K : PySem.W.Frag} {mg : Str → Option Value} {base : Heap}
theorem C_l_lore (T : Txt K mg) : Cal P w K mg base 6 "_law_lore" ["_law_pot_here", "_law_shapes_here", "_law_most", "_law_size"] (spP K m_l_lore) := by
  have C_l_ends := C_l_ends (P := P) (w := w) (base := base) T
  have C_l_number := C_l_number (P := P) (w := w) (base := base) T
  have C_l_share_of := C_l_share_of (P := P) (w := w) (base := base) T
  have C_l_take := C_l_take (P := P) (w := w) (base := base) T
  have C_l_tree := C_l_tree (P := P) (w := w) (base := base) T
  have C_l_units := C_l_units (P := P) (w := w) (base := base) T
  obtain ⟨fd, F⟩ := T.d_l_lore
  refine ⟨_, fd, okG F sc_l_lore (fun vs H Q E h => spP_len h) (fun cdv A outer s H vs Q E hr hgd h => ?_), T.g_l_lore, F.kp, (F.bindsN fun _ _ _ _ _ _ us hl => match us, hl with | [_, _, _, _], _ => rfl)⟩
  obtain ⟨pa, h⟩ := spP_body (N := ["_law_pot_here", "_law_shapes_here", "_law_most", "_law_size", "_law_names_here", "_law_shape", "_law_units_here", "_law_bare", "_law_counts", "_law_found", "_law_name", "_law_above", "_law_share", "_law_far", "_law_many", "_law_whole", "_law_near", "_law_end"]) h
  exact ⟨tS K pa W0 g_l_lore, PSs.nox (qs_cons (q_asg (pv_calP C_l_tree (hr.mono (by decide)) hgd (by rfl) (pv 0) (qa_cons (pv_var (pv 1)) qa_nil)) (qg_tup (K := K) (n := 2) rfl rfl (qgs_cons (qg_name (i := 4) sc_l_lore.nd rfl (.inr rfl)) (qgs_cons (qg_name (i := 5) sc_l_lore.nd rfl (.inl rfl)) qgs_nil))))
    (qs_cons (q_set (ps_set (i := 6) sc_l_lore.nd rfl (.inl rfl) (pv_calP C_l_units (hr.mono (by decide)) hgd (by rfl) (pv 0) (qa_cons (pv_var (pv 2)) qa_nil))))
    (qs_cons (q_mk (ps_set (i := 7) sc_l_lore.nd rfl (.inl rfl) (pm_disp (fs := [((mC (.str "units")), (mVar 6)), ((mC (.str "first")), (mOp ixD (mVar 4) (mC (.int 0)))), ((mC (.str "rows")), (mLst mNil))]) (pps_cons v_str (pv_var (pv 6)) (pps_cons v_str (pv_ix (x_ix (K := K) rfl) l_ix (pv_var (pv 4)) v_int (fun _ _ => rfl)) (pps_cons v_str (pv_lst qa_nil) pps_nil))) (by rfl) (by rfl) (fun z => by cases z) (by decide))))
    (qs_cons (q_dput (ps_dput (u1 hr) (pv 7) v_str (pv_frz (pm_comp (pe_lc (own := [("_law_name", 10), ("_law_above", 11)]) rfl sc_l_lore.nd (qi_zip (K := K) rfl (by rfl) T.z_zip (qa_cons (pv_slice (K := K) rfl (pv_var (pv 4)) (qo_some v_int) qo_none) (qa_cons (pv_var (pv 5)) qa_nil))) (blkOk_by (own := [("_law_name", 10), ("_law_above", 11)]) (N := ["_law_pot_here", "_law_shapes_here", "_law_most", "_law_size", "_law_names_here", "_law_shape", "_law_units_here", "_law_bare", "_law_counts", "_law_found", "_law_name", "_law_above", "_law_share", "_law_far", "_law_many", "_law_whole", "_law_near", "_law_end"]) (sc := defScope s_l_lore) (by decide +kernel)) (fun _ _ _ _ _ => (qg_tup (K := K) (n := 2) rfl rfl (qgs_cons (qg_name (i := 10) sc_l_lore.nd rfl (.inl rfl)) (qgs_cons (qg_name (i := 11) sc_l_lore.nd rfl (.inl rfl)) qgs_nil)))) (fun _ _ _ _ _ => pts_nil) (fun _ _ _ _ _ => (pv_tup (qa_cons (pv_var (pv 10)) (qa_cons (pv_ix (x_ix (K := K) rfl) l_ix (pv_var (pv 4)) (pv_var (pv 11)) (fun _ _ => rfl)) (qa_cons v_non (qa_cons v_non qa_nil))))))) (fun _ _ _ z => yes_of z) (by decide))) rfl))
    (qs_cons (q_set (ps_set (i := 8) sc_l_lore.nd rfl (.inl rfl) (pv_callTy (c_tupleOf (K := K) rfl) l_tuple (by rfl) T.z_tuple (by decide +kernel) (qa_cons (pv_frz (pm_comp (pe_lc (own := [("_law_end", 17)]) rfl sc_l_lore.nd (qi_any (K := K) rfl (pv_cal C_l_ends (hr.mono (by decide)) hgd (by rfl) (qa_cons (pv_var (pv 7)) qa_nil))) (blkOk_by (own := [("_law_end", 17)]) (N := ["_law_pot_here", "_law_shapes_here", "_law_most", "_law_size", "_law_names_here", "_law_shape", "_law_units_here", "_law_bare", "_law_counts", "_law_found", "_law_name", "_law_above", "_law_share", "_law_far", "_law_many", "_law_whole", "_law_near", "_law_end"]) (sc := defScope s_l_lore) (by decide +kernel)) (fun _ _ _ _ _ => (qg_name (i := 17) sc_l_lore.nd rfl (.inl rfl))) (fun _ _ _ _ _ => pts_nil) (fun _ _ _ _ _ => (pv_calP C_l_take (hr.mono (by decide)) hgd (by rfl) (pv 0) (qa_cons (pv_var (pv 3)) qa_nil)))) (fun _ _ _ z => yes_of z) (by decide))) qa_nil))))
    (qs_cons (q_set (ps_set (i := 8) sc_l_lore.nd rfl (.inl rfl) (pv_if (qt_cmp o_gt l_gt (pv_callB (x_sumA (K := K) rfl rfl) l_sum (by rfl) T.z_sum (by decide +kernel) (qa_cons (pv_var (pv 8)) qa_nil)) v_int (nomark _)) (pv_var (pv 8)) (pv_op (o_addAll (K := K) rfl) l_add (pv_tup (qa_cons v_int qa_nil)) (pv_slice (K := K) rfl (pv_var (pv 8)) (qo_some v_int) qo_none)))))
    (qs_cons (q_mk (ps_set (i := 9) sc_l_lore.nd rfl (.inl rfl) (pm_lst qa_nil)))
    (qs_cons (q_for PassesOwn.never rfl (qi_any (K := K) rfl (pv_dget (u1 hr) (pv_var (pv 7)) v_str (fun _ _ => rfl))) (qg_tup (K := K) (n := 4) rfl rfl (qgs_cons (qg_name (i := 10) sc_l_lore.nd rfl (.inl rfl)) (qgs_cons (qg_name (i := 11) sc_l_lore.nd rfl (.inl rfl)) (qgs_cons (qg_name (i := 12) sc_l_lore.nd rfl (.inl rfl)) (qgs_cons (qg_name (i := 13) sc_l_lore.nd rfl (.inl rfl)) qgs_nil)))))
    (qs_cons (q_par (ps_par (i := 14) (j := 15) (by rfl) sc_l_lore.nd rfl rfl (by decide) rfl rfl (qa_cons (pv_cal C_l_number (hr.mono (by decide)) hgd (by rfl) (qa_cons (pv_var (pv 7)) (qa_cons (pv_var (pv 8)) (qa_cons (pv_var (pv 10)) qa_nil)))) (qa_cons (pv_cal C_l_number (hr.mono (by decide)) hgd (by rfl) (qa_cons (pv_var (pv 7)) (qa_cons (pv_var (pv 8)) (qa_cons (pv_var (pv 11)) qa_nil)))) qa_nil)) (by rfl)))
    (qs_cons (q_par (ps_par (i := 16) (j := 13) (by rfl) sc_l_lore.nd rfl rfl (by decide) rfl rfl (qa_cons (pv_calP C_l_share_of (hr.mono (by decide)) hgd (by rfl) (pv 0) (qa_cons (pv_var (pv 6)) (qa_cons (pv_var (pv 14)) (qa_cons (pv_var (pv 15)) qa_nil)))) (qa_cons v_non qa_nil)) (by rfl)))
    (qs_cons (q_if (qt_cmp (x_eqD (K := K) rfl hr.units) l_eq (pv_calP C_l_take (hr.mono (by decide)) hgd (by rfl) (pv 0) (qa_cons v_int qa_nil)) v_int (nomark _)) (qs_one (q_set (ps_set (i := 13) sc_l_lore.nd rfl (.inl rfl) (pv_calP C_l_share_of (hr.mono (by decide)) hgd (by rfl) (pv 0) (qa_cons (pv_var (pv 6)) (qa_cons (pv_var (pv 14)) (qa_cons (pv_callB (x_sumA (K := K) rfl rfl) l_sum (by rfl) T.z_sum (by decide +kernel) (qa_cons (pv_var (pv 8)) qa_nil)) qa_nil))))))) qs_nil)
    (qs_one (q_app (ps_expr (pe_bm PySem.F.plainAttrs_list PySem.F.slot_list_append PySem.F.type_list_append mt_append (pv 9) (qa_cons (pv_tup (qa_cons (pv_var (pv 10)) (qa_cons (pv_var (pv 11)) (qa_cons (pv_var (pv 16)) (qa_cons (pv_var (pv 13)) qa_nil))))) qa_nil)))))))))
    (qs_one (q_ret (pv_tup (qa_cons (pv_frz (pm_disp (fs := [((mC (.str "units")), (mVar 6)), ((mC (.str "first")), (mOp ixD (mVar 4) (mC (.int 0)))), ((mC (.str "rows")), (mVar 9))]) (pps_cons v_str (pv_var (pv 6)) (pps_cons v_str (pv_ix (x_ix (K := K) rfl) l_ix (pv_var (pv 4)) v_int (fun _ _ => rfl)) (pps_cons v_str (pv_var (pv 9)) pps_nil))) (by rfl) (by rfl) (fun z => by cases z) (by decide))) (qa_cons (pv_var (pv 8)) qa_nil))))))))))))), h⟩
end
def g_l_bent_lore : S → Ro := (sSeq (sParMV 2 3 (mMkO seqOf (mOp dgetD (mVar 1) (mC (.str "rows")))) (mCalP 0 m_l_take (mCons (mCB lenD (mCons (mOp dgetD (mVar 1) (mC (.str "rows"))) mNil)) mNil)))
    (sSeq (sAsg (bTup 4 (bCons (bName 4) (bCons (bName 5) (bCons (bName 6) (bCons (bName 7) bNil))))) (mAtL 2 (mVar 3)))
    (sSeq (sSet 8 (mCalP 0 m_l_of (mCons (mLst (mCons (mC .non) (mCons (mC (.str "some")) (mCons (mC (.str "none")) (mCons (mCalP 0 m_l_take (mCons (mOp addD (mOp ixD (mOp dgetD (mVar 1) (mC (.str "units"))) (mC (.int 0))) (mC (.int 1))) mNil)) mNil))))) mNil)))
    (sSeq (sSetIx 2 (mIf (mTest (mOp gtD (mCalP 0 m_l_take (mCons (mC (.int 4)) mNil)) (mC (.int 0)))) (mTup (mCons (mVar 4) (mCons (mVar 5) (mCons (mVar 8) (mCons (mVar 7) mNil))))) (mTup (mCons (mVar 4) (mCons (mVar 5) (mCons (mVar 6) (mCons (mVar 8) mNil)))))) (mVar 3))
    (sRet (mFrz (mDisp [((mC (.str "units")), (mOp dgetD (mVar 1) (mC (.str "units")))), ((mC (.str "first")), (mOp dgetD (mVar 1) (mC (.str "first")))), ((mC (.str "rows")), (mVar 2))])))))))
def m_l_bent_lore : Bw → List D → Rp := mDefP 2 9 g_l_bent_lore
section
variable {P : Program} {w : World} {K : PySem.W.Frag} {mg : Str → Option Value} {base : Heap}
theorem C_l_bent_lore (T : Txt K mg) : Cal P w K mg base 3 "_law_bent_lore" ["_law_pot_here", "_law_lore_here"] (spP K m_l_bent_lore) := by
  have C_l_of := C_l_of (P := P) (w := w) (base := base) T
  have C_l_take := C_l_take (P := P) (w := w) (base := base) T
  obtain ⟨fd, F⟩ := T.d_l_bent_lore
  refine ⟨_, fd, okG F sc_l_bent_lore (fun vs H Q E h => spP_len h) (fun cdv A outer s H vs Q E hr hgd h => ?_), T.g_l_bent_lore, F.kp, (F.bindsN fun _ _ _ _ _ _ us hl => match us, hl with | [_, _], _ => rfl)⟩
  obtain ⟨pa, h⟩ := spP_body (N := ["_law_pot_here", "_law_lore_here", "_law_lines", "_law_at", "_law_name", "_law_above", "_law_share", "_law_far", "_law_fresh"]) h
  exact ⟨tS K pa W0 g_l_bent_lore, PSs.nox (qs_cons (q_parMV (by decide) (ps_par (i := 2) (j := 3) (by rfl) sc_l_bent_lore.nd rfl rfl (by decide) rfl rfl (pa_cons (pm_list (K := K) rfl (by rfl) T.z_list (pv_dget (u1 hr) (pv_var (pv 1)) v_str (fun _ _ => rfl))) (pa_cons (pv_calP C_l_take (hr.mono (by decide)) hgd (by rfl) (pv 0) (qa_cons (pv_callB (c_lenAll (K := K) rfl) l_len (by rfl) T.z_len (by decide +kernel) (qa_cons (pv_dget (u1 hr) (pv_var (pv 1)) v_str (fun _ _ => rfl)) qa_nil)) qa_nil)) pa_nil)) (by rfl)))
    (qs_cons (q_asg (pv_atL (x_ix (K := K) rfl) (pv 2) (pv_var (pv 3)) (fun _ _ => rfl)) (qg_tup (K := K) (n := 4) rfl rfl (qgs_cons (qg_name (i := 4) sc_l_bent_lore.nd rfl (.inl rfl)) (qgs_cons (qg_name (i := 5) sc_l_bent_lore.nd rfl (.inl rfl)) (qgs_cons (qg_name (i := 6) sc_l_bent_lore.nd rfl (.inl rfl)) (qgs_cons (qg_name (i := 7) sc_l_bent_lore.nd rfl (.inl rfl)) qgs_nil))))))
    (qs_cons (q_set (ps_set (i := 8) sc_l_bent_lore.nd rfl (.inl rfl) (pv_calP C_l_of (hr.mono (by decide)) hgd (by rfl) (pv 0) (qa_cons (pv_lst (qa_cons v_non (qa_cons v_str (qa_cons v_str (qa_cons (pv_calP C_l_take (hr.mono (by decide)) hgd (by rfl) (pv 0) (qa_cons (pv_op (o_addAll (K := K) rfl) l_add (pv_ix (x_ix (K := K) rfl) l_ix (pv_dget (u1 hr) (pv_var (pv 1)) v_str (fun _ _ => rfl)) v_int (fun _ _ => rfl)) v_int) qa_nil)) qa_nil))))) qa_nil))))
    (qs_cons (q_setIx (ps_asg (pv_if (qt_cmp o_gt l_gt (pv_calP C_l_take (hr.mono (by decide)) hgd (by rfl) (pv 0) (qa_cons v_int qa_nil)) v_int (nomark _)) (pv_tup (qa_cons (pv_var (pv 4)) (qa_cons (pv_var (pv 5)) (qa_cons (pv_var (pv 8)) (qa_cons (pv_var (pv 7)) qa_nil))))) (pv_tup (qa_cons (pv_var (pv 4)) (qa_cons (pv_var (pv 5)) (qa_cons (pv_var (pv 6)) (qa_cons (pv_var (pv 8)) qa_nil)))))) (pg_sub (pv 2) (pv_var (pv 3)) set_list)))
    (qs_one (q_ret (pv_frz (pm_disp (fs := [((mC (.str "units")), (mOp dgetD (mVar 1) (mC (.str "units")))), ((mC (.str "first")), (mOp dgetD (mVar 1) (mC (.str "first")))), ((mC (.str "rows")), (mVar 2))]) (pps_cons v_str (pv_dget (u1 hr) (pv_var (pv 1)) v_str (fun _ _ => rfl)) (pps_cons v_str (pv_dget (u1 hr) (pv_var (pv 1)) v_str (fun _ _ => rfl)) (pps_cons v_str (pv_var (pv 2)) pps_nil))) (by rfl) (by rfl) (fun z => by cases z) (by decide))))))))), h⟩
end
def g_l_line : S → Ro := (sSeq (sAsg (bTup 4 (bCons (bName 1) (bCons (bName 2) (bCons (bName 3) (bCons (bName 4) bNil))))) (mVar 0))
    (sSeq (sSet 5 (mOp addD (mOp addD (mOp addD (mC (.str "part ")) (mVar 1)) (mC (.str " of "))) (mVar 2)))
    (sSeq (sSet 5 (mOp addD (mVar 5) (mIf (mTest (mOp isND (mVar 3) (mC .non))) (mC (.str "")) (mOp addD (mC (.str " is ")) (mCB strD (mCons (mVar 3) mNil))))))
    (sRet (mOp addD (mVar 5) (mIf (mTest (mOp isND (mVar 4) (mC .non))) (mC (.str "")) (mOp addD (mC (.str " all ")) (mCB strD (mCons (mVar 4) mNil)))))))))
def m_l_line : List D → Rv := mDef 1 6 g_l_line
section
variable {P : Program} {w : World} {K : PySem.W.Frag} {mg : Str → Option Value} {base : Heap}
theorem C_l_line (T : Txt K mg) : Cal P w K mg base 1 "_law_line" ["_law_row"] (spV K m_l_line) := by
  obtain ⟨fd, F⟩ := T.d_l_line
  refine ⟨_, fd, okG F sc_l_line (fun vs H Q E h => spV_len h) (fun cdv A outer s H vs Q E hr hgd h => ?_), T.g_l_line, F.kp, (F.bindsN fun _ _ _ _ _ _ us hl => match us, hl with | [_], _ => rfl)⟩
  exact ⟨tS K ⟨0, []⟩ W0 g_l_line, PSs.nox (qs_cons (q_asg (pv_var (pv 0)) (qg_tup (K := K) (n := 4) rfl rfl (qgs_cons (qg_name (i := 1) sc_l_line.nd rfl (.inl rfl)) (qgs_cons (qg_name (i := 2) sc_l_line.nd rfl (.inl rfl)) (qgs_cons (qg_name (i := 3) sc_l_line.nd rfl (.inl rfl)) (qgs_cons (qg_name (i := 4) sc_l_line.nd rfl (.inl rfl)) qgs_nil))))))
    (qs_cons (q_set (ps_set (i := 5) sc_l_line.nd rfl (.inl rfl) (pv_op (o_addAll (K := K) rfl) l_add (pv_op (o_addAll (K := K) rfl) l_add (pv_op (o_addAll (K := K) rfl) l_add v_str (pv_var (pv 1))) v_str) (pv_var (pv 2)))))
    (qs_cons (q_set (ps_set (i := 5) sc_l_line.nd rfl (.inl rfl) (pv_op (o_addAll (K := K) rfl) l_add (pv_var (pv 5)) (pv_if (qt_cmp o_isN l_isN (pv_var (pv 3)) v_non (nomark _)) v_str (pv_op (o_addAll (K := K) rfl) l_add v_str (pv_callTy c_strAll l_str (by rfl) T.z_str (by decide +kernel) (qa_cons (pv_var (pv 3)) qa_nil)))))))
    (qs_one (q_ret (pv_op (o_addAll (K := K) rfl) l_add (pv_var (pv 5)) (pv_if (qt_cmp o_isN l_isN (pv_var (pv 4)) v_non (nomark _)) v_str (pv_op (o_addAll (K := K) rfl) l_add v_str (pv_callTy c_strAll l_str (by rfl) T.z_str (by decide +kernel) (qa_cons (pv_var (pv 4)) qa_nil)))))))))), spV_body h⟩
end
def g_l_text : S → Ro := (sSeq (sSet 1 (mLst (mCons (mOp addD (mOp addD (mOp addD (mC (.str "in ")) (mCB strD (mCons (mOp ixD (mOp dgetD (mVar 0) (mC (.str "units"))) (mC (.int 0))) mNil))) (mC (.str " "))) (mOp ixD (mOp dgetD (mVar 0) (mC (.str "units"))) (mC (.int 1)))) (mCons (mOp addD (mC (.str "asked ")) (mOp dgetD (mVar 0) (mC (.str "first")))) mNil))))
    (sRet (mS1 joinD (mC (.str "\n")) (mOp addD (mVar 1) (mFrz (mComp (mIter iterD (mOp dgetD (mVar 0) (mC (.str "rows")))) (bName 2) mYes (mCal m_l_line (mCons (mVar 2) mNil)) [2]))))))
def m_l_text : List D → Rv := mDef 1 3 g_l_text
section
variable {P : Program} {w : World} {K : PySem.W.Frag} {mg : Str → Option Value} {base : Heap}
theorem C_l_text (T : Txt K mg) : Cal P w K mg base 2 "_law_text" ["_law_lore_here"] (spV K m_l_text) := by
  have C_l_line := C_l_line (P := P) (w := w) (base := base) T
  obtain ⟨fd, F⟩ := T.d_l_text
  refine ⟨_, fd, okG F sc_l_text (fun vs H Q E h => spV_len h) (fun cdv A outer s H vs Q E hr hgd h => ?_), T.g_l_text, F.kp, (F.bindsN fun _ _ _ _ _ _ us hl => match us, hl with | [_], _ => rfl)⟩
  exact ⟨tS K ⟨0, []⟩ W0 g_l_text, PSs.nox (qs_cons (q_set (ps_set (i := 1) sc_l_text.nd rfl (.inl rfl) (pv_lst (qa_cons (pv_op (o_addAll (K := K) rfl) l_add (pv_op (o_addAll (K := K) rfl) l_add (pv_op (o_addAll (K := K) rfl) l_add v_str (pv_callTy c_strAll l_str (by rfl) T.z_str (by decide +kernel) (qa_cons (pv_ix (x_ix (K := K) rfl) l_ix (pv_dget (u1 hr) (pv_var (pv 0)) v_str (fun _ _ => rfl)) v_int (fun _ _ => rfl)) qa_nil))) v_str) (pv_ix (x_ix (K := K) rfl) l_ix (pv_dget (u1 hr) (pv_var (pv 0)) v_str (fun _ _ => rfl)) v_int (fun _ _ => rfl))) (qa_cons (pv_op (o_addAll (K := K) rfl) l_add v_str (pv_dget (u1 hr) (pv_var (pv 0)) v_str (fun _ _ => rfl))) qa_nil)))))
    (qs_one (q_ret (pv_join (K := K) rfl v_str (pv_op (o_addAll (K := K) rfl) l_add (pv_var (pv 1)) (pv_frz (pm_comp (pe_lc (own := [("_law_row", 2)]) rfl sc_l_text.nd (qi_any (K := K) rfl (pv_dget (u1 hr) (pv_var (pv 0)) v_str (fun _ _ => rfl))) (blkOk_by (own := [("_law_row", 2)]) (N := ["_law_lore_here", "_law_head", "_law_row"]) (sc := defScope s_l_text) (by decide +kernel)) (fun _ _ _ _ _ => (qg_name (i := 2) sc_l_text.nd rfl (.inl rfl))) (fun _ _ _ _ _ => pts_nil) (fun _ _ _ _ _ => (pv_cal C_l_line (hr.mono (by decide)) hgd (by rfl) (qa_cons (pv_var (pv 2)) qa_nil)))) (fun _ _ _ z => yes_of z) (by decide)))))))), spV_body h⟩
end
def g_l_wide_shapes : S → Ro := (sRet (mOp addD (mCal m_l_shapes mNil) (mLst (mCons (mLst (mCons (mC (.int 0)) (mCons (mC (.int 0)) (mCons (mC (.int 0)) (mCons (mC (.int 0)) (mCons (mC (.int 0)) (mCons (mC (.int 0)) mNil))))))) (mCons (mLst (mCons (mC (.int 0)) (mCons (mC (.int 0)) (mCons (mC (.int 1)) (mCons (mC (.int 1)) (mCons (mC (.int 1)) (mCons (mC (.int 3)) (mCons (mC (.int 3)) mNil)))))))) mNil)))))
def m_l_wide_shapes : List D → Rv := mDef 0 0 g_l_wide_shapes
section
variable {P : Program} {w : World} {K : PySem.W.Frag} {mg : Str → Option Value} {base : Heap}
theorem C_l_wide_shapes (T : Txt K mg) : Cal P w K mg base 2 "_law_wide_shapes" [] (spV K m_l_wide_shapes) := by
  have C_l_shapes := C_l_shapes (P := P) (w := w) (base := base) T
  obtain ⟨fd, F⟩ := T.d_l_wide_shapes
  refine ⟨_, fd, okG F sc_l_wide_shapes (fun vs H Q E h => spV_len h) (fun cdv A outer s H vs Q E hr hgd h => ?_), T.g_l_wide_shapes, F.kp, (F.bindsN fun _ _ _ _ _ _ us hl => match us, hl with | [], _ => rfl)⟩
  exact ⟨tS K ⟨0, []⟩ W0 g_l_wide_shapes, PSs.nox (qs_one (q_ret (pv_op (o_addAll (K := K) rfl) l_add (pv_cal0 C_l_shapes (hr.mono (by decide)) hgd (by rfl)) (pv_lst (qa_cons (pv_lst (qa_cons v_int (qa_cons v_int (qa_cons v_int (qa_cons v_int (qa_cons v_int (qa_cons v_int qa_nil))))))) (qa_cons (pv_lst (qa_cons v_int (qa_cons v_int (qa_cons v_int (qa_cons v_int (qa_cons v_int (qa_cons v_int (qa_cons v_int qa_nil)))))))) qa_nil)))))), spV_body h⟩
end
def g_l_shown_due : S → Ro := (sSeq (sPar 3 4 (mCons (mCal m_l_number (mCons (mVar 0) (mCons (mVar 1) (mCons (mOp ixD (mVar 2) (mC (.int 0))) mNil)))) (mCons (mCal m_l_number (mCons (mVar 0) (mCons (mVar 1) (mCons (mOp ixD (mVar 2) (mC (.int 1))) mNil)))) mNil)))
    (sSeq (sAsg (bTup 2 (bCons (bName 5) (bCons (bName 6) bNil))) (mOp dgetD (mVar 0) (mC (.str "units"))))
    (sSeq (sSet 7 (mIf (mTest (mOp eqD (mVar 4) (mC (.int 0)))) (mC .non) (mCal m_l_rounded (mCons (mVar 6) (mCons (mOp mulD (mVar 5) (mVar 3)) (mCons (mVar 4) mNil))))))
    (sRet (mTup (mCons (mVar 7) (mCons (mCal m_l_rounded (mCons (mVar 6) (mCons (mOp mulD (mVar 5) (mVar 3)) (mCons (mCB sumD (mCons (mVar 1) mNil)) mNil)))) mNil)))))))
def m_l_shown_due : List D → Rv := mDef 3 8 g_l_shown_due
section
variable {P : Program} {w : World} {K : PySem.W.Frag} {mg : Str → Option Value} {base : Heap}
theorem C_l_shown_due (T : Txt K mg) : Cal P w K mg base 6 "_law_shown_due" ["_law_lore_here", "_law_counts", "_law_row"] (spV K m_l_shown_due) := by
  have C_l_number := C_l_number (P := P) (w := w) (base := base) T
  have C_l_rounded := C_l_rounded (P := P) (w := w) (base := base) T
  obtain ⟨fd, F⟩ := T.d_l_shown_due
  refine ⟨_, fd, okG F sc_l_shown_due (fun vs H Q E h => spV_len h) (fun cdv A outer s H vs Q E hr hgd h => ?_), T.g_l_shown_due, F.kp, (F.bindsN fun _ _ _ _ _ _ us hl => match us, hl with | [_, _, _], _ => rfl)⟩
  exact ⟨tS K ⟨0, []⟩ W0 g_l_shown_due, PSs.nox (qs_cons (q_par (ps_par (i := 3) (j := 4) (by rfl) sc_l_shown_due.nd rfl rfl (by decide) rfl rfl (qa_cons (pv_cal C_l_number (hr.mono (by decide)) hgd (by rfl) (qa_cons (pv_var (pv 0)) (qa_cons (pv_var (pv 1)) (qa_cons (pv_ix (x_ix (K := K) rfl) l_ix (pv_var (pv 2)) v_int (fun _ _ => rfl)) qa_nil)))) (qa_cons (pv_cal C_l_number (hr.mono (by decide)) hgd (by rfl) (qa_cons (pv_var (pv 0)) (qa_cons (pv_var (pv 1)) (qa_cons (pv_ix (x_ix (K := K) rfl) l_ix (pv_var (pv 2)) v_int (fun _ _ => rfl)) qa_nil)))) qa_nil)) (by rfl)))
    (qs_cons (q_asg (pv_dget (u1 hr) (pv_var (pv 0)) v_str (fun _ _ => rfl)) (qg_tup (K := K) (n := 2) rfl rfl (qgs_cons (qg_name (i := 5) sc_l_shown_due.nd rfl (.inl rfl)) (qgs_cons (qg_name (i := 6) sc_l_shown_due.nd rfl (.inl rfl)) qgs_nil))))
    (qs_cons (q_set (ps_set (i := 7) sc_l_shown_due.nd rfl (.inl rfl) (pv_if (qt_cmp (x_eqD (K := K) rfl hr.units) l_eq (pv_var (pv 4)) v_int (nomark _)) v_non (pv_cal C_l_rounded (hr.mono (by decide)) hgd (by rfl) (qa_cons (pv_var (pv 6)) (qa_cons (pv_op (o_mulAll (K := K) rfl) l_mul (pv_var (pv 5)) (pv_var (pv 3))) (qa_cons (pv_var (pv 4)) qa_nil)))))))
    (qs_one (q_ret (pv_tup (qa_cons (pv_var (pv 7)) (qa_cons (pv_cal C_l_rounded (hr.mono (by decide)) hgd (by rfl) (qa_cons (pv_var (pv 6)) (qa_cons (pv_op (o_mulAll (K := K) rfl) l_mul (pv_var (pv 5)) (pv_var (pv 3))) (qa_cons (pv_callB (x_sumA (K := K) rfl rfl) l_sum (by rfl) T.z_sum (by decide +kernel) (qa_cons (pv_var (pv 1)) qa_nil)) qa_nil)))) qa_nil)))))))), spV_body h⟩
end
def g_l_near_counts : S → Ro := (sSeq (sMk 2 (mMkL (mCons (mVar 1) (mCons (mCB tupleD (mCons (mFrz (mComp (mIter iterD (mVar 1)) (bName 7) mYes (mOp mulD (mC (.int 7)) (mVar 7)) [7])) mNil)) (mCons (mCB tupleD (mCons (mFrz (mComp (mIter iterD (mVar 1)) (bName 7) mYes (mOp mulD (mOp powD (mC (.int 10)) (mC (.int 6))) (mVar 7)) [7])) mNil)) mNil)))))
    (sSeq (sFor (mRng1 (mCons (mC (.int 4)) mNil)) (bName 3)
    (sSeq (sPar 4 5 (mCons (mCalP 0 m_l_take (mCons (mCB lenD (mCons (mVar 1) mNil)) mNil)) (mCons (mCalP 0 m_l_of (mCons (mLst (mCons (mC (.int 1)) (mCons (mUn negD (mC (.int 1))) (mCons (mC (.int 2)) (mCons (mC (.int 5)) mNil))))) mNil)) mNil)))
    (sApp 2 (mCons (mOp addD (mOp addD (mSl (mVar 1) mNoPart (mPart (mVar 4))) (mTup (mCons (mCB max2D (mCons (mC (.int 0)) (mCons (mOp addD (mOp ixD (mVar 1) (mVar 4)) (mVar 5)) mNil))) mNil))) (mSl (mVar 1) (mPart (mOp addD (mVar 4) (mC (.int 1)))) mNoPart)) mNil))))
    (sSeq (sApp 2 (mCons (mCB tupleD (mCons (mFrz (mComp (mIter iterD (mVar 1)) (bName 7) mYes (mOp addD (mOp mulD (mC (.int 100)) (mVar 7)) (mCalP 0 m_l_take (mCons (mC (.int 3)) mNil))) [7])) mNil)) mNil))
    (sSeq (sApp 2 (mCons (mCB tupleD (mCons (mFrz (mComp (mIter iterD (mVar 1)) (bName 7) mYes (mCalP 0 m_l_take (mCons (mC (.int 9)) mNil)) [7])) mNil)) mNil))
    (sRet (mFrz (mComp (mIter iterD (mVar 2)) (bName 6) (mTest (mOp gtD (mCB sumD (mCons (mVar 6) mNil)) (mC (.int 0)))) (mVar 6) [6])))))))
def m_l_near_counts : Bw → List D → Rp := mDefP 2 8 g_l_near_counts
section
variable {P : Program} {w : World} {K : PySem.W.Frag} {mg : Str → Option Value} {base : Heap}
theorem C_l_near_counts (T : Txt K mg) : Cal P w K mg base 3 "_law_near_counts" ["_law_pot_here", "_law_counts"] (spP K m_l_near_counts) := by
  have C_l_of := C_l_of (P := P) (w := w) (base := base) T
  have C_l_take := C_l_take (P := P) (w := w) (base := base) T
  obtain ⟨fd, F⟩ := T.d_l_near_counts
  refine ⟨_, fd, okG F sc_l_near_counts (fun vs H Q E h => spP_len h) (fun cdv A outer s H vs Q E hr hgd h => ?_), T.g_l_near_counts, F.kp, (F.bindsN fun _ _ _ _ _ _ us hl => match us, hl with | [_, _], _ => rfl)⟩
  obtain ⟨pa, h⟩ := spP_body (N := ["_law_pot_here", "_law_counts", "_law_found", "_law_lap", "_law_at", "_law_shift", "_law_some_here", "_law_many"]) h
  exact ⟨tS K pa W0 g_l_near_counts, PSs.nox (qs_cons (q_mk (ps_set (i := 2) sc_l_near_counts.nd rfl (.inl rfl) (pm_lst (qa_cons (pv_var (pv 1)) (qa_cons (pv_callTy (c_tupleOf (K := K) rfl) l_tuple (by rfl) T.z_tuple (by decide +kernel) (qa_cons (pv_frz (pm_comp (pe_lc (own := [("_law_many", 7)]) rfl sc_l_near_counts.nd (qi_any (K := K) rfl (pv_var (pv 1))) (blkOk_by (own := [("_law_many", 7)]) (N := ["_law_pot_here", "_law_counts", "_law_found", "_law_lap", "_law_at", "_law_shift", "_law_some_here", "_law_many"]) (sc := defScope s_l_near_counts) (by decide +kernel)) (fun _ _ _ _ _ => (qg_name (i := 7) sc_l_near_counts.nd rfl (.inl rfl))) (fun _ _ _ _ _ => pts_nil) (fun _ _ _ _ _ => (pv_op (o_mulAll (K := K) rfl) l_mul v_int (pv_var (pv 7))))) (fun _ _ _ z => yes_of z) (by decide))) qa_nil)) (qa_cons (pv_callTy (c_tupleOf (K := K) rfl) l_tuple (by rfl) T.z_tuple (by decide +kernel) (qa_cons (pv_frz (pm_comp (pe_lc (own := [("_law_many", 7)]) rfl sc_l_near_counts.nd (qi_any (K := K) rfl (pv_var (pv 1))) (blkOk_by (own := [("_law_many", 7)]) (N := ["_law_pot_here", "_law_counts", "_law_found", "_law_lap", "_law_at", "_law_shift", "_law_some_here", "_law_many"]) (sc := defScope s_l_near_counts) (by decide +kernel)) (fun _ _ _ _ _ => (qg_name (i := 7) sc_l_near_counts.nd rfl (.inl rfl))) (fun _ _ _ _ _ => pts_nil) (fun _ _ _ _ _ => (pv_op (o_mulAll (K := K) rfl) l_mul (pv_op o_pow l_pow v_int v_int) (pv_var (pv 7))))) (fun _ _ _ z => yes_of z) (by decide))) qa_nil)) qa_nil))))))
    (qs_cons (q_for PassesOwn.never rfl (qi_range1 (by rfl) T.z_range (qa_cons v_int qa_nil)) (qg_name (i := 3) sc_l_near_counts.nd rfl (.inl rfl))
    (qs_cons (q_par (ps_par (i := 4) (j := 5) (by rfl) sc_l_near_counts.nd rfl rfl (by decide) rfl rfl (qa_cons (pv_calP C_l_take (hr.mono (by decide)) hgd (by rfl) (pv 0) (qa_cons (pv_callB (c_lenAll (K := K) rfl) l_len (by rfl) T.z_len (by decide +kernel) (qa_cons (pv_var (pv 1)) qa_nil)) qa_nil)) (qa_cons (pv_calP C_l_of (hr.mono (by decide)) hgd (by rfl) (pv 0) (qa_cons (pv_lst (qa_cons v_int (qa_cons (pv_un u_neg l_neg v_int) (qa_cons v_int (qa_cons v_int qa_nil))))) qa_nil)) qa_nil)) (by rfl)))
    (qs_one (q_app (ps_expr (pe_bm PySem.F.plainAttrs_list PySem.F.slot_list_append PySem.F.type_list_append mt_append (pv 2) (qa_cons (pv_op (o_addAll (K := K) rfl) l_add (pv_op (o_addAll (K := K) rfl) l_add (pv_slice (K := K) rfl (pv_var (pv 1)) qo_none (qo_some (pv_var (pv 4)))) (pv_tup (qa_cons (pv_callB (c_max2 rfl) l_max2 (by rfl) T.z_max (by decide +kernel) (qa_cons v_int (qa_cons (pv_op (o_addAll (K := K) rfl) l_add (pv_ix (x_ix (K := K) rfl) l_ix (pv_var (pv 1)) (pv_var (pv 4)) (fun _ _ => rfl)) (pv_var (pv 5))) qa_nil))) qa_nil))) (pv_slice (K := K) rfl (pv_var (pv 1)) (qo_some (pv_op (o_addAll (K := K) rfl) l_add (pv_var (pv 4)) v_int)) qo_none)) qa_nil)))))))
    (qs_cons (q_app (ps_expr (pe_bm PySem.F.plainAttrs_list PySem.F.slot_list_append PySem.F.type_list_append mt_append (pv 2) (qa_cons (pv_callTy (c_tupleOf (K := K) rfl) l_tuple (by rfl) T.z_tuple (by decide +kernel) (qa_cons (pv_frz (pm_comp (pe_lc (own := [("_law_many", 7)]) rfl sc_l_near_counts.nd (qi_any (K := K) rfl (pv_var (pv 1))) (blkOk_by (own := [("_law_many", 7)]) (N := ["_law_pot_here", "_law_counts", "_law_found", "_law_lap", "_law_at", "_law_shift", "_law_some_here", "_law_many"]) (sc := defScope s_l_near_counts) (by decide +kernel)) (fun _ _ _ _ _ => (qg_name (i := 7) sc_l_near_counts.nd rfl (.inl rfl))) (fun _ _ _ _ _ => pts_nil) (fun _ _ _ _ _ => (pv_op (o_addAll (K := K) rfl) l_add (pv_op (o_mulAll (K := K) rfl) l_mul v_int (pv_var (pv 7))) (pv_calP C_l_take (hr.mono (by decide)) hgd (by rfl) (pv 0) (qa_cons v_int qa_nil))))) (fun _ _ _ z => yes_of z) (by decide))) qa_nil)) qa_nil))))
    (qs_cons (q_app (ps_expr (pe_bm PySem.F.plainAttrs_list PySem.F.slot_list_append PySem.F.type_list_append mt_append (pv 2) (qa_cons (pv_callTy (c_tupleOf (K := K) rfl) l_tuple (by rfl) T.z_tuple (by decide +kernel) (qa_cons (pv_frz (pm_comp (pe_lc (own := [("_law_many", 7)]) rfl sc_l_near_counts.nd (qi_any (K := K) rfl (pv_var (pv 1))) (blkOk_by (own := [("_law_many", 7)]) (N := ["_law_pot_here", "_law_counts", "_law_found", "_law_lap", "_law_at", "_law_shift", "_law_some_here", "_law_many"]) (sc := defScope s_l_near_counts) (by decide +kernel)) (fun _ _ _ _ _ => (qg_name (i := 7) sc_l_near_counts.nd rfl (.inl rfl))) (fun _ _ _ _ _ => pts_nil) (fun _ _ _ _ _ => (pv_calP C_l_take (hr.mono (by decide)) hgd (by rfl) (pv 0) (qa_cons v_int qa_nil)))) (fun _ _ _ z => yes_of z) (by decide))) qa_nil)) qa_nil))))
    (qs_one (q_ret (pv_frz (pm_comp (pe_lc (own := [("_law_some_here", 6)]) rfl sc_l_near_counts.nd (qi_any (K := K) rfl (pv_var (pv 2))) (blkOk_by (own := [("_law_some_here", 6)]) (N := ["_law_pot_here", "_law_counts", "_law_found", "_law_lap", "_law_at", "_law_shift", "_law_some_here", "_law_many"]) (sc := defScope s_l_near_counts) (by decide +kernel)) (fun _ _ _ _ _ => (qg_name (i := 6) sc_l_near_counts.nd rfl (.inl rfl))) (fun _ _ _ _ _ => (pts_one (qt_cmp o_gt l_gt (pv_callB (x_sumA (K := K) rfl rfl) l_sum (by rfl) T.z_sum (by decide +kernel) (qa_cons (pv_var (pv 6)) qa_nil)) v_int (nomark _)))) (fun _ _ _ _ _ => (pv_var (pv 6)))) (fun _ _ _ z => z) (by decide))))))))), h⟩
end
end Ak
namespace Ak
open PySem PySem.Spec PyProof.Rows L2
theorem tab_TAILS {K : PySem.W.Frag} {mg : Str → Option Value} (T : Txt K mg) : ∀ (i : Int) (ds : List D), ([(0, []), (2, [(.str "is"), (.str "all")]), (4, [(.str "is")])] : List (Int × List D)).lookup i = some ds → idR K "TAILS" i = true ∧ ∃ vs, (∀ H, SqT K H (idA K "TAILS" i) vs) ∧ ∀ F, DenAll K F vs ds := by
  intro i ds h
  by_cases z0 : i = 0
  · subst z0
    cases h
    exact ⟨T.r_TAILS_0, _, T.t_TAILS_0, fun _ => .nil⟩
  by_cases z2 : i = 2
  · subst z2
    cases h
    exact ⟨T.r_TAILS_2, _, T.t_TAILS_2, fun _ => (.cons (.str _) (.cons (.str _) .nil))⟩
  by_cases z4 : i = 4
  · subst z4
    cases h
    exact ⟨T.r_TAILS_4, _, T.t_TAILS_4, fun _ => (.cons (.str _) .nil)⟩
  have e0 : (i == (0 : Int)) = false := by simpa using z0
  have e2 : (i == (2 : Int)) = false := by simpa using z2
  have e4 : (i == (4 : Int)) = false := by simpa using z4
  simp [List.lookup, e0, e2, e4] at h
def g_shares_in : S → Ro := (sSeq (sIf (mOrT (mTest (mUn (notInI [0, 2, 4]) (mCB lenD (mCons (mVar 1) mNil)))) (mAndT (mTest (mOp neD (mVar 1) (mLst mNil))) (mTest (mOp notInD (mOp ixD (mVar 1) (mC (.int 0))) (mUn (tabI [(0, []), (2, [(.str "is"), (.str "all")]), (4, [(.str "is")])]) (mCB lenD (mCons (mVar 1) mNil))))))) (sRet (mC .non)) sNil)
    (sSeq (sIf (mAndT (mTest (mOp eqD (mCB lenD (mCons (mVar 1) mNil)) (mC (.int 4)))) (mTest (mOp neD (mOp ixD (mVar 1) (mC (.int 2))) (mC (.str "all"))))) (sRet (mC .non)) sNil)
    (sSeq (sSet 2 (mFrz (mComp (mIter iterD (mUn oddD (mVar 1))) (bName 3) mYes (mCal m_share_in (mCons (mVar 3) mNil)) [3])))
    (sSeq (sIf (mNotT (mTest (mCB allD (mCons (mFrz (mComp (mIter iterD (mVar 2)) (bName 4) mYes (mCal m_is_share (mCons (mVar 0) (mCons (mVar 4) mNil))) [4])) mNil)))) (sRet (mC .non)) sNil)
    (sSeq (sIf (mTest (mOp eqD (mCB lenD (mCons (mVar 2) mNil)) (mC (.int 1)))) (sRet (mIf (mTest (mOp eqD (mOp ixD (mVar 1) (mC (.int 0))) (mC (.str "is")))) (mTup (mCons (mOp ixD (mVar 2) (mC (.int 0))) (mCons (mC .non) mNil))) (mTup (mCons (mC .non) (mCons (mOp ixD (mVar 2) (mC (.int 0))) mNil))))) sNil)
    (sRet (mIf (mTest (mOp neD (mVar 2) (mLst mNil))) (mTup (mCons (mOp ixD (mVar 2) (mC (.int 0))) (mCons (mOp ixD (mVar 2) (mC (.int 1))) mNil))) (mTup (mCons (mC .non) (mCons (mC .non) mNil))))))))))
def m_shares_in : List D → Rv := mDef 2 5 g_shares_in
section
variable {P : Program} {w : World} {K : PySem.W.Frag} {mg : Str → Option Value} {base : Heap}
theorem C_shares_in (T : Txt K mg) : Cal P w K mg base 4 "shares_in" ["units", "words"] (spV K m_shares_in) := by
  have C_is_share := C_is_share (P := P) (w := w) (base := base) T
  have C_share_in := C_share_in (P := P) (w := w) (base := base) T
  obtain ⟨fd, F⟩ := T.d_shares_in
  refine ⟨_, fd, okG F sc_shares_in (fun vs H Q E h => spV_len h) (fun cdv A outer s H vs Q E hr hgd h => ?_), T.g_shares_in, F.kp, (F.bindsN fun _ _ _ _ _ _ us hl => match us, hl with | [_, _], _ => rfl)⟩
  exact ⟨tS K ⟨0, []⟩ W0 g_shares_in, PSs.nox (qs_cons (q_if (PW.pt (qw_or (qt_notInI (K := K) (ks := [0, 2, 4]) rfl T.i_TAILS (pv_callB (c_lenAll (K := K) rfl) l_len (by rfl) T.z_len (by decide +kernel) (qa_cons (pv_var (pv 1)) qa_nil)) (pe_glob (v := .ref (He.ga K "TAILS")) rfl T.c_TAILS rfl) (by rfl)) (qw_or1 (PW.pt (qw_and (qt_cmp (x_neD (K := K) rfl hr.units) l_ne (pv_var (pv 1)) (pv_lst qa_nil) (nomark _)) (qw_and1 (qt_cmp (o_notInAll (K := K) rfl) l_notIn (pv_ix (x_ix (K := K) rfl) l_ix (pv_var (pv 1)) v_int (fun _ _ => rfl)) (pv_tabI (K := K) (tab := [(0, []), (2, [(.str "is"), (.str "all")]), (4, [(.str "is")])]) rfl T.i_TAILS (tab_TAILS T) (pv_callB (c_lenAll (K := K) rfl) l_len (by rfl) T.z_len (by decide +kernel) (qa_cons (pv_var (pv 1)) qa_nil)) (pe_glob (v := .ref (He.ga K "TAILS")) rfl T.c_TAILS rfl) (fun _ _ => rfl)) (by rfl)))))))) (qs_one (q_ret v_non)) qs_nil)
    (qs_cons (q_if (PW.pt (qw_and (qt_cmp (x_eqD (K := K) rfl hr.units) l_eq (pv_callB (c_lenAll (K := K) rfl) l_len (by rfl) T.z_len (by decide +kernel) (qa_cons (pv_var (pv 1)) qa_nil)) (pv_c (pe_ci T.c_BOTH_WORDS rfl) (fun _ => .int _)) (nomark _)) (qw_and1 (qt_cmp (x_neD (K := K) rfl hr.units) l_ne (pv_ix (x_ix (K := K) rfl) l_ix (pv_var (pv 1)) v_int (fun _ _ => rfl)) (pv_c (pe_cs T.c_ALL rfl) (fun _ => .str _)) (nomark _))))) (qs_one (q_ret v_non)) qs_nil)
    (qs_cons (q_set (q_asgFrz (q_asgComp (ps_setLc (i := 2) (own := [("word", 3)]) rfl sc_shares_in.nd rfl rfl (sw_true rfl rfl rfl (by decide +kernel)) (qi_any (K := K) rfl (pv_odd (K := K) rfl (pv_var (pv 1)))) (blkOk_by (own := [("word", 3)]) (N := ["units", "words", "some", "word", "share"]) (sc := defScope s_shares_in) (by decide +kernel)) (fun _ _ _ _ _ => (qg_name (i := 3) sc_shares_in.nd rfl (.inl rfl))) (fun _ _ _ _ _ => pts_nil) (fun _ _ _ _ _ => (pv_cal C_share_in (hr.mono (by decide)) hgd (by rfl) (qa_cons (pv_var (pv 3)) qa_nil)))) (fun _ _ _ z => yes_of z) (by decide))))
    (qs_cons (q_if (qt_not (qt_val (pv_callB (x_all (K := K) rfl rfl) l_all (by rfl) T.z_all (by decide +kernel) (qa_cons (pv_frz (pm_comp (pe_lc (own := [("share", 4)]) rfl sc_shares_in.nd (qi_any (K := K) rfl (pv_var (pv 2))) (blkOk_by (own := [("share", 4)]) (N := ["units", "words", "some", "word", "share"]) (sc := defScope s_shares_in) (by decide +kernel)) (fun _ _ _ _ _ => (qg_name (i := 4) sc_shares_in.nd rfl (.inl rfl))) (fun _ _ _ _ _ => pts_nil) (fun _ _ _ _ _ => (pv_cal C_is_share (hr.mono (by decide)) hgd (by rfl) (qa_cons (pv_var (pv 0)) (qa_cons (pv_var (pv 4)) qa_nil))))) (fun _ _ _ z => yes_of z) (by decide))) qa_nil)))) (qs_one (q_ret v_non)) qs_nil)
    (qs_cons (q_if (qt_cmp (x_eqD (K := K) rfl hr.units) l_eq (pv_callB (c_lenAll (K := K) rfl) l_len (by rfl) T.z_len (by decide +kernel) (qa_cons (pv_var (pv 2)) qa_nil)) v_int (nomark _)) (qs_one (q_ret (pv_if (qt_cmp (x_eqD (K := K) rfl hr.units) l_eq (pv_ix (x_ix (K := K) rfl) l_ix (pv_var (pv 1)) v_int (fun _ _ => rfl)) (pv_c (pe_cs T.c_IS rfl) (fun _ => .str _)) (nomark _)) (pv_tup (qa_cons (pv_ix (x_ix (K := K) rfl) l_ix (pv_var (pv 2)) v_int (fun _ _ => rfl)) (qa_cons v_non qa_nil))) (pv_tup (qa_cons v_non (qa_cons (pv_ix (x_ix (K := K) rfl) l_ix (pv_var (pv 2)) v_int (fun _ _ => rfl)) qa_nil)))))) qs_nil)
    (qs_one (q_ret (pv_if (qt_cmp (x_neD (K := K) rfl hr.units) l_ne (pv_var (pv 2)) (pv_lst qa_nil) (nomark _)) (pv_tup (qa_cons (pv_ix (x_ix (K := K) rfl) l_ix (pv_var (pv 2)) v_int (fun _ _ => rfl)) (qa_cons (pv_ix (x_ix (K := K) rfl) l_ix (pv_var (pv 2)) v_int (fun _ _ => rfl)) qa_nil))) (pv_tup (qa_cons v_non (qa_cons v_non qa_nil))))))))))), spV_body h⟩
end
def g_Reading_lowest : S → Ro := (sSeq (sSet 1 (mFrz (mComp (mIter valuesD (pureR (mUn (fldC ["Reading"] "own_rows") (mVarP 0)))) (bName 2) mYes (mOp ixD (mVar 2) (mC (.int 0))) [2])))
    (sRet (mFrz (mComp (mIter keysD (pureR (mUn (fldC ["Reading"] "own_rows") (mVarP 0)))) (bName 3) (mTest (mOp notInD (mVar 3) (mVar 1))) (mVar 3) [3]))))
def m_Reading_lowest : List D → Rv := mDef 1 4 g_Reading_lowest
section
variable {P : Program} {w : World} {K : PySem.W.Frag} {mg : Str → Option Value} {base : Heap}
theorem C_Reading_lowest (T : Txt K mg) : MCal P w K mg base 1 (He.ga K "Reading") "lowest" ["self"] (spV K m_Reading_lowest) := by
  obtain ⟨fd, F⟩ := T.d_Reading_lowest
  refine ⟨T.k_Reading, _, fd, okG F sc_Reading_lowest (fun vs H Q E h => spV_len h) (fun cdv A outer s H vs Q E hr hgd h => ?_), T.m_Reading_lowest, (F.bindsN fun _ _ _ _ _ _ us hl => match us, hl with | [_], _ => rfl), fn_there F⟩
  exact ⟨tS K ⟨0, []⟩ W0 g_Reading_lowest, PSs.nox (qs_cons (q_set (ps_set (i := 1) sc_Reading_lowest.nd rfl (.inr rfl) (pv_frz (pm_dcomp dw_values (pur_fld (cs := ["Reading"]) pur_var (by simpa using T.a_Reading_own_rows)) (pe_lc (own := [("row", 2)]) rfl sc_Reading_lowest.nd (pi_values (pe_fld (pv 0) rfl)) (blkOk_by (own := [("row", 2)]) (N := ["self", "wholes", "row", "name"]) (sc := defScope s_Reading_lowest) (by decide +kernel)) (fun _ _ _ _ _ => (qg_name (i := 2) sc_Reading_lowest.nd rfl (.inl rfl))) (fun _ _ _ _ _ => pts_nil) (fun _ _ _ _ _ => (pv_ix (x_ix (K := K) rfl) l_ix (pv_var (pv 2)) v_int (fun _ _ => rfl)))) (fun _ _ _ z => yes_of z) (by decide)))))
    (qs_one (q_ret (pv_frz (pm_dcomp dw_keys (pur_fld (cs := ["Reading"]) pur_var (by simpa using T.a_Reading_own_rows)) (pe_lc (own := [("name", 3)]) rfl sc_Reading_lowest.nd (pi_keys (pe_fld (pv 0) rfl)) (blkOk_by (own := [("name", 3)]) (N := ["self", "wholes", "row", "name"]) (sc := defScope s_Reading_lowest) (by decide +kernel)) (fun _ _ _ _ _ => (qg_name (i := 3) sc_Reading_lowest.nd rfl (.inl rfl))) (fun _ _ _ _ _ => (pts_one (qt_cmp (o_notInAll (K := K) rfl) l_notIn (pv_var (pv 3)) (pv_var (pv 1)) (by rfl)))) (fun _ _ _ _ _ => (pv_var (pv 3)))) (fun _ _ _ z => z) (by decide)))))), spV_body h⟩
end
def g_Reading_reads_first : S → Ro := (sSeq (sSet 2 (mS1 splitD (mVar 1) (mC (.str " "))))
    (sSeq (sIf (mOrT (mTest (mOp neD (mCB lenD (mCons (mVar 2) mNil)) (mC (.int 2)))) (mOrT (mTest (mOp neD (mOp ixD (mVar 2) (mC (.int 0))) (mC (.str "asked")))) (mNotT (mTest (mCal m_is_name (mCons (mOp ixD (mVar 2) (mC (.int 1))) mNil)))))) (sRet (mC (.bl false))) sNil)
    (sSeq (sRdPut true (mC (.tup [.non, .non, .non])) (mOp ixD (mVar 2) (mC (.int 1))))
    (sSeq (sRdPut false (mC (.int 0)) (mOp ixD (mVar 2) (mC (.int 1))))
    (sRet (mC (.bl true)))))))
def m_Reading_reads_first : Bw → List D → Rp := mDefP 2 3 g_Reading_reads_first
section
variable {P : Program} {w : World} {K : PySem.W.Frag} {mg : Str → Option Value} {base : Heap}
theorem C_Reading_reads_first (T : Txt K mg) : MCal P w K mg base 2 (He.ga K "Reading") "reads_first" ["self", "line"] (spP K m_Reading_reads_first) := by
  have C_is_name := C_is_name (P := P) (w := w) (base := base) T
  obtain ⟨fd, F⟩ := T.d_Reading_reads_first
  refine ⟨T.k_Reading, _, fd, okG F sc_Reading_reads_first (fun vs H Q E h => spP_len h) (fun cdv A outer s H vs Q E hr hgd h => ?_), T.m_Reading_reads_first, (F.bindsN fun _ _ _ _ _ _ us hl => match us, hl with | [_, _], _ => rfl), fn_there F⟩
  obtain ⟨pa, h⟩ := spP_body (N := ["self", "line", "words"]) h
  exact ⟨tS K pa W0 g_Reading_reads_first, PSs.nox (qs_cons (q_set (ps_set (i := 2) sc_Reading_reads_first.nd rfl (.inl rfl) (pv_split (pv_var (pv 1)) (pv_c (pe_cs T.c_BLANK rfl) (fun _ => .str _)))))
    (qs_cons (q_if (PW.pt (qw_or (qt_cmp (x_neD (K := K) rfl hr.units) l_ne (pv_callB (c_lenAll (K := K) rfl) l_len (by rfl) T.z_len (by decide +kernel) (qa_cons (pv_var (pv 2)) qa_nil)) (pv_c (pe_ci T.c_ASKED_WORDS rfl) (fun _ => .int _)) (nomark _)) (qw_or (qt_cmp (x_neD (K := K) rfl hr.units) l_ne (pv_ix (x_ix (K := K) rfl) l_ix (pv_var (pv 2)) v_int (fun _ _ => rfl)) (pv_c (pe_cs T.c_ASKED rfl) (fun _ => .str _)) (nomark _)) (qw_or1 (qt_not (qt_val (pv_cal C_is_name (hr.mono (by decide)) hgd (by rfl) (qa_cons (pv_ix (x_ix (K := K) rfl) l_ix (pv_var (pv 2)) v_int (fun _ _ => rfl)) qa_nil)))))))) (qs_one (q_ret v_bl)) qs_nil)
    (qs_cons (q_rdPut (rows := true) T.a_Reading_own_rows (ps_dput (u1 hr) (pe_fld (pv 0) rfl) (pv_ix (x_ix (K := K) rfl) l_ix (pv_var (pv 2)) v_int (fun _ _ => rfl)) (pv_c (pe_glob (v := .ref (He.ga K "UNTOLD")) rfl T.c_UNTOLD rfl) (fun _ => .tup (.inr T.t_UNTOLD) (.cons .non (.cons .non (.cons .non .nil))))) rfl))
    (qs_cons (q_rdPut (rows := false) T.a_Reading_own_depths (ps_dput (u1 hr) (pe_fld (pv 0) rfl) (pv_ix (x_ix (K := K) rfl) l_ix (pv_var (pv 2)) v_int (fun _ _ => rfl)) v_int rfl))
    (qs_one (q_ret v_bl)))))), h⟩
end
def g_Reading_reads_part : S → Ro := (sSeq (sSet 2 (mS1 splitD (mVar 1) (mC (.str " "))))
    (sSeq (sIf (mOrT (mTest (mOp ltD (mCB lenD (mCons (mVar 2) mNil)) (mC (.int 4)))) (mOrT (mTest (mOp neD (mOp ixD (mVar 2) (mC (.int 0))) (mC (.str "part")))) (mTest (mOp neD (mOp ixD (mVar 2) (mC (.int 2))) (mC (.str "of")))))) (sRet (mC (.bl false))) sNil)
    (sSeq (sPar 3 4 (mCons (mOp ixD (mVar 2) (mC (.int 1))) (mCons (mOp ixD (mVar 2) (mOp subD (mC (.int 4)) (mC (.int 1)))) mNil)))
    (sSeq (sIf (mOrT (mNotT (mTest (mCal m_is_name (mCons (mVar 3) mNil)))) (mOrT (mPeekT (mTest (mOp dinD (mVar 3) (mUn (fldC ["Reading"] "own_rows") (mVar 0))))) (mPeekT (mTest (mOp dnotInD (mVar 4) (mUn (fldC ["Reading"] "own_rows") (mVar 0))))))) (sRet (mC (.bl false))) sNil)
    (sSeq (sSet 5 (mCal m_shares_in (mCons (mRdU 0) (mCons (mSl (mVar 2) (mPart (mC (.int 4))) mNoPart) mNil))))
    (sSeq (sSet 6 (mOp addD (mPeek (mOp dgetD (mUn (fldC ["Reading"] "own_depths") (mVar 0)) (mVar 4))) (mC (.int 1))))
    (sSeq (sIf (mOrT (mTest (mOp isND (mVar 5) (mC .non))) (mOrT (mTest (mOp gtD (mVar 6) (mC (.int 3)))) (mTest (mOp eqD (mPeek (mCB lenDD (mCons (mUn (fldC ["Reading"] "own_rows") (mVar 0)) mNil))) (mC (.int 10)))))) (sRet (mC (.bl false))) sNil)
    (sSeq (sRdPut true (mTup (mCons (mVar 4) (mStar (mVar 5) mNil))) (mVar 3))
    (sSeq (sRdPut false (mVar 6) (mVar 3))
    (sRet (mOp leD (mPeek (mCB lenD (mCons (mMeth "Reading" "lowest" m_Reading_lowest (mVar 0) mNil) mNil))) (mC (.int 6)))))))))))))
def m_Reading_reads_part : Bw → List D → Rp := mDefP 2 7 g_Reading_reads_part
section
variable {P : Program} {w : World} {K : PySem.W.Frag} {mg : Str → Option Value} {base : Heap}
theorem C_Reading_reads_part (T : Txt K mg) : MCal P w K mg base 5 (He.ga K "Reading") "reads_part" ["self", "line"] (spP K m_Reading_reads_part) := by
  have C_Reading_lowest := C_Reading_lowest (P := P) (w := w) (base := base) T
  have C_is_name := C_is_name (P := P) (w := w) (base := base) T
  have C_shares_in := C_shares_in (P := P) (w := w) (base := base) T
  obtain ⟨fd, F⟩ := T.d_Reading_reads_part
  refine ⟨T.k_Reading, _, fd, okG F sc_Reading_reads_part (fun vs H Q E h => spP_len h) (fun cdv A outer s H vs Q E hr hgd h => ?_), T.m_Reading_reads_part, (F.bindsN fun _ _ _ _ _ _ us hl => match us, hl with | [_, _], _ => rfl), fn_there F⟩
  obtain ⟨pa, h⟩ := spP_body (N := ["self", "line", "words", "name", "above", "told", "depth"]) h
  exact ⟨tS K pa W0 g_Reading_reads_part, PSs.nox (qs_cons (q_set (ps_set (i := 2) sc_Reading_reads_part.nd rfl (.inl rfl) (pv_split (pv_var (pv 1)) (pv_c (pe_cs T.c_BLANK rfl) (fun _ => .str _)))))
    (qs_cons (q_if (PW.pt (qw_or (qt_cmp o_lt l_lt (pv_callB (c_lenAll (K := K) rfl) l_len (by rfl) T.z_len (by decide +kernel) (qa_cons (pv_var (pv 2)) qa_nil)) (pv_c (pe_ci T.c_PART_WORDS rfl) (fun _ => .int _)) (nomark _)) (qw_or (qt_cmp (x_neD (K := K) rfl hr.units) l_ne (pv_ix (x_ix (K := K) rfl) l_ix (pv_var (pv 2)) v_int (fun _ _ => rfl)) (pv_c (pe_cs T.c_PART rfl) (fun _ => .str _)) (nomark _)) (qw_or1 (qt_cmp (x_neD (K := K) rfl hr.units) l_ne (pv_ix (x_ix (K := K) rfl) l_ix (pv_var (pv 2)) v_int (fun _ _ => rfl)) (pv_c (pe_cs T.c_OF rfl) (fun _ => .str _)) (nomark _)))))) (qs_one (q_ret v_bl)) qs_nil)
    (qs_cons (q_par (ps_par (i := 3) (j := 4) (by rfl) sc_Reading_reads_part.nd rfl rfl (by decide) rfl rfl (qa_cons (pv_ix (x_ix (K := K) rfl) l_ix (pv_var (pv 2)) v_int (fun _ _ => rfl)) (qa_cons (pv_ix (x_ix (K := K) rfl) l_ix (pv_var (pv 2)) (pv_op o_sub l_sub (pv_c (pe_ci T.c_PART_WORDS rfl) (fun _ => .int _)) v_int) (fun _ _ => rfl)) qa_nil)) (by rfl)))
    (qs_cons (q_if (PW.pt (qw_or (qt_not (qt_val (pv_cal C_is_name (hr.mono (by decide)) hgd (by rfl) (qa_cons (pv_var (pv 3)) qa_nil)))) (qw_or (qt_peek (qt_din (u1 hr) (pv_var (pv 3)) (pv_fld (K := K) (cs := ["Reading"]) rfl (by simpa using T.a_Reading_own_rows) (pv_var (pv 0))))) (qw_or1 (qt_peek (qt_dnotin (u1 hr) (pv_var (pv 4)) (pv_fld (K := K) (cs := ["Reading"]) rfl (by simpa using T.a_Reading_own_rows) (pv_var (pv 0))))))))) (qs_one (q_ret v_bl)) qs_nil)
    (qs_cons (q_set (ps_set (i := 5) sc_Reading_reads_part.nd rfl (.inl rfl) (pv_cal C_shares_in (hr.mono (by decide)) hgd (by rfl) (qa_cons (pv_rdU (K := K) rfl T.a_Reading_own_units (pv 0)) (qa_cons (pv_slice (K := K) rfl (pv_var (pv 2)) (qo_some (pv_c (pe_ci T.c_PART_WORDS rfl) (fun _ => .int _))) qo_none) qa_nil)))))
    (qs_cons (q_set (ps_set (i := 6) sc_Reading_reads_part.nd rfl (.inl rfl) (pv_op (o_addAll (K := K) rfl) l_add (pv_peek (pv_dget (u1 hr) (pv_fld (K := K) (cs := ["Reading"]) rfl (by simpa using T.a_Reading_own_depths) (pv_var (pv 0))) (pv_var (pv 4)) (fun _ _ => rfl))) v_int)))
    (qs_cons (q_if (PW.pt (qw_or (qt_cmp o_isN l_isN (pv_var (pv 5)) v_non (nomark _)) (qw_or (qt_cmp o_gt l_gt (pv_var (pv 6)) (pv_c (pe_ci T.c_MOST_DEPTH rfl) (fun _ => .int _)) (nomark _)) (qw_or1 (qt_cmp (x_eqD (K := K) rfl hr.units) l_eq (pv_peek (pv_callB c_lenD l_lenD (by rfl) T.z_len (by decide +kernel) (qa_cons (pv_fld (K := K) (cs := ["Reading"]) rfl (by simpa using T.a_Reading_own_rows) (pv_var (pv 0))) qa_nil))) (pv_c (pe_ci T.c_MOST_PARTS rfl) (fun _ => .int _)) (nomark _)))))) (qs_one (q_ret v_bl)) qs_nil)
    (qs_cons (q_rdPut (rows := true) T.a_Reading_own_rows (ps_dput (u1 hr) (pe_fld (pv 0) rfl) (pv_var (pv 3)) (pv_tup (qa_cons (pv_var (pv 4)) (qa_star (K := K) rfl (pv_var (pv 5)) qa_nil))) rfl))
    (qs_cons (q_rdPut (rows := false) T.a_Reading_own_depths (ps_dput (u1 hr) (pe_fld (pv 0) rfl) (pv_var (pv 3)) (pv_var (pv 6)) rfl))
    (qs_one (q_ret (pv_cmp o_le l_le (pv_peek (pv_callB (c_lenAll (K := K) rfl) l_len (by rfl) T.z_len (by decide +kernel) (qa_cons (pv_meth0 (cn := "Reading") (pv_var (pv 0)) C_Reading_lowest (hr.mono (by decide)) hgd) qa_nil))) (pv_c (pe_ci T.c_MOST_ENDS rfl) (fun _ => .int _)) (nomark _))))))))))))), h⟩
end
def h_Reading___init__ : S → Rs D := (mCal m_units_in (mCons (mOp ixD (mVar 1) (mC (.int 0))) mNil))
def g_Reading___init__ : S → Ro := (sSeq (sIf (mTest (mOp isND (mRdU 0) (mC .non))) (fun _ => .no) sNil)
    (sSeq (sFor (mEnum2 (mCons (mSl (mVar 1) (mPart (mC (.int 1))) mNoPart) (mCons (mC (.int 2)) mNil))) (bTup 2 (bCons (bName 2) (bCons (bName 3) bNil)))
    (sIf (mNotT (mIfT (mTest (mOp eqD (mVar 2) (mC (.int 2)))) (mTest (mMethP m_Reading_reads_first (mCons (mVar 3) mNil))) (mTest (mMethP m_Reading_reads_part (mCons (mVar 3) mNil))))) (fun _ => .no) sNil))
    (sIf (mTest (mOp ltD (mPeek (mCB lenDD (mCons (mUn (fldC ["Reading"] "own_rows") (mVar 0)) mNil))) (mC (.int 2)))) (fun _ => .no) sNil)))
def m_Reading___init__ : List D → Rv := mDefN 2 4 h_Reading___init__ g_Reading___init__
section
variable {P : Program} {w : World} {K : PySem.W.Frag} {mg : Str → Option Value} {base : Heap}
theorem C_Reading___init__ (T : Txt K mg) : NCal P w K mg base 7 "Reading" (He.ga K "Reading") ["self", "lines"] (spNew K "Reading" m_Reading___init__) := by
  have C_Reading_reads_first := C_Reading_reads_first (P := P) (w := w) (base := base) T
  have C_Reading_reads_part := C_Reading_reads_part (P := P) (w := w) (base := base) T
  have C_units_in := C_units_in (P := P) (w := w) (base := base) T
  obtain ⟨fd, F⟩ := T.d_Reading___init__
  refine ⟨_, fd, okG F sc_Reading___init__ (fun vs H Q E h => spNew_len h) (fun cdv A outer s H vs Q E hr hgd h => ?_), T.n_Reading, T.g_Reading, (F.bindsN fun _ _ _ _ _ _ us hl => match us, hl with | [_, _], _ => rfl)⟩
  exact ⟨_, PSs.nox (pss_cons (ps_fld (tv := tV K ⟨0, []⟩ W0 h_Reading___init__) (pv 0) (pv_cal C_units_in (hr.mono (by decide)) hgd (by rfl) (qa_cons (pv_ix (x_ix (K := K) rfl) l_ix (pv_var (pv 1)) v_int (fun _ _ => rfl)) qa_nil)) rfl) (pss_cons (ps_fld (pv 0) pe_dnewK rfl) (pss_cons (ps_fld (pv 0) pe_dnewK rfl) (PSs.exi (t := fun pa => tS K pa W0 g_Reading___init__) fun pa => (qs_cons (q_if (qt_cmp o_isN l_isN (pv_rdU (K := K) rfl T.a_Reading_own_units (pv 0)) v_non (nomark _)) (qs_one q_never) qs_nil)
    (qs_cons (q_for PassesOwn.never rfl (qi_enum2 (K := K) rfl (by rfl) T.z_enumerate (qa_cons (pv_slice (K := K) rfl (pv_var (pv 1)) (qo_some v_int) qo_none) (qa_cons v_int qa_nil))) (qg_tup (K := K) (n := 2) rfl rfl (qgs_cons (qg_name (i := 2) sc_Reading___init__.nd rfl (.inl rfl)) (qgs_cons (qg_name (i := 3) sc_Reading___init__.nd rfl (.inl rfl)) qgs_nil)))
    (qs_one (q_if (qt_not (qt_ifE (qt_cmp (x_eqD (K := K) rfl hr.units) l_eq (pv_var (pv 2)) v_int (nomark _)) (qt_val (pv_methP (pv 0) C_Reading_reads_first (hr.mono (by decide)) hgd (by decide) (qa_cons (pv_var (pv 3)) qa_nil))) (qt_val (pv_methP (pv 0) C_Reading_reads_part (hr.mono (by decide)) hgd (by decide) (qa_cons (pv_var (pv 3)) qa_nil))))) (qs_one q_never) qs_nil)))
    (qs_one (q_if (qt_cmp o_lt l_lt (pv_peek (pv_callB c_lenD l_lenD (by rfl) T.z_len (by decide +kernel) (qa_cons (pv_fld (K := K) (cs := ["Reading"]) rfl (by simpa using T.a_Reading_own_rows) (pv_var (pv 0))) qa_nil))) v_int (nomark _)) (qs_one q_never) qs_nil)))))))), init_of (N := ["self", "lines", "number", "line"]) T.w_Reading T.a_Reading_own_units T.a_Reading_own_rows T.a_Reading_own_depths h⟩
end
end Ak
namespace Ak
open PySem PySem.Spec PyProof.Rows L2
def g_Page___init__ : S → Ro := (sSeq (sIf (mNotT (mTest (mUn (isiD "str") (mVar 1)))) (fun _ => .no) sNil)
    (sSeq (sSet 2 (mCal m_Reading___init__ (mCons (mS1 splitD (mVar 1) (mC (.str "\n"))) mNil)))
    (sSeq (sSelf 0 "Page" "own_text" (mVar 1))
    (sSeq (sSelf 0 "Page" "own_units" (mUn (fldC ["Reading"] "own_units") (mVar 2)))
    (sSeq (sSelf 0 "Page" "own_rows" (mUn (fldC ["Reading"] "own_rows") (mVar 2)))
    (sSeq (sSelf 0 "Page" "own_ends" (mCB tupleD (mCons (mMeth "Reading" "lowest" m_Reading_lowest (mVar 2) mNil) mNil)))
    (sSelf 0 "Page" "own_weights" (mCB dictD (mCons (mFrz (mComp (mIter keysD (pureR (mUn (fldC ["Reading"] "own_rows") (mVarP 2)))) (bName 3) mYes (mTup (mCons (mVar 3) (mCons (mCal m_weights_in (mCons (mUn (fldC ["Reading"] "own_rows") (mVar 2)) (mCons (mVar 3) (mCons (mSelf 0 "Page" "own_ends") mNil)))) mNil))) [3])) mNil)))))))))
def m_Page___init__ : Bw → List D → Rp := mDefP 2 4 g_Page___init__
section
variable {P : Program} {w : World} {K : PySem.W.Frag} {mg : Str → Option Value} {base : Heap}
theorem C_Page___init__ (T : Txt K mg) : NCal P w K mg base 9 "Page" (He.ga K "Page") ["self", "text"] (spP K m_Page___init__) := by
  have C_Reading___init__ := C_Reading___init__ (P := P) (w := w) (base := base) T
  have C_Reading_lowest := C_Reading_lowest (P := P) (w := w) (base := base) T
  have C_weights_in := C_weights_in (P := P) (w := w) (base := base) T
  obtain ⟨fd, F⟩ := T.d_Page___init__
  refine ⟨_, fd, okG F sc_Page___init__ (fun vs H Q E h => spP_len h) (fun cdv A outer s H vs Q E hr hgd h => ?_), T.n_Page, T.g_Page, (F.bindsN fun _ _ _ _ _ _ us hl => match us, hl with | [_, _], _ => rfl)⟩
  obtain ⟨pa, h⟩ := spP_body (N := ["self", "text", "found", "part"]) h
  exact ⟨tS K pa W0 g_Page___init__, PSs.nox (qs_cons (q_if (qt_not (qt_val (pv_isi (K := K) (T := "") (x := "") rfl (by decide) (by rfl) T.z_isinstance (pv_var (pv 1)) (pe_bltn (v := .ty "str") (u := .type "str") (by rfl) T.z_str (by decide +kernel) rfl)))) (qs_one q_never) qs_nil)
    (qs_cons (q_set (ps_set (i := 2) sc_Page___init__.nd rfl (.inr rfl) (pv_newV (cn := "Reading") C_Reading___init__ (hr.mono (by decide)) hgd (by rfl) (qa_cons (pv_split (pv_var (pv 1)) (pv_c (pe_cs T.c_FEED rfl) (fun _ => .str _))) qa_nil))))
    (qs_cons (q_self (cn := "Page") T.a_Page_own_text (ps_fld (pv 0) (pv_var (pv 1)) rfl))
    (qs_cons (q_self (cn := "Page") T.a_Page_own_units (ps_fld (pv 0) (pv_fld (K := K) (cs := ["Reading"]) rfl (by simpa using T.a_Reading_own_units) (pv_var (pv 2))) rfl))
    (qs_cons (q_self (cn := "Page") T.a_Page_own_rows (ps_fld (pv 0) (pv_fld (K := K) (cs := ["Reading"]) rfl (by simpa using T.a_Reading_own_rows) (pv_var (pv 2))) rfl))
    (qs_cons (q_self (cn := "Page") T.a_Page_own_ends (ps_fld (pv 0) (pv_callTy (c_tupleOf (K := K) rfl) l_tuple (by rfl) T.z_tuple (by decide +kernel) (qa_cons (pv_meth0 (cn := "Reading") (pv_var (pv 2)) C_Reading_lowest (hr.mono (by decide)) hgd) qa_nil)) rfl))
    (qs_one (q_self (cn := "Page") T.a_Page_own_weights (ps_fld (pv 0) (pv_callTy (call_dictP rfl) l_dict (by rfl) T.z_dict (by decide +kernel) (qa_cons (pv_frz (pm_dcomp dw_keys (pur_fld (cs := ["Reading"]) pur_var (by simpa using T.a_Reading_own_rows)) (pe_lc (own := [("part", 3)]) rfl sc_Page___init__.nd (pi_keys (pe_fld (pv 2) rfl)) (blkOk_by (own := [("part", 3)]) (N := ["self", "text", "found", "part"]) (sc := defScope s_Page___init__) (by decide +kernel)) (fun _ _ _ _ _ => (qg_name (i := 3) sc_Page___init__.nd rfl (.inl rfl))) (fun _ _ _ _ _ => pts_nil) (fun _ _ _ _ _ => (pv_tup (qa_cons (pv_var (pv 3)) (qa_cons (pv_cal C_weights_in (hr.mono (by decide)) hgd (by rfl) (qa_cons (pv_fld (K := K) (cs := ["Reading"]) rfl (by simpa using T.a_Reading_own_rows) (pv_var (pv 2))) (qa_cons (pv_var (pv 3)) (qa_cons (pv_self (K := K) (cn := "Page") rfl T.a_Page_own_ends (pv 0)) qa_nil)))) qa_nil))))) (fun _ _ _ z => yes_of z) (by decide))) qa_nil)) rfl))))))))), h⟩
end
def g_Page___contains__ : S → Ro := (sRet (mAnd (mUn (isiD "str") (mVar 1)) (mOp dinD (mVar 1) (mUn (fldC ["Page"] "own_rows") (mVar 0)))))
def m_Page___contains__ : List D → Rv := mDef 2 2 g_Page___contains__
section
variable {P : Program} {w : World} {K : PySem.W.Frag} {mg : Str → Option Value} {base : Heap}
theorem C_Page___contains__ (T : Txt K mg) : MCal P w K mg base 1 (He.ga K "Page") "__contains__" ["self", "value"] (spV K m_Page___contains__) := by
  obtain ⟨fd, F⟩ := T.d_Page___contains__
  refine ⟨T.k_Page, _, fd, okG F sc_Page___contains__ (fun vs H Q E h => spV_len h) (fun cdv A outer s H vs Q E hr hgd h => ?_), T.m_Page___contains__, (F.bindsN fun _ _ _ _ _ _ us hl => match us, hl with | [_, _], _ => rfl), fn_there F⟩
  exact ⟨tS K ⟨0, []⟩ W0 g_Page___contains__, PSs.nox (qs_one (q_ret (pv_and (pv_isi (K := K) (T := "") (x := "") rfl (by decide) (by rfl) T.z_isinstance (pv_var (pv 1)) (pe_bltn (v := .ty "str") (u := .type "str") (by rfl) T.z_str (by decide +kernel) rfl)) (pe_one (pv_din (u1 hr) (pv_var (pv 1)) (pv_fld (K := K) (cs := ["Page"]) rfl (by simpa using T.a_Page_own_rows) (pv_var (pv 0)))))))), spV_body h⟩
end
def g_Page_check_part : S → Ro := (sIf (mTest (mOp (inO "Page" m_Page___contains__ true) (mVar 1) (mVar 0))) (fun _ => .no) sNil)
def m_Page_check_part : List D → Rv := mDef 2 2 g_Page_check_part
section
variable {P : Program} {w : World} {K : PySem.W.Frag} {mg : Str → Option Value} {base : Heap}
theorem C_Page_check_part (T : Txt K mg) : MCal P w K mg base 3 (He.ga K "Page") "check_part" ["self", "value"] (spV K m_Page_check_part) := by
  have C_Page___contains__ := C_Page___contains__ (P := P) (w := w) (base := base) T
  obtain ⟨fd, F⟩ := T.d_Page_check_part
  refine ⟨T.k_Page, _, fd, okG F sc_Page_check_part (fun vs H Q E h => spV_len h) (fun cdv A outer s H vs Q E hr hgd h => ?_), T.m_Page_check_part, (F.bindsN fun _ _ _ _ _ _ us hl => match us, hl with | [_, _], _ => rfl), fn_there F⟩
  exact ⟨tS K ⟨0, []⟩ W0 g_Page_check_part, PSs.nox (qs_one (q_if (qt_cmp (o_notInO C_Page___contains__ (hr.mono (by decide)) hgd) (l_inO (cn := "Page")) (pv_var (pv 1)) (pv_var (pv 0)) (by rfl)) (qs_one q_never) qs_nil)), spV_body h⟩
end
def g_Page___getitem__ : S → Ro := (sSeq (sDrop (mMeth "Page" "check_part" m_Page_check_part (mVar 0) (mCons (mVar 1) mNil)))
    (sRet (mOp dgetD (mUn (fldC ["Page"] "own_rows") (mVar 0)) (mVar 1))))
def m_Page___getitem__ : List D → Rv := mDef 2 2 g_Page___getitem__
section
variable {P : Program} {w : World} {K : PySem.W.Frag} {mg : Str → Option Value} {base : Heap}
theorem C_Page___getitem__ (T : Txt K mg) : MCal P w K mg base 5 (He.ga K "Page") "__getitem__" ["self", "part"] (spV K m_Page___getitem__) := by
  have C_Page_check_part := C_Page_check_part (P := P) (w := w) (base := base) T
  obtain ⟨fd, F⟩ := T.d_Page___getitem__
  refine ⟨T.k_Page, _, fd, okG F sc_Page___getitem__ (fun vs H Q E h => spV_len h) (fun cdv A outer s H vs Q E hr hgd h => ?_), T.m_Page___getitem__, (F.bindsN fun _ _ _ _ _ _ us hl => match us, hl with | [_, _], _ => rfl), fn_there F⟩
  exact ⟨tS K ⟨0, []⟩ W0 g_Page___getitem__, PSs.nox (qs_cons (q_expr (pv_meth (cn := "Page") (pv_var (pv 0)) C_Page_check_part (hr.mono (by decide)) hgd (qa_cons (pv_var (pv 1)) qa_nil)))
    (qs_one (q_ret (pv_dget (u1 hr) (pv_fld (K := K) (cs := ["Page"]) rfl (by simpa using T.a_Page_own_rows) (pv_var (pv 0))) (pv_var (pv 1)) (fun _ _ => rfl))))), spV_body h⟩
end
def g_Page_check_above : S → Ro := (sSeq (sDrop (mMeth "Page" "check_part" m_Page_check_part (mVar 0) (mCons (mVar 1) mNil)))
    (sIf (mTest (mOp eqD (mOp dgetD (mUn (fldC ["Page"] "own_rows") (mVar 0)) (mVar 1)) (mC (.tup [.non, .non, .non])))) (fun _ => .no) sNil))
def m_Page_check_above : List D → Rv := mDef 2 2 g_Page_check_above
section
variable {P : Program} {w : World} {K : PySem.W.Frag} {mg : Str → Option Value} {base : Heap}
theorem C_Page_check_above (T : Txt K mg) : MCal P w K mg base 5 (He.ga K "Page") "check_above" ["self", "part"] (spV K m_Page_check_above) := by
  have C_Page_check_part := C_Page_check_part (P := P) (w := w) (base := base) T
  obtain ⟨fd, F⟩ := T.d_Page_check_above
  refine ⟨T.k_Page, _, fd, okG F sc_Page_check_above (fun vs H Q E h => spV_len h) (fun cdv A outer s H vs Q E hr hgd h => ?_), T.m_Page_check_above, (F.bindsN fun _ _ _ _ _ _ us hl => match us, hl with | [_, _], _ => rfl), fn_there F⟩
  exact ⟨tS K ⟨0, []⟩ W0 g_Page_check_above, PSs.nox (qs_cons (q_expr (pv_meth (cn := "Page") (pv_var (pv 0)) C_Page_check_part (hr.mono (by decide)) hgd (qa_cons (pv_var (pv 1)) qa_nil)))
    (qs_one (q_if (qt_cmp (x_eqD (K := K) rfl hr.units) l_eq (pv_dget (u1 hr) (pv_fld (K := K) (cs := ["Page"]) rfl (by simpa using T.a_Page_own_rows) (pv_var (pv 0))) (pv_var (pv 1)) (fun _ _ => rfl)) (pv_c (pe_glob (v := .ref (He.ga K "UNTOLD")) rfl T.c_UNTOLD rfl) (fun _ => .tup (.inr T.t_UNTOLD) (.cons .non (.cons .non (.cons .non .nil))))) (nomark _)) (qs_one q_never) qs_nil))), spV_body h⟩
end
def g_are_counts : S → Ro := (sSeq (sIf (mNotT (mTest (mCal m_is_tuple (mCons (mVar 1) (mCons (mCB lenD (mCons (mUn (fldC ["Page"] "own_ends") (mVar 0)) mNil)) (mCons (mCB lenD (mCons (mUn (fldC ["Page"] "own_ends") (mVar 0)) mNil)) mNil)))))) (sRet (mC (.bl false))) sNil)
    (sRet (mAnd (mCB allD (mCons (mFrz (mComp (mIter iterD (mVar 1)) (bName 2) mYes (mAnd (mCal m_is_integer (mCons (mVar 2) mNil)) (mOp geD (mVar 2) (mC (.int 0)))) [2])) mNil)) (mOp gtD (mCB sumD (mCons (mVar 1) mNil)) (mC (.int 0))))))
def m_are_counts : List D → Rv := mDef 2 3 g_are_counts
section
variable {P : Program} {w : World} {K : PySem.W.Frag} {mg : Str → Option Value} {base : Heap}
theorem C_are_counts (T : Txt K mg) : Cal P w K mg base 2 "are_counts" ["page", "value"] (spV K m_are_counts) := by
  have C_is_integer := C_is_integer (P := P) (w := w) (base := base) T
  have C_is_tuple := C_is_tuple (P := P) (w := w) (base := base) T
  obtain ⟨fd, F⟩ := T.d_are_counts
  refine ⟨_, fd, okG F sc_are_counts (fun vs H Q E h => spV_len h) (fun cdv A outer s H vs Q E hr hgd h => ?_), T.g_are_counts, F.kp, (F.bindsN fun _ _ _ _ _ _ us hl => match us, hl with | [_, _], _ => rfl)⟩
  exact ⟨tS K ⟨0, []⟩ W0 g_are_counts, PSs.nox (qs_cons (q_if (qt_not (qt_val (pv_cal C_is_tuple (hr.mono (by decide)) hgd (by rfl) (qa_cons (pv_var (pv 1)) (qa_cons (pv_callB (c_lenAll (K := K) rfl) l_len (by rfl) T.z_len (by decide +kernel) (qa_cons (pv_fld (K := K) (cs := ["Page"]) rfl (by simpa using T.a_Page_own_ends) (pv_var (pv 0))) qa_nil)) (qa_cons (pv_callB (c_lenAll (K := K) rfl) l_len (by rfl) T.z_len (by decide +kernel) (qa_cons (pv_fld (K := K) (cs := ["Page"]) rfl (by simpa using T.a_Page_own_ends) (pv_var (pv 0))) qa_nil)) qa_nil)))))) (qs_one (q_ret v_bl)) qs_nil)
    (qs_one (q_ret (pv_and (pv_callB (x_all (K := K) rfl rfl) l_all (by rfl) T.z_all (by decide +kernel) (qa_cons (pv_frz (pm_comp (pe_lc (own := [("many", 2)]) rfl sc_are_counts.nd (qi_any (K := K) rfl (pv_var (pv 1))) (blkOk_by (own := [("many", 2)]) (N := ["page", "value", "many"]) (sc := defScope s_are_counts) (by decide +kernel)) (fun _ _ _ _ _ => (qg_name (i := 2) sc_are_counts.nd rfl (.inl rfl))) (fun _ _ _ _ _ => pts_nil) (fun _ _ _ _ _ => (pv_and (pv_cal C_is_integer (hr.mono (by decide)) hgd (by rfl) (qa_cons (pv_var (pv 2)) qa_nil)) (pe_one (pv_cmp o_ge l_ge (pv_var (pv 2)) v_int (nomark _)))))) (fun _ _ _ z => yes_of z) (by decide))) qa_nil)) (pe_one (pv_cmp o_gt l_gt (pv_callB (x_sumA (K := K) rfl rfl) l_sum (by rfl) T.z_sum (by decide +kernel) (qa_cons (pv_var (pv 1)) qa_nil)) v_int (nomark _))))))), spV_body h⟩
end
def g_many_in : S → Ro := (sRet (mCB sumD (mCons (mFrz (mComp (mZip (mCons (mOp dgetD (mUn (fldC ["Page"] "own_weights") (mVar 0)) (mVar 2)) (mCons (mVar 1) mNil))) (bTup 2 (bCons (bName 3) (bCons (bName 4) bNil))) mYes (mOp mulD (mVar 3) (mVar 4)) [3, 4])) mNil)))
def m_many_in : List D → Rv := mDef 3 5 g_many_in
section
variable {P : Program} {w : World} {K : PySem.W.Frag} {mg : Str → Option Value} {base : Heap}
theorem C_many_in (T : Txt K mg) : Cal P w K mg base 1 "many_in" ["page", "counts", "part"] (spV K m_many_in) := by
  obtain ⟨fd, F⟩ := T.d_many_in
  refine ⟨_, fd, okG F sc_many_in (fun vs H Q E h => spV_len h) (fun cdv A outer s H vs Q E hr hgd h => ?_), T.g_many_in, F.kp, (F.bindsN fun _ _ _ _ _ _ us hl => match us, hl with | [_, _, _], _ => rfl)⟩
  exact ⟨tS K ⟨0, []⟩ W0 g_many_in, PSs.nox (qs_one (q_ret (pv_callB (x_sumA (K := K) rfl rfl) l_sum (by rfl) T.z_sum (by decide +kernel) (qa_cons (pv_frz (pm_comp (pe_lc (own := [("weight", 3), ("many", 4)]) rfl sc_many_in.nd (qi_zip (K := K) rfl (by rfl) T.z_zip (qa_cons (pv_dget (u1 hr) (pv_fld (K := K) (cs := ["Page"]) rfl (by simpa using T.a_Page_own_weights) (pv_var (pv 0))) (pv_var (pv 2)) (fun _ _ => rfl)) (qa_cons (pv_var (pv 1)) qa_nil))) (blkOk_by (own := [("weight", 3), ("many", 4)]) (N := ["page", "counts", "part", "weight", "many"]) (sc := defScope s_many_in) (by decide +kernel)) (fun _ _ _ _ _ => (qg_tup (K := K) (n := 2) rfl rfl (qgs_cons (qg_name (i := 3) sc_many_in.nd rfl (.inl rfl)) (qgs_cons (qg_name (i := 4) sc_many_in.nd rfl (.inl rfl)) qgs_nil)))) (fun _ _ _ _ _ => pts_nil) (fun _ _ _ _ _ => (pv_op (o_mulAll (K := K) rfl) l_mul (pv_var (pv 3)) (pv_var (pv 4))))) (fun _ _ _ z => yes_of z) (by decide))) qa_nil)))), spV_body h⟩
end
def g_do_fit : S → Ro := (sSeq (sSet 2 (mCB sumD (mCons (mVar 1) mNil)))
    (sSeq (sFor (mIter itemsD (pureR (mUn (fldC ["Page"] "own_rows") (mVarP 0)))) (bTup 2 (bCons (bName 3) (bCons (bTup 3 (bCons (bName 4) (bCons (bName 5) (bCons (bName 6) bNil)))) bNil)))
    (noEx (sSeq (sSet 7 (mCal m_many_in (mCons (mVar 0) (mCons (mVar 1) (mCons (mVar 3) mNil)))))
    (sSeq (sSet 8 (mIf (mTest (mOp isND (mVar 4) (mC .non))) (mVar 2) (mCal m_many_in (mCons (mVar 0) (mCons (mVar 1) (mCons (mVar 4) mNil))))))
    (sIf (mOrT (mNotT (mTest (mCal m_is_right (mCons (mUn (fldC ["Page"] "own_units") (mVar 0)) (mCons (mVar 5) (mCons (mVar 7) (mCons (mVar 8) mNil))))))) (mNotT (mTest (mCal m_is_right (mCons (mUn (fldC ["Page"] "own_units") (mVar 0)) (mCons (mVar 6) (mCons (mVar 7) (mCons (mVar 2) mNil)))))))) (sRet (mC (.bl false))) sNil)))))
    (sRet (mC (.bl true)))))
def m_do_fit : List D → Rv := mDef 2 9 g_do_fit
section
variable {P : Program} {w : World} {K : PySem.W.Frag} {mg : Str → Option Value} {base : Heap}
theorem C_do_fit (T : Txt K mg) : Cal P w K mg base 3 "do_fit" ["page", "counts"] (spV K m_do_fit) := by
  have C_is_right := C_is_right (P := P) (w := w) (base := base) T
  have C_many_in := C_many_in (P := P) (w := w) (base := base) T
  obtain ⟨fd, F⟩ := T.d_do_fit
  refine ⟨_, fd, okG F sc_do_fit (fun vs H Q E h => spV_len h) (fun cdv A outer s H vs Q E hr hgd h => ?_), T.g_do_fit, F.kp, (F.bindsN fun _ _ _ _ _ _ us hl => match us, hl with | [_, _], _ => rfl)⟩
  exact ⟨tS K ⟨0, []⟩ W0 g_do_fit, PSs.nox (qs_cons (q_set (ps_set (i := 2) sc_do_fit.nd rfl (.inl rfl) (pv_callB (x_sumA (K := K) rfl rfl) l_sum (by rfl) T.z_sum (by decide +kernel) (qa_cons (pv_var (pv 1)) qa_nil))))
    (qs_cons (q_forD dw_items (pur_fld (cs := ["Page"]) pur_var (by simpa using T.a_Page_own_rows)) (fun hb => ps_for PassesOwn.never rfl (pi_items (pe_fld (pv 0) rfl)) (qg_tup (K := K) (n := 2) rfl rfl (qgs_cons (qg_name (i := 3) sc_do_fit.nd rfl (.inl rfl)) (qgs_cons (qg_tup (K := K) (n := 3) rfl rfl (qgs_cons (qg_name (i := 4) sc_do_fit.nd rfl (.inl rfl)) (qgs_cons (qg_name (i := 5) sc_do_fit.nd rfl (.inl rfl)) (qgs_cons (qg_name (i := 6) sc_do_fit.nd rfl (.inl rfl)) qgs_nil)))) qgs_nil))) hb) (qs_cons (q_set (ps_set (i := 7) sc_do_fit.nd rfl (.inl rfl) (pv_cal C_many_in (hr.mono (by decide)) hgd (by rfl) (qa_cons (pv_var (pv 0)) (qa_cons (pv_var (pv 1)) (qa_cons (pv_var (pv 3)) qa_nil))))))
    (qs_cons (q_set (ps_set (i := 8) sc_do_fit.nd rfl (.inl rfl) (pv_if (qt_cmp o_isN l_isN (pv_var (pv 4)) v_non (nomark _)) (pv_var (pv 2)) (pv_cal C_many_in (hr.mono (by decide)) hgd (by rfl) (qa_cons (pv_var (pv 0)) (qa_cons (pv_var (pv 1)) (qa_cons (pv_var (pv 4)) qa_nil)))))))
    (qs_one (q_if (PW.pt (qw_or (qt_not (qt_val (pv_cal C_is_right (hr.mono (by decide)) hgd (by rfl) (qa_cons (pv_fld (K := K) (cs := ["Page"]) rfl (by simpa using T.a_Page_own_units) (pv_var (pv 0))) (qa_cons (pv_var (pv 5)) (qa_cons (pv_var (pv 7)) (qa_cons (pv_var (pv 8)) qa_nil))))))) (qw_or1 (qt_not (qt_val (pv_cal C_is_right (hr.mono (by decide)) hgd (by rfl) (qa_cons (pv_fld (K := K) (cs := ["Page"]) rfl (by simpa using T.a_Page_own_units) (pv_var (pv 0))) (qa_cons (pv_var (pv 6)) (qa_cons (pv_var (pv 7)) (qa_cons (pv_var (pv 2)) qa_nil)))))))))) (qs_one (q_ret v_bl)) qs_nil)))))
    (qs_one (q_ret v_bl)))), spV_body h⟩
end
def g_Table___init__ : S → Ro := (sSeq (sIf (mNotT (mTest (mCal m_are_counts (mCons (mVar 1) (mCons (mVar 2) mNil))))) (fun _ => .no) sNil)
    (sSeq (sSelf 0 "Table" "own_page" (mVar 1))
    (sSeq (sSelf 0 "Table" "own_counts" (mVar 2))
    (sSeq (sSelf 0 "Table" "own_numbers" (mCB dictD (mCons (mFrz (mComp (mIter keysD (pureR (mUn (fldC ["Page"] "own_rows") (mVarP 1)))) (bName 3) mYes (mTup (mCons (mVar 3) (mCons (mCal m_many_in (mCons (mVar 1) (mCons (mVar 2) (mCons (mVar 3) mNil)))) mNil))) [3])) mNil)))
    (sSelf 0 "Table" "own_fits" (mCal m_do_fit (mCons (mVar 1) (mCons (mVar 2) mNil))))))))
def m_Table___init__ : Bw → List D → Rp := mDefP 3 4 g_Table___init__
section
variable {P : Program} {w : World} {K : PySem.W.Frag} {mg : Str → Option Value} {base : Heap}
theorem C_Table___init__ (T : Txt K mg) : NCal P w K mg base 4 "Table" (He.ga K "Table") ["self", "page", "counts"] (spP K m_Table___init__) := by
  have C_are_counts := C_are_counts (P := P) (w := w) (base := base) T
  have C_do_fit := C_do_fit (P := P) (w := w) (base := base) T
  have C_many_in := C_many_in (P := P) (w := w) (base := base) T
  obtain ⟨fd, F⟩ := T.d_Table___init__
  refine ⟨_, fd, okG F sc_Table___init__ (fun vs H Q E h => spP_len h) (fun cdv A outer s H vs Q E hr hgd h => ?_), T.n_Table, T.g_Table, (F.bindsN fun _ _ _ _ _ _ us hl => match us, hl with | [_, _, _], _ => rfl)⟩
  obtain ⟨pa, h⟩ := spP_body (N := ["self", "page", "counts", "part"]) h
  exact ⟨tS K pa W0 g_Table___init__, PSs.nox (qs_cons (q_if (qt_not (qt_val (pv_cal C_are_counts (hr.mono (by decide)) hgd (by rfl) (qa_cons (pv_var (pv 1)) (qa_cons (pv_var (pv 2)) qa_nil))))) (qs_one q_never) qs_nil)
    (qs_cons (q_self (cn := "Table") T.a_Table_own_page (ps_fld (pv 0) (pv_var (pv 1)) rfl))
    (qs_cons (q_self (cn := "Table") T.a_Table_own_counts (ps_fld (pv 0) (pv_var (pv 2)) rfl))
    (qs_cons (q_self (cn := "Table") T.a_Table_own_numbers (ps_fld (pv 0) (pv_callTy (call_dictP rfl) l_dict (by rfl) T.z_dict (by decide +kernel) (qa_cons (pv_frz (pm_dcomp dw_keys (pur_fld (cs := ["Page"]) pur_var (by simpa using T.a_Page_own_rows)) (pe_lc (own := [("part", 3)]) rfl sc_Table___init__.nd (pi_keys (pe_fld (pv 1) rfl)) (blkOk_by (own := [("part", 3)]) (N := ["self", "page", "counts", "part"]) (sc := defScope s_Table___init__) (by decide +kernel)) (fun _ _ _ _ _ => (qg_name (i := 3) sc_Table___init__.nd rfl (.inl rfl))) (fun _ _ _ _ _ => pts_nil) (fun _ _ _ _ _ => (pv_tup (qa_cons (pv_var (pv 3)) (qa_cons (pv_cal C_many_in (hr.mono (by decide)) hgd (by rfl) (qa_cons (pv_var (pv 1)) (qa_cons (pv_var (pv 2)) (qa_cons (pv_var (pv 3)) qa_nil)))) qa_nil))))) (fun _ _ _ z => yes_of z) (by decide))) qa_nil)) rfl))
    (qs_one (q_self (cn := "Table") T.a_Table_own_fits (ps_fld (pv 0) (pv_cal C_do_fit (hr.mono (by decide)) hgd (by rfl) (qa_cons (pv_var (pv 1)) (qa_cons (pv_var (pv 2)) qa_nil))) rfl))))))), h⟩
end
def g_Table___getitem__ : S → Ro := (sSeq (sIf (mOrT (mNotT (mTest (mUn (isiD "str") (mVar 1)))) (mTest (mOp dnotInD (mVar 1) (mUn (fldC ["Table"] "own_numbers") (mVar 0))))) (fun _ => .no) sNil)
    (sRet (mOp dgetD (mUn (fldC ["Table"] "own_numbers") (mVar 0)) (mVar 1))))
def m_Table___getitem__ : List D → Rv := mDef 2 2 g_Table___getitem__
section
variable {P : Program} {w : World} {K : PySem.W.Frag} {mg : Str → Option Value} {base : Heap}
theorem C_Table___getitem__ (T : Txt K mg) : MCal P w K mg base 1 (He.ga K "Table") "__getitem__" ["self", "part"] (spV K m_Table___getitem__) := by
  obtain ⟨fd, F⟩ := T.d_Table___getitem__
  refine ⟨T.k_Table, _, fd, okG F sc_Table___getitem__ (fun vs H Q E h => spV_len h) (fun cdv A outer s H vs Q E hr hgd h => ?_), T.m_Table___getitem__, (F.bindsN fun _ _ _ _ _ _ us hl => match us, hl with | [_, _], _ => rfl), fn_there F⟩
  exact ⟨tS K ⟨0, []⟩ W0 g_Table___getitem__, PSs.nox (qs_cons (q_if (PW.pt (qw_or (qt_not (qt_val (pv_isi (K := K) (T := "") (x := "") rfl (by decide) (by rfl) T.z_isinstance (pv_var (pv 1)) (pe_bltn (v := .ty "str") (u := .type "str") (by rfl) T.z_str (by decide +kernel) rfl)))) (qw_or1 (qt_dnotin (u1 hr) (pv_var (pv 1)) (pv_fld (K := K) (cs := ["Table"]) rfl (by simpa using T.a_Table_own_numbers) (pv_var (pv 0))))))) (qs_one q_never) qs_nil)
    (qs_one (q_ret (pv_dget (u1 hr) (pv_fld (K := K) (cs := ["Table"]) rfl (by simpa using T.a_Table_own_numbers) (pv_var (pv 0))) (pv_var (pv 1)) (fun _ _ => rfl))))), spV_body h⟩
end
def g_Table_total : S → Ro := (sRet (mCB sumD (mCons (mUn (fldC ["Table"] "own_counts") (mVar 0)) mNil)))
def m_Table_total : List D → Rv := mDef 1 1 g_Table_total
section
variable {P : Program} {w : World} {K : PySem.W.Frag} {mg : Str → Option Value} {base : Heap}
theorem C_Table_total (T : Txt K mg) : PCal P w K mg base 1 (He.ga K "Table") "total" ["self"] (spV K m_Table_total) := by
  obtain ⟨fd, F⟩ := T.p_Table_total.2
  refine ⟨T.k_Table, _, _, fd, okG F sc_Table_total (fun vs H Q E h => spV_len h) (fun cdv A outer s H vs Q E hr hgd h => ?_), T.p_Table_total.1, (F.bindsN fun _ _ _ _ _ _ us hl => match us, hl with | [_], _ => rfl)⟩
  exact ⟨tS K ⟨0, []⟩ W0 g_Table_total, PSs.nox (qs_one (q_ret (pv_callB (x_sumA (K := K) rfl rfl) l_sum (by rfl) T.z_sum (by decide +kernel) (qa_cons (pv_fld (K := K) (cs := ["Table"]) rfl (by simpa using T.a_Table_own_counts) (pv_var (pv 0))) qa_nil)))), spV_body h⟩
end
def g_Table_fits : S → Ro := (sRet (mUn (fldC ["Table"] "own_fits") (mVar 0)))
def m_Table_fits : List D → Rv := mDef 1 1 g_Table_fits
section
variable {P : Program} {w : World} {K : PySem.W.Frag} {mg : Str → Option Value} {base : Heap}
theorem C_Table_fits (T : Txt K mg) : PCal P w K mg base 1 (He.ga K "Table") "fits" ["self"] (spV K m_Table_fits) := by
  obtain ⟨fd, F⟩ := T.p_Table_fits.2
  refine ⟨T.k_Table, _, _, fd, okG F sc_Table_fits (fun vs H Q E h => spV_len h) (fun cdv A outer s H vs Q E hr hgd h => ?_), T.p_Table_fits.1, (F.bindsN fun _ _ _ _ _ _ us hl => match us, hl with | [_], _ => rfl)⟩
  exact ⟨tS K ⟨0, []⟩ W0 g_Table_fits, PSs.nox (qs_one (q_ret (pv_fld (K := K) (cs := ["Table"]) rfl (by simpa using T.a_Table_own_fits) (pv_var (pv 0))))), spV_body h⟩
end
def g_Table_shows : S → Ro := (sSeq (sDrop (mMeth "Page" "check_above" m_Page_check_above (mUn (fldC ["Table"] "own_page") (mVar 0)) (mCons (mVar 1) mNil)))
    (sSeq (sPar 2 3 (mCons (mUn (fldC ["Page"] "own_units") (mUn (fldC ["Table"] "own_page") (mVar 0))) (mCons (mOp (ixO "Table" m_Table___getitem__) (mVar 0) (mOp ixD (mOp (ixO "Page" m_Page___getitem__) (mUn (fldC ["Table"] "own_page") (mVar 0)) (mVar 1)) (mC (.int 0)))) mNil)))
    (sSeq (sSet 4 (mIf (mTest (mOp eqD (mVar 3) (mC (.int 0)))) (mC .non) (mCal m_rounded (mCons (mOp ixD (mVar 2) (mC (.int 1))) (mCons (mOp mulD (mOp ixD (mVar 2) (mC (.int 0))) (mOp (ixO "Table" m_Table___getitem__) (mVar 0) (mVar 1))) (mCons (mVar 3) mNil))))))
    (sRet (mTup (mCons (mVar 4) (mCons (mCal m_rounded (mCons (mOp ixD (mVar 2) (mC (.int 1))) (mCons (mOp mulD (mOp ixD (mVar 2) (mC (.int 0))) (mOp (ixO "Table" m_Table___getitem__) (mVar 0) (mVar 1))) (mCons (mProp "Table" m_Table_total (mVar 0)) mNil)))) mNil)))))))
def m_Table_shows : List D → Rv := mDef 2 5 g_Table_shows
section
variable {P : Program} {w : World} {K : PySem.W.Frag} {mg : Str → Option Value} {base : Heap}
theorem C_Table_shows (T : Txt K mg) : MCal P w K mg base 7 (He.ga K "Table") "shows" ["self", "part"] (spV K m_Table_shows) := by
  have C_Page___getitem__ := C_Page___getitem__ (P := P) (w := w) (base := base) T
  have C_Page_check_above := C_Page_check_above (P := P) (w := w) (base := base) T
  have C_Table___getitem__ := C_Table___getitem__ (P := P) (w := w) (base := base) T
  have C_Table_total := C_Table_total (P := P) (w := w) (base := base) T
  have C_rounded := C_rounded (P := P) (w := w) (base := base) T
  obtain ⟨fd, F⟩ := T.d_Table_shows
  refine ⟨T.k_Table, _, fd, okG F sc_Table_shows (fun vs H Q E h => spV_len h) (fun cdv A outer s H vs Q E hr hgd h => ?_), T.m_Table_shows, (F.bindsN fun _ _ _ _ _ _ us hl => match us, hl with | [_, _], _ => rfl), fn_there F⟩
  exact ⟨tS K ⟨0, []⟩ W0 g_Table_shows, PSs.nox (qs_cons (q_expr (pv_meth (cn := "Page") (pv_fld (K := K) (cs := ["Table"]) rfl (by simpa using T.a_Table_own_page) (pv_var (pv 0))) C_Page_check_above (hr.mono (by decide)) hgd (qa_cons (pv_var (pv 1)) qa_nil)))
    (qs_cons (q_par (ps_par (i := 2) (j := 3) (by rfl) sc_Table_shows.nd rfl rfl (by decide) rfl rfl (qa_cons (pv_fld (K := K) (cs := ["Page"]) rfl (by simpa using T.a_Page_own_units) (pv_fld (K := K) (cs := ["Table"]) rfl (by simpa using T.a_Table_own_page) (pv_var (pv 0)))) (qa_cons (pv_ixO (cn := "Table") C_Table___getitem__ (hr.mono (by decide)) hgd (pv_var (pv 0)) (pv_ix (x_ix (K := K) rfl) l_ix (pv_ixO (cn := "Page") C_Page___getitem__ (hr.mono (by decide)) hgd (pv_fld (K := K) (cs := ["Table"]) rfl (by simpa using T.a_Table_own_page) (pv_var (pv 0))) (pv_var (pv 1))) v_int (fun _ _ => rfl))) qa_nil)) (by rfl)))
    (qs_cons (q_set (ps_set (i := 4) sc_Table_shows.nd rfl (.inl rfl) (pv_if (qt_cmp (x_eqD (K := K) rfl hr.units) l_eq (pv_var (pv 3)) v_int (nomark _)) v_non (pv_cal C_rounded (hr.mono (by decide)) hgd (by rfl) (qa_cons (pv_ix (x_ix (K := K) rfl) l_ix (pv_var (pv 2)) v_int (fun _ _ => rfl)) (qa_cons (pv_op (o_mulAll (K := K) rfl) l_mul (pv_ix (x_ix (K := K) rfl) l_ix (pv_var (pv 2)) v_int (fun _ _ => rfl)) (pv_ixO (cn := "Table") C_Table___getitem__ (hr.mono (by decide)) hgd (pv_var (pv 0)) (pv_var (pv 1)))) (qa_cons (pv_var (pv 3)) qa_nil)))))))
    (qs_one (q_ret (pv_tup (qa_cons (pv_var (pv 4)) (qa_cons (pv_cal C_rounded (hr.mono (by decide)) hgd (by rfl) (qa_cons (pv_ix (x_ix (K := K) rfl) l_ix (pv_var (pv 2)) v_int (fun _ _ => rfl)) (qa_cons (pv_op (o_mulAll (K := K) rfl) l_mul (pv_ix (x_ix (K := K) rfl) l_ix (pv_var (pv 2)) v_int (fun _ _ => rfl)) (pv_ixO (cn := "Table") C_Table___getitem__ (hr.mono (by decide)) hgd (pv_var (pv 0)) (pv_var (pv 1)))) (qa_cons (pv_prop (cn := "Table") (pv_var (pv 0)) C_Table_total (hr.mono (by decide)) hgd) qa_nil)))) qa_nil)))))))), spV_body h⟩
end
def g_l_is_right_of : S → Ro := (sSeq (sSet 3 (mNew "Table" m_Table___init__ (mCons (mVar 1) (mCons (mVar 2) mNil))))
    (sSeq (sFor (mIter iterD (mOp dgetD (mVar 0) (mC (.str "rows")))) (bName 4)
    (sIf (mTest (mOp neD (mCB reprD (mCons (mMeth "Table" "shows" m_Table_shows (mVar 3) (mCons (mOp ixD (mVar 4) (mC (.int 0))) mNil)) mNil)) (mCB reprD (mCons (mCal m_l_shown_due (mCons (mVar 0) (mCons (mVar 2) (mCons (mVar 4) mNil)))) mNil)))) (sRet (mC (.bl false))) sNil))
    (sRet (mOp eqD (mCB reprD (mCons (mProp "Table" m_Table_fits (mVar 3)) mNil)) (mCB reprD (mCons (mCal m_l_fits (mCons (mVar 0) (mCons (mVar 2) mNil))) mNil))))))
def m_l_is_right_of : List D → Rv := mDef 3 5 g_l_is_right_of
section
variable {P : Program} {w : World} {K : PySem.W.Frag} {mg : Str → Option Value} {base : Heap}
theorem C_l_is_right_of (T : Txt K mg) : Cal P w K mg base 9 "_law_is_right_of" ["_law_lore_here", "_law_page", "_law_counts"] (spV K m_l_is_right_of) := by
  have C_Table___init__ := C_Table___init__ (P := P) (w := w) (base := base) T
  have C_Table_fits := C_Table_fits (P := P) (w := w) (base := base) T
  have C_Table_shows := C_Table_shows (P := P) (w := w) (base := base) T
  have C_l_fits := C_l_fits (P := P) (w := w) (base := base) T
  have C_l_shown_due := C_l_shown_due (P := P) (w := w) (base := base) T
  obtain ⟨fd, F⟩ := T.d_l_is_right_of
  refine ⟨_, fd, okG F sc_l_is_right_of (fun vs H Q E h => spV_len h) (fun cdv A outer s H vs Q E hr hgd h => ?_), T.g_l_is_right_of, F.kp, (F.bindsN fun _ _ _ _ _ _ us hl => match us, hl with | [_, _, _], _ => rfl)⟩
  exact ⟨tS K ⟨0, []⟩ W0 g_l_is_right_of, PSs.nox (qs_cons (q_set (ps_set (i := 3) sc_l_is_right_of.nd rfl (.inl rfl) (pv_new (cn := "Table") T.w_Table C_Table___init__ (hr.mono (by decide)) hgd (by rfl) (qa_cons (pv_var (pv 1)) (qa_cons (pv_var (pv 2)) qa_nil)))))
    (qs_cons (q_for PassesOwn.never rfl (qi_any (K := K) rfl (pv_dget (u1 hr) (pv_var (pv 0)) v_str (fun _ _ => rfl))) (qg_name (i := 4) sc_l_is_right_of.nd rfl (.inl rfl))
    (qs_one (q_if (qt_cmp (x_neD (K := K) rfl hr.units) l_ne (pv_callB (x_repr (K := K) rfl hr hgd) l_repr (by rfl) T.z_repr (by decide +kernel) (qa_cons (pv_meth (cn := "Table") (pv_var (pv 3)) C_Table_shows (hr.mono (by decide)) hgd (qa_cons (pv_ix (x_ix (K := K) rfl) l_ix (pv_var (pv 4)) v_int (fun _ _ => rfl)) qa_nil)) qa_nil)) (pv_callB (x_repr (K := K) rfl hr hgd) l_repr (by rfl) T.z_repr (by decide +kernel) (qa_cons (pv_cal C_l_shown_due (hr.mono (by decide)) hgd (by rfl) (qa_cons (pv_var (pv 0)) (qa_cons (pv_var (pv 2)) (qa_cons (pv_var (pv 4)) qa_nil)))) qa_nil)) (nomark _)) (qs_one (q_ret v_bl)) qs_nil)))
    (qs_one (q_ret (pv_cmp (x_eqD (K := K) rfl hr.units) l_eq (pv_callB (x_repr (K := K) rfl hr hgd) l_repr (by rfl) T.z_repr (by decide +kernel) (qa_cons (pv_prop (cn := "Table") (pv_var (pv 3)) C_Table_fits (hr.mono (by decide)) hgd) qa_nil)) (pv_callB (x_repr (K := K) rfl hr hgd) l_repr (by rfl) T.z_repr (by decide +kernel) (qa_cons (pv_cal C_l_fits (hr.mono (by decide)) hgd (by rfl) (qa_cons (pv_var (pv 0)) (qa_cons (pv_var (pv 2)) qa_nil))) qa_nil)) (nomark _)))))), spV_body h⟩
end
def g_l_right : S → Ro := (sSeq (sAsg (bTup 2 (bCons (bName 1) (bCons (bName 2) bNil))) (mCalP 0 m_l_lore (mCons (mCal m_l_wide_shapes mNil) (mCons (mCalP 0 m_l_of (mCons (mLst (mCons (mC (.int 4)) (mCons (mC (.int 10)) (mCons (mC (.int 20)) (mCons (mC (.int 100)) mNil))))) mNil)) (mCons (mC (.int 7)) mNil)))))
    (sSeq (sFor (mIter iterD (mTup (mCons (mVar 1) (mCons (mCalP 0 m_l_bent_lore (mCons (mVar 1) mNil)) mNil)))) (bName 3)
    (sSeq (sSet 4 (mNew "Page" m_Page___init__ (mCons (mCal m_l_text (mCons (mVar 3) mNil)) mNil)))
    (sIf (mNotT (mTest (mCB allD (mCons (mFrz (mComp (mIter iterD (mCalP 0 m_l_near_counts (mCons (mVar 2) mNil))) (bName 5) mYes (mCal m_l_is_right_of (mCons (mVar 3) (mCons (mVar 4) (mCons (mVar 5) mNil)))) [5])) mNil)))) (sRet (mC (.bl false))) sNil)))
    (sRet (mOp isBD (mProp "Table" m_Table_fits (mNew "Table" m_Table___init__ (mCons (mNew "Page" m_Page___init__ (mCons (mCal m_l_text (mCons (mVar 1) mNil)) mNil)) (mCons (mVar 2) mNil)))) (mC (.bl true))))))
def m_l_right : Bw → List D → Rp := mDefP 1 6 g_l_right
section
variable {P : Program} {w : World} {K : PySem.W.Frag} {mg : Str → Option Value} {base : Heap}
theorem C_l_right (T : Txt K mg) : Cal P w K mg base 11 "_law_right" ["_law_pot_here"] (spP K m_l_right) := by
  have C_Page___init__ := C_Page___init__ (P := P) (w := w) (base := base) T
  have C_Table___init__ := C_Table___init__ (P := P) (w := w) (base := base) T
  have C_Table_fits := C_Table_fits (P := P) (w := w) (base := base) T
  have C_l_bent_lore := C_l_bent_lore (P := P) (w := w) (base := base) T
  have C_l_is_right_of := C_l_is_right_of (P := P) (w := w) (base := base) T
  have C_l_lore := C_l_lore (P := P) (w := w) (base := base) T
  have C_l_near_counts := C_l_near_counts (P := P) (w := w) (base := base) T
  have C_l_of := C_l_of (P := P) (w := w) (base := base) T
  have C_l_text := C_l_text (P := P) (w := w) (base := base) T
  have C_l_wide_shapes := C_l_wide_shapes (P := P) (w := w) (base := base) T
  obtain ⟨fd, F⟩ := T.d_l_right
  refine ⟨_, fd, okG F sc_l_right (fun vs H Q E h => spP_len h) (fun cdv A outer s H vs Q E hr hgd h => ?_), T.g_l_right, F.kp, (F.bindsN fun _ _ _ _ _ _ us hl => match us, hl with | [_], _ => rfl)⟩
  obtain ⟨pa, h⟩ := spP_body (N := ["_law_pot_here", "_law_lore_here", "_law_counts", "_law_one", "_law_page", "_law_some_here"]) h
  exact ⟨tS K pa W0 g_l_right, PSs.nox (qs_cons (q_asg (pv_calP C_l_lore (hr.mono (by decide)) hgd (by rfl) (pv 0) (qa_cons (pv_cal0 C_l_wide_shapes (hr.mono (by decide)) hgd (by rfl)) (qa_cons (pv_calP C_l_of (hr.mono (by decide)) hgd (by rfl) (pv 0) (qa_cons (pv_lst (qa_cons v_int (qa_cons v_int (qa_cons v_int (qa_cons v_int qa_nil))))) qa_nil)) (qa_cons v_int qa_nil)))) (qg_tup (K := K) (n := 2) rfl rfl (qgs_cons (qg_name (i := 1) sc_l_right.nd rfl (.inl rfl)) (qgs_cons (qg_name (i := 2) sc_l_right.nd rfl (.inl rfl)) qgs_nil))))
    (qs_cons (q_for PassesOwn.never rfl (qi_any (K := K) rfl (pv_tup (qa_cons (pv_var (pv 1)) (qa_cons (pv_calP C_l_bent_lore (hr.mono (by decide)) hgd (by rfl) (pv 0) (qa_cons (pv_var (pv 1)) qa_nil)) qa_nil)))) (qg_name (i := 3) sc_l_right.nd rfl (.inr rfl))
    (qs_cons (q_set (ps_set (i := 4) sc_l_right.nd rfl (.inr rfl) (pv_new (cn := "Page") T.w_Page C_Page___init__ (hr.mono (by decide)) hgd (by rfl) (qa_cons (pv_cal C_l_text (hr.mono (by decide)) hgd (by rfl) (qa_cons (pv_var (pv 3)) qa_nil)) qa_nil))))
    (qs_one (q_if (qt_not (qt_val (pv_callB (x_all (K := K) rfl rfl) l_all (by rfl) T.z_all (by decide +kernel) (qa_cons (pv_frz (pm_comp (pe_lc (own := [("_law_some_here", 5)]) rfl sc_l_right.nd (qi_any (K := K) rfl (pv_calP C_l_near_counts (hr.mono (by decide)) hgd (by rfl) (pv 0) (qa_cons (pv_var (pv 2)) qa_nil))) (blkOk_by (own := [("_law_some_here", 5)]) (N := ["_law_pot_here", "_law_lore_here", "_law_counts", "_law_one", "_law_page", "_law_some_here"]) (sc := defScope s_l_right) (by decide +kernel)) (fun _ _ _ _ _ => (qg_name (i := 5) sc_l_right.nd rfl (.inl rfl))) (fun _ _ _ _ _ => pts_nil) (fun _ _ _ _ _ => (pv_cal C_l_is_right_of (hr.mono (by decide)) hgd (by rfl) (qa_cons (pv_var (pv 3)) (qa_cons (pv_var (pv 4)) (qa_cons (pv_var (pv 5)) qa_nil)))))) (fun _ _ _ z => yes_of z) (by decide))) qa_nil)))) (qs_one (q_ret v_bl)) qs_nil))))
    (qs_one (q_ret (pv_cmp o_isB l_isB (pv_prop (cn := "Table") (pv_new (cn := "Table") T.w_Table C_Table___init__ (hr.mono (by decide)) hgd (by rfl) (qa_cons (pv_new (cn := "Page") T.w_Page C_Page___init__ (hr.mono (by decide)) hgd (by rfl) (qa_cons (pv_cal C_l_text (hr.mono (by decide)) hgd (by rfl) (qa_cons (pv_var (pv 1)) qa_nil)) qa_nil)) (qa_cons (pv_var (pv 2)) qa_nil))) C_Table_fits (hr.mono (by decide)) hgd) v_bl (nomark _)))))), h⟩
end
end Ak
namespace Ak
open PySem PySem.Spec PyProof.Rows L2
/-! ### the walk of readings -/
local macro_rules | `(tactic| walk_at "go1") => `(tactic| (first
  | with_reducible refine w_seq ?_ | with_reducible refine w_next ?_ | with_reducible refine w_set ?_ | with_reducible refine w_asgS ?_ | with_reducible refine w_ret ?_ | with_reducible refine w_drop ?_ | with_reducible refine w_ifS ?_
  | with_reducible refine w_op ?_ | with_reducible refine w_un ?_ | ((with_reducible apply w_var); (· exact rfl)) | with_reducible refine w_c ?_
  | with_reducible refine w_add ?_ | with_reducible refine w_sub ?_ | with_reducible refine w_lt ?_ | with_reducible refine w_le ?_ | with_reducible refine w_gt ?_ | with_reducible refine w_ge ?_ | with_reducible refine w_neg ?_ | with_reducible refine w_isN ?_ | with_reducible refine w_notN ?_
  | ((with_reducible refine w_eq ?_ ?_); (· exact rfl)) | ((with_reducible refine w_ne ?_ ?_); (· exact rfl))
  | with_reducible refine w_test ?_ | with_reducible refine w_B ?_ | with_reducible refine w_or ?_ | with_reducible refine w_and ?_ | with_reducible refine w_not ?_ | with_reducible refine w_andV ?_ | with_reducible refine w_orV ?_ | with_reducible refine w_notV ?_
  | with_reducible refine w_ifE ?_ | with_reducible refine w_chain ?_ | with_reducible refine w_cb ?_ | with_reducible refine w_nil ?_ | with_reducible refine w_cons ?_ | with_reducible refine w_tup ?_ | with_reducible refine w_lst ?_ | with_reducible refine w_call ?_
  | with_reducible refine w_int1 ?_ | with_reducible refine w_abs ?_ | with_reducible refine w_max2 ?_ | with_reducible refine w_min2 ?_
  | with_reducible refine w_mknx ?_ | with_reducible refine w_mkrt ?_ | with_reducible refine w_mkbk ?_ | with_reducible refine w_mkct ?_ | with_reducible refine w_ifT ?_ | with_reducible refine w_ifF ?_ | with_reducible refine w_ifNT ?_ | with_reducible refine w_ifNF ?_
  | with_reducible refine w_lc ?_ | with_reducible refine w_lrg ?_ | with_reducible refine w_rg1 ?_ | with_reducible refine w_rg2 ?_ | with_reducible refine w_exI ?_ | with_reducible refine w_exI2 ?_
  | with_reducible refine w_sl ?_ | with_reducible refine w_part ?_ | with_reducible refine w_noPart ?_ | with_reducible refine w_lcE ?_ | with_reducible refine w_lcZ ?_ | with_reducible refine w_yes ?_
  | with_reducible refine w_bl ?_ | with_reducible refine w_asgT ?_ | with_reducible refine w_gcons ?_ | with_reducible refine w_gnil ?_ | with_reducible refine w_par ?_ | with_reducible refine w_pair ?_
  | ((with_reducible refine w_ixL (v := ?vv) (sqL (by assumption)) ?ee ?_); (case ee => exact rfl)) | ((with_reducible refine w_ixT (v := ?vv) (sqT (by assumption)) ?ee ?_); (case ee => exact rfl))
  | ((with_reducible refine w_ixL (v := ?vv) (by assumption) ?ee ?_); (case ee => exact rfl)) | ((with_reducible refine w_ixT (v := ?vv) (by assumption) ?ee ?_); (case ee => exact rfl))
  | ((with_reducible refine w_ifDT ?_ ?_); (· first | omega | decide +kernel)) | ((with_reducible refine w_ifDF ?_ ?_); (· first | omega | decide +kernel | exact ne_IS | exact ne_SI | exact ne_IN | exact ne_SN | exact ne_RN))
  | ((with_reducible refine w_mod ?_ ?_); (· omega)) | ((with_reducible refine w_fdiv ?_ ?_ ?_); (· omega); (· omega))
  | ((with_reducible refine w_mulL ?_ ?_ ?_); (· omega); (· omega)) | ((with_reducible refine w_mulR ?_ ?_ ?_); (· omega); (· omega))
  | with_reducible refine w_lenL (sqL (by assumption)) ?_ | with_reducible refine w_lenL (by assumption) ?_ | with_reducible refine w_lenT (sqT (by assumption)) ?_ | with_reducible refine w_lenT (by assumption) ?_))
local macro_rules | `(tactic| walk_at "go") => `(tactic| repeat walk_at "go1")
/-! ### the law's own pot and cells (as draws.in, without what is drawn) -/
def PotL (n : Nat) (xs : List V) : Prop := ∃ a b c : Int, xs = [.int a, .int b, .int c] ∧ 0 ≤ a ∧ 0 ≤ b ∧ b < 2305843009213693952 ∧ 0 ≤ c ∧ c ≤ n
/-- all but what stands at p is as it was -/
def But (p : Addr) (H H' : Hp) : Prop := ∀ b o, b ≠ p → H b = some o → H' b = some o
theorem But.refl {p : Addr} {H : Hp} : But p H H := fun _ _ _ h => h
theorem But.trans {p : Addr} {H H1 H2 : Hp} (a : But p H H1) (b : But p H1 H2) : But p H H2 := fun c o n h => b c o n (a c o n h)
theorem But.upd {p : Addr} {H H' : Hp} {o : HO} (a : But p H H') : But p H (upd H' p o) := fun c u n h => by
  rw [upd_ne n]
  exact a c u n h
theorem But.new {p q : Addr} {H H' : Hp} {o : HO} (a : But p H H') (hq : H' q = none) : But p H (L2.upd H' q o) := fun c u n h => by
  rw [upd_ne (ne_of_none (a c u n h) hq)]
  exact a c u n h
theorem upd_old {H : Hp} {q b : Addr} {o u : HO} (hq : H q = none) (h : H b = some u) : upd H q o b = some u := by
  rw [upd_ne (ne_of_none h hq)]
  exact h
theorem But.tups {p : Addr} {H H' : Hp} {xs : List V} (b : But p H H') (hp : H p = some (.lst xs)) : ∀ a ys, H a = some (.tup ys) → H' a = some (.tup ys) := fun a ys h => b a _ (fun z => by
  rw [z, hp] at h
  cases h) h
/-- what a draw promises -/
def Draw (ok : V → Hp → Prop) (p : Addr) (m : Nat) (H : Hp) (Q : VK) : Prop := ∀ v H' ys, But p H H' → H' p = some (.lst ys) → PotL m ys → ok v H' → Q v H'
theorem cpow_of {i j : Int} (h0 : 0 ≤ i) (h : i < 340282366920938463463374607431768211456) (h1 : 0 ≤ j) (h2 : j ≤ 100) : CPowW i j := by
  refine ⟨h1, h2, Nat.lt_of_lt_of_le (m := 340282366920938463463374607431768211456) (by omega) ?_⟩
  exact Nat.pow_le_pow_right (i := 128) (j := 4096) (n := 2) (by decide) (by decide)
theorem cpow_gen {b k c m : Int} (hb : 0 ≤ b) (hb2 : b < 2305843009213693952) (hc : 0 ≤ c) (hc2 : c ≤ 100001) (hk : 0 ≤ k) (hk2 : k ≤ 1000000) (hm : 0 ≤ m) (hm2 : m ≤ 1000000) : CPowW (b + k * c * c + m) 3 := by
  have h1 : 0 ≤ k * c := Int.mul_nonneg hk hc
  have h2 : 0 ≤ k * c * c := Int.mul_nonneg h1 hc
  have h3 : k * c ≤ 1000000 * 100001 := Int.mul_le_mul hk2 hc2 hc (by decide)
  have h4 : k * c * c ≤ 1000000 * 100001 * 100001 := Int.mul_le_mul h3 hc2 hc (by decide)
  exact cpow_of (by omega) (by omega) (by decide) (by decide)
theorem _root_.L2.Same.but {p : Addr} {H H' : Hp} (s : Same H H') : But p H H' := fun b o _ h => s b o h
section
variable {P : Program} {w : World} {K : PySem.W.Frag} {mg : Str → Option Value} {base : Heap}
def spPot (K : PySem.W.Frag) : Sp := fun vs H Q _ => ∃ a k ns, vs = [.ref a, .int k] ∧ SqL K H a ((ns : List Int).map V.int) ∧ 0 ≤ k ∧ k ≤ 100 ∧ ∀ p H' ys, H p = none → Same H H' → H' p = some (.lst ys) → PotL 0 ys → Q (.ref p) H'
theorem C_l_pot (T : Txt K mg) : Cal P w K mg base 1 "_law_pot" ["_law_script", "_law_place"] (spPot K) := by
  obtain ⟨fd, F⟩ := T.d_l_pot
  refine ⟨_, fd, okG F sc_l_pot (fun vs H Q E h => ?_) (fun cdv A outer s H vs Q E hr hgd h => ?_), T.g_l_pot, F.kp, (F.bindsN fun _ _ _ _ _ _ us hl => match us, hl with | [_, _], _ => rfl)⟩
  · obtain ⟨p, n, u, rfl, _⟩ := h
    rfl
  · obtain ⟨a, k, ns, rfl, hS, hk, hk2, q⟩ := h
    refine ⟨_, PSs.nox (pss_cons (ps_set (i := 2) sc_l_pot.nd rfl (.inl rfl) (pe_ifExp (pt_cmpR o_lt (pv 1) (pe_callB (x_len (K := K) rfl) (by rfl) T.z_len (by decide +kernel) (pa_cons (pv 0) pa_nil)) (nomark _)) (pe_ix (x_ix (K := K) rfl) (pv 0) (pv 1) (fun _ _ => rfl)) (pe_op o_add (pe_op o_mul pe_int (pv 1)) pe_int)))
    (pss_cons (ps_set (i := 3) sc_l_pot.nd rfl (.inl rfl) (pe_op o_mul (pe_op o_mod (pe_callTy c_int1 (by rfl) T.z_int (by decide +kernel) (pa_cons (pe_callB c_abs (by rfl) T.z_abs (by decide +kernel) (pa_cons (pv 2) pa_nil)) pa_nil)) (pe_op o_pow (pe_op o_pow pe_int pe_int) pe_int)) (pe_callTy c_int1 (by rfl) T.z_int (by decide +kernel) (pa_cons (pe_cmpR o_ge (pe_callB c_abs (by rfl) T.z_abs (by decide +kernel) (pa_cons (pv 2) pa_nil)) (pe_op o_pow pe_int pe_int) (nomark _)) pa_nil))))
    (pss_cons (ps_set (i := 4) sc_l_pot.nd rfl (.inl rfl) (pe_op o_mod (pe_callTy c_int1 (by rfl) T.z_int (by decide +kernel) (pa_cons (pv 2) pa_nil)) pe_int))
    (pss_one (ps_ret (pe_lst (pa_cons (pv 3) (pa_cons (pe_op o_mod (pe_callTy c_int1 (by rfl) T.z_int (by decide +kernel) (pa_cons (pe_op o_add (pe_op o_add (pe_op o_mul (pv 4) pe_int) (pe_op o_mul (pe_op o_mul pe_int (pv 1)) (pv 1))) pe_int) pa_nil)) pe_int) (pa_cons pe_int pa_nil))))))))), ?_⟩
    try dsimp only [cxOf, Cx.nox, Cx.wish]
    rw [st_l_pot]; walk_at "go"
    refine w_if (fun e => ?g1) (fun e => ?_)
    case' g1 =>
      walk_at "go"
      obtain ⟨v, ev, mv⟩ := atI_ex (xs := ns.map V.int) hk e
      obtain ⟨z, _, rfl⟩ := List.mem_map.mp mv
      refine w_ixL hS ev ?_
    all_goals
      walk_at "go"
      refine w_pow (cpow_of (by decide) (by decide) (by decide) (by decide)) ?_
      walk_at "go"
      refine w_pow ⟨by decide, by decide, by decide +kernel⟩ ?_
      refine w_modG (Int.pow_pos (Int.pow_pos (by decide))) (fun r r0 _ => ?_)
      walk_at "go"
      refine w_pow (cpow_of (by decide) (by decide) (by decide) (by decide)) ?_
      walk_at "go"
      refine w_int1G (fun f f0 f1 => ?_)
      walk_at "go"
      refine w_newL rfl (fun p H1 np hp s1 => ?_)
      exact q _ _ _ np s1 hp ⟨_, _, 0, rfl, Int.mul_nonneg r0 f0, by omega, by omega, by omega, by omega⟩
def spCells (K : PySem.W.Frag) : Sp := fun vs H Q _ => ∃ a k ns, vs = [.ref a, .int k] ∧ SqL K H a ((ns : List Int).map V.int) ∧ 1 ≤ k ∧ k ≤ 100 ∧ ∀ p H' n, H p = none → Same H H' → n ≤ 100 → H' p = some (.lst (rgV 0 n)) → Q (.ref p) H'
theorem C_l_cells (T : Txt K mg) : Cal P w K mg base 1 "_law_cells" ["_law_script", "_law_most"] (spCells K) := by
  obtain ⟨fd, F⟩ := T.d_l_cells
  refine ⟨_, fd, okG F sc_l_cells (fun vs H Q E h => ?_) (fun cdv A outer s H vs Q E hr hgd h => ?_), T.g_l_cells, F.kp, (F.bindsN fun _ _ _ _ _ _ us hl => match us, hl with | [_, _], _ => rfl)⟩
  · obtain ⟨p, n, u, rfl, _⟩ := h
    rfl
  · obtain ⟨a, k, ns, rfl, hS, hk, hk2, q⟩ := h
    refine ⟨_, PSs.nox (pss_one (ps_ret (pe_listRg rfl (by rfl) T.z_list (prg_1 (by rfl) T.z_range (pe_callB (c_max2 rfl) (by rfl) T.z_max (by decide +kernel) (pa_cons pe_int (pa_cons (pe_callB (c_min2 rfl) (by rfl) T.z_min (by decide +kernel) (pa_cons (pv 1) (pa_cons (pe_callB (x_len (K := K) rfl) (by rfl) T.z_len (by decide +kernel) (pa_cons (pv 0) pa_nil)) pa_nil))) pa_nil))))))), ?_⟩
    try dsimp only [cxOf, Cx.nox, Cx.wish]
    rw [st_l_cells]; walk_at "go"
    refine w_newR (by decide) (by decide) ?_ ?_ (fun p H1 np hp s1 => ?_)
    · split <;> split <;> omega
    · split <;> split <;> omega
    · exact q _ _ _ np s1 (by split <;> split <;> omega) hp
end

/-! ### the law's tail over a mirrored _law_right; tables may grow -/
structure Fresh (q : Pot) : Prop where
  a0 : 0 ≤ q.a
  b0 : 0 ≤ q.b
  b1 : q.b < 2305843009213693952
  c0 : q.c = 0
def KBut (p : Addr) (H H' : Hp) : Prop := ∀ b o, b ≠ p → H b = some o → ∃ o', H' b = some o' ∧ (NoTab o → o' = o)
def spRight : Sp := fun vs H Q _ => ∃ p ys, vs = [.ref p] ∧ H p = some (.lst ys) ∧ PotL 0 ys ∧ Sub mkF H ∧ ∀ H', KBut p H H' → Sub mkF H' → Q (.bl true) H'
theorem spRight_of {K : PySem.W.Frag} {m : Bw → List D → Rp} (h : ∀ q : Pot, Fresh q → ∃ p', m (.pot q) [] = .ok (.bl true) p') {vs : List V} {H : Hp} {Q : VK} {E : XK} (w : spRight vs H Q E) : spP K m vs H Q E := by
  obtain ⟨p, ys, rfl, hp, ⟨a, b, c, rfl, ha, hb, hb2, hc, hc2⟩, sub, w⟩ := w
  obtain ⟨p', e⟩ := h ⟨a, b, c⟩ ⟨ha, hb, hb2, by show c = 0; omega⟩
  refine ⟨mkF, ⟨p, []⟩, .pot ⟨a, b, c⟩, [], [], rfl, sub, fun z hz => ?_, ⟨rfl, hp⟩, .nil, ?_⟩
  · rcases hz with rfl | hz
    · exact mkF_no sub hp
    · cases hz
  rw [e]
  intro v H' F' ex _ dv
  have ev := dv.isBl
  subst ev
  exact w H' (fun b o ne ho => ex.keep b o ho fun z => z.elim ne fun z => nomatch z) (ex.sub.less ex.le fun p hp => mkF_at hp)
theorem Cal.weak {P : Program} {w : World} {K : PySem.W.Frag} {mg : Str → Option Value} {base : Heap} {k : Nat} {x : Str} {ps : List Str} {sp sp' : Sp} (C : Cal P w K mg base k x ps sp) (h : ∀ vs H Q E, sp' vs H Q E → sp vs H Q E) : Cal P w K mg base k x ps sp' := by
  obtain ⟨f, fd, G, r⟩ := C.ex
  exact ⟨f, fd, ⟨fun vs H Q E z => G.many vs H Q E (h _ _ _ _ z), fun A st s H as us vs Q E hr hg e0 bt rel z => G.goes A st s H as us vs Q E hr hg e0 bt rel (h _ _ _ _ z)⟩, r⟩
theorem Kept.seq {K : PySem.W.Frag} {H H' : Hp} {a : Addr} {xs : List V} (k : Kept H H') (h : SqL K H a xs) : SqL K H' a xs := by
  rcases h with (h | ⟨o, h⟩) | h
  · exact .inl (.inl (k.at h))
  · exact .inl (.inr ⟨o, k.at h⟩)
  · exact .inr h
/-- a comprehension of trues over a list, whose turns make lambdas -/
theorem w_lcLK {K : PySem.W.Frag} {σ : L2.St} {H : Hp} {Q : VK} {a : Addr} {xs : List V} {g : TG} {te : TE} {vs : List Nat} (ha : SqL K H a xs) (hz : xs.length ≤ 1000000) (sub : Sub mkF H)
    (step : ∀ (i : Nat) (x : V) (H' : Hp) (Nx : VK), xs[i]? = some x → Kept H H' → Sub mkF H' → (∀ H3, Kept H' H3 → Sub mkF H3 → Nx (.bl true) H3) → g x (wipe σ vs) H' fun σ2 H2 => wipe σ2 vs = wipe σ vs ∧ te σ2 H2 Nx)
    (q : ∀ D H' ys, H' D = some (.lst ys) → (∀ (i : Nat) (y : V), ys[i]? = some y → y = .bl true) → Q (.ref D) H') : LcAt K (.ref a) g tYes te vs σ H Q := by
  refine ⟨a, rfl, ⟨xs, ha⟩, fun D hD => ?_⟩
  have start : Sub mkF (upd H D (.lst [])) := sub.updN (sub.isN hD) (plain_none hD)
  refine lc_list (K := K) (a := a) (xs := xs) (fun i H' => Kept H H' ∧ Sub mkF H' ∧ ∃ acc, H' D = some (.lst acc) ∧ acc.length = i ∧ ∀ y ∈ acc, y = V.bl true) ⟨Kept.of (same_new hD), start, [], upd_same, rfl, fun y hy => by cases hy⟩ (fun i H' _ h => h.1.seq ha) (fun i x H' hx h => ?_) (fun H' h => ?_)
  · obtain ⟨kp, sb, acc, hacc, hlen, hall⟩ := h
    refine step i x H' _ hx kp sb fun H3 kp3 sb3 => ?_
    have hi : i < xs.length := (List.getElem?_eq_some_iff.mp hx).1
    have at3 : H3 D = some (.lst acc) := kp3.at hacc
    refine ⟨acc, at3, Nat.lt_of_le_of_lt (show acc.length ≤ 1000000 by omega) (by decide), fun b o hb => ?_, sb3.updN (mkF_no sb3 at3) (plain_of at3), acc ++ [.bl true], upd_same, by simp [hlen], fun y hy => ?_⟩
    · rw [upd_ne (ne_of_none hb hD)]
      exact (kp.trans kp3) b o hb
    · rcases List.mem_append.mp hy with hy | hy
      · exact hall y hy
      · simpa using hy
  · obtain ⟨_, _, acc, hacc, _, hall⟩ := h
    exact q D H' acc hacc fun i y hy => hall y (List.mem_of_getElem? hy)

end Ak
namespace Ak
open PySem PySem.Spec PyProof.Rows L2
/-! ### plain reading of mirrors -/
structure PotOk (n : Nat) (q : Pot) : Prop where
  a0 : 0 ≤ q.a
  b0 : 0 ≤ q.b
  b1 : q.b < 2305843009213693952
  c0 : 0 ≤ q.c
  c1 : q.c ≤ n
theorem Fresh.ok {q : Pot} (h : Fresh q) : PotOk 0 q := ⟨h.a0, h.b0, h.b1, by rw [h.c0]; decide, by rw [h.c0]; decide⟩
theorem PotOk.mono {n m : Nat} {q : Pot} (h : PotOk n q) (l : n ≤ m) : PotOk m q := ⟨h.a0, h.b0, h.b1, h.c0, Int.le_trans h.c1 (by omega)⟩
/-! what comes out, by a wish -/
section
variable {α β : Type}
def Rs.wp (r : Rs α) (Q : α → S → Prop) : Prop := match r with
  | .ok a s => Q a s
  | _ => False
def Ro.wp (r : Ro) (N : S → Prop) (R : D → S → Prop) : Prop := match r with
  | .nx s => N s
  | .rt d s => R d s
  | _ => False
def Rv.wp (r : Rv) (Q : D → Prop) : Prop := match r with
  | .ok d => Q d
  | _ => False
def Rp.wp (r : Rp) (Q : D → Bw → Prop) : Prop := match r with
  | .ok d p => Q d p
  | _ => False
def owp (o : Option α) (Q : α → Prop) : Prop := match o with
  | some a => Q a
  | none => False
theorem owp_some {a : α} {Q : α → Prop} : owp (some a) Q = Q a := rfl
def blW (d : D) (Q : Bool → Prop) : Prop := match d with
  | .bl b => Q b
  | _ => False
theorem blW_bl {b : Bool} {Q : Bool → Prop} : blW (.bl b) Q = Q b := rfl
theorem owp_ite {c : Prop} [Decidable c] {o : Option α} {Q : α → Prop} (h : c) : owp (if c then o else none) Q = owp o Q := by rw [if_pos h]
def varW (x : Option (Option LV)) (i : Nat) (s : S) (Q : D → S → Prop) : Prop := match x with
  | some (some (.d x)) => Q x s
  | some (some (.l xs)) => Q (.lst xs) { s with e := s.e.set i (some (.d (.lst xs))) }
  | some (some (.k ks vs)) => Q (.dic ks vs) { s with e := s.e.set i (some (.d (.dic ks vs))) }
  | _ => False
theorem varW_d {x : D} {i : Nat} {s : S} {Q : D → S → Prop} : varW (some (some (.d x))) i s Q = Q x s := rfl
theorem varW_l {x : List D} {i : Nat} {s : S} {Q : D → S → Prop} : varW (some (some (.l x))) i s Q = Q (.lst x) { s with e := s.e.set i (some (.d (.lst x))) } := rfl
theorem varW_k {ks : List Key} {vs : List D} {i : Nat} {s : S} {Q : D → S → Prop} : varW (some (some (.k ks vs))) i s Q = Q (.dic ks vs) { s with e := s.e.set i (some (.d (.dic ks vs))) } := rfl
def potW (b : Bw) (Q : Pot → Prop) : Prop := match b with
  | .pot p => Q p
  | _ => False
theorem potW_pot {p : Pot} {Q : Pot → Prop} : potW (.pot p) Q = Q p := rfl
def isPW (x : Option (Option LV)) (Q : Prop) : Prop := match x with
  | some (some LV.p) => Q
  | _ => False
theorem isPW_p {Q : Prop} : isPW (some (some .p)) Q = Q := rfl
variable {s : S} {Q : D → S → Prop} {T : Bool → S → Prop} {L : List D → S → Prop} {N : S → Prop} {R : D → S → Prop} {fa fb fc : S → Rs D} {ft fu : S → Rs Bool} {fr : S → Rs (List D)} {g1 g2 : S → Ro}
theorem wp_bind {r : Rs α} {f : α → S → Rs β} {Q : β → S → Prop} : (r.bind f).wp Q = r.wp fun a s => (f a s).wp Q := by cases r <;> rfl
theorem wp_st {r : Rs α} {f : α → S → Ro} : (r.st f).wp N R = r.wp fun a s => (f a s).wp N R := by cases r <;> rfl
theorem wp_liftO {o : Option α} {Q : α → S → Prop} : (liftO o s).wp Q = owp o fun a => Q a s := by cases o <;> rfl
theorem wp_ok {a : α} {Q : α → S → Prop} : (Rs.ok a s).wp Q = Q a s := rfl
theorem wp_C {d : D} : (mC d s).wp Q = Q d s := rfl
theorem wp_var {i : Nat} : (mVar i s).wp Q = varW (s.e[i]?) i s Q := by
  unfold mVar varW
  generalize s.e[i]? = x
  cases x with
  | none => rfl
  | some y =>
    cases y with
    | none => rfl
    | some z => cases z <;> rfl
theorem wp_op {g : D → D → Option D} : (mOp g fa fb s).wp Q = (fa s).wp fun x s1 => (fb s1).wp fun y s2 => owp (g x y) fun z => Q z s2 := by
  unfold mOp
  simp only [wp_bind, wp_liftO]
theorem wp_un {g : D → Option D} : (mUn g fa s).wp Q = (fa s).wp fun x s1 => owp (g x) fun z => Q z s1 := by
  unfold mUn
  simp only [wp_bind, wp_liftO]
theorem wp_test : (mTest fa s).wp T = (fa s).wp fun x s1 => blW x fun b => T b s1 := by
  unfold mTest
  rw [wp_bind]
  congr 1
  funext x s1
  cases x <;> rfl
theorem wp_if : (mIf ft fa fb s).wp Q = (ft s).wp fun b s1 => (b = true → (fa s1).wp Q) ∧ (b = false → (fb s1).wp Q) := by
  unfold mIf
  rw [wp_bind]
  congr 1
  funext b s1
  cases b <;> simp
theorem wp_notT : (mNotT ft s).wp T = (ft s).wp fun b s1 => T (!b) s1 := by
  unfold mNotT
  rw [wp_bind]
  rfl
theorem wp_andT : (mAndT ft fu s).wp T = (ft s).wp fun b s1 => (b = true → (fu s1).wp T) ∧ (b = false → T false s1) := by
  unfold mAndT
  rw [wp_bind]
  congr 1
  funext b s1
  cases b <;> simp [Rs.wp]
theorem wp_orT : (mOrT ft fu s).wp T = (ft s).wp fun b s1 => (b = true → T true s1) ∧ (b = false → (fu s1).wp T) := by
  unfold mOrT
  rw [wp_bind]
  congr 1
  funext b s1
  cases b <;> simp [Rs.wp]
theorem wp_nil : (mNil s).wp L = L [] s := rfl
theorem wp_cons : (mCons fa fr s).wp L = (fa s).wp fun x s1 => (fr s1).wp fun xs s2 => L (x :: xs) s2 := by
  unfold mCons
  simp only [wp_bind, wp_ok]
theorem wp_CB {g : List D → Option D} : (mCB g fr s).wp Q = (fr s).wp fun xs s1 => owp (g xs) fun z => Q z s1 := by
  unfold mCB
  simp only [wp_bind, wp_liftO]
theorem wp_tup : (mTup fr s).wp Q = (fr s).wp fun xs s1 => owp (tupD xs) fun z => Q z s1 := by
  unfold mTup
  simp only [wp_bind, wp_liftO]
theorem wp_lst : (mLst fr s).wp Q = (fr s).wp fun xs s1 => owp (lstD xs) fun z => Q z s1 := by
  unfold mLst
  simp only [wp_bind, wp_liftO]
theorem wp_seq : (sSeq g1 g2 s).wp N R = (g1 s).wp (fun s1 => (g2 s1).wp N R) R := by
  unfold sSeq
  cases g1 s <;> rfl
theorem wp_ret : (sRet fa s).wp N R = (fa s).wp R := by
  unfold sRet
  rw [wp_st]
  rfl
theorem wp_sNil : (sNil s).wp N R = N s := rfl
theorem wp_set {i : Nat} : (sSet i fa s).wp N R = (fa s).wp fun d s1 => N (s1.put i (some (.d d))) := by
  unfold sSet
  rw [wp_st]
  rfl
theorem wp_sIf : (sIf ft g1 g2 s).wp N R = (ft s).wp fun b s1 => (b = true → (g1 s1).wp N R) ∧ (b = false → (g2 s1).wp N R) := by
  unfold sIf
  rw [wp_st]
  congr 1
  funext b s1
  cases b <;> simp
theorem wp_defP {np n : Nat} {g : S → Ro} {p : Bw} {ds : List D} {Q : D → Bw → Prop} (hl : ds.length + 1 = np) : (mDefP np n g p ds).wp Q = (g (initP n p ds)).wp (fun s => isPW (s.e[0]?) (Q .non s.p)) (fun d s => isPW (s.e[0]?) (Q d s.p)) := by
  unfold mDefP
  rw [if_pos hl]
  cases g (initP n p ds) with
  | nx s =>
    unfold Ro.wp isPW
    dsimp only
    generalize s.e[0]? = x
    cases x with
    | none => rfl
    | some y =>
      cases y with
      | none => rfl
      | some z => cases z <;> rfl
  | rt d s =>
    unfold Ro.wp isPW
    dsimp only
    generalize s.e[0]? = x
    cases x with
    | none => rfl
    | some y =>
      cases y with
      | none => rfl
      | some z => cases z <;> rfl
  | _ => rfl
theorem wp_def {np n : Nat} {g : S → Ro} {ds : List D} {Q : D → Prop} (hl : ds.length = np) : (mDef np n g ds).wp Q = (g (initS n ds)).wp (fun _ => Q .non) (fun d _ => Q d) := by
  unfold mDef
  rw [if_pos hl]
  cases g (initS n ds) <;> rfl
def potsW (x : Option (Option LV)) (b : Bw) (k : D) (Q : Int → Prop) : Prop := match x, b, k with
  | some (some LV.p), .pot q, .int k => owp (atI q.vs k) fun v => match v with
    | .int n => Q n
    | _ => False
  | _, _, _ => False
theorem potsW_0 {q : Pot} {Q : Int → Prop} : potsW (some (some .p)) (.pot q) (.int 0) Q = Q q.a := rfl
theorem potsW_1 {q : Pot} {Q : Int → Prop} : potsW (some (some .p)) (.pot q) (.int 1) Q = Q q.b := rfl
theorem potsW_2 {q : Pot} {Q : Int → Prop} : potsW (some (some .p)) (.pot q) (.int 2) Q = Q q.c := rfl
theorem wp_potC {i : Nat} {k : Int} : (mPotAt i (mC (.int k)) s).wp Q = potsW (s.e[i]?) s.p (.int k) fun n => Q (.int n) s := by
  unfold mPotAt mC Rs.bind potsW
  dsimp only
  generalize s.e[i]? = x
  cases x with
  | none => rfl
  | some y =>
    cases y with
    | none => rfl
    | some z =>
      cases z with
      | p =>
        dsimp only
        cases s.p with
        | pot q =>
          dsimp only
          cases atI q.vs k with
          | none => rfl
          | some v => cases v <;> rfl
        | _ => rfl
      | _ => rfl
def setW (x : Option (Option LV)) (b : Bw) (k : Int) (d : D) (Q : Pot → Prop) : Prop := match x, b, d with
  | some (some LV.p), .pot q, .int n => owp (q.set k n) Q
  | _, _, _ => False
theorem setW_0 {q : Pot} {n : Int} {Q : Pot → Prop} : setW (some (some .p)) (.pot q) 0 (.int n) Q = Q { q with a := n } := rfl
theorem setW_2 {q : Pot} {n : Int} {Q : Pot → Prop} : setW (some (some .p)) (.pot q) 2 (.int n) Q = Q { q with c := n } := rfl
theorem wp_potSetC {i : Nat} {k : Int} : (sPotSet i fa (mC (.int k)) s).wp N R = (fa s).wp fun d s1 => setW (s1.e[i]?) s1.p k d fun q => N { s1 with p := .pot q } := by
  unfold sPotSet
  rw [wp_st]
  congr 1
  funext d s1
  unfold mC Rs.st setW
  dsimp only
  generalize s1.e[i]? = x
  cases x with
  | none => rfl
  | some y =>
    cases y with
    | none => rfl
    | some z =>
      cases z with
      | p =>
        dsimp only
        cases d with
        | int n =>
          cases s1.p with
          | pot q =>
            dsimp only
            cases q.set k n <;> rfl
          | _ => rfl
        | _ => cases s1.p <;> rfl
      | _ => rfl
theorem defP_of {np n : Nat} {g : S → Ro} {p : Bw} {ds : List D} {Q : D → Bw → Prop} (hl : ds.length + 1 = np) (h : (g (initP n p ds)).wp (fun s => isPW (s.e[0]?) (Q .non s.p)) (fun d s => isPW (s.e[0]?) (Q d s.p))) : (mDefP np n g p ds).wp Q := by
  rw [wp_defP hl]
  exact h
theorem def_of {np n : Nat} {g : S → Ro} {ds : List D} {Q : D → Prop} (hl : ds.length = np) (h : (g (initS n ds)).wp (fun _ => Q .non) (fun d _ => Q d)) : (mDef np n g ds).wp Q := by
  rw [wp_def hl]
  exact h
end
/-! operators, by a wish -/
section
variable {Q : D → Prop} {i j : Int}
theorem owp_if {α : Type} {c : Prop} [Decidable c] {x : α} {Q : α → Prop} : owp (if c then some x else none) Q = (c ∧ Q x) := by
  by_cases h : c
  · rw [if_pos h]
    simp [owp, h]
  · rw [if_neg h]
    simp [owp, h]
theorem owp_cmp {f : Int → Int → Bool} : owp (cmpD f (.int i) (.int j)) Q = Q (.bl (f i j)) := rfl
theorem owp_add : owp (addD (.int i) (.int j)) Q = Q (.int (i + j)) := rfl
theorem owp_sub : owp (subD (.int i) (.int j)) Q = Q (.int (i - j)) := rfl
theorem owp_mul : owp (mulD (.int i) (.int j)) Q = ((small i || small j || (wideB i && wideB j)) = true ∧ Q (.int (i * j))) := owp_if
theorem owp_fdiv : owp (fdivD (.int i) (.int j)) Q = ((0 < j ∧ j.natAbs.log2 < 9000) ∧ Q (.int (i / j))) := owp_if
theorem owp_mod : owp (modD (.int i) (.int j)) Q = (0 < j ∧ Q (.int (i % j))) := owp_if
theorem owp_pow : owp (powD (.int i) (.int j)) Q = ((0 ≤ j ∧ j ≤ 100 ∧ i.natAbs < 2 ^ 4096) ∧ Q (.int (i ^ j.toNat))) := owp_if
theorem owp_int : owp (intD [.int i]) Q = Q (.int i) := rfl
theorem owp_intB {b : Bool} : owp (intD [.bl b]) Q = Q (.int (if b = true then 1 else 0)) := rfl
theorem owp_tup {xs : List D} : owp (tupD xs) Q = (xs.length ≤ 100000 ∧ Q (.tup xs)) := owp_if
theorem owp_lst {xs : List D} : owp (lstD xs) Q = (xs.length ≤ 100000 ∧ Q (.lst xs)) := owp_if
theorem atI_mem {α : Type} {xs : List α} {k : Int} (h0 : 0 ≤ k) (h1 : k < xs.length) : ∃ v, atI xs k = some v ∧ v ∈ xs := by
  have hl : k.toNat < xs.length := by omega
  refine ⟨xs[k.toNat], ?_, List.getElem_mem hl⟩
  unfold atI ixN
  simp [h0, h1, hl]
theorem log2_lt {u : Int} (h0 : 0 < u) (h1 : u < 1073741824) : u.natAbs.log2 < 9000 := by
  have : u.natAbs.log2 < 30 := (Nat.log2_lt (by omega)).mpr (by omega)
  omega
theorem owp_ixMem {xs : List D} {k : Int} (h0 : 0 ≤ k) (h1 : k < xs.length) (h : ∀ x ∈ xs, Q x) : owp (ixD (.lst xs) (.int k)) Q := by
  obtain ⟨v, e, m⟩ := atI_mem h0 h1
  show owp (atI xs k) Q
  rw [e]
  exact h v m
theorem small_of (h : -18446744073709551616 < i ∧ i < 18446744073709551616) : small i = true := decide_eq_true h
end
/-! calls, walks, comprehensions, by a wish -/
section
variable {s : S} {Q : D → S → Prop} {T : Bool → S → Prop} {L : List D → S → Prop} {M : LV → S → Prop} {N : S → Prop} {R : D → S → Prop} {fa fb fc : S → Rs D} {ft fu : S → Rs Bool} {fr : S → Rs (List D)} {g1 g2 : S → Ro} {fm : S → Rs LV}
theorem wp_cal {m : List D → Rv} : (mCal m fr s).wp Q = (fr s).wp fun ds s1 => (m ds).wp fun d => Q d s1 := by
  unfold mCal
  rw [wp_bind]
  congr 1
  funext ds s1
  cases m ds <;> rfl
def calPW (x : Option (Option LV)) (s : S) (m : Bw → List D → Rp) (ds : List D) (Q : D → S → Prop) : Prop := match x with
  | some (some LV.p) => (m s.p ds).wp fun d p' => Q d { s with p := p' }
  | _ => False
theorem calPW_p {m : Bw → List D → Rp} {ds : List D} : calPW (some (some .p)) s m ds Q = (m s.p ds).wp fun d p' => Q d { s with p := p' } := rfl
theorem wp_calP {i : Nat} {m : Bw → List D → Rp} : (mCalP i m fr s).wp Q = isPW (s.e[i]?) ((fr s).wp fun ds s1 => calPW (s1.e[i]?) s1 m ds Q) := by
  unfold mCalP
  generalize s.e[i]? = x
  cases x with
  | none => rfl
  | some y =>
    cases y with
    | none => rfl
    | some z =>
      cases z with
      | p =>
        show Rs.wp (Rs.bind _ _) Q = Rs.wp _ _
        rw [wp_bind]
        congr 1
        funext ds s1
        generalize s1.e[i]? = x
        cases x with
        | none => rfl
        | some y =>
          cases y with
          | none => rfl
          | some z =>
            cases z with
            | p =>
              show Rs.wp (match m s1.p ds with
                | .ok d p' => .ok d { s1 with p := p' }
                | .no => .no) Q = _
              cases e : m s1.p ds with
              | ok d p' => simp only [calPW, e]; rfl
              | no => simp only [calPW, e]; rfl
            | _ => rfl
      | _ => rfl
theorem wp_frz : (mFrz fm s).wp Q = (fm s).wp fun x s1 => owp x.d? fun d => Q d s1 := by
  unfold mFrz
  rw [wp_bind]
  congr 1
  funext x s1
  rw [wp_liftO]
theorem wp_mkL : (mMkL fr s).wp M = (fr s).wp fun xs s1 => xs.length ≤ 100000 ∧ M (.l xs) s1 := by
  unfold mMkL
  rw [wp_bind]
  congr 1
  funext xs s1
  by_cases h : xs.length ≤ 100000
  · rw [if_pos h]
    simp [Rs.wp, h]
  · rw [if_neg h]
    simp [Rs.wp, h]
theorem wp_mk {i : Nat} : (sMk i fm s).wp N R = (fm s).wp fun x s1 => N (s1.put i (some x)) := by
  unfold sMk
  rw [wp_st]
  rfl
theorem wp_drop : (sDrop fa s).wp N R = (fa s).wp fun _ s1 => N s1 := by
  unfold sDrop
  rw [wp_st]
  rfl
theorem wp_asg {b : D → S → Option S} : (sAsg b fa s).wp N R = (fa s).wp fun d s1 => owp (b d s1) N := by
  unfold sAsg
  rw [wp_st]
  congr 1
  funext d s1
  cases b d s1 <;> rfl
theorem wp_iter {g : D → Option (List D)} : (mIter g fa s).wp L = (fa s).wp fun x s1 => owp (g x) fun ds => L ds s1 := by
  unfold mIter
  rw [wp_bind]
  congr 1
  funext x s1
  rw [wp_liftO]
theorem wp_for {fi : S → Rs (List D)} {b : D → S → Option S} {body : S → Ro} : (sFor fi b body s).wp N R = (fi s).wp fun ds s1 => (forL b body ds s1).wp N R := by
  unfold sFor
  rw [wp_st]
theorem forL_inv {b : D → S → Option S} {body : S → Ro} {ds : List D} (I : Nat → S → Prop) (h0 : I 0 s) (step : ∀ i d s, ds[i]? = some d → I i s → owp (b d s) fun s1 => (body s1).wp (fun s2 => I (i + 1) s2) R) (fin : ∀ s, I ds.length s → N s) : (forL b body ds s).wp N R := by
  induction ds generalizing s I with
  | nil => exact fin s h0
  | cons d ds ih =>
    have st := step 0 d s rfl h0
    unfold forL
    cases e : b d s with
    | none =>
      rw [e] at st
      exact st.elim
    | some s1 =>
      rw [e] at st
      have st : (body s1).wp (fun s2 => I 1 s2) R := st
      dsimp only
      cases e2 : body s1 with
      | nx s2 =>
        rw [e2] at st
        exact ih (fun i => I (i + 1)) st (fun i d s hd hi => step (i + 1) d s (by simpa using hd) hi) (fun s hs => fin s hs)
      | rt d2 s2 =>
        rw [e2] at st
        exact st
      | _ =>
        rw [e2] at st
        exact st.elim
theorem wp_comp {fi : S → Rs (List D)} {b : D → S → Option S} {vs : List Nat} : (mComp fi b ft fa vs s).wp M = (fi s).wp fun ds s1 => ds.length ≤ 100000 ∧ (compL b ft fa vs ds s1).wp fun ys s2 => M (.l ys) s2 := by
  unfold mComp
  rw [wp_bind]
  congr 1
  funext ds s1
  by_cases h : ds.length ≤ 100000
  · rw [if_pos h, wp_bind]
    simp [Rs.wp, h]
  · rw [if_neg h]
    simp [Rs.wp, h]
theorem compL_inv {b : D → S → Option S} {vs : List Nat} {ds : List D} (I : Nat → List D → S → Prop) (ys0 : List D) (h0 : I 0 ys0 s)
    (step : ∀ i d ys s, ds[i]? = some d → I i ys s → owp (b d (s.wipe vs)) fun s1 => (ft s1).wp fun c s2 => (c = true → (fa s2).wp fun y s3 => I (i + 1) (ys ++ [y]) (s3.back s vs)) ∧ (c = false → I (i + 1) ys (s2.back s vs)))
    (fin : ∀ ys s, I ds.length (ys0 ++ ys) s → L ys s) : (compL b ft fa vs ds s).wp L := by
  induction ds generalizing s I ys0 L with
  | nil => exact fin [] s (by rw [List.append_nil]; exact h0)
  | cons d ds ih =>
    have st := step 0 d ys0 s rfl h0
    unfold compL
    cases e : b d (s.wipe vs) with
    | none =>
      rw [e] at st
      exact st.elim
    | some s1 =>
      rw [e] at st
      have st : (ft s1).wp fun c s2 => (c = true → (fa s2).wp fun y s3 => I 1 (ys0 ++ [y]) (s3.back s vs)) ∧ (c = false → I 1 ys0 (s2.back s vs)) := st
      dsimp only
      cases e2 : ft s1 with
      | no =>
        rw [e2] at st
        exact st.elim
      | ex c v s2 =>
        rw [e2] at st
        exact st.elim
      | ok c s2 =>
        rw [e2] at st
        obtain ⟨st1, st2⟩ := st
        cases c with
        | true =>
          have st1 := st1 rfl
          dsimp only
          cases e3 : fa s2 with
          | no =>
            rw [e3] at st1
            exact st1.elim
          | ex c v s2 =>
            rw [e3] at st1
            exact st1.elim
          | ok y s3 =>
            rw [e3] at st1
            have st1 : I 1 (ys0 ++ [y]) (s3.back s vs) := st1
            dsimp only
            have := ih (L := fun ys s => L (y :: ys) s) (s := s3.back s vs) (fun i => I (i + 1)) (ys0 ++ [y]) st1 (fun i d ys s hd hi => step (i + 1) d ys s (by simpa using hd) hi) (fun ys s hs => fin (y :: ys) s (by simpa using hs))
            cases e4 : compL b ft fa vs ds (s3.back s vs) with
            | ok ys s4 =>
              rw [e4] at this
              exact this
            | _ =>
              rw [e4] at this
              exact this.elim
        | false =>
          exact ih (s := s2.back s vs) (fun i => I (i + 1)) ys0 (st2 rfl) (fun i d ys s hd hi => step (i + 1) d ys s (by simpa using hd) hi) (fun ys s hs => fin ys s hs)
end

/-! more operations, by a wish -/
section
variable {s : S} {Q : D → S → Prop} {T : Bool → S → Prop} {L : List D → S → Prop} {M : LV → S → Prop} {N : S → Prop} {R : D → S → Prop} {fa fb fc : S → Rs D} {ft fu : S → Rs Bool} {fr : S → Rs (List D)} {g1 g2 : S → Ro} {fm fn : S → Rs LV} {fl fh : S → Rs (Option Int)} {O : Option Int → S → Prop}
def intW (d : D) (Q : Int → Prop) : Prop := match d with
  | .int i => Q i
  | _ => False
theorem intW_int {i : Int} {Q : Int → Prop} : intW (.int i) Q = Q i := rfl
theorem wp_part : (mPart fa s).wp O = (fa s).wp fun x s1 => intW x fun i => O (some i) s1 := by
  unfold mPart
  rw [wp_bind]
  congr 1
  funext x s1
  cases x <;> rfl
theorem wp_noPart : (mNoPart s).wp O = O none s := rfl
theorem wp_sl : (mSl fa fl fh s).wp Q = (fa s).wp fun x s1 => (fl s1).wp fun l s2 => (fh s2).wp fun h s3 => owp (slD x l h) fun z => Q z s3 := by
  unfold mSl
  simp only [wp_bind, wp_liftO]
theorem wp_and : (mAnd fa fb s).wp Q = (fa s).wp fun x s1 => blW x fun b => (b = true → (fb s1).wp Q) ∧ (b = false → Q (.bl false) s1) := by
  unfold mAnd
  rw [wp_bind]
  congr 1
  funext x s1
  cases x with
  | bl b => cases b <;> simp [Rs.wp, blW]
  | _ => rfl
theorem wp_or : (mOr fa fb s).wp Q = (fa s).wp fun x s1 => blW x fun b => (b = true → Q (.bl true) s1) ∧ (b = false → (fb s1).wp Q) := by
  unfold mOr
  rw [wp_bind]
  congr 1
  funext x s1
  cases x with
  | bl b => cases b <;> simp [Rs.wp, blW]
  | _ => rfl
theorem wp_not : (mNot fa s).wp Q = (fa s).wp fun x s1 => blW x fun b => Q (.bl (!b)) s1 := by
  unfold mNot
  rw [wp_bind]
  congr 1
  funext x s1
  cases x <;> rfl
theorem wp_chain {g g' : D → D → Option D} : (mChain g g' fa fb fc s).wp Q = (fa s).wp fun x s1 => (fb s1).wp fun y s2 => owp (g x y) fun r => blW r fun b => (b = true → (fc s2).wp fun z s3 => owp (g' y z) fun d => Q d s3) ∧ (b = false → Q (.bl false) s2) := by
  unfold mChain
  simp only [wp_bind]
  congr 1
  funext x s1
  congr 1
  funext y s2
  cases g x y with
  | none => rfl
  | some r =>
    cases r with
    | bl b => cases b <;> simp [owp_some, blW_bl, wp_bind, wp_liftO, wp_ok]
    | _ => rfl
def strW (d : D) (Q : Str → Prop) : Prop := match d with
  | .str x => Q x
  | _ => False
theorem strW_str {x : Str} {Q : Str → Prop} : strW (.str x) Q = Q x := rfl
theorem wp_s1 {g : Str → D → Option D} : (mS1 g fa fb s).wp Q = (fa s).wp fun x s1 => strW x fun a => (fb s1).wp fun y s2 => owp (g a y) fun z => Q z s2 := by
  unfold mS1
  rw [wp_bind]
  congr 1
  funext x s1
  cases x with
  | str a =>
    show Rs.wp (Rs.bind _ _) Q = _
    simp only [wp_bind, wp_liftO, strW]
  | _ => rfl
theorem wp_s0 {g : Str → Option D} : (mS0 g fa s).wp Q = (fa s).wp fun x s1 => strW x fun a => owp (g a) fun z => Q z s1 := by
  unfold mS0
  rw [wp_bind]
  congr 1
  funext x s1
  cases x with
  | str a =>
    show Rs.wp (liftO _ _) Q = _
    rw [wp_liftO]
    rfl
  | _ => rfl
def twoW (ds : List D) (Q : D → D → Prop) : Prop := match ds with
  | [x, y] => Q x y
  | _ => False
theorem twoW_two {x y : D} {Q : D → D → Prop} : twoW [x, y] Q = Q x y := rfl
theorem wp_par {i j : Nat} : (sPar i j fr s).wp N R = (fr s).wp fun ds s1 => twoW ds fun x y => N ((s1.put i (some (.d x))).put j (some (.d y))) := by
  unfold sPar
  rw [wp_st]
  congr 1
  funext ds s1
  match ds with
  | [] => rfl
  | [_] => rfl
  | [_, _] => rfl
  | _ :: _ :: _ :: _ => rfl
theorem wp_parMV {i j : Nat} : (sParMV i j fm fb s).wp N R = (fm s).wp fun x s1 => (fb s1).wp fun y s2 => N ((s2.put j (some (.d y))).put i (some x)) := by
  unfold sParMV
  simp only [wp_st]
  rfl
theorem wp_parVM {i j : Nat} : (sParVM i j fa fm s).wp N R = (fa s).wp fun x s1 => (fm s1).wp fun y s2 => N ((s2.put i (some (.d x))).put j (some y)) := by
  unfold sParVM
  simp only [wp_st]
  rfl
theorem wp_parMM {i j : Nat} : (sParMM i j fm fn s).wp N R = (fm s).wp fun x s1 => (fn s1).wp fun y s2 => N ((s2.put j (some y)).put i (some x)) := by
  unfold sParMM
  simp only [wp_st]
  rfl
def rngO : List D → Option (List D)
  | [.int n] => if -1000000 ≤ n ∧ n ≤ 1000000 then some (rangeD 0 n.toNat) else none
  | _ => none
theorem owp_rng {n : Int} {Q : List D → Prop} : owp (rngO [.int n]) Q = ((-1000000 ≤ n ∧ n ≤ 1000000) ∧ Q (rangeD 0 n.toNat)) := owp_if
theorem wp_rng1 : (mRng1 fr s).wp L = (fr s).wp fun xs s1 => owp (rngO xs) fun ys => L ys s1 := by
  unfold mRng1
  rw [wp_bind]
  congr 1
  funext xs s1
  unfold rngO
  split
  · rename_i n
    by_cases h : -1000000 ≤ n ∧ n ≤ 1000000
    · rw [if_pos h]
      simp [Rs.wp, owp, h]
    · rw [if_neg h]
      simp [Rs.wp, owp, h]
  · first
    | rfl
    | (split
       · simp_all
       · rfl)
def zipO : List D → Option (List D)
  | [.lst xs, .lst ys] => some (zipD xs ys)
  | [.tup xs, .tup ys] => some (zipD xs ys)
  | _ => none
theorem owp_zipL {xs ys : List D} {Q : List D → Prop} : owp (zipO [.lst xs, .lst ys]) Q = Q (zipD xs ys) := rfl
theorem owp_zipT {xs ys : List D} {Q : List D → Prop} : owp (zipO [.tup xs, .tup ys]) Q = Q (zipD xs ys) := rfl
theorem wp_zip : (mZip fr s).wp L = (fr s).wp fun xs s1 => owp (zipO xs) fun ys => L ys s1 := by
  unfold mZip
  rw [wp_bind]
  congr 1
  funext xs s1
  unfold zipO
  split
  · rfl
  · rfl
  · first
    | rfl
    | (split
       · simp_all
       · simp_all
       · rfl)
def enum2O : List D → Option (List D)
  | [.lst xs, .int 2] => some (enumD 2 xs)
  | _ => none
theorem owp_enum2 {xs : List D} {Q : List D → Prop} : owp (enum2O [.lst xs, .int 2]) Q = Q (enumD 2 xs) := rfl
theorem wp_enum2 : (mEnum2 fr s).wp L = (fr s).wp fun xs s1 => owp (enum2O xs) fun ys => L ys s1 := by
  unfold mEnum2
  rw [wp_bind]
  congr 1
  funext xs s1
  unfold enum2O
  split
  · rfl
  · first
    | rfl
    | (split
       · simp_all
       · rfl)
theorem wp_mkO {g : D → Option (List D)} : (mMkO g fa s).wp M = (fa s).wp fun x s1 => owp (g x) fun xs => M (.l xs) s1 := by
  unfold mMkO
  rw [wp_bind]
  congr 1
  funext x s1
  cases g x with
  | none => rfl
  | some xs => rfl
end

/-! owned lists and dicts, things, by a wish -/
section
variable {s : S} {Q : D → S → Prop} {T : Bool → S → Prop} {L : List D → S → Prop} {M : LV → S → Prop} {N : S → Prop} {R : D → S → Prop} {fa fb fc : S → Rs D} {ft fu : S → Rs Bool} {fr : S → Rs (List D)} {g1 g2 : S → Ro} {fm fn : S → Rs LV}
def lW (x : Option (Option LV)) (Q : List D → Prop) : Prop := match x with
  | some (some (.l xs)) => Q xs
  | _ => False
theorem lW_l {xs : List D} {Q : List D → Prop} : lW (some (some (.l xs))) Q = Q xs := rfl
def kW (x : Option (Option LV)) (Q : List Key → List D → Prop) : Prop := match x with
  | some (some (.k ks vs)) => Q ks vs
  | _ => False
theorem kW_k {ks : List Key} {vs : List D} {Q : List Key → List D → Prop} : kW (some (some (.k ks vs))) Q = Q ks vs := rfl
def oneW (ds : List D) (Q : D → Prop) : Prop := match ds with
  | [x] => Q x
  | _ => False
theorem oneW_one {x : D} {Q : D → Prop} : oneW [x] Q = Q x := rfl
def lstW (d : D) (Q : List D → Prop) : Prop := match d with
  | .lst xs => Q xs
  | _ => False
theorem lstW_lst {xs : List D} {Q : List D → Prop} : lstW (.lst xs) Q = Q xs := rfl
theorem wp_app {i : Nat} : (sApp i fr s).wp N R = lW (s.e[i]?) fun _ => (fr s).wp fun ds s1 => lW (s1.e[i]?) fun xs => oneW ds fun d => xs.length < 100000 ∧ N (s1.put i (some (.l (xs ++ [d])))) := by
  unfold sApp
  generalize s.e[i]? = x
  match x with
  | none => rfl
  | some none => rfl
  | some (some (.d _)) => rfl
  | some (some (.k _ _)) => rfl
  | some (some .p) => rfl
  | some (some (.l _)) =>
    show Ro.wp (Rs.st _ _) N R = Rs.wp _ _
    rw [wp_st]
    congr 1
    funext ds s1
    generalize s1.e[i]? = x
    match x, ds with
    | none, _ => rfl
    | some none, _ => rfl
    | some (some (.d _)), _ => rfl
    | some (some (.k _ _)), _ => rfl
    | some (some .p), _ => rfl
    | some (some (.l xs)), [] => rfl
    | some (some (.l xs)), _ :: _ :: _ => rfl
    | some (some (.l xs)), [d] =>
      by_cases h : xs.length < 100000 <;> simp [lW, oneW, Ro.wp, h]
theorem wp_ext {i : Nat} : (sExt i fr s).wp N R = lW (s.e[i]?) fun _ => (fr s).wp fun ds s1 => lW (s1.e[i]?) fun xs => oneW ds fun d => lstW d fun ys => xs.length + ys.length ≤ 100000 ∧ N (s1.put i (some (.l (xs ++ ys)))) := by
  unfold sExt
  generalize s.e[i]? = x
  match x with
  | none => rfl
  | some none => rfl
  | some (some (.d _)) => rfl
  | some (some (.k _ _)) => rfl
  | some (some .p) => rfl
  | some (some (.l _)) =>
    show Ro.wp (Rs.st _ _) N R = Rs.wp _ _
    rw [wp_st]
    congr 1
    funext ds s1
    generalize s1.e[i]? = x
    match x, ds with
    | none, _ => rfl
    | some none, _ => rfl
    | some (some (.d _)), _ => rfl
    | some (some (.k _ _)), _ => rfl
    | some (some .p), _ => rfl
    | some (some (.l xs)), [] => rfl
    | some (some (.l xs)), d1 :: _ :: _ => cases d1 <;> rfl
    | some (some (.l xs)), [d] =>
      cases d with
      | lst ys => by_cases h : xs.length + ys.length ≤ 100000 <;> simp [lW, oneW, lstW, Ro.wp, h]
      | _ => rfl
theorem wp_dput {i : Nat} : (sDPutO i fa fb s).wp N R = (fa s).wp fun d s1 => kW (s1.e[i]?) fun _ _ => (fb s1).wp fun y s2 => kW (s2.e[i]?) fun ks vs => owp y.key fun k => ks.length < 100000 ∧ N (s2.put i (some (.k (putKs ks k) (putVs ks vs k d)))) := by
  unfold sDPutO
  rw [wp_st]
  congr 1
  funext d s1
  generalize s1.e[i]? = x
  match x with
  | none => rfl
  | some none => rfl
  | some (some (.d _)) => rfl
  | some (some (.l _)) => rfl
  | some (some .p) => rfl
  | some (some (.k _ _)) =>
    show Ro.wp (Rs.st _ _) N R = Rs.wp _ _
    rw [wp_st]
    congr 1
    funext y s2
    generalize s2.e[i]? = x
    generalize y.key = z
    match x, z with
    | none, _ => rfl
    | some none, _ => rfl
    | some (some (.d _)), _ => rfl
    | some (some (.l _)), _ => rfl
    | some (some .p), _ => rfl
    | some (some (.k ks vs)), none => rfl
    | some (some (.k ks vs)), some k =>
      by_cases h : ks.length < 100000 <;> simp [kW, owp, Ro.wp, h]
end

section
variable {s : S} {Q : D → S → Prop} {T : Bool → S → Prop} {L : List D → S → Prop} {M : LV → S → Prop} {N : S → Prop} {R : D → S → Prop} {fa fb fc : S → Rs D} {ft fu : S → Rs Bool} {fr : S → Rs (List D)} {g1 g2 : S → Ro} {fm fn : S → Rs LV}
def flatW (o : Option D) (Q : D → Prop) : Prop := owp o fun z => z.isFlat = true ∧ Q z
theorem flat_wp {o : Option D} : Rs.wp (match o with
    | some z => if z.isFlat then Rs.ok z s else .no
    | none => .no) Q = flatW o fun z => Q z s := by
  cases o with
  | none => rfl
  | some z => by_cases h : z.isFlat = true <;> simp [flatW, owp, Rs.wp, h]
theorem flatW_of {z : D} {o : Option D} {Q : D → Prop} (e : o = some z) (f : z.isFlat = true) : flatW o Q = Q z := by
  subst e
  simp [flatW, owp, f]
theorem wp_opR {g : D → D → Option D} {i : Nat} : (mOpR g fa i s).wp Q = (fa s).wp fun x s1 => lW (s1.e[i]?) fun xs => flatW (g x (.lst xs)) fun z => Q z s1 := by
  unfold mOpR
  rw [wp_bind]
  congr 1
  funext x s1
  generalize s1.e[i]? = y
  match y with
  | none => rfl
  | some none => rfl
  | some (some (.d _)) => rfl
  | some (some (.k _ _)) => rfl
  | some (some .p) => rfl
  | some (some (.l xs)) => exact flat_wp
theorem wp_opL {g : D → D → Option D} {i : Nat} : (mOpL i g fb s).wp Q = lW (s.e[i]?) fun _ => (fb s).wp fun y s1 => lW (s1.e[i]?) fun xs => flatW (g (.lst xs) y) fun z => Q z s1 := by
  unfold mOpL
  generalize s.e[i]? = x
  match x with
  | none => rfl
  | some none => rfl
  | some (some (.d _)) => rfl
  | some (some (.k _ _)) => rfl
  | some (some .p) => rfl
  | some (some (.l _)) =>
    show Rs.wp (Rs.bind _ _) Q = Rs.wp _ _
    rw [wp_bind]
    congr 1
    funext y s1
    generalize s1.e[i]? = y
    match y with
    | none => rfl
    | some none => rfl
    | some (some (.d _)) => rfl
    | some (some (.k _ _)) => rfl
    | some (some .p) => rfl
    | some (some (.l xs)) => exact flat_wp
theorem wp_CBO {g : List D → Option D} {i : Nat} : (mCBO g i s).wp Q = lW (s.e[i]?) fun xs => flatW (g [.lst xs]) fun z => Q z s := by
  unfold mCBO
  generalize s.e[i]? = x
  match x with
  | none => rfl
  | some none => rfl
  | some (some (.d _)) => rfl
  | some (some (.k _ _)) => rfl
  | some (some .p) => rfl
  | some (some (.l xs)) => exact flat_wp
def objW (d : D) (Q : Str → List Str → List D → Prop) : Prop := match d with
  | .obj c ks vs => Q c ks vs
  | _ => False
theorem objW_obj {c : Str} {ks : List Str} {vs : List D} {Q : Str → List Str → List D → Prop} : objW (.obj c ks vs) Q = Q c ks vs := rfl
theorem wp_prop {cn : Str} {m : List D → Rv} : (mProp cn m fa s).wp Q = (fa s).wp fun x s1 => objW x fun c ks vs => c = cn ∧ (m [.obj c ks vs]).wp fun d => Q d s1 := by
  unfold mProp
  rw [wp_bind]
  congr 1
  funext x s1
  cases x with
  | obj c ks vs =>
    by_cases h : c = cn
    · simp only [h, if_true, objW, true_and]
      cases m [.obj cn ks vs] <;> rfl
    · simp only [h, if_false, objW, false_and]
      rfl
  | _ => rfl
theorem wp_meth {cn n : Str} {m : List D → Rv} : (mMeth cn n m fa fr s).wp Q = (fa s).wp fun x s1 => objW x fun c ks vs => (c = cn ∧ ks.contains n = false) ∧ (fr s1).wp fun ds s2 => (m (.obj c ks vs :: ds)).wp fun d => Q d s2 := by
  unfold mMeth
  rw [wp_bind]
  congr 1
  funext x s1
  cases x with
  | obj c ks vs =>
    by_cases h : c = cn ∧ ks.contains n = false
    · simp only [h, and_self, if_true, objW, true_and]
      rw [wp_bind]
      congr 1
      funext ds s2
      cases m (.obj cn ks vs :: ds) <;> rfl
    · simp only [h, if_false, objW, false_and]
      rfl
  | _ => rfl
def bobjW (d : D) (b : Bw) (Q : Str → List Str → List D → Prop) : Prop := match d, b with
  | .non, .obj c ks vs => Q c ks vs
  | _, _ => False
theorem bobjW_obj {c : Str} {ks : List Str} {vs : List D} {Q : Str → List Str → List D → Prop} : bobjW .non (.obj c ks vs) Q = Q c ks vs := rfl
theorem wp_new {cn : Str} {m : Bw → List D → Rp} : (mNew cn m fr s).wp Q = (fr s).wp fun ds s1 => (m (.obj cn [] []) ds).wp fun d b => bobjW d b fun c ks vs => c = cn ∧ Q (.obj c ks vs) s1 := by
  unfold mNew
  rw [wp_bind]
  congr 1
  funext ds s1
  cases m (.obj cn [] []) ds with
  | no => rfl
  | ok d b =>
    cases d with
    | non =>
      cases b with
      | obj c ks vs => by_cases h : c = cn <;> simp [Rs.wp, Rp.wp, bobjW, h]
      | _ => rfl
    | _ => cases b <;> rfl
end

section
variable {s : S} {Q : D → S → Prop} {T : Bool → S → Prop} {L : List D → S → Prop} {M : LV → S → Prop} {N : S → Prop} {R : D → S → Prop} {fa fb fc : S → Rs D} {ft fu : S → Rs Bool} {fr : S → Rs (List D)} {g1 g2 : S → Ro} {fm fn : S → Rs LV}
def dW (x : Option (Option LV)) (Q : D → Prop) : Prop := match x with
  | some (some (.d x)) => Q x
  | _ => False
theorem dW_d {x : D} {Q : D → Prop} : dW (some (some (.d x))) Q = Q x := rfl
theorem wp_varP {i : Nat} : (mVarP i s).wp Q = dW (s.e[i]?) fun x => Q x s := by
  unfold mVarP
  generalize s.e[i]? = x
  match x with
  | none => rfl
  | some none => rfl
  | some (some (.d _)) => rfl
  | some (some (.k _ _)) => rfl
  | some (some .p) => rfl
  | some (some (.l xs)) => rfl
theorem wp_pureR : (pureR fa s).wp Q = (fa s).wp Q := by
  unfold pureR
  cases fa s <;> rfl
theorem wp_pairs0 {P : List Key × List D → S → Prop} : (mPairs [] s).wp P = P ([], []) s := rfl
theorem wp_pairs {f g : S → Rs D} {r : List ((S → Rs D) × (S → Rs D))} {P : List Key × List D → S → Prop} : (mPairs ((f, g) :: r) s).wp P = (f s).wp fun x s1 => (g s1).wp fun y s2 => owp x.key fun k => (mPairs r s2).wp fun z s3 => P (k :: z.1, y :: z.2) s3 := by
  rw [mPairs, wp_bind]
  congr 1
  funext x s1
  rw [wp_bind]
  congr 1
  funext y s2
  cases x.key with
  | none => rfl
  | some k =>
    show Rs.wp (Rs.bind _ _) P = _
    rw [wp_bind]
    rfl
theorem wp_disp {fs : List ((S → Rs D) × (S → Rs D))} : (mDisp fs s).wp M = (mPairs fs s).wp fun z s1 => z.1.length ≤ 15 ∧ M (.k (mergeL [] [] z.1 z.2).1 (mergeL [] [] z.1 z.2).2) s1 := by
  unfold mDisp
  rw [wp_bind]
  congr 1
  funext z s1
  by_cases h : z.1.length ≤ 15 <;> simp [Rs.wp, h]
theorem whileL_inv {n : Nat} (I : Nat → S → Prop) (h0 : I n s) (step : ∀ m s, I m s → (ft s).wp fun c s1 => (c = true → ∃ k, m = k + 1 ∧ (g1 s1).wp (fun s2 => I k s2) R) ∧ (c = false → 0 < m ∧ N s1)) : (whileL ft g1 n s).wp N R := by
  induction n generalizing s with
  | zero =>
    have st := step 0 s h0
    exfalso
    cases e : ft s with
    | ok c s1 =>
      rw [e] at st
      obtain ⟨a, b⟩ := st
      cases c with
      | true =>
        obtain ⟨k, z, _⟩ := a rfl
        cases z
      | false => exact absurd (b rfl).1 (Nat.lt_irrefl 0)
    | _ =>
      rw [e] at st
      exact st
  | succ n ih =>
    have st := step (n + 1) s h0
    unfold whileL
    cases e : ft s with
    | ok c s1 =>
      rw [e] at st
      obtain ⟨a, b⟩ := st
      cases c with
      | true =>
        obtain ⟨k, z, w⟩ := a rfl
        cases z
        dsimp only
        cases e2 : g1 s1 with
        | nx s2 =>
          rw [e2] at w
          exact ih w
        | rt d s2 =>
          rw [e2] at w
          exact w
        | _ =>
          rw [e2] at w
          exact w.elim
      | false => exact (b rfl).2
    | _ =>
      rw [e] at st
      exact st.elim
end
theorem owp_lenL {xs : List D} {Q : D → Prop} : owp (lenD [.lst xs]) Q = Q (.int xs.length) := rfl

section
variable {s : S} {Q : D → S → Prop} {fr : S → Rs (List D)}
theorem wp_popAt {i : Nat} : (mPopAt i fr s).wp Q = lW (s.e[i]?) fun _ => (fr s).wp fun ds s1 => lW (s1.e[i]?) fun xs => oneW ds fun d => intW d fun k => (-1000000 ≤ k ∧ k ≤ 1000000) ∧ owp (seqIndex? k xs.length) fun j => owp (xs[j]?) fun d => Q d (s1.put i (some (.l (xs.eraseIdx j)))) := by
  unfold mPopAt
  generalize s.e[i]? = x
  match x with
  | none => rfl
  | some none => rfl
  | some (some (.d _)) => rfl
  | some (some (.k _ _)) => rfl
  | some (some .p) => rfl
  | some (some (.l _)) =>
    show Rs.wp (Rs.bind _ _) Q = Rs.wp _ _
    rw [wp_bind]
    congr 1
    funext ds s1
    generalize s1.e[i]? = x
    match x, ds with
    | none, _ => rfl
    | some none, _ => rfl
    | some (some (.d _)), _ => rfl
    | some (some (.k _ _)), _ => rfl
    | some (some .p), _ => rfl
    | some (some (.l xs)), [] => rfl
    | some (some (.l xs)), d1 :: _ :: _ => cases d1 <;> rfl
    | some (some (.l xs)), [d] =>
      cases d with
      | int k =>
        by_cases h : -1000000 ≤ k ∧ k ≤ 1000000
        · simp only [h, and_self, if_true, lW, oneW, intW, true_and]
          cases seqIndex? k xs.length with
          | none => rfl
          | some j =>
            show Rs.wp (match xs[j]? with
              | some d => Rs.ok d (s1.put i (some (.l (xs.eraseIdx j))))
              | none => .no) Q = owp (xs[j]?) _
            cases xs[j]? <;> rfl
        · simp only [h, if_false, lW, oneW, intW, false_and]
          rfl
      | _ => rfl
end
theorem flatW_lenL {xs : List D} {Q : D → Prop} : flatW (lenD [.lst xs]) Q = Q (.int xs.length) := flatW_of rfl rfl
theorem seqIndex_nat {r : Int} {n : Nat} (h0 : 0 ≤ r) (h1 : r < n) : seqIndex? r n = some r.toNat := by
  unfold seqIndex?
  have : ¬ r < 0 := by omega
  simp [this, h0, h1]
theorem perm_erase {α : Type} : ∀ (xs : List α) (j : Nat) (h : j < xs.length), ([xs[j]] ++ xs.eraseIdx j).Perm xs
  | [], _, h => absurd h (Nat.not_lt_zero _)
  | x :: xs, 0, _ => .refl _
  | x :: xs, j + 1, h => (List.Perm.swap x (xs[j]'(Nat.lt_of_succ_lt_succ h)) (xs.eraseIdx j)).trans ((perm_erase xs j (Nat.lt_of_succ_lt_succ h)).cons x)

/-! more equations -/
section
variable {s : S} {Q : D → S → Prop} {T : Bool → S → Prop} {L : List D → S → Prop} {M : LV → S → Prop} {N : S → Prop} {R : D → S → Prop} {fa fb fc : S → Rs D} {ft fu fv : S → Rs Bool} {fr : S → Rs (List D)} {g1 g2 : S → Ro} {fm fn : S → Rs LV}
theorem Rv.wp_ok {d : D} {Q : D → Prop} : (Rv.ok d).wp Q = Q d := rfl
theorem Rp.wp_ok {d : D} {p : Bw} {Q : D → Bw → Prop} : (Rp.ok d p).wp Q = Q d p := rfl
theorem Rv.of_wp {r : Rv} {d : D} (h : r.wp fun x => x = d) : r = .ok d := by
  cases r with
  | ok x => exact congrArg Rv.ok h
  | _ => exact h.elim
theorem Rv.wp_mono {r : Rv} {P Q : D → Prop} (h : r.wp P) (m : ∀ d, P d → Q d) : r.wp Q := by
  cases r with
  | ok x => exact m _ h
  | _ => exact h.elim
theorem Rp.wp_mono {r : Rp} {P Q : D → Bw → Prop} (h : r.wp P) (m : ∀ d p, P d p → Q d p) : r.wp Q := by
  cases r with
  | ok x => exact m _ _ h
  | _ => exact h.elim
theorem wp_yes : (mYes s).wp T = T true s := rfl
theorem wp_dNew : (mDNew s).wp M = M (.k [] []) s := rfl
theorem wp_ifT : (mIfT ft fu fv s).wp T = (ft s).wp fun b s1 => (b = true → (fu s1).wp T) ∧ (b = false → (fv s1).wp T) := by
  unfold mIfT
  rw [wp_bind]
  congr 1
  funext b s1
  cases b <;> simp
theorem wp_pop {i : Nat} : (mPop i s).wp Q = lW (s.e[i]?) fun xs => owp (xs[xs.length - 1]?) fun d => Q d (s.put i (some (.l xs.dropLast))) := by
  unfold mPop
  generalize s.e[i]? = x
  match x with
  | none => rfl
  | some none => rfl
  | some (some (.d _)) => rfl
  | some (some (.k _ _)) => rfl
  | some (some .p) => rfl
  | some (some (.l xs)) =>
    show Rs.wp (match xs[xs.length - 1]? with
      | some d => Rs.ok d (s.put i (some (.l xs.dropLast)))
      | none => .no) Q = owp (xs[xs.length - 1]?) _
    cases xs[xs.length - 1]? <;> rfl
def pobjW (b : Bw) (Q : Str → List Str → List D → Prop) : Prop := match b with
  | .obj c ks vs => Q c ks vs
  | _ => False
theorem pobjW_obj {c : Str} {ks : List Str} {vs : List D} {Q : Str → List Str → List D → Prop} : pobjW (.obj c ks vs) Q = Q c ks vs := rfl
def rdW (b : Bw) (Q : D → List Key → List D → List Key → List D → Prop) : Prop := match b with
  | .rd u ks vs ks2 vs2 => Q u ks vs ks2 vs2
  | _ => False
theorem rdW_rd {u : D} {ks ks2 : List Key} {vs vs2 : List D} {Q : D → List Key → List D → List Key → List D → Prop} : rdW (.rd u ks vs ks2 vs2) Q = Q u ks vs ks2 vs2 := rfl
theorem wp_self {i : Nat} {cn f : Str} : (mSelf i cn f s).wp Q = isPW (s.e[i]?) (pobjW s.p fun c ks vs => c = cn ∧ owp (lookD f ks vs) fun d => Q d s) := by
  unfold mSelf
  generalize s.e[i]? = x
  match x with
  | none => rfl
  | some none => rfl
  | some (some (.d _)) => rfl
  | some (some (.k _ _)) => rfl
  | some (some (.l _)) => rfl
  | some (some .p) =>
    cases s.p with
    | obj c ks vs =>
      by_cases h : c = cn <;> simp only [h, if_true, if_false, isPW_p, pobjW_obj, wp_liftO, true_and, false_and] <;> rfl
    | _ => rfl
theorem wp_sSelf {i : Nat} {cn f : Str} : (sSelf i cn f fa s).wp N R = (fa s).wp fun d s1 => isPW (s1.e[i]?) (pobjW s1.p fun c ks vs => (c = cn ∧ ks.length < 100) ∧ N { s1 with p := .obj c (fsK f ks) (fsV f d ks vs) }) := by
  unfold sSelf
  rw [wp_st]
  congr 1
  funext d s1
  generalize s1.e[i]? = x
  match x with
  | none => rfl
  | some none => rfl
  | some (some (.d _)) => rfl
  | some (some (.k _ _)) => rfl
  | some (some (.l _)) => rfl
  | some (some .p) =>
    cases s1.p with
    | obj c ks vs =>
      by_cases h : c = cn ∧ ks.length < 100 <;> simp only [h, if_true, if_false, isPW_p, pobjW_obj, true_and, false_and] <;> rfl
    | _ => rfl
theorem wp_rdU {i : Nat} : (mRdU i s).wp Q = isPW (s.e[i]?) (rdW s.p fun u _ _ _ _ => Q u s) := by
  unfold mRdU
  generalize s.e[i]? = x
  match x with
  | none => rfl
  | some none => rfl
  | some (some (.d _)) => rfl
  | some (some (.k _ _)) => rfl
  | some (some (.l _)) => rfl
  | some (some .p) => cases s.p <;> rfl
def pkW (e : Env') (p : Bw) (Q : D → Env' → Prop) : Prop := match e, p with
  | some LV.p :: r, .rd u ks vs ks2 vs2 => Q (rdObj u ks vs ks2 vs2) r
  | _, _ => False
theorem pkW_rd {r : Env'} {u : D} {ks ks2 : List Key} {vs vs2 : List D} {Q : D → Env' → Prop} : pkW (some LV.p :: r) (.rd u ks vs ks2 vs2) Q = Q (rdObj u ks vs ks2 vs2) r := rfl
theorem wp_peekG {α : Type} {ok : α → Bool} {f : S → Rs α} {Q : α → S → Prop} : (mPeekG ok f s).wp Q = pkW s.e s.p fun o r => plainE r = true ∧ (f ⟨some (.d o) :: r, s.p⟩).wp fun d _ => ok d = true ∧ Q d s := by
  obtain ⟨e, p⟩ := s
  unfold mPeekG
  match e with
  | [] => rfl
  | none :: r => rfl
  | some (.d _) :: r => rfl
  | some (.l _) :: r => rfl
  | some (.k _ _) :: r => rfl
  | some .p :: r =>
    cases p with
    | rd u ks vs ks2 vs2 =>
      by_cases h : plainE r = true
      · simp only [h, if_true, pkW_rd, true_and]
        cases f ⟨some (.d (rdObj u ks vs ks2 vs2)) :: r, .rd u ks vs ks2 vs2⟩ with
        | ok d s2 => by_cases h2 : ok d = true <;> simp [Rs.wp, h2]
        | _ => rfl
      · simp [h, Rs.wp, pkW_rd]
    | _ => rfl
theorem wp_peek : (mPeek fa s).wp Q = pkW s.e s.p fun o r => plainE r = true ∧ (fa ⟨some (.d o) :: r, s.p⟩).wp fun d _ => d.isFlat = true ∧ Q d s := wp_peekG
theorem wp_peekT : (mPeekT ft s).wp T = pkW s.e s.p fun o r => plainE r = true ∧ (ft ⟨some (.d o) :: r, s.p⟩).wp fun d _ => T d s := by
  unfold mPeekT
  rw [wp_peekG]
  simp
theorem wp_rdPut {rows : Bool} : (sRdPut rows fa fb s).wp N R = (fa s).wp fun d s1 => isPW (s1.e[0]?) (rdW s1.p fun _ _ _ _ _ => (fb s1).wp fun y s2 => isPW (s2.e[0]?) (rdW s2.p fun u ks vs ks2 vs2 => owp y.key fun k => (ks.length < 1000 ∧ ks2.length < 1000) ∧ N { s2 with p := if rows then .rd u (putKs ks k) (putVs ks vs k d) ks2 vs2 else .rd u ks vs (putKs ks2 k) (putVs ks2 vs2 k d) })) := by
  unfold sRdPut
  rw [wp_st]
  congr 1
  funext d s1
  generalize s1.e[0]? = x
  match x with
  | none => rfl
  | some none => rfl
  | some (some (.d _)) => rfl
  | some (some (.k _ _)) => rfl
  | some (some (.l _)) => rfl
  | some (some .p) =>
    obtain ⟨e1, p1⟩ := s1
    cases p1 with
    | rd u ks vs ks2 vs2 =>
      show Ro.wp (Rs.st _ _) N R = Rs.wp _ _
      rw [wp_st]
      congr 1
      funext y s2
      generalize s2.e[0]? = x
      match x with
      | none => rfl
      | some none => rfl
      | some (some (.d _)) => rfl
      | some (some (.k _ _)) => rfl
      | some (some (.l _)) => rfl
      | some (some .p) =>
        obtain ⟨e2, p2⟩ := s2
        cases p2 with
        | rd u ks vs ks2 vs2 =>
          cases y.key with
          | none => rfl
          | some k =>
            by_cases h : ks.length < 1000 ∧ ks2.length < 1000 <;> simp only [h, if_true, if_false, isPW_p, rdW_rd, owp_some, true_and, false_and, and_self] <;> rfl
        | _ => rfl
    | _ => rfl
theorem wp_methP {m : Bw → List D → Rp} : (mMethP m fr s).wp Q = isPW (s.e[0]?) (rdW s.p fun _ _ _ _ _ => (fr s).wp fun ds s1 => isPW (s1.e[0]?) ((m s1.p ds).wp fun d p' => Q d { s1 with p := p' })) := by
  unfold mMethP
  generalize s.e[0]? = x
  match x with
  | none => rfl
  | some none => rfl
  | some (some (.d _)) => rfl
  | some (some (.k _ _)) => rfl
  | some (some (.l _)) => rfl
  | some (some .p) =>
    cases s.p with
    | rd u ks vs ks2 vs2 =>
      show Rs.wp (Rs.bind _ _) Q = Rs.wp _ _
      rw [wp_bind]
      congr 1
      funext ds s1
      generalize s1.e[0]? = x
      match x with
      | none => rfl
      | some none => rfl
      | some (some (.d _)) => rfl
      | some (some (.k _ _)) => rfl
      | some (some (.l _)) => rfl
      | some (some .p) =>
        show Rs.wp (match m s1.p ds with
          | .ok d p' => .ok d { s1 with p := p' }
          | .no => .no) Q = Rp.wp _ _
        cases m s1.p ds <;> rfl
    | _ => rfl
def tlW (d : D) (Q : List D → Prop) : Prop := match d with
  | .tup ys => Q ys
  | .lst ys => Q ys
  | _ => False
theorem tlW_tup {ys : List D} {Q : List D → Prop} : tlW (.tup ys) Q = Q ys := rfl
theorem wp_star : (mStar fa fr s).wp L = (fa s).wp fun x s1 => tlW x fun ys => (fr s1).wp fun xs s2 => L (ys ++ xs) s2 := by
  unfold mStar
  rw [wp_bind]
  congr 1
  funext x s1
  cases x with
  | tup ys =>
    show Rs.wp (Rs.bind _ _) L = Rs.wp _ _
    rw [wp_bind]
    rfl
  | lst ys =>
    show Rs.wp (Rs.bind _ _) L = Rs.wp _ _
    rw [wp_bind]
    rfl
  | _ => rfl
theorem wp_setIx {i : Nat} : (sSetIx i fa fb s).wp N R = (fa s).wp fun d s1 => lW (s1.e[i]?) fun _ => (fb s1).wp fun k s2 => lW (s2.e[i]?) fun xs => intW k fun k => owp (ixN xs.length k) fun j => N (s2.put i (some (.l (xs.set j d)))) := by
  unfold sSetIx
  rw [wp_st]
  congr 1
  funext d s1
  generalize s1.e[i]? = x
  match x with
  | none => rfl
  | some none => rfl
  | some (some (.d _)) => rfl
  | some (some (.k _ _)) => rfl
  | some (some .p) => rfl
  | some (some (.l _)) =>
    show Ro.wp (Rs.st _ _) N R = Rs.wp _ _
    rw [wp_st]
    congr 1
    funext k s2
    generalize s2.e[i]? = x
    match x with
    | none => rfl
    | some none => rfl
    | some (some (.d _)) => rfl
    | some (some (.k _ _)) => rfl
    | some (some .p) => rfl
    | some (some (.l xs)) =>
      cases k with
      | int k =>
        show Ro.wp (match ixN xs.length k with
          | some j => .nx (s2.put i (some (.l (xs.set j d))))
          | none => .no) N R = owp (ixN xs.length k) _
        cases ixN xs.length k <;> rfl
      | _ => rfl
theorem wp_atL {i : Nat} : (mAtL i fb s).wp Q = lW (s.e[i]?) fun _ => (fb s).wp fun y s1 => lW (s1.e[i]?) fun xs => intW y fun k => owp (atI xs k) fun d => Q d s1 := by
  unfold mAtL
  generalize s.e[i]? = x
  match x with
  | none => rfl
  | some none => rfl
  | some (some (.d _)) => rfl
  | some (some (.k _ _)) => rfl
  | some (some .p) => rfl
  | some (some (.l _)) =>
    show Rs.wp (Rs.bind _ _) Q = Rs.wp _ _
    rw [wp_bind]
    congr 1
    funext y s1
    generalize s1.e[i]? = x
    match x with
    | none => rfl
    | some none => rfl
    | some (some (.d _)) => rfl
    | some (some (.k _ _)) => rfl
    | some (some .p) => rfl
    | some (some (.l xs)) =>
      cases y with
      | int k =>
        show Rs.wp (liftO (atI xs k) s1) Q = _
        rw [wp_liftO]
        rfl
      | _ => rfl
def llW (x : Option (Option LV)) (Q : List D → Prop) : Prop := match x with
  | some (some (.l xs)) => Q xs
  | some (some (.d (.lst xs))) => Q xs
  | _ => False
theorem llW_l {xs : List D} {Q : List D → Prop} : llW (some (some (.l xs))) Q = Q xs := rfl
theorem llW_d {xs : List D} {Q : List D → Prop} : llW (some (some (.d (.lst xs)))) Q = Q xs := rfl
theorem wp_lenX {i : Nat} : (mLenX i s).wp Q = llW (s.e[i]?) fun xs => Q (.int (xs.length : Nat)) s := by
  unfold mLenX llW
  generalize s.e[i]? = x
  split
  · rfl
  · rfl
  · first
    | rfl
    | (split <;> first | rfl | simp_all)
def endW (s : S) (Q : D → Prop) : Prop := isPW (s.e[0]?) (rdW s.p fun u ks vs ks2 vs2 => Q (rdObj u ks vs ks2 vs2))
theorem defN_of {np n : Nat} {h : S → Rs D} {g : S → Ro} {ds : List D} {Q : D → Prop} (hl : ds.length + 1 = np) (hh : (h (initN n ds)).wp fun u s => ∃ r p, s = ⟨none :: r, p⟩ ∧ plainE r = true ∧ (g ⟨some .p :: r, .rd u [] [] [] []⟩).wp (fun s => endW s Q) (fun _ _ => False)) : (mDefN np n h g ds).wp Q := by
  unfold mDefN
  rw [if_pos hl]
  cases e : h (initN n ds) with
  | ok u s =>
    rw [e] at hh
    obtain ⟨r, p, rfl, h1, h2⟩ := hh
    dsimp only
    rw [if_pos h1]
    cases e2 : g ⟨some .p :: r, .rd u [] [] [] []⟩ with
    | nx s2 =>
      rw [e2] at h2
      replace h2 : endW s2 Q := h2
      unfold endW at h2
      unfold endN
      dsimp only
      generalize s2.e[0]? = x at h2
      match x, h2 with
      | some (some .p), h2 =>
        replace h2 : rdW s2.p _ := h2
        generalize s2.p = p at h2
        cases p with
        | rd u ks vs ks2 vs2 => exact h2
        | _ => exact h2.elim
    | rt d s2 =>
      rw [e2] at h2
      exact h2.elim
    | _ =>
      rw [e2] at h2
      exact h2.elim
  | _ =>
    rw [e] at hh
    exact hh.elim
theorem owp_bTup {n : Nat} {bs : List D → S → Option S} {ds : List D} : owp (bTup n bs (.tup ds) s) N = (ds.length = n ∧ owp (bs ds s) N) := by
  show owp (if ds.length = n then bs ds s else none) N = _
  by_cases h : ds.length = n
  · rw [if_pos h]
    simp [h]
  · rw [if_neg h]
    simp [owp, h]
theorem owp_bCons {b : D → S → Option S} {bs : List D → S → Option S} {d : D} {ds : List D} : owp (bCons b bs (d :: ds) s) N = owp (b d s) fun s1 => owp (bs ds s1) N := by
  show owp (match b d s with
    | some s1 => bs ds s1
    | none => none) N = _
  cases b d s <;> rfl
theorem owp_bNil : owp (bNil [] s) N = N s := rfl
theorem owp_bName {i : Nat} {d : D} : owp (bName i d s) N = N (s.put i (some (.d d))) := rfl
/-- a comprehension over things named by indices -/
theorem comp_idx {α : Type} {b : D → S → Option S} {vs : List Nat} {f : α → D} (p : α → Bool) (g : α → D) {js : List α}
    (step : ∀ i ∈ js, owp (b (f i) (s.wipe vs)) fun s1 => (ft s1).wp fun c s2 => c = p i ∧ (c = true → (fa s2).wp fun y s3 => y = g i ∧ s3.back s vs = s) ∧ (c = false → s2.back s vs = s))
    (fin : L ((js.filter p).map g) s) : (compL b ft fa vs (js.map f) s).wp L := by
  refine compL_inv (fun i ys t => ys = ((js.take i).filter p).map g ∧ t = s) [] ⟨rfl, rfl⟩ ?_ ?_
  · rintro i d ys t hd ⟨rfl, rfl⟩
    obtain ⟨j, hj, rfl⟩ : ∃ j, js[i]? = some j ∧ f j = d := by simpa using hd
    have hm := List.mem_of_getElem? hj
    have ht : js.take (i + 1) = js.take i ++ [j] := by rw [List.take_add_one, hj]; rfl
    have st := step j hm
    cases e : b (f j) (t.wipe vs) with
    | none =>
      rw [e] at st
      exact st.elim
    | some s1 =>
      rw [e] at st
      replace st : (ft s1).wp _ := st
      show (ft s1).wp _
      cases e2 : ft s1 with
      | ok c s2 =>
        rw [e2] at st
        obtain ⟨h1, h2, h3⟩ := st
        subst h1
        refine ⟨fun hc => ?_, fun hc => ⟨?_, h3 hc⟩⟩
        · have h2 := h2 hc
          cases e3 : fa s2 with
          | ok y s3 =>
            rw [e3] at h2
            obtain ⟨rfl, h4⟩ := h2
            refine ⟨?_, h4⟩
            rw [ht, List.filter_append, List.map_append]
            simp [hc]
          | _ =>
            rw [e3] at h2
            exact h2.elim
        · rw [ht, List.filter_append, List.map_append]
          simp [hc]
      | _ =>
        rw [e2] at st
        exact st.elim
  · rintro ys t ⟨h1, rfl⟩
    simp at h1
    rw [h1]
    exact fin
theorem comp_all {α : Type} {b : D → S → Option S} {vs : List Nat} {f : α → D} (g : α → D) {js : List α}
    (step : ∀ i ∈ js, owp (b (f i) (s.wipe vs)) fun s1 => (fa s1).wp fun y s3 => y = g i ∧ s3.back s vs = s)
    (fin : L (js.map g) s) : (compL b mYes fa vs (js.map f) s).wp L := by
  refine comp_idx (fun _ => true) g (fun i hi => ?_) (by rw [List.filter_eq_self.mpr fun _ _ => rfl]; exact fin)
  have := step i hi
  cases e : b (f i) (s.wipe vs) with
  | none =>
    rw [e] at this
    exact this.elim
  | some s1 =>
    rw [e] at this
    exact ⟨rfl, fun _ => this, fun h => by cases h⟩
end
section
variable {Q : D → Prop} {i j : Int} {x y : Str} {xs ys : List D}
theorem owp_eqII : owp (eqD (.int i) (.int j)) Q = Q (.bl (i == j)) := rfl
theorem owp_neII : owp (neD (.int i) (.int j)) Q = Q (.bl (!(i == j))) := rfl
theorem char_lt (c : Char) : c.toNat < 1114112 := by
  have h := c.valid
  have : c.toNat = c.val.toNat := rfl
  rw [this]
  rcases h with h | ⟨_, h⟩
  · have : c.val.toNat < 55296 := h
    omega
  · exact h
theorem strOk_lit {s : String} : PyData.strOk (Str.ofString s) = true := by
  rw [Str.ofString_eq_toList]
  unfold PyData.strOk
  simp only [Array.all_eq_true_iff_forall_mem, List.mem_toArray, List.mem_map, decide_eq_true_eq]
  rintro x ⟨c, _, rfl⟩
  exact char_lt c
theorem shaped_str : SeqAt.shaped (.str x) = PyData.strOk x := by
  unfold SeqAt.shaped
  simp [PyData.canLay0, PyData.depth]
theorem eqB_str : eqB (.str x) (.str y) = if PyData.strOk x && PyData.strOk y then some (x == y) else none := by
  show (if SeqAt.shaped (.str x) && SeqAt.shaped (.str y) then some (PyData.eqv (.str x) (.str y)) else none) = _
  rw [shaped_str, shaped_str, PyData.eqv]
theorem owp_eqSS : owp (eqD (.str x) (.str y)) Q = ((PyData.strOk x = true ∧ PyData.strOk y = true) ∧ Q (.bl (x == y))) := by
  unfold eqD
  rw [eqB_str]
  cases PyData.strOk x <;> cases PyData.strOk y <;> simp [owp]
theorem owp_neSS : owp (neD (.str x) (.str y)) Q = ((PyData.strOk x = true ∧ PyData.strOk y = true) ∧ Q (.bl (!(x == y)))) := by
  unfold neD
  rw [eqB_str]
  cases PyData.strOk x <;> cases PyData.strOk y <;> simp [owp]
theorem owp_eqNS : owp (eqD .non (.str y)) Q = (PyData.strOk y = true ∧ Q (.bl false)) := by
  unfold eqD
  have : eqB .non (.str y) = if PyData.strOk y then some false else none := by
    show (if SeqAt.shaped .none && SeqAt.shaped (.str y) then some (PyData.eqv .none (.str y)) else none) = _
    rw [shaped_str, PyData.eqv]
    cases PyData.strOk y <;> rfl
  rw [this]
  cases PyData.strOk y <;> simp [owp]
theorem owp_isN {d : D} : owp (isND d .non) Q = Q (.bl d.isN) := rfl
theorem owp_notN {d : D} : owp (notND d .non) Q = Q (.bl !d.isN) := rfl
theorem ixN_nat {n k : Nat} : ixN n (k : Nat) = if k < n then some k else none := by
  unfold ixN
  by_cases h : k < n <;> simp [h]
theorem atI_nat {α : Type} {xs : List α} {k : Nat} : atI xs (k : Nat) = xs[k]? := by
  unfold atI
  rw [ixN_nat]
  by_cases h : k < xs.length
  · simp [h]
  · simp [h]
theorem owp_ixL0 : owp (ixD (.lst xs) (.int 0)) Q = owp (xs[0]?) Q := by rw [← atI_nat]; rfl
theorem owp_ixL1 : owp (ixD (.lst xs) (.int 1)) Q = owp (xs[1]?) Q := by rw [← atI_nat]; rfl
theorem owp_ixL2 : owp (ixD (.lst xs) (.int 2)) Q = owp (xs[2]?) Q := by rw [← atI_nat]; rfl
theorem owp_ixL3 : owp (ixD (.lst xs) (.int 3)) Q = owp (xs[3]?) Q := by rw [← atI_nat]; rfl
theorem owp_ixLN {k : Nat} : owp (ixD (.lst xs) (.int (k : Nat))) Q = owp (xs[k]?) Q := by rw [← atI_nat]; rfl
theorem owp_ixT0 : owp (ixD (.tup xs) (.int 0)) Q = owp (xs[0]?) Q := by rw [← atI_nat]; rfl
theorem owp_ixT1 : owp (ixD (.tup xs) (.int 1)) Q = owp (xs[1]?) Q := by rw [← atI_nat]; rfl
theorem owp_iterL {Q : List D → Prop} : owp (iterD (.lst xs)) Q = Q xs := rfl
theorem owp_iterT {Q : List D → Prop} : owp (iterD (.tup xs)) Q = Q xs := rfl
theorem owp_seqL {Q : List D → Prop} : owp (seqOf (.lst xs)) Q = Q xs := rfl
theorem owp_addL : owp (addD (.lst xs) (.lst ys)) Q = (xs.length + ys.length ≤ 100000 ∧ Q (.lst (xs ++ ys))) := owp_if
theorem owp_addT : owp (addD (.tup xs) (.tup ys)) Q = (xs.length + ys.length ≤ 100000 ∧ Q (.tup (xs ++ ys))) := owp_if
theorem owp_addS : owp (addD (.str x) (.str y)) Q = (x.length + y.length ≤ 100000 ∧ Q (.str (x ++ y))) := owp_if
theorem owp_lenT : owp (lenD [.tup xs]) Q = Q (.int xs.length) := rfl
theorem owp_tupleL : owp (tupleD [.lst xs]) Q = Q (.tup xs) := rfl
theorem owp_tupleT : owp (tupleD [.tup xs]) Q = Q (.tup xs) := rfl
theorem owp_dget {ks : List Key} {vs : List D} : owp (dgetD (.dic ks vs) (.str x)) Q = owp (findL (.inr x) ks vs) Q := rfl
theorem owp_din {ks : List Key} {vs : List D} : owp (dinD (.str x) (.dic ks vs)) Q = Q (.bl (findL (.inr x) ks vs).isSome) := rfl
theorem owp_dnotin {ks : List Key} {vs : List D} : owp (dnotInD (.str x) (.dic ks vs)) Q = Q (.bl (!(findL (.inr x) ks vs).isSome)) := rfl
theorem owp_keyS {Q : Key → Prop} : owp (D.str x).key Q = Q (.inr x) := rfl
theorem owp_keyI {Q : Key → Prop} : owp (D.int i).key Q = Q (.inl i) := rfl
theorem Rs.wp_mono {α : Type} {r : Rs α} {P Q : α → S → Prop} (h : r.wp P) (m : ∀ d s, P d s → Q d s) : r.wp Q := by
  cases r with
  | ok x => exact m _ _ h
  | _ => exact h.elim
theorem cut1 {x : D} {xs : List D} : cutD (x :: xs) (some 1) none = xs := by
  unfold cutD HT.sIx
  simp
theorem owp_slL1 {x : D} : owp (slD (.lst (x :: xs)) (some 1) none) Q = Q (.lst xs) := by
  show Q (.lst (cutD (x :: xs) (some 1) none)) = _
  rw [cut1]
theorem owp_slT1 {x : D} : owp (slD (.tup (x :: xs)) (some 1) none) Q = Q (.tup xs) := by
  show Q (.tup (cutD (x :: xs) (some 1) none)) = _
  rw [cut1]
theorem owp_isi {T : String} {d : D} : owp (isiD T d) Q = Q (.bl (d.isa T)) := rfl
theorem owp_neg : owp (negD (.int i)) Q = Q (.int (-i)) := rfl
theorem owp_keys {ks : List Key} {vs : List D} {Q : List D → Prop} : owp (keysD (.dic ks vs)) Q = Q (ks.map kD) := rfl
theorem owp_values {ks : List Key} {vs : List D} {Q : List D → Prop} : owp (valuesD (.dic ks vs)) Q = Q vs := rfl
theorem owp_items {ks : List Key} {vs : List D} {Q : List D → Prop} : owp (itemsD (.dic ks vs)) Q = Q (zipD (ks.map kD) vs) := rfl
theorem owp_lenK {ks : List Key} {vs : List D} : owp (lenDD [.dic ks vs]) Q = Q (.int ks.length) := rfl
theorem owp_tupK {ks : List Key} {vs : List D} : owp (tupleDD [.dic ks vs]) Q = Q (.tup (ks.map kD)) := rfl
theorem LVd_l : owp (LV.d? (.l xs)) Q = Q (.lst xs) := rfl
theorem LVd_k {ks : List Key} {vs : List D} : owp (LV.d? (.k ks vs)) Q = Q (.dic ks vs) := rfl
theorem intsOf_map {α : Type} {f : α → Int} : ∀ {l : List α}, intsOf (l.map fun a => .int (f a)) = some (l.map f)
  | [] => rfl
  | a :: l => by
    simp only [List.map_cons, intsOf]
    rw [intsOf_map]
theorem strsOf_map : ∀ {l : List Str}, strsOf (l.map D.str) = some l
  | [] => rfl
  | a :: l => by
    simp only [List.map_cons, strsOf]
    rw [strsOf_map]
theorem owp_sumT {α : Type} {f : α → Int} {l : List α} : owp (sumD [.tup (l.map fun a => .int (f a))]) Q = Q (.int (l.map f).sum) := by
  show owp (match intsOf _ with
    | some ns => some (.int ns.sum)
    | none => none) Q = _
  rw [intsOf_map]
  rfl
theorem owp_sumL {α : Type} {f : α → Int} {l : List α} : owp (sumD [.lst (l.map fun a => .int (f a))]) Q = Q (.int (l.map f).sum) := by
  show owp (match intsOf _ with
    | some ns => some (.int ns.sum)
    | none => none) Q = _
  rw [intsOf_map]
  rfl
end

end Ak
namespace Ak
open PySem PySem.Spec PyProof.Rows L2
local macro_rules | `(tactic| walk_at "z0") => `(tactic| simp only [wp_cal, wp_calP, calPW_p, wp_frz, wp_mkL, wp_mk, wp_drop, wp_asg, wp_iter, wp_for, wp_comp, wp_part, wp_noPart, intW_int, wp_sl, wp_and, wp_or, wp_not, wp_chain, strW_str, wp_s1, wp_s0, twoW_two, wp_par, wp_parMV, wp_parVM, wp_parMM, wp_rng1, owp_rng, wp_zip, owp_zipL, owp_zipT, wp_enum2, owp_enum2, wp_mkO, lW_l, kW_k, oneW_one, lstW_lst, wp_app, wp_ext, wp_dput, wp_opR, wp_opL, wp_CBO, objW_obj, wp_prop, wp_meth, bobjW_obj, wp_new, dW_d, wp_varP, wp_pureR, wp_pairs0, wp_pairs, wp_disp, owp_lenL, wp_popAt, wp_C, wp_var, wp_op, wp_un, wp_test, wp_if, wp_notT, wp_andT, wp_orT, wp_nil, wp_cons, wp_CB, wp_tup, wp_lst, wp_seq, wp_ret, wp_sNil, wp_set, wp_sIf, wp_potC, wp_potSetC, potsW_0, potsW_1, potsW_2, setW_0, setW_2, isPW_p, blW_bl, owp_some, varW_d, varW_l, varW_k, initP, initS, S.put, owp_cmp, owp_add, owp_sub, owp_mul, owp_fdiv, owp_mod, owp_pow, owp_int, owp_intB, owp_tup, owp_lst, List.length_cons, List.length_nil, List.map_cons, List.map_nil, List.cons_append, List.nil_append, List.append_nil, List.getElem?_cons_zero, List.getElem?_cons_succ, List.set_cons_zero, List.set_cons_succ, List.replicate_succ, List.replicate_zero, Nat.reduceAdd, Nat.reduceSub])
theorem take_wp {n : Nat} {q : Pot} {u : Int} {Q : D → Bw → Prop} (hq : PotOk n q) (hn : n < 100000) (hu : 0 < u) (hu2 : u < 1073741824) (h : ∀ r q', 0 ≤ r → r < u → PotOk (n + 1) q' → Q (.int r) (.pot q')) : (m_l_take (.pot q) [.int u]).wp Q := by
  unfold m_l_take g_l_take
  refine defP_of rfl ?_
  walk_at "z0"
  obtain ⟨ha, hb, hb2, hc, hc2⟩ := hq
  refine ⟨fun e => ⟨hu, ⟨hu, log2_lt hu hu2⟩, h _ _ (Int.emod_nonneg _ (by omega)) (Int.emod_lt_of_pos _ hu) ⟨Int.ediv_nonneg ha (by omega), hb, hb2, hc, by show q.c ≤ _; omega⟩⟩, fun e => ⟨by decide, by decide, owp_ixMem (by omega) (by show (q.c + 1) % 5 < 5; omega) fun z hz => ?_⟩⟩
  obtain ⟨pr, rfl, h1, h2⟩ : ∃ pr, z = .int pr ∧ 0 < pr ∧ pr < 2147483648 := by
    simp only [List.mem_cons, List.not_mem_nil, or_false] at hz
    rcases hz with e | e | e | e | e <;> exact ⟨_, e, by decide, by decide⟩
  walk_at "z0"
  have sc : small (q.c + 1) = true := small_of (by omega)
  have hp := cpow_gen (b := q.b) (k := 110017) (c := q.c + 1) (m := 61) hb hb2 (by omega) (by omega) (by decide) (by decide) (by decide) (by decide)
  generalize hX : (q.b + 110017 * (q.c + 1) * (q.c + 1) + 61) = X at hp ⊢
  obtain ⟨_, _, hp⟩ := hp
  have s1 : small (X ^ Int.toNat 3 % pr) = true := small_of (by have := Int.emod_nonneg (X ^ Int.toNat 3) (b := pr) (by omega); have := Int.emod_lt_of_pos (X ^ Int.toNat 3) h1; omega)
  rw [s1, sc]
  refine ⟨by simp, by simp, ⟨by decide, by decide, hp⟩, h1, by decide, by simp, by simp, by decide, ⟨by decide, by decide⟩, hu, h _ _ (Int.emod_nonneg _ (by omega)) (Int.emod_lt_of_pos _ hu) ⟨ha, hb, hb2, by show 0 ≤ q.c + 1; omega, by show q.c + 1 ≤ _; omega⟩⟩
theorem of_wp {n : Nat} {q : Pot} {xs : List D} {Q : D → Bw → Prop} (hq : PotOk n q) (hn : n < 100000) (h0 : 0 < xs.length) (h1 : xs.length < 1000) (h : ∀ x ∈ xs, ∀ q', PotOk (n + 1) q' → Q x (.pot q')) : (m_l_of (.pot q) [.lst xs]).wp Q := by
  unfold m_l_of g_l_of
  refine defP_of rfl ?_
  walk_at "z0"
  refine take_wp hq hn (by omega) (by omega) fun r q' r0 r1 hq' => ?_
  exact owp_ixMem r0 r1 fun x hx => h x hx q' hq'
theorem some_wp {n k : Nat} {q : Pot} {xs : List D} {Q : D → Bw → Prop} (hq : PotOk n q) (hn : n + k < 100000) (hk : k ≤ xs.length) (hx : xs.length ≤ 1000) (h : ∀ ys rest q', (ys ++ rest).Perm xs → ys.length = k → PotOk (n + k) q' → Q (.lst ys) (.pot q')) : (m_l_some (.pot q) [.lst xs, .int k]).wp Q := by
  unfold m_l_some g_l_some
  refine defP_of rfl ?_
  walk_at "z0"
  show 0 ≤ 100000 ∧ _
  refine ⟨by decide, ⟨by omega, by omega⟩, ?_⟩
  refine forL_inv (fun i s => ∃ left found q' lap, s = ⟨[some .p, some (.d (.lst xs)), some (.d (.int k)), some (.l left), some (.l found), lap], .pot q'⟩ ∧ (found ++ left).Perm xs ∧ found.length = i ∧ PotOk (n + i) q') ⟨xs, [], q, none, rfl, .refl _, rfl, hq⟩ ?_ ?_
  · rintro i d s hd ⟨left, found, q', lap, rfl, hp, hl, hq'⟩
    have hi : i < k := by
      have := (List.getElem?_eq_some_iff.mp hd).1
      simpa [rangeD] using this
    have hlen := hp.length_eq
    rw [List.length_append] at hlen
    show Ro.wp _ _ _
    walk_at "z0"
    rw [flatW_lenL]
    refine take_wp hq' (by omega) (by omega) (by omega) fun r q2 r0 r1 hq2 => ?_
    rw [intW_int]
    have hr : r.toNat < left.length := by omega
    rw [seqIndex_nat r0 r1, owp_some, List.getElem?_eq_getElem hr, owp_some]
    refine ⟨⟨by omega, by omega⟩, by omega, _, _, q2, _, rfl, ?_, by simp [hl], by rw [show n + (i + 1) = n + i + 1 by omega]; exact hq2⟩
    rw [List.append_assoc]
    refine (List.Perm.append_left found ?_).trans hp
    exact perm_erase left r.toNat hr
  · rintro s ⟨left, found, q', lap, rfl, hp, hl, hq'⟩
    have hl : found.length = k := by simpa [rangeD] using hl
    have hq' : PotOk (n + k) q' := by simpa [rangeD] using hq'
    walk_at "z0"
    exact h found left q' hp hl hq'
def poolL : List Str := ["a", "b", "all", "is", "of", "part", "some", "none", "told", "in", "zzzzzzzz", "x"]
def pool : List Str := ["a", "b", "all", "is", "of", "part", "some", "none", "told", "in", "zzzzzzzz", "x"]
theorem pool_of {x : Str} (h : x ∈ poolL) : x ∈ pool := by
  have : ∀ x ∈ poolL, x ∈ pool := by decide
  exact this x h
theorem names_wp {n k : Nat} {q : Pot} {Q : D → Bw → Prop} (hq : PotOk n q) (hn : n + k < 100000) (hk : k ≤ 12) (h : ∀ (ns : List Str) q', (∀ x ∈ ns, x ∈ pool) → ns.Nodup → ns.length = k → PotOk (n + k) q' → Q (.lst (ns.map D.str)) (.pot q')) : (m_l_names (.pot q) [.int k]).wp Q := by
  unfold m_l_names g_l_names
  refine defP_of rfl ?_
  walk_at "z0"
  refine ⟨by decide, some_wp hq hn (by exact hk) (by decide) fun ys rest q' hp hl hq' => ?_⟩
  replace hp : (ys ++ rest).Perm (poolL.map D.str) := hp
  have mem : ∀ y ∈ ys, ∃ x ∈ poolL, D.str x = y := fun y hy => by
    have := hp.mem_iff.mp (List.mem_append_left rest hy)
    simpa using this
  obtain ⟨ns, rfl⟩ : ∃ ns : List Str, ys = ns.map D.str := by
    clear hp hl
    induction ys with
    | nil => exact ⟨[], rfl⟩
    | cons y ys ih =>
      obtain ⟨ns, e⟩ := ih (fun z hz => mem z (.tail _ hz))
      obtain ⟨x, _, e2⟩ := mem y (.head _)
      exact ⟨x :: ns, by rw [e, ← e2]; rfl⟩
  refine h ns q' (fun x hx => ?_) ?_ (by simpa using hl) hq'
  · obtain ⟨z, hz, e⟩ := mem (D.str x) (List.mem_map_of_mem hx)
    cases e
    exact pool_of hz
  · have nd : (poolL.map D.str).Nodup := List.Pairwise.map D.str (fun a b (ne : a ≠ b) e => ne (by cases e; rfl)) (show poolL.Nodup by decide)
    have nd2 := (hp.nodup_iff.mpr nd)
    have nd3 : (ns.map D.str).Nodup := (List.nodup_append.mp nd2).1
    exact List.Pairwise.of_map D.str (fun a b ne e => ne (by rw [e])) nd3
def shapes : List (List Nat) := [[0, 0], [0, 0, 0], [0, 0, 1, 1], [0], [0, 1, 1], [0, 0, 0, 0], [0, 0, 1, 1, 2], [0, 0, 1, 1, 3, 3], [0, 0, 0, 0, 0, 0], [0, 0, 1, 1, 1, 3, 3]]
def shD (sh : List Nat) : D := .lst (sh.map fun i => .int (i : Nat))
theorem wide_eq : m_l_wide_shapes [] = .ok (.lst (shapes.map shD)) := by rfl
theorem tree_wp {n : Nat} {q : Pot} {Q : D → Bw → Prop} (hq : PotOk n q) (hn : n + 20 < 100000) (h : ∀ (sh : List Nat) (ns : List Str) q', sh ∈ shapes → (∀ x ∈ ns, x ∈ pool) → ns.Nodup → ns.length = sh.length + 1 → PotOk (n + 20) q' → Q (.tup [.lst (ns.map D.str), shD sh]) (.pot q')) : (m_l_tree (.pot q) [.lst (shapes.map shD)]).wp Q := by
  unfold m_l_tree g_l_tree
  refine defP_of rfl ?_
  walk_at "z0"
  refine of_wp hq (by omega) (by decide) (by decide) fun x hx q1 hq1 => ?_
  obtain ⟨sh, hsh, rfl⟩ := List.mem_map.mp hx
  have hl : sh.length ≤ 9 := by
    have : ∀ s ∈ shapes, s.length ≤ 9 := by decide
    exact this sh hsh
  show owp (lenD [shD sh]) _
  unfold shD
  rw [owp_lenL, owp_add]
  have e : ((List.map (fun (i : Nat) => D.int (i : Nat)) sh).length : Int) + 1 = ((sh.length + 1 : Nat) : Int) := by simp
  rw [e]
  have b1 : n + 1 + (sh.length + 1) < 100000 := by omega
  have b2 : sh.length + 1 ≤ 12 := by omega
  have b3 : 2 ≤ 100000 := by omega
  generalize hk : sh.length + 1 = k at b1 b2 ⊢
  refine names_wp hq1 b1 b2 fun ns q2 h1 h2 h3 hq2 => ⟨b3, ?_⟩
  subst hk
  exact h sh ns q2 hsh h1 h2 h3 (hq2.mono (by omega))

end Ak
namespace Ak
open PySem PySem.Spec PyProof.Rows L2
/-! ### lores by indices -/
def nm (ns : List Str) (i : Nat) : Str := (ns[i]?).getD ""
def nmD (ns : List Str) (i : Nat) : D := .str (nm ns i)
def up (sh : List Nat) (i : Nat) : Nat := (sh[i]?).getD 0
structure Tr (ns : List Str) (sh : List Nat) : Prop where
  hsh : sh ∈ shapes
  hp : ∀ x ∈ ns, x ∈ pool
  nd : ns.Nodup
  len : ns.length = sh.length + 1
section
variable {ns : List Str} {sh : List Nat} {u : D} {rs : Nat → D × D} {Q : D → Prop}
theorem shapes_up : ∀ sh ∈ shapes, ∀ i < sh.length, up sh i ≤ i := by decide
theorem shapes_len : ∀ sh ∈ shapes, 1 ≤ sh.length ∧ sh.length ≤ 9 := by decide
theorem Tr.at (t : Tr ns sh) {i : Nat} (hi : i < sh.length + 1) : ∃ h : i < ns.length, nm ns i = ns[i] := by
  have h : i < ns.length := by rw [t.len]; exact hi
  exact ⟨h, by unfold nm; simp [h]⟩
theorem Tr.inj (t : Tr ns sh) {i j : Nat} (hi : i < sh.length + 1) (hj : j < sh.length + 1) : nm ns i = nm ns j ↔ i = j := by
  obtain ⟨h1, e1⟩ := t.at hi
  obtain ⟨h2, e2⟩ := t.at hj
  rw [e1, e2]
  exact ⟨fun e => (List.getElem_inj t.nd).mp e, fun e => by subst e; rfl⟩
theorem Tr.mem (t : Tr ns sh) {i : Nat} (hi : i < sh.length + 1) : nm ns i ∈ pool := by
  obtain ⟨h1, e1⟩ := t.at hi
  rw [e1]
  exact t.hp _ (List.getElem_mem h1)
theorem Tr.all (t : Tr ns sh) : ns.map D.str = (List.range (sh.length + 1)).map (nmD ns) := by
  apply List.ext_getElem
  · simp [t.len]
  · intro i h1 h2
    simp at h1 h2
    simp [nmD, nm, h1]
theorem up_map : (List.range sh.length).map (up sh) = sh := by
  apply List.ext_getElem
  · simp
  · intro i h1 h2
    simp [up, h2]
theorem Tr.up_le (t : Tr ns sh) {i : Nat} (hi : i < sh.length) : up sh i ≤ i := shapes_up sh t.hsh i hi
theorem Tr.sh_lt (t : Tr ns sh) {j : Nat} (h : j ∈ sh) : j < sh.length + 1 := by
  rw [← up_map (sh := sh)] at h
  obtain ⟨i, hi, rfl⟩ := List.mem_map.mp h
  have := List.mem_range.mp hi
  have := t.up_le this
  omega
theorem Tr.inB (t : Tr ns sh) {js : List Nat} {i : Nat} (hi : i < sh.length + 1) (hj : ∀ j ∈ js, j < sh.length + 1) : inB (nmD ns i) (.lst (js.map (nmD ns))) = some (decide (i ∈ js)) := by
  have e1 : (nmD ns i).isFlat = true := rfl
  have e2 : (js.map (nmD ns)).all D.isFlat = true := by simp [nmD, D.isFlat, D.flat]
  show (if (nmD ns i).isFlat && (js.map (nmD ns)).all D.isFlat then some _ else none) = _
  rw [e1, e2]
  show some ((js.map (nmD ns)).any fun y => eqF y (nmD ns i)) = _
  congr 1
  rw [Bool.eq_iff_iff, List.any_map, List.any_eq_true]
  simp only [decide_eq_true_eq]
  constructor
  · rintro ⟨j, h1, h2⟩
    have h2 : (nm ns j == nm ns i) = true := h2
    rw [← (t.inj (hj j h1) hi).mp (by simpa using h2)]
    exact h1
  · intro h
    exact ⟨i, h, by show (nm ns i == nm ns i) = true; simp⟩
theorem Tr.owp_in (t : Tr ns sh) {js : List Nat} {i : Nat} (hi : i < sh.length + 1) (hj : ∀ j ∈ js, j < sh.length + 1) : owp (inD (nmD ns i) (.lst (js.map (nmD ns)))) Q = Q (.bl (decide (i ∈ js))) := by
  unfold inD
  rw [t.inB hi hj]
  rfl
theorem Tr.owp_notIn (t : Tr ns sh) {js : List Nat} {i : Nat} (hi : i < sh.length + 1) (hj : ∀ j ∈ js, j < sh.length + 1) : owp (notInD (nmD ns i) (.lst (js.map (nmD ns)))) Q = Q (.bl (!decide (i ∈ js))) := by
  unfold notInD
  rw [t.inB hi hj]
  rfl
def rowD (ns : List Str) (sh : List Nat) (rs : Nat → D × D) (i : Nat) : D := .tup [nmD ns (i + 1), nmD ns (up sh i), (rs i).1, (rs i).2]
def rowsD (ns : List Str) (sh : List Nat) (rs : Nat → D × D) : List D := (List.range sh.length).map (rowD ns sh rs)
def loreD (u : D) (ns : List Str) (sh : List Nat) (rs : Nat → D × D) : D := .dic [.inr "units", .inr "first", .inr "rows"] [u, nmD ns 0, .lst (rowsD ns sh rs)]
theorem lore_units : owp (dgetD (loreD u ns sh rs) (.str "units")) Q = Q u := rfl
theorem lore_first : owp (dgetD (loreD u ns sh rs) (.str "first")) Q = Q (nmD ns 0) := rfl
theorem lore_rows : owp (dgetD (loreD u ns sh rs) (.str "rows")) Q = Q (.lst (rowsD ns sh rs)) := rfl
local macro_rules | `(tactic| walk_at "z0") => `(tactic| simp only [wp_cal, wp_calP, calPW_p, wp_frz, wp_mkL, wp_mk, wp_drop, wp_asg, wp_iter, wp_for, wp_comp, wp_part, wp_noPart, intW_int, wp_sl, wp_and, wp_or, wp_not, wp_chain, strW_str, wp_s1, wp_s0, twoW_two, wp_par, wp_parMV, wp_parVM, wp_parMM, wp_rng1, owp_rng, wp_zip, owp_zipL, owp_zipT, wp_enum2, owp_enum2, wp_mkO, lW_l, kW_k, oneW_one, lstW_lst, wp_app, wp_ext, wp_dput, wp_opR, wp_opL, wp_CBO, objW_obj, wp_prop, wp_meth, bobjW_obj, wp_new, dW_d, wp_varP, wp_pureR, wp_pairs0, wp_pairs, wp_disp, owp_lenL, wp_popAt, wp_C, wp_var, wp_op, wp_un, wp_test, wp_if, wp_notT, wp_andT, wp_orT, wp_nil, wp_cons, wp_CB, wp_tup, wp_lst, wp_seq, wp_ret, wp_sNil, wp_set, wp_sIf, wp_potC, wp_potSetC, potsW_0, potsW_1, potsW_2, setW_0, setW_2, isPW_p, blW_bl, owp_some, varW_d, varW_l, varW_k, initP, initS, S.put, owp_cmp, owp_add, owp_sub, owp_mul, owp_fdiv, owp_mod, owp_pow, owp_int, owp_intB, owp_tup, owp_lst, List.length_cons, List.length_nil, List.map_cons, List.map_nil, List.cons_append, List.nil_append, List.append_nil, List.getElem?_cons_zero, List.getElem?_cons_succ, List.set_cons_zero, List.set_cons_succ, List.replicate_succ, List.replicate_zero, Nat.reduceAdd, Nat.reduceSub, Rv.wp_ok, Rp.wp_ok, wp_yes, wp_dNew, wp_ifT, wp_pop, wp_self, wp_sSelf, pobjW_obj, wp_rdU, rdW_rd, pkW_rd, wp_peek, wp_peekT, wp_rdPut, wp_methP, tlW_tup, wp_star, wp_setIx, wp_lenX, llW_l, llW_d, wp_atL, owp_bTup, owp_bCons, owp_bNil, owp_bName, owp_eqII, owp_neII, owp_eqSS, owp_neSS, owp_eqNS, owp_isN, owp_notN, owp_ixL0, owp_ixL1, owp_ixL2, owp_ixL3, owp_ixT0, owp_ixT1, owp_iterL, owp_iterT, owp_seqL, owp_addL, owp_addT, owp_addS, owp_lenT, owp_tupleL, owp_tupleT, owp_din, owp_dnotin, owp_isi, owp_neg, owp_keys, owp_values, owp_items, owp_lenK, owp_tupK, LVd_l, LVd_k, S.wipe, S.back, wipeE, restE, Bool.not_true, Bool.not_false, true_implies, false_implies, reduceCtorEq, true_and, and_true, Nat.reduceLeDiff, lore_units, lore_first, lore_rows, strOk_lit, owp_keyS, and_self, beq_iff_eq, beq_eq_false_iff_ne, decide_eq_true_eq, decide_eq_false_iff_not])
theorem parts_eq (t : Tr ns sh) : m_l_parts [loreD u ns sh rs] = .ok (.lst ((List.range (sh.length + 1)).map (nmD ns))) := by
  apply Rv.of_wp
  unfold m_l_parts g_l_parts
  refine def_of rfl ?_
  walk_at "z0"
  have := (shapes_len sh t.hsh).2
  unfold rowsD
  refine ⟨by simp; omega, comp_all (fun i => nmD ns (i + 1)) (fun i hi => ?_) ?_⟩
  · unfold rowD
    walk_at "z0"
  · skip
    simp [List.range_succ_eq_map]
    omega
def endsI (sh : List Nat) : List Nat := (List.range (sh.length + 1)).filter fun i => !decide (i ∈ sh)
theorem endsI_lt {j : Nat} (h : j ∈ endsI sh) : j < sh.length + 1 := List.mem_range.mp (List.mem_filter.mp h).1
theorem ends_eq (t : Tr ns sh) : m_l_ends [loreD u ns sh rs] = .ok (.lst ((endsI sh).map (nmD ns))) := by
  apply Rv.of_wp
  unfold m_l_ends g_l_ends
  refine def_of rfl ?_
  walk_at "z0"
  have := (shapes_len sh t.hsh).2
  unfold rowsD
  refine ⟨by simp; omega, comp_all (fun i => nmD ns (up sh i)) (fun i hi => ?_) ?_⟩
  · unfold rowD
    walk_at "z0"
  · have e : (List.range sh.length).map (fun i => nmD ns (up sh i)) = sh.map (nmD ns) := by
      conv => rhs; rw [← up_map (sh := sh), List.map_map]
      simp
    rw [e]
    walk_at "z0"
    rw [parts_eq t]
    walk_at "z0"
    refine ⟨by simp; omega, comp_idx (fun i => !decide (i ∈ sh)) (nmD ns) (fun i hi => ?_) ?_⟩
    · walk_at "z0"
      rw [t.owp_notIn (List.mem_range.mp hi) (fun j hj => t.sh_lt hj)]
      walk_at "z0"
      exact ⟨fun _ => trivial, fun _ => trivial⟩
    · rfl
end

end Ak
namespace Ak
open PySem PySem.Spec PyProof.Rows L2
theorem range_get {α : Type} {m i : Nat} {f : Nat → α} {d : α} (h : ((List.range m).map f)[i]? = some d) : i < m ∧ f i = d := by
  rw [List.getElem?_map] at h
  by_cases hi : i < m
  · rw [List.getElem?_eq_getElem (by simpa using hi)] at h
    simp at h
    exact ⟨hi, h⟩
  · rw [List.getElem?_eq_none (by simpa using hi)] at h
    simp at h
section
variable {ns : List Str} {sh : List Nat} {u : D} {rs : Nat → D × D} {Q : D → Prop} {p : Nat}
theorem flatW_in (t : Tr ns sh) {js : List Nat} {i : Nat} (hi : i < sh.length + 1) (hj : ∀ j ∈ js, j < sh.length + 1) : flatW (inD (nmD ns i) (.lst (js.map (nmD ns)))) Q = Q (.bl (decide (i ∈ js))) := by
  unfold flatW
  rw [t.owp_in hi hj]
  simp [D.isFlat, D.flat]
def stepK (sh : List Nat) (kn : List Nat) (i : Nat) : List Nat := if up sh i ∈ kn then kn ++ [i + 1] else kn
def knownI (sh : List Nat) (p k : Nat) : List Nat := (List.range k).foldl (stepK sh) [p]
theorem knownI_succ {k : Nat} : knownI sh p (k + 1) = stepK sh (knownI sh p k) k := by
  unfold knownI
  rw [List.range_succ, List.foldl_append]
  rfl
theorem knownI_lt {k : Nat} (hp : p < sh.length + 1) (hk : k ≤ sh.length) : ∀ j ∈ knownI sh p k, j < sh.length + 1 := by
  induction k with
  | zero =>
    intro j hj
    simp [knownI] at hj
    omega
  | succ k ih =>
    rw [knownI_succ]
    unfold stepK
    intro j hj
    split at hj
    · rcases List.mem_append.mp hj with h | h
      · exact ih (by omega) j h
      · simp at h
        omega
    · exact ih (by omega) j hj
theorem knownI_len {k : Nat} : (knownI sh p k).length ≤ k + 1 := by
  induction k with
  | zero => simp [knownI]
  | succ k ih =>
    rw [knownI_succ]
    unfold stepK
    split
    · simp; omega
    · omega
def endsOfI (sh : List Nat) (p : Nat) : List Nat := (endsI sh).filter fun e => decide (e ∈ knownI sh p sh.length)
theorem endsOfI_lt {j : Nat} (h : j ∈ endsOfI sh p) : j < sh.length + 1 := endsI_lt (List.mem_filter.mp h).1
theorem endsI_len : (endsI sh).length ≤ sh.length + 1 := by
  have := List.length_filter_le (fun i => !decide (i ∈ sh)) (List.range (sh.length + 1))
  simpa [endsI] using this
local macro_rules | `(tactic| walk_at "z0") => `(tactic| simp only [wp_cal, wp_calP, calPW_p, wp_frz, wp_mkL, wp_mk, wp_drop, wp_asg, wp_iter, wp_for, wp_comp, wp_part, wp_noPart, intW_int, wp_sl, wp_and, wp_or, wp_not, wp_chain, strW_str, wp_s1, wp_s0, twoW_two, wp_par, wp_parMV, wp_parVM, wp_parMM, wp_rng1, owp_rng, wp_zip, owp_zipL, owp_zipT, wp_enum2, owp_enum2, wp_mkO, lW_l, kW_k, oneW_one, lstW_lst, wp_app, wp_ext, wp_dput, wp_opR, wp_opL, wp_CBO, objW_obj, wp_prop, wp_meth, bobjW_obj, wp_new, dW_d, wp_varP, wp_pureR, wp_pairs0, wp_pairs, wp_disp, owp_lenL, wp_popAt, wp_C, wp_var, wp_op, wp_un, wp_test, wp_if, wp_notT, wp_andT, wp_orT, wp_nil, wp_cons, wp_CB, wp_tup, wp_lst, wp_seq, wp_ret, wp_sNil, wp_set, wp_sIf, wp_potC, wp_potSetC, potsW_0, potsW_1, potsW_2, setW_0, setW_2, isPW_p, blW_bl, owp_some, varW_d, varW_l, varW_k, initP, initS, S.put, owp_cmp, owp_add, owp_sub, owp_mul, owp_fdiv, owp_mod, owp_pow, owp_int, owp_intB, owp_tup, owp_lst, List.length_cons, List.length_nil, List.map_cons, List.map_nil, List.cons_append, List.nil_append, List.append_nil, List.getElem?_cons_zero, List.getElem?_cons_succ, List.set_cons_zero, List.set_cons_succ, List.replicate_succ, List.replicate_zero, Nat.reduceAdd, Nat.reduceSub, Rv.wp_ok, Rp.wp_ok, wp_yes, wp_dNew, wp_ifT, wp_pop, wp_self, wp_sSelf, pobjW_obj, wp_rdU, rdW_rd, pkW_rd, wp_peek, wp_peekT, wp_rdPut, wp_methP, tlW_tup, wp_star, wp_setIx, wp_lenX, llW_l, llW_d, wp_atL, owp_bTup, owp_bCons, owp_bNil, owp_bName, owp_eqII, owp_neII, owp_eqSS, owp_neSS, owp_eqNS, owp_isN, owp_notN, owp_ixL0, owp_ixL1, owp_ixL2, owp_ixL3, owp_ixT0, owp_ixT1, owp_iterL, owp_iterT, owp_seqL, owp_addL, owp_addT, owp_addS, owp_lenT, owp_tupleL, owp_tupleT, owp_din, owp_dnotin, owp_isi, owp_neg, owp_keys, owp_values, owp_items, owp_lenK, owp_tupK, LVd_l, LVd_k, S.wipe, S.back, wipeE, restE, Bool.not_true, Bool.not_false, true_implies, false_implies, reduceCtorEq, true_and, and_true, Nat.reduceLeDiff, lore_units, lore_first, lore_rows, strOk_lit, owp_keyS, and_self, beq_iff_eq, beq_eq_false_iff_ne, decide_eq_true_eq, decide_eq_false_iff_not, parts_eq ‹Tr _ _›, ends_eq ‹Tr _ _›])
theorem ends_of_eq (t : Tr ns sh) (hp : p < sh.length + 1) : m_l_ends_of [loreD u ns sh rs, nmD ns p] = .ok (.lst ((endsOfI sh p).map (nmD ns))) := by
  apply Rv.of_wp
  unfold m_l_ends_of g_l_ends_of
  refine def_of rfl ?_
  walk_at "z0"
  have l9 := (shapes_len sh t.hsh).2
  refine forL_inv (fun i s => ∃ a b c d, s = ⟨[some (.d (loreD u ns sh rs)), some (.d (nmD ns p)), some (.l ((knownI sh p i).map (nmD ns))), a, b, c, d, none], .pot ⟨0, 0, 0⟩⟩) ⟨none, none, none, none, rfl⟩ ?_ ?_
  · rintro i d s hd ⟨a, b, c, e, rfl⟩
    obtain ⟨hi, rfl⟩ := range_get hd
    unfold rowD
    walk_at "z0"
    rw [flatW_in t (by have := t.up_le hi; omega) (knownI_lt hp (by omega))]
    walk_at "z0"
    have := knownI_len (sh := sh) (p := p) (k := i)
    refine ⟨fun h => ⟨by simp; omega, ?_⟩, fun h => ?_⟩
    · have e2 : (knownI sh p i).map (nmD ns) ++ [nmD ns (i + 1)] = (knownI sh p (i + 1)).map (nmD ns) := by
        rw [knownI_succ]
        unfold stepK
        rw [if_pos (by simpa using h)]
        simp
      rw [e2]
      exact ⟨_, _, _, _, rfl⟩
    · rw [knownI_succ]
      unfold stepK
      rw [if_neg (by simpa using h)]
      exact ⟨_, _, _, _, rfl⟩
  · rintro s ⟨a, b, c, e, rfl⟩
    have el : (rowsD ns sh rs).length = sh.length := by simp [rowsD]
    rw [el]
    walk_at "z0"
    have := endsI_len (sh := sh)
    refine ⟨by simp; omega, comp_idx (fun i => decide (i ∈ knownI sh p sh.length)) (nmD ns) (fun i hi => ?_) ?_⟩
    · walk_at "z0"
      rw [flatW_in t (endsI_lt hi) (knownI_lt hp (by omega))]
      walk_at "z0"
      exact ⟨fun _ => trivial, fun _ => trivial⟩
    · rfl
def wt (sh : List Nat) (p : Nat) (e : Nat) : Int := if e ∈ endsOfI sh p then 1 else 0
theorem weights_eq (t : Tr ns sh) (hp : p < sh.length + 1) : m_l_weights [loreD u ns sh rs, nmD ns p] = .ok (.tup ((endsI sh).map fun e => .int (wt sh p e))) := by
  apply Rv.of_wp
  unfold m_l_weights g_l_weights
  refine def_of rfl ?_
  walk_at "z0"
  rw [ends_of_eq t hp]
  walk_at "z0"
  have l9 := (shapes_len sh t.hsh).2
  have := endsI_len (sh := sh)
  refine ⟨by simp; omega, comp_all (fun e => .int (wt sh p e)) (fun i hi => ?_) ?_⟩
  · walk_at "z0"
    rw [t.owp_in (endsI_lt hi) (fun j hj => endsOfI_lt hj)]
    walk_at "z0"
    simp [wt]
  · rfl
def numI (sh : List Nat) (c : Nat → Int) (p : Nat) : Int := ((List.range (endsI sh).length).map fun k => wt sh p ((endsI sh)[k]?.getD 0) * c k).sum
theorem idx_map {α : Type} {f : Nat → α} {l : List Nat} : l.map f = (List.range l.length).map fun k => f (l[k]?.getD 0) := by
  apply List.ext_getElem
  · simp
  · intro i h1 h2
    simp at h1
    simp [h1]
theorem zip_map {m : Nat} {f g : Nat → D} : zipD ((List.range m).map f) ((List.range m).map g) = (List.range m).map fun k => pairD (f k) (g k) := by
  unfold zipD
  rw [List.zipWith_map, List.zipWith_self]
theorem number_eq (t : Tr ns sh) (hp : p < sh.length + 1) {c : Nat → Int} (h0 : ∀ k, 0 ≤ c k) (h1 : ∀ k, c k ≤ 1000000000) : m_l_number [loreD u ns sh rs, .tup ((List.range (endsI sh).length).map fun k => .int (c k)), nmD ns p] = .ok (.int (numI sh c p)) := by
  apply Rv.of_wp
  unfold m_l_number g_l_number
  refine def_of rfl ?_
  walk_at "z0"
  rw [weights_eq t hp, idx_map (f := fun e => D.int (wt sh p e))]
  walk_at "z0"
  rw [zip_map]
  have l9 := (shapes_len sh t.hsh).2
  have := endsI_len (sh := sh)
  refine ⟨by simp; omega, comp_all (fun k => .int (wt sh p ((endsI sh)[k]?.getD 0) * c k)) (fun i hi => ?_) ?_⟩
  · unfold pairD
    walk_at "z0"
    have : small (c i) = true := small_of (by have := h0 i; have := h1 i; omega)
    rw [this]
    simp
  · rw [owp_sumL]
    rfl
theorem sum_le {α : Type} {f g : α → Int} : ∀ {l : List α}, (∀ a ∈ l, f a ≤ g a) → (l.map f).sum ≤ (l.map g).sum
  | [], _ => by simp
  | a :: l, h => by
    have := sum_le (f := f) (g := g) (l := l) fun b hb => h b (.tail _ hb)
    have := h a (.head _)
    simp only [List.map_cons, List.sum_cons]
    omega
theorem sum_const {α : Type} {a : Int} : ∀ {l : List α}, (l.map fun _ => a).sum = l.length * a
  | [] => by simp
  | x :: l => by
    simp only [List.map_cons, List.sum_cons, sum_const (l := l), List.length_cons]
    rw [Int.natCast_add, Int.add_mul]
    simp
    omega
theorem wt01 {e : Nat} : 0 ≤ wt sh p e ∧ wt sh p e ≤ 1 := by
  unfold wt
  split <;> decide
theorem shapes_wt : ∀ sh ∈ shapes, ∀ i < sh.length, ∀ k < (endsI sh).length, wt sh (i + 1) ((endsI sh)[k]?.getD 0) ≤ wt sh (up sh i) ((endsI sh)[k]?.getD 0) := by decide +kernel
def totI (sh : List Nat) (c : Nat → Int) : Int := ((List.range (endsI sh).length).map c).sum
theorem num_boundsB (t : Tr ns sh) {c : Nat → Int} {B : Int} (h0 : ∀ k, 0 ≤ c k) (h1 : ∀ k, c k ≤ B) : 0 ≤ numI sh c p ∧ numI sh c p ≤ totI sh c ∧ totI sh c ≤ 10 * B := by
  have l9 := (shapes_len sh t.hsh).2
  have l10 := endsI_len (sh := sh)
  refine ⟨?_, ?_, ?_⟩
  · have := sum_le (l := List.range (endsI sh).length) (f := fun _ => 0) (g := fun k => wt sh p ((endsI sh)[k]?.getD 0) * c k) fun k _ => Int.mul_nonneg wt01.1 (h0 k)
    have e : ((List.range (endsI sh).length).map fun _ => (0 : Int)).sum = 0 := by rw [sum_const]; simp
    rw [e] at this
    exact this
  · refine sum_le fun k _ => ?_
    have := Int.mul_le_mul_of_nonneg_right (wt01 (sh := sh) (p := p) (e := (endsI sh)[k]?.getD 0)).2 (h0 k)
    omega
  · have := sum_le (l := List.range (endsI sh).length) (f := c) (g := fun _ => B) fun k _ => h1 k
    have e : ((List.range (endsI sh).length).map fun _ => B).sum = (endsI sh).length * B := by
      rw [sum_const]
      simp
    rw [e] at this
    show ((List.range (endsI sh).length).map c).sum ≤ 10 * B
    have b0 : 0 ≤ B := Int.le_trans (h0 0) (h1 0)
    have := Int.mul_le_mul_of_nonneg_right (show ((endsI sh).length : Int) ≤ 10 by omega) b0
    omega
theorem num_bounds (t : Tr ns sh) {c : Nat → Int} (h0 : ∀ k, 0 ≤ c k) (h1 : ∀ k, c k ≤ 8) : 0 ≤ numI sh c p ∧ numI sh c p ≤ totI sh c ∧ totI sh c ≤ 80 := by
  have := num_boundsB (p := p) (B := 8) t h0 h1
  omega
theorem num_le (t : Tr ns sh) {c : Nat → Int} (h0 : ∀ k, 0 ≤ c k) {i : Nat} (hi : i < sh.length) : numI sh c (i + 1) ≤ numI sh c (up sh i) := by
  refine sum_le fun k hk => ?_
  exact Int.mul_le_mul_of_nonneg_right (shapes_wt sh t.hsh i hi k (List.mem_range.mp hk)) (h0 k)
end

end Ak
namespace Ak
open PySem PySem.Spec PyProof.Rows L2
inductive ShOk (u : Int) : D → Prop
  | non : ShOk u .non
  | none : ShOk u (.str "none")
  | some : ShOk u (.str "some")
  | int (k : Nat) (h : (k : Int) ≤ u) : ShOk u (.int k)
theorem owp_eqIS {i : Int} {y : Str} {Q : D → Prop} : owp (eqD (.int i) (.str y)) Q = (PyData.strOk y = true ∧ Q (.bl false)) := by
  unfold eqD
  have : eqB (.int i) (.str y) = if PyData.strOk y then some false else none := by
    show (if SeqAt.shaped (.int i) && SeqAt.shaped (.str y) then some (PyData.eqv (.int i) (.str y)) else none) = _
    rw [shaped_str, PyData.eqv]
    cases PyData.strOk y <;> rfl
  rw [this]
  cases PyData.strOk y <;> simp [owp]
def hows : List Str := ["near", "even", "down", "up"]
theorem ShOk.of {u k : Int} (h0 : 0 ≤ k) (h1 : k ≤ u) : ShOk u (.int k) := by
  have := ShOk.int (u := u) k.toNat (by omega)
  rw [show ((k.toNat : Nat) : Int) = k by omega] at this
  exact this
theorem div_facts {a w u : Int} (hw : 0 < w) (h0 : 0 ≤ a) (h1 : a ≤ u * w) : 0 ≤ a / w ∧ a / w ≤ u ∧ 0 ≤ a % w ∧ a % w < w ∧ (a % w ≠ 0 → a / w < u) := by
  have e := Int.mul_ediv_add_emod a w
  have r0 := Int.emod_nonneg a (b := w) (by omega)
  have r1 := Int.emod_lt_of_pos a hw
  refine ⟨Int.ediv_nonneg h0 (by omega), ?_, r0, r1, fun h => ?_⟩
  · exact Int.ediv_le_of_le_mul hw h1
  · apply Int.ediv_lt_of_lt_mul hw
    rcases Int.lt_or_eq_of_le h1 with h2 | h2
    · exact h2
    · rw [h2] at h
      simp at h
def rndI (how : Str) (a w : Int) : Int := if a % w = 0 ∨ how = "down" then a / w else if how = "up" then a / w + 1 else if 2 * (a % w) = w then (if how = "near" ∨ (a / w) % 2 = 1 then a / w + 1 else a / w) else if 2 * (a % w) > w then a / w + 1 else a / w
theorem rndI_ok {how : Str} {a w u : Int} (hw : 0 < w) (h0 : 0 ≤ a) (h1 : a ≤ u * w) : 0 ≤ rndI how a w ∧ rndI how a w ≤ u := by
  obtain ⟨f1, f2, f3, f4, f5⟩ := div_facts hw h0 h1
  unfold rndI
  split
  · exact ⟨f1, f2⟩
  · rename_i h
    have := f5 fun z => h (.inl z)
    repeat' split
    all_goals omega
theorem hows_strOk : ∀ x ∈ hows, PyData.strOk x = true := by simp [hows, strOk_lit]
theorem hows_ne : Str.ofString "near" ≠ Str.ofString "even" ∧ Str.ofString "near" ≠ Str.ofString "down" ∧ Str.ofString "near" ≠ Str.ofString "up" ∧ Str.ofString "even" ≠ Str.ofString "near" ∧ Str.ofString "even" ≠ Str.ofString "down" ∧ Str.ofString "even" ≠ Str.ofString "up" ∧ Str.ofString "down" ≠ Str.ofString "near" ∧ Str.ofString "down" ≠ Str.ofString "even" ∧ Str.ofString "down" ≠ Str.ofString "up" ∧ Str.ofString "up" ≠ Str.ofString "near" ∧ Str.ofString "up" ≠ Str.ofString "even" ∧ Str.ofString "up" ≠ Str.ofString "down" := by decide +kernel
local macro_rules | `(tactic| walk_at "z0") => `(tactic| simp only [wp_cal, wp_calP, calPW_p, wp_frz, wp_mkL, wp_mk, wp_drop, wp_asg, wp_iter, wp_for, wp_comp, wp_part, wp_noPart, intW_int, wp_sl, wp_and, wp_or, wp_not, wp_chain, strW_str, wp_s1, wp_s0, twoW_two, wp_par, wp_parMV, wp_parVM, wp_parMM, wp_rng1, owp_rng, wp_zip, owp_zipL, owp_zipT, wp_enum2, owp_enum2, wp_mkO, lW_l, kW_k, oneW_one, lstW_lst, wp_app, wp_ext, wp_dput, wp_opR, wp_opL, wp_CBO, objW_obj, wp_prop, wp_meth, bobjW_obj, wp_new, dW_d, wp_varP, wp_pureR, wp_pairs0, wp_pairs, wp_disp, owp_lenL, wp_popAt, wp_C, wp_var, wp_op, wp_un, wp_test, wp_if, wp_notT, wp_andT, wp_orT, wp_nil, wp_cons, wp_CB, wp_tup, wp_lst, wp_seq, wp_ret, wp_sNil, wp_set, wp_sIf, wp_potC, wp_potSetC, potsW_0, potsW_1, potsW_2, setW_0, setW_2, isPW_p, blW_bl, owp_some, varW_d, varW_l, varW_k, initP, initS, S.put, owp_cmp, owp_add, owp_sub, owp_mul, owp_fdiv, owp_mod, owp_pow, owp_int, owp_intB, owp_tup, owp_lst, List.length_cons, List.length_nil, List.map_cons, List.map_nil, List.cons_append, List.nil_append, List.append_nil, List.getElem?_cons_zero, List.getElem?_cons_succ, List.set_cons_zero, List.set_cons_succ, List.replicate_succ, List.replicate_zero, Nat.reduceAdd, Nat.reduceSub, Rv.wp_ok, Rp.wp_ok, wp_yes, wp_dNew, wp_ifT, wp_pop, wp_self, wp_sSelf, pobjW_obj, wp_rdU, rdW_rd, pkW_rd, wp_peek, wp_peekT, wp_rdPut, wp_methP, tlW_tup, wp_star, wp_setIx, wp_lenX, llW_l, llW_d, wp_atL, owp_bTup, owp_bCons, owp_bNil, owp_bName, owp_eqII, owp_neII, owp_eqSS, owp_neSS, owp_eqNS, owp_isN, owp_notN, owp_ixL0, owp_ixL1, owp_ixL2, owp_ixL3, owp_ixT0, owp_ixT1, owp_iterL, owp_iterT, owp_seqL, owp_addL, owp_addT, owp_addS, owp_lenT, owp_tupleL, owp_tupleT, owp_din, owp_dnotin, owp_isi, owp_neg, owp_keys, owp_values, owp_items, owp_lenK, owp_tupK, LVd_l, LVd_k, S.wipe, S.back, wipeE, restE, Bool.not_true, Bool.not_false, true_implies, false_implies, reduceCtorEq, true_and, and_true, Nat.reduceLeDiff, lore_units, lore_first, lore_rows, strOk_lit, owp_keyS, and_self, beq_iff_eq, beq_eq_false_iff_ne, decide_eq_true_eq, decide_eq_false_iff_not])
theorem l_rounded_eq {how : Str} {a w : Int} (hh : how ∈ hows) (hw : 0 < w) (lw : w.natAbs.log2 < 9000) : m_l_rounded [.str how, .int a, .int w] = .ok (.int (rndI how a w)) := by
  apply Rv.of_wp
  unfold m_l_rounded g_l_rounded
  refine def_of rfl ?_
  have hs := hows_strOk how hh
  have sm : small 2 = true := rfl
  walk_at "z0"
  unfold rndI
  generalize a / w = q at *
  generalize a % w = r at *
  simp only [hs, lw, hw, sm, and_self, true_and, Bool.true_or]
  refine ⟨fun h => ?_, fun h => ⟨fun h2 => ?_, fun h2 => ⟨fun h3 => ?_, fun h3 => ⟨fun h4 => ⟨fun h5 => ?_, fun h5 => ⟨by decide, fun h6 => ?_, fun h6 => ?_⟩⟩, fun h4 => ⟨fun h5 => ?_, fun h5 => ?_⟩⟩⟩⟩⟩
  · rw [if_pos (.inl h)]
  · rw [if_pos (.inr h2)]
  all_goals rw [if_neg (fun z => z.elim h h2)]
  · rw [if_pos h3]
  · rw [if_neg h3, if_pos h4, if_pos (.inl h5)]
  · rw [if_neg h3, if_pos h4, if_pos (.inr h6)]
  · rw [if_neg h3, if_pos h4, if_neg (fun z => z.elim h5 h6)]
  · rw [if_neg h3, if_neg h4, if_pos h5]
  · rw [if_neg h3, if_neg h4, if_neg h5]
theorem rounded_wp {how : Str} {a w u : Int} {Q : D → Prop} (hh : how ∈ hows) (hw : 0 < w) (hw2 : w ≤ 1000) (h0 : 0 ≤ a) (h1 : a ≤ u * w) (hQ : ∀ d, ShOk u d → Q d) : (m_l_rounded [.str how, .int a, .int w]).wp Q := by
  rw [l_rounded_eq hh hw (log2_lt hw (by omega))]
  exact hQ _ (.of (rndI_ok hw h0 h1).1 (rndI_ok hw h0 h1).2)
/-- whether a share is right for so many of so many -/
def rtI (u : Int) (how : Str) (d : D) (many whole : Int) : Bool := match d with
  | .non => true
  | .str x => if whole = 0 then false else if x = "none" then many == 0 else decide (0 < u * many) && decide (u * many < whole)
  | .int s => if whole = 0 then false else rndI how (u * many) whole == s
  | _ => false
theorem some_ne_none : Str.ofString "some" ≠ Str.ofString "none" := by decide +kernel
theorem share_wp {n : Nat} {q : Pot} {how : Str} {u many whole : Int} {Q : D → Bw → Prop} (hq : PotOk n q) (hn : n + 3 < 100000) (hh : how ∈ hows) (hu : 2 ≤ u) (hu2 : u ≤ 100) (h0 : 0 ≤ many) (h1 : many ≤ whole) (h2 : whole ≤ 1000) (hQ : ∀ d q', ShOk u d → rtI u how d many whole = true → PotOk (n + 3) q' → Q d (.pot q')) : (m_l_share_of (.pot q) [.tup [.int u, .str how], .int many, .int whole]).wp Q := by
  unfold m_l_share_of g_l_share_of
  refine defP_of rfl ?_
  walk_at "z0"
  have sm : small u = true := small_of (by omega)
  have um : 0 ≤ u * many := Int.mul_nonneg (by omega) h0
  have uw : u * many ≤ u * whole := Int.mul_le_mul_of_nonneg_left h1 (by omega)
  simp only [sm, Bool.true_or, true_and]
  have rnd : ∀ q', PotOk (n + 3) q' → whole ≠ 0 → (m_l_rounded [.str how, .int (u * many), .int whole]).wp fun d => Q d (.pot q') := fun q' hq' w0 => by
    rw [l_rounded_eq hh (by omega) (log2_lt (by omega) (by omega))]
    have := rndI_ok (how := how) (w := whole) (by omega) um uw
    exact hQ _ q' (.of this.1 this.2) (by simp [rtI, w0]) hq'
  have tl : ∀ q1, PotOk (n + 2) q1 → whole ≠ 0 → (0 < u * many → (u * many < whole → (m_l_take (.pot q1) [.int 2]).wp fun d p' => owp (eqD d (.int 0)) fun z => blW z fun b => (b = true → Q (.str (Str.ofString "some")) p') ∧ (b = false → (m_l_rounded [.str how, .int (u * many), .int whole]).wp fun d => Q d p')) ∧ (¬u * many < whole → (m_l_rounded [.str how, .int (u * many), .int whole]).wp fun d => Q d (.pot q1))) ∧ (¬0 < u * many → (m_l_rounded [.str how, .int (u * many), .int whole]).wp fun d => Q d (.pot q1)) := by
    intro q1 hq1 w0
    refine ⟨fun k1 => ⟨fun k2 => ?_, fun _ => rnd q1 (hq1.mono (by omega)) w0⟩, fun _ => rnd q1 (hq1.mono (by omega)) w0⟩
    refine take_wp hq1 (by omega) (by omega) (by omega) fun r q2 r0 r1 hq2 => ?_
    walk_at "z0"
    exact ⟨fun _ => hQ _ _ .some (by simp [rtI, w0, k1, k2, some_ne_none]) hq2, fun _ => rnd q2 hq2 w0⟩
  refine ⟨fun _ => hQ _ _ .non rfl (hq.mono (by omega)), fun w0 => ?_⟩
  refine take_wp hq (by omega) (by omega) (by omega) fun r q1 r0 r1 hq1 => ?_
  walk_at "z0"
  refine ⟨fun _ => hQ _ _ .non rfl (hq1.mono (by omega)), fun _ => ⟨fun m0 => ?_, fun _ => tl q1 (hq1.mono (by omega)) w0⟩⟩
  refine take_wp hq1 (by omega) (by omega) (by omega) fun r q2 r0 r1 hq2 => ?_
  walk_at "z0"
  exact ⟨fun _ => hQ _ _ .none (by simp [rtI, w0, m0]) (hq2.mono (by omega)), fun _ => tl q2 hq2 w0⟩
theorem units_wp {n : Nat} {q : Pot} {most : Int} {Q : D → Bw → Prop} (hq : PotOk n q) (hn : n + 2 < 100000) (m0 : 2 ≤ most) (m1 : most ≤ 100) (hQ : ∀ (u : Int) (how : Str) q', 2 ≤ u → u ≤ 100 → how ∈ hows → PotOk (n + 2) q' → Q (.tup [.int u, .str how]) (.pot q')) : (m_l_units (.pot q) [.int most]).wp Q := by
  unfold m_l_units g_l_units
  refine defP_of rfl ?_
  walk_at "z0"
  refine take_wp hq (by omega) (by omega) (by omega) fun r q1 r0 r1 hq1 => ?_
  walk_at "z0"
  refine of_wp hq1 (by omega) (by decide) (by decide) fun x hx q2 hq2 => ?_
  obtain ⟨how, hh, rfl⟩ : ∃ how ∈ hows, D.str how = x := by
    simp only [List.mem_cons, List.not_mem_nil, or_false] at hx
    rcases hx with rfl | rfl | rfl | rfl
    · exact ⟨_, .head _, rfl⟩
    · exact ⟨_, .tail _ (.head _), rfl⟩
    · exact ⟨_, .tail _ (.tail _ (.head _)), rfl⟩
    · exact ⟨_, .tail _ (.tail _ (.tail _ (.head _))), rfl⟩
  exact hQ _ how q2 (by omega) (by omega) hh hq2
/-- what a drawn lore holds -/
structure LoreOk (u : Int) (how : Str) (ns : List Str) (sh : List Nat) (rs : Nat → D × D) : Prop where
  t : Tr ns sh
  u0 : 2 ≤ u
  u1 : u ≤ 100
  hh : how ∈ hows
  r1 : ∀ i, ShOk u (rs i).1
  r2 : ∀ i, ShOk u (rs i).2
theorem lore_fold {u : D} {ns : List Str} {sh : List Nat} {rs : Nat → D × D} : D.dic [.inr "units", .inr "first", .inr "rows"] [u, nmD ns 0, .lst ((List.range sh.length).map (rowD ns sh rs))] = loreD u ns sh rs := rfl
theorem merge3 {a b c : D} : mergeL [] [] [.inr "units", .inr "first", .inr "rows"] [a, b, c] = ([.inr "units", .inr "first", .inr "rows"], [a, b, c]) := rfl
theorem put3K : putKs [.inr "units", .inr "first", .inr "rows"] (.inr "rows") = [.inr "units", .inr "first", .inr "rows"] := rfl
theorem put3V {a b c d : D} : putVs [.inr "units", .inr "first", .inr "rows"] [a, b, c] (.inr "rows") d = [a, b, d] := rfl
theorem names_cons {ns : List Str} {m : Nat} : (List.range (m + 1)).map (nmD ns) = nmD ns 0 :: (List.range m).map (fun i => nmD ns (i + 1)) := by
  rw [List.range_succ_eq_map]
  simp
theorem shD_idx {sh : List Nat} : shD sh = .lst ((List.range sh.length).map fun i => .int (up sh i : Nat)) := by
  unfold shD
  rw [idx_map]
  rfl
theorem range_snoc {α : Type} {f g : Nat → α} {i : Nat} {x : α} (h : ∀ k < i, g k = f k) (hx : g i = x) : (List.range i).map f ++ [x] = (List.range (i + 1)).map g := by
  rw [List.range_succ, List.map_append, ← hx]
  congr 1
  exact List.map_congr_left fun k hk => (h k (List.mem_range.mp hk)).symm
theorem shapes_ends : ∀ sh ∈ shapes, 1 ≤ (endsI sh).length ∧ (endsI sh).length ≤ 6 := by decide
/-- counts that are drawn -/
structure CtOk (B : Int) (sh : List Nat) (c : Nat → Int) : Prop where
  c0 : ∀ k, 0 ≤ c k
  c1 : ∀ k, c k ≤ B
  pos : 0 < totI sh c
/-- counts that tables take -/
structure CtW (sh : List Nat) (c : Nat → Int) : Prop where
  c0 : ∀ k, 0 ≤ c k
  c1 : ∀ k, c k ≤ 1000000000
  pos : 0 < totI sh c
  tot : totI sh c ≤ 1000000000
theorem CtOk.w {B : Int} {ns : List Str} {sh : List Nat} {c : Nat → Int} (t : Tr ns sh) (h : CtOk B sh c) (hB : B ≤ 100000000) : CtW sh c :=
  ⟨h.c0, fun k => Int.le_trans (h.c1 k) (by omega), h.pos, by have := (num_boundsB (p := 0) t h.c0 h.c1).2.2; omega⟩
def cD (sh : List Nat) (c : Nat → Int) : D := .tup ((List.range (endsI sh).length).map fun k => .int (c k))
def ShownAt (u : Int) (how : Str) (sh : List Nat) (rs : Nat → D × D) (c : Nat → Int) (i : Nat) : Prop := rtI u how (rs i).1 (numI sh c (i + 1)) (numI sh c (up sh i)) = true ∧ rtI u how (rs i).2 (numI sh c (i + 1)) (totI sh c) = true
def Shown (u : Int) (how : Str) (sh : List Nat) (rs : Nat → D × D) (c : Nat → Int) : Prop := ∀ i < sh.length, ShownAt u how sh rs c i
local macro_rules | `(tactic| walk_at "z1") => `(tactic| simp only [wp_cal, wp_calP, calPW_p, wp_frz, wp_mkL, wp_mk, wp_drop, wp_asg, wp_iter, wp_for, wp_comp, wp_part, wp_noPart, intW_int, wp_sl, wp_and, wp_or, wp_not, wp_chain, strW_str, wp_s1, wp_s0, twoW_two, wp_par, wp_parMV, wp_parVM, wp_parMM, wp_rng1, owp_rng, wp_zip, owp_zipL, owp_zipT, wp_enum2, owp_enum2, wp_mkO, lW_l, kW_k, oneW_one, lstW_lst, wp_app, wp_ext, wp_dput, wp_opR, wp_opL, wp_CBO, objW_obj, wp_prop, wp_meth, bobjW_obj, wp_new, dW_d, wp_varP, wp_pureR, wp_pairs0, wp_pairs, wp_disp, owp_lenL, wp_popAt, wp_C, wp_var, wp_op, wp_un, wp_test, wp_notT, wp_andT, wp_orT, wp_nil, wp_cons, wp_CB, wp_tup, wp_lst, wp_seq, wp_ret, wp_sNil, wp_set, wp_sIf, wp_potC, wp_potSetC, potsW_0, potsW_1, potsW_2, setW_0, setW_2, isPW_p, blW_bl, owp_some, varW_d, varW_l, varW_k, initP, initS, S.put, owp_cmp, owp_add, owp_sub, owp_mul, owp_fdiv, owp_mod, owp_pow, owp_int, owp_intB, owp_tup, owp_lst, List.length_cons, List.length_nil, List.map_cons, List.map_nil, List.cons_append, List.nil_append, List.append_nil, List.getElem?_cons_zero, List.getElem?_cons_succ, List.set_cons_zero, List.set_cons_succ, List.replicate_succ, List.replicate_zero, Nat.reduceAdd, Nat.reduceSub, Rv.wp_ok, Rp.wp_ok, wp_yes, wp_dNew, wp_ifT, wp_pop, wp_self, wp_sSelf, pobjW_obj, wp_rdU, rdW_rd, pkW_rd, wp_peek, wp_peekT, wp_rdPut, wp_methP, tlW_tup, wp_star, wp_setIx, wp_lenX, llW_l, llW_d, wp_atL, owp_bTup, owp_bCons, owp_bNil, owp_bName, owp_eqII, owp_neII, owp_eqSS, owp_neSS, owp_eqNS, owp_isN, owp_notN, owp_ixL0, owp_ixL1, owp_ixL2, owp_ixL3, owp_ixT0, owp_ixT1, owp_iterL, owp_iterT, owp_seqL, owp_addL, owp_addT, owp_addS, owp_lenT, owp_tupleL, owp_tupleT, owp_din, owp_dnotin, owp_isi, owp_neg, owp_keys, owp_values, owp_items, owp_lenK, owp_tupK, LVd_l, LVd_k, S.wipe, S.back, wipeE, restE, Bool.not_true, Bool.not_false, true_implies, false_implies, reduceCtorEq, true_and, and_true, Nat.reduceLeDiff, lore_units, lore_first, lore_rows, strOk_lit, owp_keyS, and_self, beq_iff_eq, beq_eq_false_iff_ne, decide_eq_true_eq, decide_eq_false_iff_not, parts_eq ‹Tr _ _›, ends_eq ‹Tr _ _›])
local macro_rules | `(tactic| walk_at "z2") => `(tactic| simp only [wp_cal, wp_calP, calPW_p, wp_frz, wp_mkL, wp_mk, wp_drop, wp_asg, wp_iter, wp_for, wp_comp, wp_part, wp_noPart, intW_int, wp_sl, wp_and, wp_or, wp_not, wp_chain, strW_str, wp_s1, wp_s0, twoW_two, wp_par, wp_parMV, wp_parVM, wp_parMM, wp_rng1, owp_rng, wp_zip, owp_zipL, owp_zipT, wp_enum2, owp_enum2, wp_mkO, lW_l, kW_k, oneW_one, lstW_lst, wp_app, wp_ext, wp_dput, wp_opR, wp_opL, wp_CBO, objW_obj, wp_prop, wp_meth, bobjW_obj, wp_new, dW_d, wp_varP, wp_pureR, wp_pairs0, wp_pairs, wp_disp, owp_lenL, wp_popAt, wp_C, wp_var, wp_op, wp_un, wp_test, wp_if, wp_notT, wp_andT, wp_orT, wp_nil, wp_cons, wp_CB, wp_tup, wp_lst, wp_seq, wp_ret, wp_sNil, wp_set, wp_sIf, wp_potC, wp_potSetC, potsW_0, potsW_1, potsW_2, setW_0, setW_2, isPW_p, blW_bl, owp_some, varW_d, varW_l, varW_k, initP, initS, S.put, owp_cmp, owp_add, owp_sub, owp_mul, owp_fdiv, owp_mod, owp_pow, owp_int, owp_intB, owp_tup, owp_lst, List.length_cons, List.length_nil, List.map_cons, List.map_nil, List.cons_append, List.nil_append, List.append_nil, List.getElem?_cons_zero, List.getElem?_cons_succ, List.set_cons_zero, List.set_cons_succ, List.replicate_succ, List.replicate_zero, Nat.reduceAdd, Nat.reduceSub, Rv.wp_ok, Rp.wp_ok, wp_yes, wp_dNew, wp_ifT, wp_pop, wp_self, wp_sSelf, pobjW_obj, wp_rdU, rdW_rd, pkW_rd, wp_peek, wp_peekT, wp_rdPut, wp_methP, tlW_tup, wp_star, wp_setIx, wp_lenX, llW_l, llW_d, wp_atL, owp_bTup, owp_bCons, owp_bNil, owp_bName, owp_eqII, owp_neII, owp_eqSS, owp_neSS, owp_eqNS, owp_isN, owp_notN, owp_ixL0, owp_ixL1, owp_ixL2, owp_ixL3, owp_ixT0, owp_ixT1, owp_iterL, owp_iterT, owp_seqL, owp_addL, owp_addT, owp_addS, owp_lenT, owp_tupleL, owp_tupleT, owp_din, owp_dnotin, owp_isi, owp_neg, owp_keys, owp_values, owp_items, owp_lenK, owp_tupK, LVd_l, LVd_k, S.wipe, S.back, wipeE, restE, Bool.not_true, Bool.not_false, true_implies, false_implies, reduceCtorEq, true_and, and_true, Nat.reduceLeDiff, lore_units, lore_first, lore_rows, strOk_lit, owp_keyS, and_self, beq_iff_eq, beq_eq_false_iff_ne, decide_eq_true_eq, decide_eq_false_iff_not, parts_eq ‹Tr _ _›, ends_eq ‹Tr _ _›])
theorem lore_wpC {n : Nat} {q : Pot} {most size : Int} {Q : D → Bw → Prop} (hq : PotOk n q) (hn : n + 200 < 100000) (m0 : 2 ≤ most) (m1 : most ≤ 100) (z0 : 1 ≤ size) (z1 : size ≤ 80) (hQ : ∀ u how ns sh rs c q', LoreOk u how ns sh rs → CtOk size sh c → Shown u how sh rs c → PotOk (n + 200) q' → Q (.tup [loreD (.tup [.int u, .str how]) ns sh rs, cD sh c]) (.pot q')) : (m_l_lore (.pot q) [.lst (shapes.map shD), .int most, .int size]).wp Q := by
  unfold m_l_lore g_l_lore
  refine defP_of rfl ?_
  simp only [wp_cal, wp_calP, calPW_p, wp_frz, wp_mkL, wp_mk, wp_drop, wp_asg, wp_iter, wp_for, wp_comp, wp_part, wp_noPart, intW_int, wp_sl, wp_and, wp_or, wp_not, wp_chain, strW_str, wp_s1, wp_s0, twoW_two, wp_par, wp_parMV, wp_parVM, wp_parMM, wp_rng1, owp_rng, wp_zip, owp_zipL, owp_zipT, wp_enum2, owp_enum2, wp_mkO, lW_l, kW_k, oneW_one, lstW_lst, wp_app, wp_ext, wp_dput, wp_opR, wp_opL, wp_CBO, objW_obj, wp_prop, wp_meth, bobjW_obj, wp_new, dW_d, wp_varP, wp_pureR, wp_pairs0, wp_pairs, wp_disp, owp_lenL, wp_popAt, wp_C, wp_var, wp_op, wp_un, wp_test, wp_notT, wp_andT, wp_orT, wp_nil, wp_cons, wp_CB, wp_tup, wp_lst, wp_seq, wp_ret, wp_sNil, wp_set, wp_sIf, wp_potC, wp_potSetC, potsW_0, potsW_1, potsW_2, setW_0, setW_2, isPW_p, blW_bl, owp_some, varW_d, varW_l, varW_k, initP, initS, S.put, owp_cmp, owp_add, owp_sub, owp_mul, owp_fdiv, owp_mod, owp_pow, owp_int, owp_intB, owp_tup, owp_lst, List.length_cons, List.length_nil, List.map_cons, List.map_nil, List.cons_append, List.nil_append, List.append_nil, List.getElem?_cons_zero, List.getElem?_cons_succ, List.set_cons_zero, List.set_cons_succ, List.replicate_succ, List.replicate_zero, Nat.reduceAdd, Nat.reduceSub, Rv.wp_ok, Rp.wp_ok, wp_yes, wp_dNew, wp_ifT, wp_pop, wp_self, wp_sSelf, pobjW_obj, wp_rdU, rdW_rd, pkW_rd, wp_peek, wp_peekT, wp_rdPut, wp_methP, tlW_tup, wp_star, wp_setIx, wp_lenX, llW_l, llW_d, wp_atL, owp_bTup, owp_bCons, owp_bNil, owp_bName, owp_eqII, owp_neII, owp_eqSS, owp_neSS, owp_eqNS, owp_isN, owp_notN, owp_ixL0, owp_ixL1, owp_ixL2, owp_ixL3, owp_ixT0, owp_ixT1, owp_iterL, owp_iterT, owp_seqL, owp_addL, owp_addT, owp_addS, owp_lenT, owp_tupleL, owp_tupleT, owp_din, owp_dnotin, owp_isi, owp_neg, owp_keys, owp_values, owp_items, owp_lenK, owp_tupK, LVd_l, LVd_k, S.wipe, S.back, wipeE, restE, Bool.not_true, Bool.not_false, true_implies, false_implies, reduceCtorEq, true_and, and_true, Nat.reduceLeDiff, lore_units, lore_first, lore_rows, strOk_lit, owp_keyS, and_self, beq_iff_eq, beq_eq_false_iff_ne, decide_eq_true_eq, decide_eq_false_iff_not]
  refine tree_wp hq (by omega) fun sh ns q1 h1 h2 h3 h4 hq1 => ?_
  have t : Tr ns sh := ⟨h1, h2, h3, h4⟩
  have l9 := (shapes_len sh t.hsh).2
  walk_at "z1"
  refine units_wp hq1 (by omega) m0 m1 fun u how q2 u0 u1 hh hq2 => ?_
  rw [t.all, names_cons]
  walk_at "z1"
  rw [owp_slL1, shD_idx, owp_zipL, zip_map, merge3]
  refine ⟨by simp; omega, comp_all (rowD ns sh (fun _ => (.non, .non))) (fun i hi => ?_) ?_⟩
  · unfold pairD
    walk_at "z1"
    have hi := List.mem_range.mp hi
    have := t.up_le hi
    rw [owp_ixLN, ← names_cons, List.getElem?_map, List.getElem?_range (by omega)]
    rfl
  walk_at "z1"
  rw [put3K, put3V, lore_fold]
  walk_at "z1"
  have le := (shapes_ends sh t.hsh)
  refine ⟨by decide, by simp; omega, ?_⟩
  refine compL_inv (fun i ys s => ∃ (c : Nat → Int) (q' : Pot), (∀ k, 0 ≤ c k ∧ c k ≤ size) ∧ ys = (List.range i).map (fun k => D.int (c k)) ∧ PotOk (n + 22 + i) q' ∧ s = ⟨[some .p, some (.d (.lst (shapes.map shD))), some (.d (.int most)), some (.d (.int size)), some (.d (.lst (nmD ns 0 :: (List.range sh.length).map fun i => nmD ns (i + 1)))), some (.d (.lst ((List.range sh.length).map fun i => .int (up sh i : Nat)))), some (.d (.tup [.int u, .str how])), some (.d (loreD (.tup [.int u, .str how]) ns sh fun _ => (.non, .non))), none, none, none, none, none, none, none, none, none, none], .pot q'⟩) [] ⟨fun _ => 0, q2, fun _ => by constructor <;> dsimp only <;> omega, rfl, hq2, rfl⟩ ?_ ?_
  · rintro i d ys s hd ⟨c, q', hc, rfl, hq', rfl⟩
    have hi : i < (endsI sh).length := by
      have := (List.getElem?_eq_some_iff.mp hd).1
      simpa using this
    walk_at "z1"
    refine take_wp hq' (by omega) (by omega) (by omega) fun r q3 r0 r1 hq3 => ?_
    refine ⟨fun k => if k = i then r else c k, q3, fun k => ?_, ?_, hq3, rfl⟩
    · dsimp only
      split
      · omega
      · exact hc k
    · exact range_snoc (fun k hk => by dsimp only; rw [if_neg (by omega)]) (by simp)
  rintro ys s ⟨c, q3, hc, e, hq3, rfl⟩
  rw [List.length_map] at hq3
  rw [List.nil_append, List.length_map] at e
  subst e
  walk_at "z1"
  refine Rs.wp_mono (P := fun d s => ∃ (c : Nat → Int) (x8 : D), (∀ k, 0 ≤ c k ∧ c k ≤ size) ∧ 0 < totI sh c ∧ d = .tup ((List.range (endsI sh).length).map fun k => .int (c k)) ∧ s = ⟨[some .p, some (.d (.lst (shapes.map shD))), some (.d (.int most)), some (.d (.int size)), some (.d (.lst (nmD ns 0 :: (List.range sh.length).map fun i => nmD ns (i + 1)))), some (.d (.lst ((List.range sh.length).map fun i => .int (up sh i : Nat)))), some (.d (.tup [.int u, .str how])), some (.d (loreD (.tup [.int u, .str how]) ns sh fun _ => (.non, .non))), some (.d x8), none, none, none, none, none, none, none, none, none], .pot q3⟩) ?_ ?_
  · walk_at "z2"
    rw [owp_sumT]
    walk_at "z2"
    refine ⟨fun z => ⟨c, _, hc, z, rfl, rfl⟩, fun _ => ?_⟩
    obtain ⟨m, hm⟩ : ∃ m, (endsI sh).length = m + 1 := ⟨(endsI sh).length - 1, by omega⟩
    have e1 : (List.range (m + 1)).map (fun k => D.int (c k)) = .int (c 0) :: (List.range m).map (fun k => .int (c (k + 1))) := by
      rw [List.range_succ_eq_map]
      simp
    rw [hm, e1, owp_slT1]
    walk_at "z2"
    refine ⟨by simp; omega, fun k => if k = 0 then 1 else c k, _, fun k => ?_, ?_, ?_, rfl⟩
    · dsimp only
      split
      · omega
      · exact hc k
    · unfold totI
      rw [hm, List.range_succ_eq_map, List.map_cons, List.sum_cons, if_pos rfl, List.map_map]
      have := sum_le (l := List.range m) (f := fun _ => 0) (g := (fun k => if k = 0 then 1 else c k) ∘ Nat.succ) fun k _ => by have := (hc (k + 1)).1; simpa using this
      rw [sum_const] at this
      omega
    · rw [List.range_succ_eq_map]
      simp
  rintro d s ⟨c, x8, hc, hpos, rfl, rfl⟩
  have hc0 : ∀ k, 0 ≤ c k := fun k => (hc k).1
  have hc1 : ∀ k, c k ≤ size := fun k => (hc k).2
  have hc9 : ∀ k, c k ≤ 1000000000 := fun k => Int.le_trans (hc1 k) (by omega)
  walk_at "z1"
  refine forL_inv (fun i s => ∃ (rs : Nat → D × D) (q' : Pot) (a b c1 d e f g : Option LV), (∀ k, ShOk u (rs k).1) ∧ (∀ k, ShOk u (rs k).2) ∧ (∀ k < i, ShownAt u how sh rs c k) ∧ PotOk (n + 40 + 7 * i) q' ∧ s = ⟨[some .p, some (.d (.lst (shapes.map shD))), some (.d (.int most)), some (.d (.int size)), some (.d (.lst (nmD ns 0 :: (List.range sh.length).map fun i => nmD ns (i + 1)))), some (.d (.lst ((List.range sh.length).map fun i => .int (up sh i : Nat)))), some (.d (.tup [.int u, .str how])), some (.d (loreD (.tup [.int u, .str how]) ns sh fun _ => (.non, .non))), some (.d (.tup ((List.range (endsI sh).length).map fun k => .int (c k)))), some (.l ((List.range i).map (rowD ns sh rs))), a, b, c1, d, e, f, g, none], .pot q'⟩) ⟨fun _ => (.non, .non), q3, none, none, none, none, none, none, none, fun _ => .non, fun _ => .non, fun k hk => absurd hk (Nat.not_lt_zero k), hq3.mono (by omega), rfl⟩ ?_ ?_
  · rintro i d s hd ⟨rs, q', a, b, c1, d', e, f, g, s1, s2, s3, hq', rfl⟩
    obtain ⟨hi, rfl⟩ := range_get hd
    have hu := t.up_le hi
    rw [show rowD ns sh (fun _ => (.non, .non)) i = .tup [nmD ns (i + 1), nmD ns (up sh i), .non, .non] from rfl]
    walk_at "z1"
    rw [number_eq t (by omega) hc0 hc9]
    walk_at "z1"
    rw [number_eq t (by omega) hc0 hc9]
    walk_at "z1"
    obtain ⟨b1, b2, b3⟩ := num_boundsB (p := i + 1) t hc0 hc1
    obtain ⟨b4, b5, _⟩ := num_boundsB (p := up sh i) t hc0 hc1
    have b6 := num_le t hc0 hi
    refine share_wp hq' (by omega) hh u0 u1 b1 b6 (by omega) fun near q4 hs1 hr1 hq4 => ?_
    refine take_wp hq4 (by omega) (by decide) (by decide) fun r q5 r0 r1 hq5 => ?_
    walk_at "z1"
    have fn : ∀ (far : D) (q6 : Pot), ShOk u far → rtI u how far (numI sh c (i + 1)) (totI sh c) = true → PotOk (n + 40 + 7 * (i + 1)) q6 → ∃ (rs' : Nat → D × D), (∀ k, ShOk u (rs' k).1) ∧ (∀ k, ShOk u (rs' k).2) ∧ (∀ k < i + 1, ShownAt u how sh rs' c k) ∧ (List.range i).map (rowD ns sh rs) ++ [.tup [nmD ns (i + 1), nmD ns (up sh i), near, far]] = (List.range (i + 1)).map (rowD ns sh rs') := by
      intro far q6 hf hr2 _
      refine ⟨fun k => if k = i then (near, far) else rs k, fun k => ?_, fun k => ?_, fun k hk => ?_, range_snoc (fun k hk => ?_) ?_⟩
      · dsimp only
        split
        · exact hs1
        · exact s1 k
      · dsimp only
        split
        · exact hf
        · exact s2 k
      · by_cases hki : k = i
        · subst hki
          unfold ShownAt
          simp only [if_true]
          exact ⟨hr1, hr2⟩
        · unfold ShownAt
          simp only [hki, if_false]
          exact s3 k (by omega)
      · have : ¬ k = i := by omega
        simp [rowD, this]
      · simp [rowD]
    refine ⟨fun _ => ?_, fun _ => ?_⟩
    · rw [owp_sumT]
      refine share_wp hq5 (by omega) hh u0 u1 b1 b2 (by unfold totI at b3; omega) fun far q6 hs2 hr2 hq6 => ?_
      obtain ⟨rs', k1, k2, k4, k3⟩ := fn far q6 hs2 hr2 (hq6.mono (by omega))
      refine ⟨by simp; omega, ?_⟩
      rw [k3]
      exact ⟨rs', q6, _, _, _, _, _, _, _, k1, k2, k4, hq6.mono (by omega), rfl⟩
    · obtain ⟨rs', k1, k2, k4, k3⟩ := fn .non q5 .non rfl (hq5.mono (by omega))
      refine ⟨by simp; omega, ?_⟩
      rw [k3]
      exact ⟨rs', q5, _, _, _, _, _, _, _, k1, k2, k4, hq5.mono (by omega), rfl⟩
  · rintro s ⟨rs, q', a, b, c1, d', e, f, g, s1, s2, s3, hq', rfl⟩
    rw [show (rowsD ns sh fun _ => (.non, .non)).length = sh.length by simp [rowsD]] at hq' s3 ⊢
    walk_at "z1"
    rw [merge3, lore_fold]
    exact hQ u how ns sh rs c q' ⟨t, u0, u1, hh, s1, s2⟩ ⟨hc0, hc1, hpos⟩ s3 (hq'.mono (by omega))
theorem lore_wp {n : Nat} {q : Pot} {most : Int} {Q : D → Bw → Prop} (hq : PotOk n q) (hn : n + 200 < 100000) (m0 : 2 ≤ most) (m1 : most ≤ 100) (hQ : ∀ u how ns sh rs c q', LoreOk u how ns sh rs → PotOk (n + 200) q' → Q (.tup [loreD (.tup [.int u, .str how]) ns sh rs, c]) (.pot q')) : (m_l_lore (.pot q) [.lst (shapes.map shD), .int most, .int 9]).wp Q :=
  lore_wpC hq hn m0 m1 (by decide) (by decide) fun u how ns sh rs c q' h _ _ hq' => hQ u how ns sh rs _ q' h hq'
theorem set_range {f g : Nat → D} {m j : Nat} (h : ∀ k < m, k ≠ j → g k = f k) : ((List.range m).map f).set j (g j) = (List.range m).map g := by
  apply List.ext_getElem
  · simp
  · intro i h1 h2
    simp at h1
    rw [List.getElem_set]
    split
    · rename_i e
      subst e
      simp
    · rename_i e
      simp
      exact (h i h1 (fun z => e z.symm)).symm
theorem bent_wp {n : Nat} {q : Pot} {u : Int} {how : Str} {ns : List Str} {sh : List Nat} {rs : Nat → D × D} {Q : D → Bw → Prop} (hq : PotOk n q) (hn : n + 4 < 100000) (ok : LoreOk u how ns sh rs) (hQ : ∀ rs' q', LoreOk u how ns sh rs' → PotOk (n + 4) q' → Q (loreD (.tup [.int u, .str how]) ns sh rs') (.pot q')) : (m_l_bent_lore (.pot q) [loreD (.tup [.int u, .str how]) ns sh rs]).wp Q := by
  unfold m_l_bent_lore g_l_bent_lore
  refine defP_of rfl ?_
  obtain ⟨t, u0, u1, hh, s1, s2⟩ := ok
  have l9 := (shapes_len sh t.hsh)
  try walk_at "z2"
  have el : (rowsD ns sh rs).length = sh.length := by simp [rowsD]
  rw [el]
  refine take_wp hq (by omega) (by omega) (by omega) fun r q1 r0 r1 hq1 => ?_
  obtain ⟨j, rfl⟩ : ∃ j : Nat, r = j := ⟨r.toNat, by omega⟩
  have hj : j < sh.length := by omega
  try walk_at "z2"
  have ej : (rowsD ns sh rs)[j]? = some (rowD ns sh rs j) := by
    unfold rowsD
    rw [List.getElem?_map, List.getElem?_range hj]
    rfl
  rw [atI_nat, ej, owp_some]
  rw [show rowD ns sh rs j = .tup [nmD ns (j + 1), nmD ns (up sh j), (rs j).1, (rs j).2] from rfl]
  try walk_at "z2"
  refine take_wp hq1 (by omega) (by omega) (by omega) fun k q2 k0 k1 hq2 => ?_
  try walk_at "z2"
  refine of_wp hq2 (by omega) (by simp) (by simp) fun x hx q3 hq3 => ?_
  have hx : ShOk u x := by
    simp only [List.mem_cons, List.not_mem_nil, or_false] at hx
    rcases hx with rfl | rfl | rfl | rfl
    · exact .non
    · exact .some
    · exact .none
    · exact .of k0 (by omega)
  refine take_wp hq3 (by omega) (by omega) (by omega) fun v q4 v0 v1 hq4 => ?_
  try walk_at "z2"
  rw [el, ixN_nat, if_pos hj]
  try walk_at "z2"
  rw [merge3, merge3]
  have e1 : (rowsD ns sh rs).set j (.tup [nmD ns (j + 1), nmD ns (up sh j), x, (rs j).2]) = rowsD ns sh (fun k => if k = j then (x, (rs j).2) else rs k) := by
    have := set_range (f := rowD ns sh rs) (g := rowD ns sh (fun k => if k = j then (x, (rs j).2) else rs k)) (m := sh.length) (j := j) fun k _ hk => by simp [rowD, hk]
    simpa [rowD, rowsD] using this
  have e2 : (rowsD ns sh rs).set j (.tup [nmD ns (j + 1), nmD ns (up sh j), (rs j).1, x]) = rowsD ns sh (fun k => if k = j then ((rs j).1, x) else rs k) := by
    have := set_range (f := rowD ns sh rs) (g := rowD ns sh (fun k => if k = j then ((rs j).1, x) else rs k)) (m := sh.length) (j := j) fun k _ hk => by simp [rowD, hk]
    simpa [rowD, rowsD] using this
  rw [e1, e2]
  refine ⟨fun _ => hQ _ q4 ⟨t, u0, u1, hh, fun k => ?_, fun k => ?_⟩ hq4, fun _ => hQ _ q4 ⟨t, u0, u1, hh, fun k => ?_, fun k => ?_⟩ hq4⟩
  · split
    · exact hx
    · exact s1 k
  · split
    · exact s2 j
    · exact s2 k
  · split
    · exact s1 j
    · exact s1 k
  · split
    · exact hx
    · exact s2 k

end Ak
namespace Ak
open PySem PySem.Spec PyProof.Rows L2
/-! ### texts -/
def cl (x : Str) : List Nat := x.cps.toList
theorem cl_append {x y : Str} : cl (x ++ y) = cl x ++ cl y := by
  show (x.cps ++ y.cps).toList = _
  exact Array.toList_append
theorem cl_inj {x y : Str} (h : cl x = cl y) : x = y := by
  cases x
  cases y
  simp [cl] at h
  rw [h]
theorem cl_len {x : Str} : (cl x).length = x.length := by simp [cl, Str.length]
theorem len_app {x y : Str} : (x ++ y).length = x.length + y.length := by
  rw [← cl_len, cl_append, List.length_append, cl_len, cl_len]
theorem cut_eq {c : Nat} : ∀ {a b X Y : List Nat}, c ∉ a → c ∉ b → a ++ c :: X = b ++ c :: Y → a = b ∧ X = Y
  | [], [], _, _, _, _, e => ⟨rfl, by simpa using e⟩
  | [], y :: b, _, _, _, hb, e => by
    simp at e
    exact absurd (by simp [e.1]) hb
  | x :: a, [], _, _, ha, _, e => by
    simp at e
    exact absurd (by simp [e.1]) ha
  | x :: a, y :: b, _, _, ha, hb, e => by
    simp at e
    obtain ⟨rfl, e⟩ := e
    obtain ⟨h1, h2⟩ := cut_eq (fun z => ha (.tail _ z)) (fun z => hb (.tail _ z)) e
    exact ⟨by rw [h1], h2⟩
theorem join_cons {s a b : Str} {r : List Str} : Str.join s (a :: b :: r) = a ++ s ++ Str.join s (b :: r) := rfl
theorem cl_one {c : Nat} : cl ⟨#[c]⟩ = [c] := rfl
theorem join_inj {c : Nat} : ∀ (as bs : List Str), as ≠ [] → bs ≠ [] → (∀ a ∈ as, c ∉ cl a) → (∀ b ∈ bs, c ∉ cl b) → Str.join ⟨#[c]⟩ as = Str.join ⟨#[c]⟩ bs → as = bs
  | [], _, h, _, _, _, _ => absurd rfl h
  | _ :: _, [], _, h, _, _, _ => absurd rfl h
  | [a], [b], _, _, _, _, e => by rw [show a = b from e]
  | [a], b :: b' :: bs, _, _, ha, _, e => by
    rw [join_cons] at e
    replace e : a = _ := e
    refine absurd ?_ (ha a (.head _))
    rw [e, cl_append, cl_append, cl_one]
    simp
  | a :: a' :: as, [b], _, _, _, hb, e => by
    rw [join_cons] at e
    replace e : _ = b := e
    refine absurd ?_ (hb b (.head _))
    rw [← e, cl_append, cl_append, cl_one]
    simp
  | a :: a' :: as, b :: b' :: bs, _, _, ha, hb, e => by
    rw [join_cons, join_cons] at e
    have e2 := congrArg cl e
    rw [cl_append, cl_append, cl_append, cl_append, cl_one] at e2
    simp only [List.append_assoc, List.singleton_append] at e2
    obtain ⟨h1, h2⟩ := cut_eq (ha a (.head _)) (hb b (.head _)) e2
    rw [cl_inj h1, join_inj (a' :: as) (b' :: bs) (by simp) (by simp) (fun x hx => ha x (.tail _ hx)) (fun x hx => hb x (.tail _ hx)) (cl_inj h2)]
theorem split_join {c : Nat} {as : List Str} (ne : as ≠ []) (free : ∀ a ∈ as, c ∉ cl a) : Txt.split (Str.join ⟨#[c]⟩ as) ⟨#[c]⟩ = as :=
  join_inj _ _ (fun e => by
    have := split_pos (Str.join ⟨#[c]⟩ as) ⟨#[c]⟩
    rw [e] at this
    simp at this) ne (StrLaws.split_free _ c) free (StrLaws.join_split _ _)
theorem join_len {s : Str} {b : Nat} : ∀ {ws : List Str}, (∀ w ∈ ws, w.length ≤ b) → (Str.join s ws).length ≤ ws.length * (b + s.length)
  | [], _ => by simp [Str.join, Str.empty, Str.length]
  | [a], h => by
    have := h a (.head _)
    show a.length ≤ _
    simp
    omega
  | a :: a' :: r, h => by
    have h1 := h a (.head _)
    have h2 := join_len (s := s) (ws := a' :: r) fun w hw => h w (.tail _ hw)
    rw [join_cons, len_app, len_app]
    rw [List.length_cons, Nat.succ_mul]
    omega
theorem txt_join {s : Str} {l : List Str} : Txt.join s l = Str.join s l := by simpa using join_plain_closes s l
theorem lit_sp : Str.ofString " " = ⟨#[32]⟩ := by decide +kernel
theorem lit_nl : Str.ofString "\n" = ⟨#[10]⟩ := by decide +kernel
def txtD : D → Str
  | .int k => Str.ofString (toString k)
  | .str x => x
  | _ => Str.ofString ""
/-- a word without blanks and feeds -/
def wOk (w : Str) : Bool := !(cl w).contains 32 && !(cl w).contains 10 && decide (w.length ≤ 10) && PyData.strOk w
structure WOk (w : Str) : Prop where
  sp : 32 ∉ cl w
  nl : 10 ∉ cl w
  len : w.length ≤ 10
  ok : PyData.strOk w = true
theorem WOk.of {w : Str} (h : wOk w = true) : WOk w := by
  unfold wOk at h
  simp only [Bool.and_eq_true, Bool.not_eq_true', decide_eq_true_eq] at h
  obtain ⟨⟨⟨h1, h2⟩, h3⟩, h4⟩ := h
  exact ⟨by simpa using h1, by simpa using h2, h3, h4⟩
def isInt (r : Rv) (k : Int) : Bool := match r with
  | .ok (.int j) => j == k
  | _ => false
theorem isInt_of {r : Rv} {k : Int} (h : isInt r k = true) : r = .ok (.int k) := by
  unfold isInt at h
  split at h
  · simp at h
    rw [h]
  · cases h
def isStr (r : Rv) (k : Str) : Bool := match r with
  | .ok (.str j) => decide (j = k)
  | _ => false
theorem isStr_of {r : Rv} {k : Str} (h : isStr r k = true) : r = .ok (.str k) := by
  unfold isStr at h
  split at h
  · simp at h
    rw [h]
  · cases h
def isBl (r : Rv) (k : Bool) : Bool := match r with
  | .ok (.bl j) => j == k
  | _ => false
theorem isBl_of {r : Rv} {k : Bool} (h : isBl r k = true) : r = .ok (.bl k) := by
  unfold isBl at h
  split at h
  · simp at h
    rw [h]
  · cases h
theorem ints_ok : ∀ k : Nat, k < 101 → (wOk (Str.ofString (toString (k : Int))) && isInt (m_share_in [.str (Str.ofString (toString (k : Int)))]) k && isInt (m_number_in [.str (Str.ofString (toString (k : Int)))]) k) = true := by decide +kernel
theorem words_ok : (wOk "none" && wOk "some" && isStr (m_share_in [.str "none"]) "none" && isStr (m_share_in [.str "some"]) "some" && wOk "part" && wOk "of" && wOk "is" && wOk "all" && wOk "in" && wOk "asked") = true := by decide +kernel
theorem pool_ok : ∀ x ∈ pool, (wOk x && isBl (m_is_name [.str x]) true) = true := by decide +kernel
theorem hows_ok : ∀ x ∈ hows, wOk x = true := by decide +kernel
theorem share_word {u : Int} {d : D} (h : ShOk u d) (hu : u ≤ 100) (hd : d.isN = false) : WOk (txtD d) ∧ m_share_in [.str (txtD d)] = .ok d ∧ strD [d] = some (.str (txtD d)) := by
  have w := words_ok
  simp only [Bool.and_eq_true] at w
  obtain ⟨⟨⟨⟨⟨⟨⟨⟨⟨w1, w2⟩, w3⟩, w4⟩, _⟩, _⟩, _⟩, _⟩, _⟩, _⟩ := w
  cases h with
  | non => cases hd
  | none => exact ⟨.of w1, isStr_of w3, rfl⟩
  | some => exact ⟨.of w2, isStr_of w4, rfl⟩
  | int k hk =>
    have := ints_ok k (by omega)
    simp only [Bool.and_eq_true] at this
    obtain ⟨⟨k1, k2⟩, _⟩ := this
    refine ⟨.of k1, isInt_of k2, ?_⟩
    show (if (k : Int).natAbs.log2 < 1920 then some (D.str (toString (k : Int))) else none) = _
    rw [if_pos]
    · rfl
    · rcases Nat.eq_zero_or_pos k with rfl | hp
      · decide
      · rw [Nat.log2_lt (by omega)]
        have : (101 : Nat) < 2 ^ 1920 := by decide +kernel
        omega
theorem pool_word {x : Str} (h : x ∈ pool) : WOk x ∧ m_is_name [.str x] = .ok (.bl true) := by
  have := pool_ok x h
  simp only [Bool.and_eq_true] at this
  exact ⟨.of this.1, isBl_of this.2⟩
def shW (w : Str) (d : D) : List Str := if d.isN then [] else [w, txtD d]
def wordsI (ns : List Str) (sh : List Nat) (rs : Nat → D × D) (i : Nat) : List Str := [Str.ofString "part", nm ns (i + 1), Str.ofString "of", nm ns (up sh i)] ++ (shW "is" (rs i).1 ++ shW "all" (rs i).2)
def lineS (ns : List Str) (sh : List Nat) (rs : Nat → D × D) (i : Nat) : Str := Str.join " " (wordsI ns sh rs i)
theorem lit_ok : WOk "part" ∧ WOk "of" ∧ WOk "is" ∧ WOk "all" ∧ WOk "in" ∧ WOk "asked" := by
  have w := words_ok
  simp only [Bool.and_eq_true] at w
  obtain ⟨⟨⟨⟨⟨⟨⟨⟨⟨w1, w2⟩, w3⟩, w4⟩, w5⟩, w6⟩, w7⟩, w8⟩, w9⟩, w10⟩ := w
  exact ⟨.of w5, .of w6, .of w7, .of w8, .of w9, .of w10⟩
section
variable {u : Int} {how : Str} {ns : List Str} {sh : List Nat} {rs : Nat → D × D} {i : Nat}
theorem shW_ok {w : Str} {d : D} (hw : WOk w) (h : ShOk u d) (hu : u ≤ 100) : ∀ x ∈ shW w d, WOk x := by
  unfold shW
  intro x hx
  split at hx
  · cases hx
  · rename_i hn
    rcases List.mem_cons.mp hx with rfl | hx
    · exact hw
    · rw [List.mem_singleton.mp hx]
      exact (share_word h hu (by simpa using hn)).1
theorem LoreOk.nmW (ok : LoreOk u how ns sh rs) (hi : i < sh.length + 1) : WOk (nm ns i) := (pool_word (ok.t.mem hi)).1
theorem LoreOk.wordsOk (ok : LoreOk u how ns sh rs) (hi : i < sh.length) : ∀ x ∈ wordsI ns sh rs i, WOk x := by
  obtain ⟨w1, w2, w3, w4, w5, w6⟩ := lit_ok
  have hu := ok.t.up_le hi
  intro x hx
  unfold wordsI at hx
  rcases List.mem_append.mp hx with hx | hx
  · simp only [List.mem_cons, List.not_mem_nil, or_false] at hx
    rcases hx with rfl | rfl | rfl | rfl
    · exact w1
    · exact ok.nmW (by omega)
    · exact w2
    · exact ok.nmW (by omega)
  · rcases List.mem_append.mp hx with hx | hx
    · exact shW_ok w3 (ok.r1 i) ok.u1 x hx
    · exact shW_ok w4 (ok.r2 i) ok.u1 x hx
theorem cl_lits : cl "part " = cl "part" ++ [32] ∧ cl " of " = [32] ++ cl "of" ++ [32] ∧ cl " is " = [32] ++ cl "is" ++ [32] ∧ cl " all " = [32] ++ cl "all" ++ [32] ∧ cl "in " = cl "in" ++ [32] ∧ cl "asked " = cl "asked" ++ [32] ∧ cl "" = [] := by decide +kernel
theorem len_lits : (Str.ofString "part ").length = 5 ∧ (Str.ofString " of ").length = 4 ∧ (Str.ofString " is ").length = 4 ∧ (Str.ofString " all ").length = 5 ∧ (Str.ofString "in ").length = 3 ∧ (Str.ofString "asked ").length = 6 ∧ (Str.ofString "").length = 0 ∧ (Str.ofString " ").length = 1 := by decide +kernel
local macro_rules | `(tactic| walk_at "z0") => `(tactic| simp only [wp_cal, wp_calP, calPW_p, wp_frz, wp_mkL, wp_mk, wp_drop, wp_asg, wp_iter, wp_for, wp_comp, wp_part, wp_noPart, intW_int, wp_sl, wp_and, wp_or, wp_not, wp_chain, strW_str, wp_s1, wp_s0, twoW_two, wp_par, wp_parMV, wp_parVM, wp_parMM, wp_rng1, owp_rng, wp_zip, owp_zipL, owp_zipT, wp_enum2, owp_enum2, wp_mkO, lW_l, kW_k, oneW_one, lstW_lst, wp_app, wp_ext, wp_dput, wp_opR, wp_opL, wp_CBO, objW_obj, wp_prop, wp_meth, bobjW_obj, wp_new, dW_d, wp_varP, wp_pureR, wp_pairs0, wp_pairs, wp_disp, owp_lenL, wp_popAt, wp_C, wp_var, wp_op, wp_un, wp_test, wp_if, wp_notT, wp_andT, wp_orT, wp_nil, wp_cons, wp_CB, wp_tup, wp_lst, wp_seq, wp_ret, wp_sNil, wp_set, wp_sIf, wp_potC, wp_potSetC, potsW_0, potsW_1, potsW_2, setW_0, setW_2, isPW_p, blW_bl, owp_some, varW_d, varW_l, varW_k, initP, initS, S.put, owp_cmp, owp_add, owp_sub, owp_mul, owp_fdiv, owp_mod, owp_pow, owp_int, owp_intB, owp_tup, owp_lst, List.length_cons, List.length_nil, List.map_cons, List.map_nil, List.cons_append, List.nil_append, List.append_nil, List.getElem?_cons_zero, List.getElem?_cons_succ, List.set_cons_zero, List.set_cons_succ, List.replicate_succ, List.replicate_zero, Nat.reduceAdd, Nat.reduceSub, Rv.wp_ok, Rp.wp_ok, wp_yes, wp_dNew, wp_ifT, wp_pop, wp_self, wp_sSelf, pobjW_obj, wp_rdU, rdW_rd, pkW_rd, wp_peek, wp_peekT, wp_rdPut, wp_methP, tlW_tup, wp_star, wp_setIx, wp_lenX, llW_l, llW_d, wp_atL, owp_bTup, owp_bCons, owp_bNil, owp_bName, owp_eqII, owp_neII, owp_eqSS, owp_neSS, owp_eqNS, owp_isN, owp_notN, owp_ixL0, owp_ixL1, owp_ixL2, owp_ixL3, owp_ixT0, owp_ixT1, owp_iterL, owp_iterT, owp_seqL, owp_addL, owp_addT, owp_addS, owp_lenT, owp_tupleL, owp_tupleT, owp_din, owp_dnotin, owp_isi, owp_neg, owp_keys, owp_values, owp_items, owp_lenK, owp_tupK, LVd_l, LVd_k, S.wipe, S.back, wipeE, restE, Bool.not_true, Bool.not_false, true_implies, false_implies, reduceCtorEq, true_and, and_true, Nat.reduceLeDiff, lore_units, lore_first, lore_rows, strOk_lit, owp_keyS, and_self, beq_iff_eq, beq_eq_false_iff_ne, decide_eq_true_eq, decide_eq_false_iff_not])
theorem line_eq (ok : LoreOk u how ns sh rs) (hi : i < sh.length) : m_l_line [rowD ns sh rs i] = .ok (.str (lineS ns sh rs i)) := by
  apply Rv.of_wp
  unfold m_l_line g_l_line
  refine def_of rfl ?_
  have hu := ok.t.up_le hi
  have n1 := (ok.nmW (i := i + 1) (by omega)).len
  have n2 := (ok.nmW (i := up sh i) (by omega)).len
  obtain ⟨c1, c2, c3, c4, _, _, c7⟩ := cl_lits
  obtain ⟨k1, k2, k3, k4, _, _, k7, _⟩ := len_lits
  have s1 := fun h => share_word (ok.r1 i) ok.u1 h
  have s2 := fun h => share_word (ok.r2 i) ok.u1 h
  unfold rowD lineS wordsI shW nmD
  generalize (rs i).1 = d1 at *
  generalize (rs i).2 = d2 at *
  try walk_at "z0"
  cases h1 : d1.isN <;> cases h2 : d2.isN
  · obtain ⟨a1, _, a3⟩ := s1 h1
    obtain ⟨b1, _, b3⟩ := s2 h2
    have := a1.len
    have := b1.len
    simp only [a3, b3]
    try walk_at "z0"
    simp only [len_app, k1, k2, k3, k4]
    refine ⟨by omega, by omega, by omega, by omega, by omega, by omega, by omega, ?_⟩
    refine congrArg D.str (cl_inj ?_)
    rw [lit_sp]
    simp [Str.join, cl_append, c1, c2, c3, c4, cl_one]
  · obtain ⟨a1, _, a3⟩ := s1 h1
    have := a1.len
    simp only [a3]
    try walk_at "z0"
    simp only [len_app, k1, k2, k3, k4, k7]
    refine ⟨by omega, by omega, by omega, by omega, by omega, by omega, ?_⟩
    refine congrArg D.str (cl_inj ?_)
    rw [lit_sp]
    simp [Str.join, cl_append, c1, c2, c3, c4, c7, cl_one]
  · obtain ⟨b1, _, b3⟩ := s2 h2
    have := b1.len
    simp only [b3]
    try walk_at "z0"
    simp only [len_app, k1, k2, k3, k4, k7]
    refine ⟨by omega, by omega, by omega, by omega, by omega, by omega, ?_⟩
    refine congrArg D.str (cl_inj ?_)
    rw [lit_sp]
    simp [Str.join, cl_append, c1, c2, c3, c4, c7, cl_one]
  · try walk_at "z0"
    simp only [len_app, k1, k2, k3, k4, k7]
    refine ⟨by omega, by omega, by omega, by omega, by omega, ?_⟩
    refine congrArg D.str (cl_inj ?_)
    rw [lit_sp]
    simp [Str.join, cl_append, c1, c2, c3, c4, c7, cl_one]
def headS (u : Int) (how : Str) : Str := Str.join " " [Str.ofString "in", txtD (.int u), how]
def firstS (ns : List Str) : Str := Str.join " " [Str.ofString "asked", nm ns 0]
def linesS (u : Int) (how : Str) (ns : List Str) (sh : List Nat) (rs : Nat → D × D) : List Str := headS u how :: firstS ns :: (List.range sh.length).map (lineS ns sh rs)
def textS (u : Int) (how : Str) (ns : List Str) (sh : List Nat) (rs : Nat → D × D) : Str := Str.join "\n" (linesS u how ns sh rs)
theorem LoreOk.uW (ok : LoreOk u how ns sh rs) : WOk (txtD (.int u)) ∧ m_number_in [.str (txtD (.int u))] = .ok (.int u) ∧ strD [.int u] = some (.str (txtD (.int u))) := by
  have h0 := ok.u0
  have h1 := ok.u1
  obtain ⟨k, rfl⟩ : ∃ k : Nat, u = k := ⟨u.toNat, by omega⟩
  have := ints_ok k (by omega)
  simp only [Bool.and_eq_true] at this
  refine ⟨.of this.1.1, isInt_of this.2, ?_⟩
  exact (share_word (u := k) (.int k (by omega)) h1 rfl).2.2
theorem wordsI_len : (wordsI ns sh rs i).length ≤ 8 := by
  have : ∀ w d, (shW w d).length ≤ 2 := fun w d => by
    unfold shW
    split <;> simp
  have h1 := this "is" (rs i).1
  have h2 := this "all" (rs i).2
  unfold wordsI
  simp only [List.length_append, List.length_cons, List.length_nil]
  omega
theorem LoreOk.line_len (ok : LoreOk u how ns sh rs) (hi : i < sh.length) : (lineS ns sh rs i).length ≤ 88 := by
  have := join_len (s := Str.ofString " ") (b := 10) (ws := wordsI ns sh rs i) fun w hw => (ok.wordsOk hi w hw).len
  rw [len_lits.2.2.2.2.2.2.2] at this
  have := wordsI_len (ns := ns) (sh := sh) (rs := rs) (i := i)
  unfold lineS
  omega
theorem LoreOk.lines_len (ok : LoreOk u how ns sh rs) : ∀ l ∈ linesS u how ns sh rs, l.length ≤ 88 := by
  intro l hl
  unfold linesS at hl
  obtain ⟨w1, w2, w3, w4, w5, w6⟩ := lit_ok
  have k8 := len_lits.2.2.2.2.2.2.2
  rcases List.mem_cons.mp hl with rfl | hl
  · unfold headS
    have := join_len (s := Str.ofString " ") (b := 10) (ws := [Str.ofString "in", txtD (.int u), how]) fun w hw => by
      simp only [List.mem_cons, List.not_mem_nil, or_false] at hw
      rcases hw with rfl | rfl | rfl
      · exact w5.len
      · exact ok.uW.1.len
      · exact (WOk.of (hows_ok _ ok.hh)).len
    rw [k8] at this
    simp at this
    omega
  · rcases List.mem_cons.mp hl with rfl | hl
    · unfold firstS
      have := join_len (s := Str.ofString " ") (b := 10) (ws := [Str.ofString "asked", nm ns 0]) fun w hw => by
        simp only [List.mem_cons, List.not_mem_nil, or_false] at hw
        rcases hw with rfl | rfl
        · exact w6.len
        · exact (ok.nmW (by omega)).len
      rw [k8] at this
      simp at this
      omega
    · obtain ⟨j, hj, rfl⟩ := List.mem_map.mp hl
      exact ok.line_len (List.mem_range.mp hj)
theorem owp_join {x : Str} {ws : List Str} {Q : D → Prop} : owp (joinD x (.lst (ws.map D.str))) Q = ((ws.map (·.length)).sum + ws.length * x.length ≤ 16777216 ∧ Q (.str (Str.join x ws))) := by
  show owp (match strsOf (ws.map D.str) with
    | some ys => if (ys.map (·.length)).sum + ys.length * x.length ≤ 16777216 then some (.str (Txt.join x ys)) else none
    | none => none) Q = _
  rw [strsOf_map]
  show owp (if (ws.map (·.length)).sum + ws.length * x.length ≤ 16777216 then some (.str (Txt.join x ws)) else none) Q = _
  rw [owp_if, txt_join]
theorem sum_len_le {b : Nat} : ∀ {ws : List Str}, (∀ w ∈ ws, w.length ≤ b) → (ws.map (·.length)).sum ≤ ws.length * b
  | [], _ => by simp
  | w :: ws, h => by
    have := sum_len_le (ws := ws) fun x hx => h x (.tail _ hx)
    have := h w (.head _)
    simp only [List.map_cons, List.sum_cons, List.length_cons, Nat.succ_mul]
    omega
theorem text_eq (ok : LoreOk u how ns sh rs) : m_l_text [loreD (.tup [.int u, .str how]) ns sh rs] = .ok (.str (textS u how ns sh rs)) := by
  apply Rv.of_wp
  unfold m_l_text g_l_text
  refine def_of rfl ?_
  obtain ⟨c1, c2, c3, c4, c5, c6, c7⟩ := cl_lits
  obtain ⟨k1, k2, k3, k4, k5, k6, k7, k8⟩ := len_lits
  have l9 := (shapes_len sh ok.t.hsh).2
  have n0 := (ok.nmW (i := 0) (by omega)).len
  obtain ⟨u1, u2, u3⟩ := ok.uW
  have u4 := u1.len
  have hl := (WOk.of (hows_ok _ ok.hh)).len
  try walk_at "z0"
  simp only [u3]
  try walk_at "z0"
  rw [show nmD ns 0 = .str (nm ns 0) from rfl, owp_addS]
  simp only [len_app, k5, k6, k8]
  refine ⟨by omega, by omega, by omega, by omega, by simp [rowsD]; omega, ?_⟩
  unfold rowsD
  refine comp_all (fun i => .str (lineS ns sh rs i)) (fun i hi => ?_) ?_
  · try walk_at "z0"
    rw [line_eq ok (List.mem_range.mp hi)]
    try walk_at "z0"
  · refine ⟨by simp; omega, ?_⟩
    have ha : Str.ofString "in " ++ txtD (.int u) ++ Str.ofString " " ++ how = headS u how := by
      apply cl_inj
      unfold headS
      rw [lit_sp]
      simp [Str.join, cl_append, c5, cl_one]
    have hb : Str.ofString "asked " ++ nm ns 0 = firstS ns := by
      apply cl_inj
      unfold firstS
      rw [lit_sp]
      simp [Str.join, cl_append, c6, cl_one]
    have e : D.str (headS u how) :: D.str (firstS ns) :: (List.range sh.length).map (fun i => D.str (lineS ns sh rs i)) = (linesS u how ns sh rs).map D.str := by
      unfold linesS
      simp
    rw [ha, hb, e, owp_join]
    refine ⟨?_, rfl⟩
    have h1 := sum_len_le ok.lines_len
    have h2 : (linesS u how ns sh rs).length ≤ 11 := by
      simp [linesS]
      omega
    have h3 : (Str.ofString "\n").length = 1 := by
      rw [lit_nl]
      rfl
    rw [h3]
    omega
end

end Ak
namespace Ak
open PySem PySem.Spec PyProof.Rows L2
/-! ### reading -/
theorem isN_tup {xs : List D} : (D.tup xs).isN = false := rfl
theorem isN_str {x : Str} : (D.str x).isN = false := rfl
theorem isN_non : D.non.isN = true := rfl
theorem fld_rows {u : D} {ks ks2 : List Key} {vs vs2 : List D} {Q : D → Prop} : owp (fldC ["Reading"] "own_rows" (rdObj u ks vs ks2 vs2)) Q = Q (.dic ks vs) := rfl
theorem fld_depths {u : D} {ks ks2 : List Key} {vs vs2 : List D} {Q : D → Prop} : owp (fldC ["Reading"] "own_depths" (rdObj u ks vs ks2 vs2)) Q = Q (.dic ks2 vs2) := rfl
theorem fld_units {u : D} {ks ks2 : List Key} {vs vs2 : List D} {Q : D → Prop} : owp (fldC ["Reading"] "own_units" (rdObj u ks vs ks2 vs2)) Q = Q u := rfl
theorem owp_split {x y : Str} {Q : D → Prop} : owp (splitD x (.str y)) Q = (((y.length == 0) = false ∧ x.length ≤ 100000) ∧ Q (.lst ((Txt.split x y).map D.str))) := owp_if
theorem split_words {ws : List Str} {Q : D → Prop} (ne : ws ≠ []) (h : ∀ w ∈ ws, WOk w) (hl : ws.length ≤ 8) : owp (splitD (Str.join (Str.ofString " ") ws) (.str (Str.ofString " "))) Q = Q (.lst (ws.map D.str)) := by
  have l := join_len (s := Str.ofString " ") (b := 10) (ws := ws) fun w hw => (h w hw).len
  rw [len_lits.2.2.2.2.2.2.2] at l
  have l2 : (Str.join (Str.ofString " ") ws).length ≤ 100000 := by omega
  rw [owp_split, len_lits.2.2.2.2.2.2.2, lit_sp, split_join ne fun a ha => (h a ha).sp]
  rw [lit_sp] at l2
  simp [l2]
theorem cut4 {a b c d : D} {xs : List D} : cutD (a :: b :: c :: d :: xs) (some 4) none = xs := by
  unfold cutD HT.sIx
  simp
theorem owp_sl4 {a b c d : D} {xs : List D} {Q : D → Prop} : owp (slD (.lst (a :: b :: c :: d :: xs)) (some 4) none) Q = Q (.lst xs) := by
  show Q (.lst (cutD (a :: b :: c :: d :: xs) (some 4) none)) = _
  rw [cut4]
def kyI (ns : List Str) (i : Nat) : Key := .inr (nm ns i)
def valI (ns : List Str) (sh : List Nat) (rs : Nat → D × D) : Nat → D
  | 0 => .tup [.non, .non, .non]
  | i + 1 => .tup [nmD ns (up sh i), (rs i).1, (rs i).2]
def keysI (ns : List Str) (m : Nat) : List Key := (List.range m).map (kyI ns)
def valsI (ns : List Str) (sh : List Nat) (rs : Nat → D × D) (m : Nat) : List D := (List.range m).map (valI ns sh rs)
section
variable {u : D} {ns : List Str} {sh : List Nat} {rs : Nat → D × D} {i m : Nat} {f : Nat → D}
theorem find_map (t : Tr ns sh) (hi : i < sh.length + 1) : ∀ {js : List Nat}, (∀ j ∈ js, j < sh.length + 1) → findL (.inr (nm ns i)) (js.map (kyI ns)) (js.map f) = if i ∈ js then some (f i) else none
  | [], _ => rfl
  | j :: js, h => by
    have ih := find_map t hi (js := js) fun k hk => h k (.tail _ hk)
    show (if kyI ns j = .inr (nm ns i) then some (f j) else findL (.inr (nm ns i)) (js.map (kyI ns)) (js.map f)) = _
    rw [ih]
    have e : kyI ns j = .inr (nm ns i) ↔ j = i := by
      unfold kyI
      rw [Sum.inr.injEq]
      exact t.inj (h j (.head _)) hi
    by_cases q : j = i
    · rw [if_pos (e.mpr q)]
      subst q
      simp
    · rw [if_neg (fun z => q (e.mp z))]
      simp [Ne.symm q]
theorem find_range (t : Tr ns sh) (hi : i < sh.length + 1) (hm : m ≤ sh.length + 1) : findL (.inr (nm ns i)) (keysI ns m) ((List.range m).map f) = if i < m then some (f i) else none := by
  unfold keysI
  rw [find_map t hi (fun j hj => by have := List.mem_range.mp hj; omega)]
  simp
theorem has_range (t : Tr ns sh) (hm : m < sh.length + 1) : hasK (.inr (nm ns m)) (keysI ns m) = false := by
  unfold hasK keysI
  rw [List.any_map, List.any_eq_false]
  intro j hj
  have hj := List.mem_range.mp hj
  have : ¬ nm ns j = nm ns m := fun e => by
    have := (t.inj (by omega) hm).mp e
    omega
  simpa [kyI] using this
theorem put_keys (t : Tr ns sh) (hm : m < sh.length + 1) : putKs (keysI ns m) (.inr (nm ns m)) = keysI ns (m + 1) := by
  unfold putKs
  rw [has_range t hm]
  unfold keysI
  rw [List.range_succ]
  simp
  rfl
theorem put_vals (t : Tr ns sh) (hm : m < sh.length + 1) {d : D} (hd : f m = d) : putVs (keysI ns m) ((List.range m).map f) (.inr (nm ns m)) d = (List.range (m + 1)).map f := by
  unfold putVs
  rw [has_range t hm, ← hd, List.range_succ]
  simp
theorem Tr.owp_notIn0 (t : Tr ns sh) {js : List Nat} {Q : D → Prop} (hi : i < sh.length + 1) (hj : ∀ j ∈ js, j < sh.length + 1) : owp (notInD (nmD ns i) (.lst (.non :: js.map (nmD ns)))) Q = Q (.bl (!decide (i ∈ js))) := by
  have e := t.inB hi hj
  have e2 : Ak.inB (nmD ns i) (.lst (.non :: js.map (nmD ns))) = some (decide (i ∈ js)) := by
    rw [← e]
    show (if (nmD ns i).isFlat && (D.non :: js.map (nmD ns)).all D.isFlat then some ((D.non :: js.map (nmD ns)).any fun y => eqF y (nmD ns i)) else none) = (if (nmD ns i).isFlat && (js.map (nmD ns)).all D.isFlat then some ((js.map (nmD ns)).any fun y => eqF y (nmD ns i)) else none)
    rw [List.all_cons, List.any_cons]
    rfl
  unfold notInD
  rw [e2]
  rfl
def lowI (sh : List Nat) (m : Nat) : List Nat := (List.range m).filter fun j => !decide (j ∈ sh.take (m - 1))
def dep (sh : List Nat) (i : Nat) : Nat := (((List.range sh.length).foldl (fun l i => l ++ [(l[up sh i]?).getD 0 + 1]) [0])[i]?).getD 0
theorem shapes_low : ∀ sh ∈ shapes, ∀ m < sh.length + 2, (lowI sh m).length ≤ 6 := by decide +kernel
theorem shapes_dep : ∀ sh ∈ shapes, dep sh 0 = 0 ∧ ∀ i < sh.length, dep sh (i + 1) = dep sh (up sh i) + 1 ∧ dep sh (i + 1) ≤ 3 := by decide +kernel
theorem low_all : lowI sh (sh.length + 1) = endsI sh := by
  unfold lowI endsI
  simp
local macro_rules | `(tactic| walk_at "z0") => `(tactic| simp only [wp_cal, wp_calP, calPW_p, wp_frz, wp_mkL, wp_mk, wp_drop, wp_asg, wp_iter, wp_for, wp_comp, wp_part, wp_noPart, intW_int, wp_sl, wp_and, wp_or, wp_not, wp_chain, strW_str, wp_s1, wp_s0, twoW_two, wp_par, wp_parMV, wp_parVM, wp_parMM, wp_rng1, owp_rng, wp_zip, owp_zipL, owp_zipT, wp_enum2, owp_enum2, wp_mkO, lW_l, kW_k, oneW_one, lstW_lst, wp_app, wp_ext, wp_dput, wp_opR, wp_opL, wp_CBO, objW_obj, wp_prop, wp_meth, bobjW_obj, wp_new, dW_d, wp_varP, wp_pureR, wp_pairs0, wp_pairs, wp_disp, owp_lenL, wp_popAt, wp_C, wp_var, wp_op, wp_un, wp_test, wp_if, wp_notT, wp_andT, wp_orT, wp_nil, wp_cons, wp_CB, wp_tup, wp_lst, wp_seq, wp_ret, wp_sNil, wp_set, wp_sIf, wp_potC, wp_potSetC, potsW_0, potsW_1, potsW_2, setW_0, setW_2, isPW_p, blW_bl, owp_some, varW_d, varW_l, varW_k, initP, initS, S.put, owp_cmp, owp_add, owp_sub, owp_mul, owp_fdiv, owp_mod, owp_pow, owp_int, owp_intB, owp_tup, owp_lst, List.length_cons, List.length_nil, List.map_cons, List.map_nil, List.cons_append, List.nil_append, List.append_nil, List.getElem?_cons_zero, List.getElem?_cons_succ, List.set_cons_zero, List.set_cons_succ, List.replicate_succ, List.replicate_zero, Nat.reduceAdd, Nat.reduceSub, Rv.wp_ok, Rp.wp_ok, wp_yes, wp_dNew, wp_ifT, wp_pop, wp_self, wp_sSelf, pobjW_obj, wp_rdU, rdW_rd, pkW_rd, wp_peek, wp_peekT, wp_rdPut, wp_methP, tlW_tup, wp_star, wp_setIx, wp_lenX, llW_l, llW_d, wp_atL, owp_bTup, owp_bCons, owp_bNil, owp_bName, owp_eqII, owp_neII, owp_eqSS, owp_neSS, owp_eqNS, owp_isN, owp_notN, owp_ixL0, owp_ixL1, owp_ixL2, owp_ixL3, owp_ixT0, owp_ixT1, owp_iterL, owp_iterT, owp_seqL, owp_addL, owp_addT, owp_addS, owp_lenT, owp_tupleL, owp_tupleT, owp_din, owp_dnotin, owp_isi, owp_neg, owp_keys, owp_values, owp_items, owp_lenK, owp_tupK, LVd_l, LVd_k, S.wipe, S.back, wipeE, restE, Bool.not_true, Bool.not_false, true_implies, false_implies, reduceCtorEq, true_and, and_true, Nat.reduceLeDiff, lore_units, lore_first, lore_rows, strOk_lit, owp_keyS, and_self, beq_iff_eq, beq_eq_false_iff_ne, decide_eq_true_eq, decide_eq_false_iff_not])
theorem lowest_eq (t : Tr ns sh) (hm : m < sh.length + 1) {ks2 : List Key} {vs2 : List D} : m_Reading_lowest [rdObj u (keysI ns (m + 1)) (valsI ns sh rs (m + 1)) ks2 vs2] = .ok (.lst ((lowI sh (m + 1)).map (nmD ns))) := by
  apply Rv.of_wp
  unfold m_Reading_lowest g_Reading_lowest
  refine def_of rfl ?_
  have l9 := (shapes_len sh t.hsh).2
  try walk_at "z0"
  simp only [fld_rows]
  try walk_at "z0"
  refine ⟨by simp [valsI]; omega, ?_⟩
  refine comp_all (fun j => match j with | 0 => D.non | i + 1 => nmD ns (up sh i)) (fun j hj => ?_) ?_
  · cases j with
    | zero =>
      unfold valI
      try walk_at "z0"
    | succ j =>
      unfold valI
      try walk_at "z0"
  · have e : (List.range (m + 1)).map (fun j => match j with | 0 => D.non | i + 1 => nmD ns (up sh i)) = .non :: (sh.take m).map (nmD ns) := by
      rw [List.range_succ_eq_map, List.map_cons, List.map_map]
      congr 1
      apply List.ext_getElem
      · simp
        omega
      · intro i h1 h2
        simp at h1 h2
        have h3 : i < sh.length := by omega
        simp [up, h3]
    rw [e]
    try walk_at "z0"
    refine ⟨by simp [keysI]; omega, ?_⟩
    have e3 : (keysI ns (m + 1)).map kD = (List.range (m + 1)).map (nmD ns) := by
      unfold keysI
      rw [List.map_map]
      rfl
    rw [e3]
    refine comp_idx (fun j => !decide (j ∈ sh.take m)) (nmD ns) (fun j hj => ?_) ?_
    · have hj := List.mem_range.mp hj
      try walk_at "z0"
      rw [t.owp_notIn0 (by omega) (fun k hk => t.sh_lt (List.mem_of_mem_take hk))]
      try walk_at "z0"
      exact ⟨fun _ => trivial, fun _ => trivial⟩
    · rfl
end
theorem isa_ss {x : Str} : (D.str x).isa "str" = true := rfl
theorem isa_is {i : Int} : (D.int i).isa "str" = false := rfl
theorem isa_ii {i : Int} : (D.int i).isa "int" = true := rfl
theorem isa_ib {i : Int} : (D.int i).isa "bool" = false := rfl
theorem isa_tt {xs : List D} : (D.tup xs).isa "tuple" = true := rfl
local macro_rules | `(tactic| walk_at "z0") => `(tactic| simp only [wp_cal, wp_calP, calPW_p, wp_frz, wp_mkL, wp_mk, wp_drop, wp_asg, wp_iter, wp_for, wp_comp, wp_part, wp_noPart, intW_int, wp_sl, wp_and, wp_or, wp_not, wp_chain, strW_str, wp_s1, wp_s0, twoW_two, wp_par, wp_parMV, wp_parVM, wp_parMM, wp_rng1, owp_rng, wp_zip, owp_zipL, owp_zipT, wp_enum2, owp_enum2, wp_mkO, lW_l, kW_k, oneW_one, lstW_lst, wp_app, wp_ext, wp_dput, wp_opR, wp_opL, wp_CBO, objW_obj, wp_prop, wp_meth, bobjW_obj, wp_new, dW_d, wp_varP, wp_pureR, wp_pairs0, wp_pairs, wp_disp, owp_lenL, wp_popAt, wp_C, wp_var, wp_op, wp_un, wp_test, wp_if, wp_notT, wp_andT, wp_orT, wp_nil, wp_cons, wp_CB, wp_tup, wp_lst, wp_seq, wp_ret, wp_sNil, wp_set, wp_sIf, wp_potC, wp_potSetC, potsW_0, potsW_1, potsW_2, setW_0, setW_2, isPW_p, blW_bl, owp_some, varW_d, varW_l, varW_k, initP, initS, S.put, owp_cmp, owp_add, owp_sub, owp_mul, owp_fdiv, owp_mod, owp_pow, owp_int, owp_intB, owp_tup, owp_lst, List.length_cons, List.length_nil, List.map_cons, List.map_nil, List.cons_append, List.nil_append, List.append_nil, List.getElem?_cons_zero, List.getElem?_cons_succ, List.set_cons_zero, List.set_cons_succ, List.replicate_succ, List.replicate_zero, Nat.reduceAdd, Nat.reduceSub, Rv.wp_ok, Rp.wp_ok, wp_yes, wp_dNew, wp_ifT, wp_pop, wp_self, wp_sSelf, pobjW_obj, wp_rdU, rdW_rd, pkW_rd, wp_peek, wp_peekT, wp_rdPut, wp_methP, tlW_tup, wp_star, wp_setIx, wp_lenX, llW_l, llW_d, wp_atL, owp_bTup, owp_bCons, owp_bNil, owp_bName, owp_eqII, owp_neII, owp_eqSS, owp_neSS, owp_eqNS, owp_isN, owp_notN, owp_ixL0, owp_ixL1, owp_ixL2, owp_ixL3, owp_ixT0, owp_ixT1, owp_iterL, owp_iterT, owp_seqL, owp_addL, owp_addT, owp_addS, owp_lenT, owp_tupleL, owp_tupleT, owp_din, owp_dnotin, owp_isi, owp_neg, owp_keys, owp_values, owp_items, owp_lenK, owp_tupK, LVd_l, LVd_k, S.wipe, S.back, wipeE, restE, Bool.not_true, Bool.not_false, true_implies, false_implies, reduceCtorEq, true_and, and_true, Nat.reduceLeDiff, lore_units, lore_first, lore_rows, strOk_lit, owp_keyS, and_self, beq_iff_eq, beq_eq_false_iff_ne, decide_eq_true_eq, decide_eq_false_iff_not])
theorem is_integer_eq {i : Int} : m_is_integer [.int i] = .ok (.bl true) := by
  apply Rv.of_wp
  unfold m_is_integer g_is_integer
  refine def_of rfl ?_
  try walk_at "z0"
  simp only [isa_ii, isa_ib]
  simp
theorem is_between_eq {i a b : Int} (h1 : a ≤ i) (h2 : i ≤ b) : m_is_between [.int i, .int a, .int b] = .ok (.bl true) := by
  apply Rv.of_wp
  unfold m_is_between g_is_between
  refine def_of rfl ?_
  try walk_at "z0"
  rw [is_integer_eq]
  try walk_at "z0"
  simp [h1, h2]
theorem in_two : inD (.str "none") (.tup [.str "none", .str "some"]) = some (.bl true) ∧ inD (.str "some") (.tup [.str "none", .str "some"]) = some (.bl true) := by
  constructor <;> rfl
theorem is_share_eq {u : Int} {how : Str} {d : D} (h : ShOk u d) (hd : d.isN = false) : m_is_share [.tup [.int u, .str how], d] = .ok (.bl true) := by
  apply Rv.of_wp
  unfold m_is_share g_is_share
  refine def_of rfl ?_
  have w : ∀ x : Str, inD (.str x) (.tup [.str "none", .str "some"]) = some (.bl true) → m_is_word [.str x, .tup [.str "none", .str "some"]] = .ok (.bl true) := by
    intro x hx
    apply Rv.of_wp
    unfold m_is_word g_is_word
    refine def_of rfl ?_
    try walk_at "z0"
    simp only [isa_ss, hx]
    simp [owp]
  have wi : ∀ i : Int, m_is_word [.int i, .tup [.str "none", .str "some"]] = .ok (.bl false) := by
    intro x
    apply Rv.of_wp
    unfold m_is_word g_is_word
    refine def_of rfl ?_
    try walk_at "z0"
    simp only [isa_is]
    simp
  cases h with
  | non => cases hd
  | none =>
    try walk_at "z0"
    rw [w _ in_two.1]
    try walk_at "z0"
  | some =>
    try walk_at "z0"
    rw [w _ in_two.2]
    try walk_at "z0"
  | int k hk =>
    try walk_at "z0"
    rw [wi]
    try walk_at "z0"
    rw [is_between_eq (by omega) hk]
    simp [Rv.wp]
theorem hows_in : ∀ x ∈ hows, inD (.str x) (.tup [.str "near", .str "even", .str "down", .str "up"]) = some (.bl true) := by
  intro x hx
  simp only [hows, List.mem_cons, List.not_mem_nil, or_false] at hx
  rcases hx with rfl | rfl | rfl | rfl <;> rfl
theorem is_units_eq {u : Int} {how : Str} (h0 : 2 ≤ u) (h1 : u ≤ 100) (hh : how ∈ hows) : m_is_units [.tup [.int u, .str how]] = .ok (.bl true) := by
  apply Rv.of_wp
  unfold m_is_units g_is_units
  refine def_of rfl ?_
  have t2 : m_is_tuple [.tup [.int u, .str how], .int 2, .int 2] = .ok (.bl true) := by
    apply Rv.of_wp
    unfold m_is_tuple g_is_tuple
    refine def_of rfl ?_
    try walk_at "z0"
    simp only [isa_tt]
    simp
  have wd : m_is_word [.str how, .tup [.str "near", .str "even", .str "down", .str "up"]] = .ok (.bl true) := by
    apply Rv.of_wp
    unfold m_is_word g_is_word
    refine def_of rfl ?_
    try walk_at "z0"
    simp only [isa_ss, hows_in how hh]
    simp [owp]
  try walk_at "z0"
  rw [t2]
  try walk_at "z0"
  rw [is_between_eq h0 h1]
  try walk_at "z0"
  rw [wd]
  simp [Rv.wp]
theorem units_in_eq {u : Int} {how : Str} {ns : List Str} {sh : List Nat} {rs : Nat → D × D} (ok : LoreOk u how ns sh rs) : m_units_in [.str (headS u how)] = .ok (.tup [.int u, .str how]) := by
  apply Rv.of_wp
  unfold m_units_in g_units_in
  refine def_of rfl ?_
  obtain ⟨w1, w2, w3, w4, w5, w6⟩ := lit_ok
  try walk_at "z0"
  unfold headS
  rw [split_words (by simp) (fun w hw => by
    simp only [List.mem_cons, List.not_mem_nil, or_false] at hw
    rcases hw with rfl | rfl | rfl
    · exact w5
    · exact ok.uW.1
    · exact .of (hows_ok _ ok.hh)) (by simp)]
  try walk_at "z0"
  rw [ok.uW.2.1]
  try walk_at "z0"
  rw [is_units_eq ok.u0 ok.u1 ok.hh]
  simp [Rv.wp, blW]
def flatOk : D → Bool
  | .str x => PyData.strOk x
  | .non => true
  | .bl _ => true
  | .int _ => true
  | _ => false
theorem flat_data : ∀ {ds : List D}, (∀ d ∈ ds, flatOk d = true) → ∃ xs, D.dataAll ds = some xs ∧ PyData.canLayAll0 xs = true ∧ PyData.depthAll xs = 0 ∧ xs.length = ds.length
  | [], _ => ⟨[], rfl, rfl, rfl, rfl⟩
  | d :: ds, h => by
    obtain ⟨xs, h1, h2, h3, h4⟩ := flat_data (ds := ds) fun x hx => h x (.tail _ hx)
    have hd := h d (.head _)
    obtain ⟨y, e1, e2, e3⟩ : ∃ y, d.data = some y ∧ y.canLay0 = true ∧ y.depth = 0 := by
      cases d with
      | str x => exact ⟨.str x, rfl, by simpa [PyData.canLay0, flatOk] using hd, by simp [PyData.depth]⟩
      | non => exact ⟨.none, rfl, by simp [PyData.canLay0], by simp [PyData.depth]⟩
      | bl b => exact ⟨.bool b, rfl, by simp [PyData.canLay0], by simp [PyData.depth]⟩
      | int i => exact ⟨.int i, rfl, by simp [PyData.canLay0], by simp [PyData.depth]⟩
      | _ => cases hd
    refine ⟨y :: xs, ?_, ?_, ?_, ?_⟩
    · simp [D.dataAll, e1, h1]
    · simp [PyData.canLayAll0, e2, h2]
    · simp [PyData.depthAll, e3, h3]
    · simp [h4]
theorem eqB_nil {ds : List D} (h : ∀ d ∈ ds, flatOk d = true) : eqB (.lst ds) (.lst []) = some ds.isEmpty := by
  obtain ⟨xs, h1, h2, h3, h4⟩ := flat_data h
  have e1 : (D.lst ds).data = some (.list xs) := by simp [D.data, h1]
  have e2 : (D.lst []).data = some (.list []) := by simp [D.data, D.dataAll]
  unfold eqB
  rw [e1, e2]
  have e3 : SeqAt.shaped (.list xs) = true := by simp [SeqAt.shaped, PyData.canLay0, PyData.depth, h2, h3]
  have e4 : SeqAt.shaped (.list []) = true := by simp [SeqAt.shaped, PyData.canLay0, PyData.depth, PyData.canLayAll0, PyData.depthAll]
  show (if (SeqAt.shaped (.list xs) && SeqAt.shaped (.list [])) = true then some (PyData.eqv (.list xs) (.list [])) else none) = _
  rw [e3, e4]
  show some (PyData.eqv (.list xs) (.list [])) = _
  cases ds with
  | nil =>
    cases xs with
    | nil => simp [PyData.eqv, PyData.eqvAll]
    | cons => simp at h4
  | cons d ds =>
    cases xs with
    | nil => simp at h4
    | cons => simp [PyData.eqv, PyData.eqvAll]
theorem ne_nil {ds : List D} (h : ∀ d ∈ ds, flatOk d = true) : neD (.lst ds) (.lst []) = some (.bl (!ds.isEmpty)) := by
  unfold neD
  rw [eqB_nil h]
theorem eq_nil {ds : List D} (h : ∀ d ∈ ds, flatOk d = true) : eqD (.lst ds) (.lst []) = some (.bl ds.isEmpty) := by
  unfold eqD
  rw [eqB_nil h]
theorem ShOk.flat {u : Int} {d : D} (h : ShOk u d) : flatOk d = true := by
  cases h with
  | none => exact strOk_lit
  | some => exact strOk_lit
  | _ => rfl
section
variable {s : S} {L : List D → S → Prop} {ft : S → Rs Bool} {fa : S → Rs D}
theorem wp_compN {b : D → S → Option S} {vs : List Nat} : (compL b ft fa vs [] s).wp L = L [] s := rfl
theorem wp_compC {b : D → S → Option S} {vs : List Nat} {d : D} {ds : List D} : (compL b mYes fa vs (d :: ds) s).wp L = owp (b d (s.wipe vs)) fun s1 => (fa s1).wp fun y s3 => (compL b mYes fa vs ds (s3.back s vs)).wp fun ys s4 => L (y :: ys) s4 := by
  rw [compL]
  cases b d (s.wipe vs) with
  | none => rfl
  | some s1 =>
    show Rs.wp (match fa s1 with
      | .ok y s3 => (match compL b mYes fa vs ds (s3.back s vs) with
        | .ok ys s4 => .ok (y :: ys) s4
        | _ => .no)
      | _ => .no) L = (fa s1).wp _
    cases fa s1 with
    | ok y s3 =>
      show Rs.wp (match compL b mYes fa vs ds (s3.back s vs) with
        | .ok ys s4 => .ok (y :: ys) s4
        | _ => .no) L = (compL b mYes fa vs ds (s3.back s vs)).wp _
      cases compL b mYes fa vs ds (s3.back s vs) <;> rfl
    | _ => rfl
end
theorem shares_eq {u : Int} {how : Str} {d1 d2 : D} (h1 : ShOk u d1) (h2 : ShOk u d2) (hu : u ≤ 100) : m_shares_in [.tup [.int u, .str how], .lst ((shW "is" d1 ++ shW "all" d2).map D.str)] = .ok (.tup [d1, d2]) := by
  apply Rv.of_wp
  unfold m_shares_in g_shares_in
  refine def_of rfl ?_
  have e1 := fun h => (share_word h1 hu h).2.1
  have e2 := fun h => (share_word h2 hu h).2.1
  have f1 := fun h => is_share_eq (how := how) h1 h
  have f2 := fun h => is_share_eq (how := how) h2 h
  have lw := lit_ok
  have g1 := fun h => (share_word h1 hu h).1.ok
  have g2 := fun h => (share_word h2 hu h).1.ok
  have k4 : ∀ {Q : D → Prop}, owp (notInI [0, 2, 4] (.int ((4 : Nat) : Int))) Q = Q (.bl false) := rfl
  have k2 : ∀ {Q : D → Prop}, owp (notInI [0, 2, 4] (.int ((2 : Nat) : Int))) Q = Q (.bl false) := rfl
  have k0 : ∀ {Q : D → Prop}, owp (notInI [0, 2, 4] (.int ((0 : Nat) : Int))) Q = Q (.bl false) := rfl
  have t4 : ∀ {Q : D → Prop}, owp (tabI [(0, []), (2, [.str (Str.ofString "is"), .str (Str.ofString "all")]), (4, [.str (Str.ofString "is")])] (.int ((4 : Nat) : Int))) Q = Q (.tup [.str (Str.ofString "is")]) := rfl
  have t2 : ∀ {Q : D → Prop}, owp (tabI [(0, []), (2, [.str (Str.ofString "is"), .str (Str.ofString "all")]), (4, [.str (Str.ofString "is")])] (.int ((2 : Nat) : Int))) Q = Q (.tup [.str (Str.ofString "is"), .str (Str.ofString "all")]) := rfl
  have i1 : notInD (.str (Str.ofString "is")) (.tup [.str (Str.ofString "is")]) = some (.bl false) := rfl
  have i2 : notInD (.str (Str.ofString "is")) (.tup [.str (Str.ofString "is"), .str (Str.ofString "all")]) = some (.bl false) := rfl
  have i3 : notInD (.str (Str.ofString "all")) (.tup [.str (Str.ofString "is"), .str (Str.ofString "all")]) = some (.bl false) := rfl
  have o4 : ∀ a b c d : D, oddD (.lst [a, b, c, d]) = some (.lst [b, d]) := fun _ _ _ _ => rfl
  have o2 : ∀ a b : D, oddD (.lst [a, b]) = some (.lst [b]) := fun _ _ => rfl
  have o0 : oddD (.lst []) = some (.lst []) := rfl
  have a2 : allD [.lst [.bl true, .bl true]] = some (.bl true) := rfl
  have a1 : allD [.lst [.bl true]] = some (.bl true) := rfl
  have a0 : allD [.lst []] = some (.bl true) := rfl
  have ne : (Str.ofString "all" == Str.ofString "is") = false := by decide +kernel
  have ne2 : Str.ofString "all" ≠ Str.ofString "is" := by decide +kernel
  cases n1 : d1.isN <;> cases n2 : d2.isN
  · have c1 : shW "is" d1 = [Str.ofString "is", txtD d1] := by simp [shW, n1]
    have c2 : shW "all" d2 = [Str.ofString "all", txtD d2] := by simp [shW, n2]
    rw [c1, c2]
    have q1 : neD (.lst [.str (Str.ofString "is"), .str (txtD d1), .str (Str.ofString "all"), .str (txtD d2)]) (.lst []) = some (.bl true) := ne_nil fun d hd => by
      simp only [List.mem_cons, List.not_mem_nil, or_false] at hd
      rcases hd with rfl | rfl | rfl | rfl
      · exact lw.2.2.1.ok
      · exact g1 n1
      · exact lw.2.2.2.1.ok
      · exact g2 n2
    have q2 : neD (.lst [d1, d2]) (.lst []) = some (.bl true) := ne_nil fun d hd => by
      simp only [List.mem_cons, List.not_mem_nil, or_false] at hd
      rcases hd with rfl | rfl
      · exact h1.flat
      · exact h2.flat
    try walk_at "z0"
    simp only [k4, t4, i1, o4, q1]
    try walk_at "z0"
    simp only [wp_compC, wp_compN]
    try walk_at "z0"
    simp only [e1 n1, e2 n2]
    try walk_at "z0"
    simp only [wp_compC, wp_compN]
    try walk_at "z0"
    simp only [f1 n1, f2 n2, q2]
    try walk_at "z0"
    simp [a2, owp, blW]
  · have c1 : shW "is" d1 = [Str.ofString "is", txtD d1] := by simp [shW, n1]
    have c2 : shW "all" d2 = [] := by simp [shW, n2]
    rw [c1, c2]
    have q1 : neD (.lst [.str (Str.ofString "is"), .str (txtD d1)]) (.lst []) = some (.bl true) := ne_nil fun d hd => by
      simp only [List.mem_cons, List.not_mem_nil, or_false] at hd
      rcases hd with rfl | rfl
      · exact lw.2.2.1.ok
      · exact g1 n1
    try walk_at "z0"
    simp only [k2, t2, i2, o2, q1]
    try walk_at "z0"
    simp only [wp_compC, wp_compN]
    try walk_at "z0"
    simp only [e1 n1]
    try walk_at "z0"
    simp only [wp_compC, wp_compN]
    try walk_at "z0"
    simp only [f1 n1]
    try walk_at "z0"
    have : d2 = .non := by cases h2 <;> first | rfl | cases n2
    simp [this, a1, owp, blW]
  · have c1 : shW "is" d1 = [] := by simp [shW, n1]
    have c2 : shW "all" d2 = [Str.ofString "all", txtD d2] := by simp [shW, n2]
    rw [c1, c2]
    have q1 : neD (.lst [.str (Str.ofString "all"), .str (txtD d2)]) (.lst []) = some (.bl true) := ne_nil fun d hd => by
      simp only [List.mem_cons, List.not_mem_nil, or_false] at hd
      rcases hd with rfl | rfl
      · exact lw.2.2.2.1.ok
      · exact g2 n2
    try walk_at "z0"
    simp only [k2, t2, i3, o2, q1]
    try walk_at "z0"
    simp only [wp_compC, wp_compN]
    try walk_at "z0"
    simp only [e2 n2]
    try walk_at "z0"
    simp only [wp_compC, wp_compN]
    try walk_at "z0"
    simp only [f2 n2]
    try walk_at "z0"
    have : d1 = .non := by cases h1 <;> first | rfl | cases n1
    simp [this, ne2, a1, owp, blW]
  · have c1 : shW "is" d1 = [] := by simp [shW, n1]
    have c2 : shW "all" d2 = [] := by simp [shW, n2]
    rw [c1, c2]
    have q1 : neD (.lst []) (.lst []) = some (.bl false) := ne_nil fun d hd => by cases hd
    try walk_at "z0"
    simp only [k0, o0, q1]
    try walk_at "z0"
    simp only [wp_compC, wp_compN]
    try walk_at "z0"
    simp only [wp_compC, wp_compN]
    try walk_at "z0"
    simp only [q1]
    try walk_at "z0"
    have : d1 = .non := by cases h1 <;> first | rfl | cases n1
    have : d2 = .non := by cases h2 <;> first | rfl | cases n2
    simp [*, owp, blW]

end Ak
namespace Ak
open PySem PySem.Spec PyProof.Rows L2
/-! ### the whole reading -/
def rdI (u : D) (ns : List Str) (sh : List Nat) (rs : Nat → D × D) (m : Nat) : Bw := .rd u (keysI ns m) (valsI ns sh rs m) (keysI ns m) ((List.range m).map fun i => .int (dep sh i : Nat))
section
variable {u : Int} {how : Str} {ns : List Str} {sh : List Nat} {rs : Nat → D × D} {i m : Nat} {Q : D → Bw → Prop}
local macro_rules | `(tactic| walk_at "z0") => `(tactic| simp only [wp_cal, wp_calP, calPW_p, wp_frz, wp_mkL, wp_mk, wp_drop, wp_asg, wp_iter, wp_for, wp_comp, wp_part, wp_noPart, intW_int, wp_sl, wp_and, wp_or, wp_not, wp_chain, strW_str, wp_s1, wp_s0, twoW_two, wp_par, wp_parMV, wp_parVM, wp_parMM, wp_rng1, owp_rng, wp_zip, owp_zipL, owp_zipT, wp_enum2, owp_enum2, wp_mkO, lW_l, kW_k, oneW_one, lstW_lst, wp_app, wp_ext, wp_dput, wp_opR, wp_opL, wp_CBO, objW_obj, wp_prop, wp_meth, bobjW_obj, wp_new, dW_d, wp_varP, wp_pureR, wp_pairs0, wp_pairs, wp_disp, owp_lenL, wp_popAt, wp_C, wp_var, wp_op, wp_un, wp_test, wp_if, wp_notT, wp_andT, wp_orT, wp_nil, wp_cons, wp_CB, wp_tup, wp_lst, wp_seq, wp_ret, wp_sNil, wp_set, wp_sIf, wp_potC, wp_potSetC, potsW_0, potsW_1, potsW_2, setW_0, setW_2, isPW_p, blW_bl, owp_some, varW_d, varW_l, varW_k, initP, initS, S.put, owp_cmp, owp_add, owp_sub, owp_mul, owp_fdiv, owp_mod, owp_pow, owp_int, owp_intB, owp_tup, owp_lst, List.length_cons, List.length_nil, List.map_cons, List.map_nil, List.cons_append, List.nil_append, List.append_nil, List.getElem?_cons_zero, List.getElem?_cons_succ, List.set_cons_zero, List.set_cons_succ, List.replicate_succ, List.replicate_zero, Nat.reduceAdd, Nat.reduceSub, Rv.wp_ok, Rp.wp_ok, wp_yes, wp_dNew, wp_ifT, wp_pop, wp_self, wp_sSelf, pobjW_obj, wp_rdU, rdW_rd, pkW_rd, wp_peek, wp_peekT, wp_rdPut, wp_methP, tlW_tup, wp_star, wp_setIx, wp_lenX, llW_l, llW_d, wp_atL, owp_bTup, owp_bCons, owp_bNil, owp_bName, owp_eqII, owp_neII, owp_eqSS, owp_neSS, owp_eqNS, owp_isN, owp_notN, owp_ixL0, owp_ixL1, owp_ixL2, owp_ixL3, owp_ixT0, owp_ixT1, owp_iterL, owp_iterT, owp_seqL, owp_addL, owp_addT, owp_addS, owp_lenT, owp_tupleL, owp_tupleT, owp_din, owp_dnotin, owp_isi, owp_neg, owp_keys, owp_values, owp_items, owp_lenK, owp_tupK, LVd_l, LVd_k, S.wipe, S.back, wipeE, restE, Bool.not_true, Bool.not_false, true_implies, false_implies, reduceCtorEq, true_and, and_true, Nat.reduceLeDiff, lore_units, lore_first, lore_rows, strOk_lit, owp_keyS, and_self, beq_iff_eq, beq_eq_false_iff_ne, decide_eq_true_eq, decide_eq_false_iff_not])
theorem first_wp (ok : LoreOk u how ns sh rs) (hQ : Q (.bl true) (rdI (.tup [.int u, .str how]) ns sh rs 1)) : (m_Reading_reads_first (.rd (.tup [.int u, .str how]) [] [] [] []) [.str (firstS ns)]).wp Q := by
  unfold m_Reading_reads_first g_Reading_reads_first
  refine defP_of rfl ?_
  obtain ⟨w1, w2, w3, w4, w5, w6⟩ := lit_ok
  have t := ok.t
  try walk_at "z0"
  unfold firstS
  rw [split_words (by simp) (fun w hw => by
    simp only [List.mem_cons, List.not_mem_nil, or_false] at hw
    rcases hw with rfl | rfl
    · exact w6
    · exact ok.nmW (by omega)) (by simp)]
  try walk_at "z0"
  rw [(pool_word (t.mem (i := 0) (by omega))).2]
  try walk_at "z0"
  have e1 : putKs [] (.inr (nm ns 0)) = keysI ns 1 := rfl
  have e2 : ∀ d : D, putVs [] [] (.inr (nm ns 0)) d = [d] := fun _ => rfl
  rw [e1, e2]
  try simp only [beq_self_eq_true, Bool.not_true, Bool.not_false, reduceCtorEq, false_implies, true_and, and_true, true_implies, ite_true, ite_false, rdW_rd, Option.isSome_some, Option.isSome_none, isPW_p]
  rw [e1, e2]
  have d0 := (shapes_dep sh t.hsh).1
  have e3 : rdI (.tup [.int u, .str how]) ns sh rs 1 = .rd (.tup [.int u, .str how]) (keysI ns 1) [.tup [.non, .non, .non]] (keysI ns 1) [.int 0] := by
    unfold rdI valsI
    simp [valI, d0]
  rw [e3] at hQ
  have e5 : (keysI ns 1).length = 1 := by simp [keysI]
  rw [e5]
  simp [hQ]
theorem part_wp (ok : LoreOk u how ns sh rs) (hi : i < sh.length) (hQ : Q (.bl true) (rdI (.tup [.int u, .str how]) ns sh rs (i + 2))) : (m_Reading_reads_part (rdI (.tup [.int u, .str how]) ns sh rs (i + 1)) [.str (lineS ns sh rs i)]).wp Q := by
  unfold m_Reading_reads_part g_Reading_reads_part
  refine defP_of rfl ?_
  have t := ok.t
  have hu := t.up_le hi
  have l9 := (shapes_len sh t.hsh).2
  have dp := (shapes_dep sh t.hsh).2 i hi
  have n1 := (ok.nmW (i := i + 1) (by omega)).ok
  have n2 := (ok.nmW (i := up sh i) (by omega)).ok
  unfold rdI
  try walk_at "z0"
  unfold lineS
  rw [split_words (by simp [wordsI]) (ok.wordsOk hi) wordsI_len]
  unfold wordsI
  rw [List.map_append]
  try walk_at "z0"
  refine ⟨fun h => absurd h (by omega), fun _ => ?_⟩
  try simp only [beq_self_eq_true, Bool.not_true, Bool.not_false, reduceCtorEq, false_implies, true_and, and_true, true_implies, ite_true, ite_false, rdW_rd, Option.isSome_some, Option.isSome_none, isPW_p]
  rw [(pool_word (t.mem (i := i + 1) (by omega))).2]
  try walk_at "z0"
  simp only [fld_rows, fld_depths]
  try walk_at "z0"
  have f1 : ∀ f : Nat → D, findL (.inr (nm ns (i + 1))) (keysI ns (i + 1)) ((List.range (i + 1)).map f) = none := fun f => by
    rw [find_range t (by omega) (by omega), if_neg (by omega)]
  have f2 : ∀ f : Nat → D, findL (.inr (nm ns (up sh i))) (keysI ns (i + 1)) ((List.range (i + 1)).map f) = some (f (up sh i)) := fun f => by
    rw [find_range t (by omega) (by omega), if_pos (by omega)]
  simp only [nmD, owp_din, owp_dnotin, owp_dget, valsI, f1, f2]
  try walk_at "z0"
  try simp only [beq_self_eq_true, Bool.not_true, Bool.not_false, reduceCtorEq, false_implies, true_and, and_true, true_implies, ite_true, ite_false, rdW_rd, Option.isSome_some, Option.isSome_none, isPW_p]
  rw [show ((4 : Int) - 1) = 3 from rfl]
  try walk_at "z0"
  simp only [plainE, owp_dnotin, f2]
  try walk_at "z0"
  try simp only [beq_self_eq_true, Bool.not_true, Bool.not_false, reduceCtorEq, false_implies, true_and, and_true, true_implies, ite_true, ite_false, rdW_rd, Option.isSome_some, Option.isSome_none, isPW_p]
  rw [owp_sl4, shares_eq (ok.r1 i) (ok.r2 i) ok.u1]
  try walk_at "z0"
  simp only [plainE, fld_depths, owp_dget, f2, isN_tup]
  try walk_at "z0"
  try simp only [beq_self_eq_true, Bool.not_true, Bool.not_false, reduceCtorEq, false_implies, true_and, and_true, true_implies, ite_true, ite_false, rdW_rd, Option.isSome_some, Option.isSome_none, isPW_p]
  have kl : ∀ m, (keysI ns m).length = m := fun m => by simp [keysI]
  rw [put_keys t (m := i + 1) (by omega), put_vals t (f := valI ns sh rs) (m := i + 1) (d := .tup [.str (nm ns (up sh i)), (rs i).1, (rs i).2]) (by omega) rfl, put_vals t (f := fun i => D.int (dep sh i : Nat)) (m := i + 1) (d := .int ((dep sh (up sh i) : Nat) + 1)) (by omega) (by simp [dp.1]), kl, kl]
  refine ⟨rfl, fun h => absurd h (by omega), fun _ => ⟨rfl, fun h => absurd h (by omega), fun _ => ⟨by omega, ⟨by omega, by omega⟩, ?_⟩⟩⟩
  refine ⟨⟨rfl, rfl⟩, ?_⟩
  have lo := lowest_eq (u := .tup [.int u, .str how]) (rs := rs) t (m := i + 1) (by omega) (ks2 := keysI ns (i + 1 + 1)) (vs2 := (List.range (i + 1 + 1)).map fun i => D.int (dep sh i : Nat))
  show (m_Reading_lowest [rdObj (.tup [.int u, .str how]) (keysI ns (i + 1 + 1)) (valsI ns sh rs (i + 1 + 1)) (keysI ns (i + 1 + 1)) ((List.range (i + 1 + 1)).map fun i => D.int (dep sh i : Nat))]).wp _
  rw [lo]
  have ll := shapes_low sh t.hsh (i + 1 + 1) (by omega)
  try walk_at "z0"
  rw [List.length_map, decide_eq_true (by omega)]
  exact ⟨rfl, hQ⟩
theorem enum_get {ds : List D} {lo k : Nat} {d : D} (h : (enumD lo ds)[k]? = some d) : ∃ x, ds[k]? = some x ∧ d = pairD (.int ((lo + k : Nat) : Int)) x := by
  induction ds generalizing lo k with
  | nil => simp [enumD] at h
  | cons y ys ih =>
    cases k with
    | zero =>
      simp [enumD] at h
      exact ⟨y, rfl, by simp [← h]⟩
    | succ k =>
      simp [enumD] at h
      obtain ⟨x, h1, h2⟩ := ih h
      refine ⟨x, by simpa using h1, ?_⟩
      rw [h2]
      congr 3
      omega
theorem enum_len {ds : List D} {lo : Nat} : (enumD lo ds).length = ds.length := by
  induction ds generalizing lo with
  | nil => rfl
  | cons y ys ih => simp [enumD, ih]
def readD (u : D) (ns : List Str) (sh : List Nat) (rs : Nat → D × D) : D := rdObj u (keysI ns (sh.length + 1)) (valsI ns sh rs (sh.length + 1)) (keysI ns (sh.length + 1)) ((List.range (sh.length + 1)).map fun i => .int (dep sh i : Nat))
theorem read_eq (ok : LoreOk u how ns sh rs) : m_Reading___init__ [.lst ((linesS u how ns sh rs).map D.str)] = .ok (readD (.tup [.int u, .str how]) ns sh rs) := by
  apply Rv.of_wp
  unfold m_Reading___init__
  refine defN_of rfl ?_
  unfold h_Reading___init__ initN linesS
  have t := ok.t
  have l9 := (shapes_len sh t.hsh)
  try walk_at "z0"
  rw [units_in_eq ok]
  try walk_at "z0"
  refine ⟨_, _, rfl, rfl, ?_⟩
  unfold g_Reading___init__
  try walk_at "z0"
  simp only [isN_tup]
  try walk_at "z0"
  rw [owp_slL1]
  try walk_at "z0"
  refine forL_inv (fun k s => ∃ (a b : Option D), s = ⟨[some .p, some (.d (.lst (.str (headS u how) :: .str (firstS ns) :: ((List.range sh.length).map (lineS ns sh rs)).map D.str))), a.map .d, b.map .d], rdI (.tup [.int u, .str how]) ns sh rs k⟩) ⟨none, none, rfl⟩ ?_ ?_
  · rintro k d s hd ⟨a, b, rfl⟩
    obtain ⟨x, hx, rfl⟩ := enum_get hd
    unfold pairD
    cases k with
    | zero =>
      simp at hx
      subst hx
      try walk_at "z0"
      refine ⟨fun _ => ?_, fun h => absurd rfl h⟩
      refine first_wp ok ?_
      refine ⟨fun h => (nomatch h), fun _ => ⟨some _, some _, rfl⟩⟩
    | succ k =>
      rw [List.getElem?_cons_succ, List.map_map] at hx
      obtain ⟨hk, rfl⟩ := range_get hx
      try walk_at "z0"
      refine ⟨fun h => absurd h (by omega), fun _ => ?_⟩
      refine part_wp ok hk ?_
      refine ⟨fun h => (nomatch h), fun _ => ⟨some _, some _, rfl⟩⟩
  · rintro s ⟨a, b, rfl⟩
    rw [enum_len, List.length_cons, List.length_map, List.length_map, List.length_range]
    have kl : (keysI ns (sh.length + 1)).length = sh.length + 1 := by simp [keysI]
    refine ⟨?_, ?_⟩
    · cases a <;> cases b <;> rfl
    · rw [fld_rows, owp_lenK, kl]
      refine ⟨rfl, ?_⟩
      rw [owp_cmp, blW_bl]
      refine ⟨fun h => absurd (of_decide_eq_true h) (by omega), fun _ => rfl⟩
end

end Ak
namespace Ak
open PySem PySem.Spec PyProof.Rows L2
/-! ### a page -/
def bel (sh : List Nat) (p : Nat) : Nat → Bool
  | 0 => false
  | j + 1 => up sh j == p
def bnI (sh : List Nat) (p : Nat) : List Nat := (List.range (sh.length + 1)).filter (bel sh p)
def ebS (sh : List Nat) (x : List Nat × List Nat) : List Nat × List Nat := match x.2.getLast? with
  | none => x
  | some n => (if (bnI sh n).isEmpty then x.1 ++ [n] else x.1, x.2.dropLast ++ bnI sh n)
def ebI (sh : List Nat) (p : Nat) : Nat → List Nat × List Nat
  | 0 => ([], [p])
  | k + 1 => ebS sh (ebI sh p k)
theorem shapes_eb : ∀ sh ∈ shapes, ∀ p < sh.length + 1, (ebI sh p 10).2 = [] ∧ (∀ e ∈ endsI sh, decide (e ∈ (ebI sh p 10).1) = decide (e ∈ endsOfI sh p)) := by decide +kernel
theorem shapes_eb2 : ∀ sh ∈ shapes, ∀ p < sh.length + 1, ∀ k < 11, (∀ j ∈ (ebI sh p k).1, j < sh.length + 1) ∧ (∀ j ∈ (ebI sh p k).2, j < sh.length + 1) ∧ (ebI sh p k).1.length ≤ 20 ∧ (ebI sh p k).2.length ≤ 20 := by decide +kernel
section
variable {u : Int} {how : Str} {ns : List Str} {sh : List Nat} {rs : Nat → D × D} {i m p : Nat} {Q : D → Bw → Prop}
theorem eb_stop {k : Nat} (h : (ebI sh p k).2 = []) : ∀ n, ebI sh p (k + n) = ebI sh p k
  | 0 => rfl
  | n + 1 => by
    show ebS sh (ebI sh p (k + n)) = _
    rw [eb_stop h n]
    unfold ebS
    rw [h]
    rfl
theorem bnI_lt {j : Nat} (h : j ∈ bnI sh p) : j < sh.length + 1 := List.mem_range.mp (List.mem_filter.mp h).1
theorem bnI_len : (bnI sh p).length ≤ sh.length + 1 := by
  have := List.length_filter_le (bel sh p) (List.range (sh.length + 1))
  simpa [bnI] using this
theorem Tr.ok (t : Tr ns sh) {i : Nat} (hi : i < sh.length + 1) : PyData.strOk (nm ns i) = true := (pool_word (t.mem hi)).1.ok
theorem Tr.flats (t : Tr ns sh) {js : List Nat} (hj : ∀ j ∈ js, j < sh.length + 1) : ∀ d ∈ js.map (nmD ns), flatOk d = true := by
  intro d hd
  obtain ⟨j, h1, rfl⟩ := List.mem_map.mp hd
  exact t.ok (hj j h1)
theorem items_eq {f : Nat → D} : zipD ((keysI ns m).map kD) ((List.range m).map f) = (List.range m).map fun j => pairD (nmD ns j) (f j) := by
  unfold keysI
  rw [List.map_map]
  exact zip_map
/-- the names right beneath one -/
theorem bn_comp {s : S} {L : List D → S → Prop} {fa : S → Rs D} {ft : S → Rs Bool} {b : D → S → Option S} {vs : List Nat}
    (step : ∀ j < sh.length + 1, owp (b (pairD (nmD ns j) (valI ns sh rs j)) (s.wipe vs)) fun s1 => (ft s1).wp fun c s2 => c = bel sh p j ∧ (c = true → (fa s2).wp fun y s3 => y = nmD ns j ∧ s3.back s vs = s) ∧ (c = false → s2.back s vs = s)) (fin : L ((bnI sh p).map (nmD ns)) s) : (compL b ft fa vs ((List.range (sh.length + 1)).map fun j => pairD (nmD ns j) (valI ns sh rs j)) s).wp L :=
  comp_idx (bel sh p) (nmD ns) (fun j hj => step j (List.mem_range.mp hj)) fin
theorem bel_eq (t : Tr ns sh) (hp : p < sh.length + 1) {j : Nat} (hj : j < sh.length + 1) {Q : D → Prop} : (owp (match valI ns sh rs j with | .tup xs => xs[0]? | _ => none) fun z => owp (eqD z (nmD ns p)) Q) = Q (.bl (bel sh p j)) := by
  cases j with
  | zero =>
    show owp (eqD .non (.str (nm ns p))) Q = _
    rw [owp_eqNS, t.ok hp]
    simp [bel]
  | succ j =>
    have hu := t.up_le (i := j) (by omega)
    show owp (eqD (.str (nm ns (up sh j))) (.str (nm ns p))) Q = _
    rw [owp_eqSS, t.ok hp, t.ok (by omega)]
    have e : (nm ns (up sh j) == nm ns p) = bel sh p (j + 1) := by
      unfold bel
      rw [Bool.eq_iff_iff]
      simp [t.inj (i := up sh j) (j := p) (by omega) hp]
    rw [e]
    simp
theorem val_tup {j : Nat} : ∃ xs, valI ns sh rs j = .tup xs := by
  cases j with
  | zero => exact ⟨_, rfl⟩
  | succ j => exact ⟨_, rfl⟩
local macro_rules | `(tactic| walk_at "z0") => `(tactic| simp only [wp_cal, wp_calP, calPW_p, wp_frz, wp_mkL, wp_mk, wp_drop, wp_asg, wp_iter, wp_for, wp_comp, wp_part, wp_noPart, intW_int, wp_sl, wp_and, wp_or, wp_not, wp_chain, strW_str, wp_s1, wp_s0, twoW_two, wp_par, wp_parMV, wp_parVM, wp_parMM, wp_rng1, owp_rng, wp_zip, owp_zipL, owp_zipT, wp_enum2, owp_enum2, wp_mkO, lW_l, kW_k, oneW_one, lstW_lst, wp_app, wp_ext, wp_dput, wp_opR, wp_opL, wp_CBO, objW_obj, wp_prop, wp_meth, bobjW_obj, wp_new, dW_d, wp_varP, wp_pureR, wp_pairs0, wp_pairs, wp_disp, owp_lenL, wp_popAt, wp_C, wp_var, wp_op, wp_un, wp_test, wp_if, wp_notT, wp_andT, wp_orT, wp_nil, wp_cons, wp_CB, wp_tup, wp_lst, wp_seq, wp_ret, wp_sNil, wp_set, wp_sIf, wp_potC, wp_potSetC, potsW_0, potsW_1, potsW_2, setW_0, setW_2, isPW_p, blW_bl, owp_some, varW_d, varW_l, varW_k, initP, initS, S.put, owp_cmp, owp_add, owp_sub, owp_mul, owp_fdiv, owp_mod, owp_pow, owp_int, owp_intB, owp_tup, owp_lst, List.length_cons, List.length_nil, List.map_cons, List.map_nil, List.cons_append, List.nil_append, List.append_nil, List.getElem?_cons_zero, List.getElem?_cons_succ, List.set_cons_zero, List.set_cons_succ, List.replicate_succ, List.replicate_zero, Nat.reduceAdd, Nat.reduceSub, Rv.wp_ok, Rp.wp_ok, wp_yes, wp_dNew, wp_ifT, wp_pop, wp_self, wp_sSelf, pobjW_obj, wp_rdU, rdW_rd, pkW_rd, wp_peek, wp_peekT, wp_rdPut, wp_methP, tlW_tup, wp_star, wp_setIx, wp_lenX, llW_l, llW_d, wp_atL, owp_bTup, owp_bCons, owp_bNil, owp_bName, owp_eqII, owp_neII, owp_eqSS, owp_neSS, owp_eqNS, owp_isN, owp_notN, owp_ixL0, owp_ixL1, owp_ixL2, owp_ixL3, owp_ixT0, owp_ixT1, owp_iterL, owp_iterT, owp_seqL, owp_addL, owp_addT, owp_addS, owp_lenT, owp_tupleL, owp_tupleT, owp_din, owp_dnotin, owp_isi, owp_neg, owp_keys, owp_values, owp_items, owp_lenK, owp_tupK, LVd_l, LVd_k, S.wipe, S.back, wipeE, restE, Bool.not_true, Bool.not_false, true_implies, false_implies, reduceCtorEq, true_and, and_true, Nat.reduceLeDiff, lore_units, lore_first, lore_rows, strOk_lit, owp_keyS, and_self, beq_iff_eq, beq_eq_false_iff_ne, decide_eq_true_eq, decide_eq_false_iff_not])
theorem beneath_eq (t : Tr ns sh) (hp : p < sh.length + 1) : m_ends_beneath [.dic (keysI ns (sh.length + 1)) (valsI ns sh rs (sh.length + 1)), nmD ns p] = .ok (.lst ((ebI sh p 10).1.map (nmD ns))) := by
  apply Rv.of_wp
  unfold m_ends_beneath g_ends_beneath
  refine def_of rfl ?_
  have l9 := (shapes_len sh t.hsh).2
  have sb := shapes_eb2 sh t.hsh p hp
  try walk_at "z0"
  refine whileL_inv (fun m s => ∃ (k : Nat) (a b : Option LV), k ≤ 10 ∧ m = 10000 - k ∧ s = ⟨[some (.d (.dic (keysI ns (sh.length + 1)) (valsI ns sh rs (sh.length + 1)))), some (.d (nmD ns p)), some (.l ((ebI sh p k).1.map (nmD ns))), some (.l ((ebI sh p k).2.map (nmD ns))), a, b, none, none], .pot ⟨0, 0, 0⟩⟩) ⟨0, none, none, by decide, rfl, rfl⟩ ?_
  rintro m s ⟨k, a, b, hk, rfl, rfl⟩
  obtain ⟨b1, b2, b3, b4⟩ := sb k (by omega)
  try walk_at "z0"
  rw [flatW_of (ne_nil (t.flats b2)) rfl]
  try walk_at "z0"
  refine ⟨fun h => ?_, fun h => ⟨by omega, ?_⟩⟩
  · have hne : (ebI sh p k).2 ≠ [] := by
      intro e
      rw [e] at h
      cases h
    have hk2 : k < 10 := by
      rcases Nat.lt_or_eq_of_le hk with h2 | h2
      · exact h2
      · subst h2
        exact absurd (shapes_eb sh t.hsh p hp).1 hne
    refine ⟨10000 - (k + 1), by omega, ?_⟩
    obtain ⟨b5, b6, b7, b8⟩ := sb (k + 1) (by omega)
    have es : ebI sh p (k + 1) = ebS sh (ebI sh p k) := rfl
    obtain ⟨ls, n, el⟩ : ∃ ls n, (ebI sh p k).2 = ls ++ [n] := ⟨_, _, (List.dropLast_concat_getLast hne).symm⟩
    have hn : n < sh.length + 1 := b2 n (by rw [el]; simp)
    unfold ebS at es
    rw [el] at es
    simp at es
    rw [el]
    try walk_at "z0"
    simp only [List.map_append, List.map_cons, List.map_nil, List.length_append, List.length_cons, List.length_nil, Nat.zero_add, Nat.add_sub_cancel, List.getElem?_concat_length, List.dropLast_concat]
    try walk_at "z0"
    unfold valsI
    rw [items_eq]
    refine ⟨by simp; omega, ?_⟩
    refine bn_comp (p := n) (fun j hj => ?_) ?_
    · unfold pairD
      obtain ⟨xs, ex⟩ := val_tup (ns := ns) (sh := sh) (rs := rs) (j := j)
      have be := @bel_eq ns sh rs n t hn j hj
      rw [ex] at be ⊢
      try walk_at "z0"
      rw [be]
      try walk_at "z0"
      simp
    · try walk_at "z0"
      have bl := bnI_len (sh := sh) (p := n)
      have ll : ls.length ≤ 20 := by
        rw [el] at b4
        simp at b4
        omega
      refine ⟨by simp; omega, ?_⟩
      rw [eq_nil (t.flats fun j hj => bnI_lt hj)]
      try walk_at "z0"
      have e2 : (ebI sh p (k + 1)).2 = ls ++ bnI sh n := by rw [es]
      refine ⟨fun h => ⟨by simp; omega, k + 1, some (.d (nmD ns n)), some (.d (.lst ((bnI sh n).map (nmD ns)))), by omega, rfl, ?_⟩, fun h => ⟨k + 1, some (.d (nmD ns n)), some (.d (.lst ((bnI sh n).map (nmD ns)))), by omega, rfl, ?_⟩⟩
      · have hb : bnI sh n = [] := by simpa using h
        have e1 : (ebI sh p (k + 1)).1 = (ebI sh p k).1 ++ [n] := by
          rw [es]
          simp [hb]
        rw [e1, e2]
        simp
      · have hb : bnI sh n ≠ [] := by
          intro e
          rw [e] at h
          cases h
        have e1 : (ebI sh p (k + 1)).1 = (ebI sh p k).1 := by
          rw [es]
          simp [hb]
        rw [e1, e2]
        simp
  · have he : (ebI sh p k).2 = [] := by simpa using h
    have e1 := eb_stop he (10 - k)
    rw [show k + (10 - k) = 10 by omega] at e1
    try walk_at "z0"
    rw [e1]
theorem weights_in_eq (t : Tr ns sh) (hp : p < sh.length + 1) : m_weights_in [.dic (keysI ns (sh.length + 1)) (valsI ns sh rs (sh.length + 1)), nmD ns p, .tup ((endsI sh).map (nmD ns))] = .ok (.tup ((endsI sh).map fun e => .int (wt sh p e))) := by
  apply Rv.of_wp
  unfold m_weights_in g_weights_in
  refine def_of rfl ?_
  have l9 := (shapes_len sh t.hsh).2
  have := endsI_len (sh := sh)
  try walk_at "z0"
  rw [beneath_eq t hp]
  try walk_at "z0"
  refine ⟨by simp; omega, comp_all (fun e => .int (wt sh p e)) (fun e he => ?_) ?_⟩
  · try walk_at "z0"
    rw [t.owp_in (endsI_lt he) (shapes_eb2 sh t.hsh p hp 10 (by decide)).1, (shapes_eb sh t.hsh p hp).2 e he]
    try walk_at "z0"
    simp [wt]
  · rfl
theorem merge_keys (t : Tr ns sh) : ∀ (n k : Nat), k + n ≤ sh.length + 1 → mergeKs (keysI ns k) ((List.range' k n).map (kyI ns)) = keysI ns (k + n)
  | 0, k, _ => rfl
  | n + 1, k, h => by
    show mergeKs (putKs (keysI ns k) (.inr (nm ns k))) ((List.range' (k + 1) n).map (kyI ns)) = _
    rw [put_keys t (by omega), merge_keys t n (k + 1) (by omega)]
    congr 1
    omega
theorem merge_vals (t : Tr ns sh) {f : Nat → D} : ∀ (n k : Nat), k + n ≤ sh.length + 1 → mergeVs (keysI ns k) ((List.range k).map f) ((List.range' k n).map (kyI ns)) ((List.range' k n).map f) = (List.range (k + n)).map f
  | 0, k, _ => rfl
  | n + 1, k, h => by
    show mergeVs (putKs (keysI ns k) (.inr (nm ns k))) (putVs (keysI ns k) ((List.range k).map f) (.inr (nm ns k)) (f k)) ((List.range' (k + 1) n).map (kyI ns)) ((List.range' (k + 1) n).map f) = _
    rw [put_keys t (by omega), put_vals t (by omega) rfl, merge_vals t n (k + 1) (by omega)]
    congr 2
    omega
theorem pairs_eq {f : Nat → D} : ∀ {js : List Nat}, pairsK (js.map fun j => .tup [nmD ns j, f j]) = some (js.map (kyI ns), js.map f)
  | [] => rfl
  | j :: js => by
    show (match (nmD ns j).key, pairsK (js.map fun j => .tup [nmD ns j, f j]) with
      | some k, some (ks, vs) => some (k :: ks, f j :: vs)
      | _, _ => none) = _
    rw [pairs_eq]
    rfl
theorem dict_eq (t : Tr ns sh) {f : Nat → D} : dictD [.lst ((List.range (sh.length + 1)).map fun j => .tup [nmD ns j, f j])] = some (.dic (keysI ns (sh.length + 1)) ((List.range (sh.length + 1)).map f)) := by
  show (match pairsK ((List.range (sh.length + 1)).map fun j => .tup [nmD ns j, f j]) with
    | some (ks, vs) => some (D.dic (mergeKs [] ks) (mergeVs [] [] ks vs))
    | none => none) = _
  rw [pairs_eq]
  show some (D.dic (mergeKs [] ((List.range (sh.length + 1)).map (kyI ns))) (mergeVs [] [] ((List.range (sh.length + 1)).map (kyI ns)) ((List.range (sh.length + 1)).map f))) = _
  have h1 := merge_keys t (sh.length + 1) 0 (by omega)
  have h2 := merge_vals t (f := f) (sh.length + 1) 0 (by omega)
  rw [← List.range_eq_range', Nat.zero_add] at h1 h2
  rw [show mergeKs [] ((List.range (sh.length + 1)).map (kyI ns)) = keysI ns (sh.length + 1) from h1]
  rw [show mergeVs [] [] ((List.range (sh.length + 1)).map (kyI ns)) ((List.range (sh.length + 1)).map f) = (List.range (sh.length + 1)).map f from h2]
theorem mem_join {s : Str} {c : Nat} : ∀ {ws : List Str}, c ∉ cl s → (∀ w ∈ ws, c ∉ cl w) → c ∉ cl (Str.join s ws)
  | [], _, _ => by simp [Str.join, Str.empty, cl]
  | [a], _, h => h a (.head _)
  | a :: b :: r, hs, h => by
    rw [join_cons, cl_append, cl_append]
    have := mem_join (ws := b :: r) hs fun w hw => h w (.tail _ hw)
    simp [h a (.head _), hs, this]
theorem LoreOk.lines_nl (ok : LoreOk u how ns sh rs) : ∀ l ∈ linesS u how ns sh rs, 10 ∉ cl l := by
  intro l hl
  have ns : 10 ∉ cl (Str.ofString " ") := by
    rw [lit_sp]
    decide
  obtain ⟨w1, w2, w3, w4, w5, w6⟩ := lit_ok
  unfold linesS at hl
  rcases List.mem_cons.mp hl with rfl | hl
  · refine mem_join ns fun w hw => ?_
    simp only [List.mem_cons, List.not_mem_nil, or_false] at hw
    rcases hw with rfl | rfl | rfl
    · exact w5.nl
    · exact ok.uW.1.nl
    · exact (WOk.of (hows_ok _ ok.hh)).nl
  · rcases List.mem_cons.mp hl with rfl | hl
    · refine mem_join ns fun w hw => ?_
      simp only [List.mem_cons, List.not_mem_nil, or_false] at hw
      rcases hw with rfl | rfl
      · exact w6.nl
      · exact (ok.nmW (by omega)).nl
    · obtain ⟨j, hj, rfl⟩ := List.mem_map.mp hl
      exact mem_join ns fun w hw => (ok.wordsOk (List.mem_range.mp hj) w hw).nl
theorem LoreOk.text_len (ok : LoreOk u how ns sh rs) : (textS u how ns sh rs).length ≤ 979 := by
  have := join_len (s := Str.ofString "\n") (b := 88) ok.lines_len
  have h2 : (linesS u how ns sh rs).length ≤ 11 := by
    have := (shapes_len sh ok.t.hsh).2
    simp [linesS]
    omega
  have h3 : (Str.ofString "\n").length = 1 := by
    rw [lit_nl]
    rfl
  rw [h3] at this
  unfold textS
  omega
theorem split_text (ok : LoreOk u how ns sh rs) {Q : D → Prop} : owp (splitD (textS u how ns sh rs) (.str (Str.ofString "\n"))) Q = Q (.lst ((linesS u how ns sh rs).map D.str)) := by
  have l := ok.text_len
  have h3 : ((Str.ofString "\n").length == 0) = false := by
    rw [lit_nl]
    rfl
  rw [owp_split, h3]
  have e : Txt.split (textS u how ns sh rs) (Str.ofString "\n") = linesS u how ns sh rs := by
    unfold textS
    rw [lit_nl]
    exact split_join (by simp [linesS]) ok.lines_nl
  rw [e]
  have : (textS u how ns sh rs).length ≤ 100000 := by omega
  simp [this]
def pgK : List Str := ["own_text", "own_units", "own_rows", "own_ends", "own_weights"]
def pageD (u : Int) (how : Str) (ns : List Str) (sh : List Nat) (rs : Nat → D × D) : D := .obj "Page" pgK [.str (textS u how ns sh rs), .tup [.int u, .str how], .dic (keysI ns (sh.length + 1)) (valsI ns sh rs (sh.length + 1)), .tup ((endsI sh).map (nmD ns)), .dic (keysI ns (sh.length + 1)) ((List.range (sh.length + 1)).map fun p => .tup ((endsI sh).map fun e => .int (wt sh p e)))]
theorem page_wp (ok : LoreOk u how ns sh rs) (hQ : Q .non (.obj "Page" pgK [.str (textS u how ns sh rs), .tup [.int u, .str how], .dic (keysI ns (sh.length + 1)) (valsI ns sh rs (sh.length + 1)), .tup ((endsI sh).map (nmD ns)), .dic (keysI ns (sh.length + 1)) ((List.range (sh.length + 1)).map fun p => .tup ((endsI sh).map fun e => .int (wt sh p e)))])) : (m_Page___init__ (.obj "Page" [] []) [.str (textS u how ns sh rs)]).wp Q := by
  unfold m_Page___init__ g_Page___init__
  refine defP_of rfl ?_
  have t := ok.t
  have l9 := (shapes_len sh t.hsh).2
  try walk_at "z0"
  simp only [isa_ss]
  try walk_at "z0"
  rw [split_text ok]
  try walk_at "z0"
  rw [read_eq ok]
  try walk_at "z0"
  unfold readD
  simp only [fld_units, fld_rows]
  try walk_at "z0"
  have k1 : fsK (Str.ofString "own_text") [] = [Str.ofString "own_text"] := rfl
  have k2 : fsK (Str.ofString "own_units") [Str.ofString "own_text"] = [Str.ofString "own_text", Str.ofString "own_units"] := rfl
  have k3 : fsK (Str.ofString "own_rows") [Str.ofString "own_text", Str.ofString "own_units"] = [Str.ofString "own_text", Str.ofString "own_units", Str.ofString "own_rows"] := rfl
  have k4 : fsK (Str.ofString "own_ends") [Str.ofString "own_text", Str.ofString "own_units", Str.ofString "own_rows"] = [Str.ofString "own_text", Str.ofString "own_units", Str.ofString "own_rows", Str.ofString "own_ends"] := rfl
  have k5 : fsK (Str.ofString "own_weights") [Str.ofString "own_text", Str.ofString "own_units", Str.ofString "own_rows", Str.ofString "own_ends"] = pgK := rfl
  have v1 : ∀ d : D, fsV (Str.ofString "own_text") d [] [] = [d] := fun _ => rfl
  have v2 : ∀ d a : D, fsV (Str.ofString "own_units") d [Str.ofString "own_text"] [a] = [a, d] := fun _ _ => rfl
  have v3 : ∀ d a b : D, fsV (Str.ofString "own_rows") d [Str.ofString "own_text", Str.ofString "own_units"] [a, b] = [a, b, d] := fun _ _ _ => rfl
  have v4 : ∀ d a b c : D, fsV (Str.ofString "own_ends") d [Str.ofString "own_text", Str.ofString "own_units", Str.ofString "own_rows"] [a, b, c] = [a, b, c, d] := fun _ _ _ _ => rfl
  have v5 : ∀ d a b c e : D, fsV (Str.ofString "own_weights") d [Str.ofString "own_text", Str.ofString "own_units", Str.ofString "own_rows", Str.ofString "own_ends"] [a, b, c, e] = [a, b, c, e, d] := fun _ _ _ _ _ => rfl
  have lk : ∀ a b c d : D, lookD (Str.ofString "own_ends") [Str.ofString "own_text", Str.ofString "own_units", Str.ofString "own_rows", Str.ofString "own_ends"] [a, b, c, d] = some d := fun _ _ _ _ => rfl
  simp only [k1, k2, k3, k4, v1, v2, v3, v4]
  refine ⟨by decide, by decide, by decide, ⟨rfl, rfl⟩, ?_⟩
  have lo := lowest_eq (u := .tup [.int u, .str how]) (rs := rs) t (m := sh.length) (by omega) (ks2 := keysI ns (sh.length + 1)) (vs2 := (List.range (sh.length + 1)).map fun i => D.int (dep sh i : Nat))
  rw [low_all] at lo
  show (m_Reading_lowest [rdObj (.tup [.int u, .str how]) (keysI ns (sh.length + 1)) (valsI ns sh rs (sh.length + 1)) (keysI ns (sh.length + 1)) ((List.range (sh.length + 1)).map fun i => D.int (dep sh i : Nat))]).wp _
  rw [lo]
  try walk_at "z0"
  refine ⟨by decide, by simp [keysI]; omega, ?_⟩
  have e3 : (keysI ns (sh.length + 1)).map kD = (List.range (sh.length + 1)).map (nmD ns) := by
    unfold keysI
    rw [List.map_map]
    rfl
  rw [e3]
  refine comp_all (fun p => .tup [nmD ns p, .tup ((endsI sh).map fun e => .int (wt sh p e))]) (fun p hp => ?_) ?_
  · try walk_at "z0"
    simp only [fld_rows, lk]
    try walk_at "z0"
    rw [weights_in_eq t (List.mem_range.mp hp)]
    try walk_at "z0"
  · rw [dict_eq t]
    try walk_at "z0"
    rw [k5, v5]
    exact ⟨by decide, hQ⟩
end

end Ak
namespace Ak
open PySem PySem.Spec PyProof.Rows L2
/-! ### texts that repr shows -/
theorem strOk_iff {x : Str} : PyData.strOk x = true ↔ ∀ c ∈ cl x, c < 1114112 := by
  unfold PyData.strOk cl
  simp only [Array.all_eq_true_iff_forall_mem, decide_eq_true_eq, Array.mem_toList_iff]
theorem strOk_app {x y : Str} (hx : PyData.strOk x = true) (hy : PyData.strOk y = true) : PyData.strOk (x ++ y) = true := by
  rw [strOk_iff] at hx hy ⊢
  intro c hc
  rw [cl_append] at hc
  rcases List.mem_append.mp hc with h | h
  · exact hx c h
  · exact hy c h
theorem strOk_join {s : Str} (hs : PyData.strOk s = true) : ∀ {ws : List Str}, (∀ w ∈ ws, PyData.strOk w = true) → PyData.strOk (Str.join s ws) = true
  | [], _ => by
    rw [strOk_iff]
    simp [Str.join, Str.empty, cl]
  | [a], h => h a (.head _)
  | a :: b :: r, h => by
    rw [join_cons]
    exact strOk_app (strOk_app (h a (.head _)) hs) (strOk_join hs fun w hw => h w (.tail _ hw))
theorem reprChar_lt {q c x : Nat} (hc : c < 1114112) (hx : x ∈ Builtin.Str.reprChar q c) : x < 1114112 := by
  have hd : ∀ n, x ∈ List.replicate (n - ((Nat.toDigits 16 c).map Char.toNat).length) 48 ++ (Nat.toDigits 16 c).map Char.toNat → x < 1114112 := by
    intro n h
    rcases List.mem_append.mp h with h | h
    · rw [(List.mem_replicate.mp h).2]
      decide
    · obtain ⟨d, _, rfl⟩ := List.mem_map.mp h
      exact char_lt d
  unfold Builtin.Str.reprChar at hx
  dsimp only at hx
  repeat' split at hx
  all_goals first
    | (simp at hx; omega)
    | (rcases List.mem_append.mp hx with h | h
       · simp at h
         omega
       · exact hd _ h)
theorem reprFold_lt {q : Nat} : ∀ (l : List Nat) (acc : Array Nat), (∀ c ∈ l, c < 1114112) → (∀ c ∈ acc, c < 1114112) → ∀ c ∈ l.foldl (fun out c => out ++ (Builtin.Str.reprChar q c).toArray) acc, c < 1114112
  | [], _, _, h => h
  | d :: l, acc, hl, h => by
    refine reprFold_lt l _ (fun c hc => hl c (.tail _ hc)) fun c hc => ?_
    rcases Array.mem_append.mp hc with h1 | h1
    · exact h c h1
    · exact reprChar_lt (hl d (.head _)) (by simpa using h1)
theorem strOk_repr {x : Str} (h : PyData.strOk x = true) : PyData.strOk (reprText x) = true := by
  rw [strOk_iff] at h
  have hq : reprQuote x < 1114112 := by
    unfold reprQuote
    split <;> decide
  have := reprFold_lt (q := reprQuote x) x.cps.toList #[reprQuote x] h (fun c hc => by
    simp at hc
    omega)
  unfold PyData.strOk reprText
  simp only [Array.all_eq_true_iff_forall_mem, decide_eq_true_eq]
  intro c hc
  rcases Array.mem_push.mp hc with h1 | h1
  · exact this c (by rw [Array.foldl_toList]; exact h1)
  · omega
def RepOk (n k : Nat) (d : D) : Prop := ∃ x, d.data = some x ∧ x.showable = true ∧ x.leavesShort 13 = true ∧ x.bulk ≤ n ∧ x.depth ≤ k ∧ PyData.strOk x.shown = true
theorem RepOk.repr {n k : Nat} {d : D} (h : RepOk n k d) (hn : n ≤ 100000) (hk : k ≤ 40) : ∃ x, reprD [d] = some (.str x) ∧ PyData.strOk x = true := by
  obtain ⟨x, h1, h2, h3, h4, h5, h6⟩ := h
  refine ⟨x.shown, ?_, h6⟩
  have l := PyData.shown_le_bulk 13 (by decide) x h3
  have : x.shown.length ≤ sizeLine := by
    unfold sizeLine
    omega
  have e : reprB x = true := by
    unfold reprB
    simp [h2, this, Nat.le_trans h5 hk]
  show (match d.data with
    | some x => if reprB x then some (D.str x.shown) else none
    | none => none) = _
  rw [h1]
  show (if reprB x then some (D.str x.shown) else none) = _
  rw [if_pos e]
theorem RepOk.non {n k : Nat} : RepOk n k .non := ⟨.none, rfl, rfl, rfl, by simp [PyData.bulk], by simp [PyData.depth], by
  show PyData.strOk (PyData.shown .none) = true
  exact strOk_lit⟩
theorem RepOk.bl {n k : Nat} {b : Bool} : RepOk n k (.bl b) := ⟨.bool b, rfl, rfl, rfl, by simp [PyData.bulk], by simp [PyData.depth], by
  cases b <;> exact strOk_lit⟩
theorem RepOk.str {n k : Nat} {x : Str} (h : PyData.strOk x = true) (hl : x.length ≤ n) : RepOk n k (.str x) := ⟨.str x, rfl, rfl, by
  rw [strOk_iff] at h
  simp only [PyData.leavesShort, List.all_eq_true, decide_eq_true_eq]
  intro c hc
  have := h c hc
  omega, by simp only [PyData.bulk]; exact hl, by simp [PyData.depth], strOk_repr h⟩
theorem RepOk.int {n k : Nat} {i : Int} (h0 : 0 ≤ i) (h1 : i ≤ 100000) : RepOk n k (.int i) := ⟨.int i, rfl, by
  simp only [PyData.showable, decide_eq_true_eq]
  rcases Int.lt_or_eq_of_le h0 with h | h
  · exact Nat.lt_of_lt_of_le (by
      rw [Nat.log2_lt (by omega)]
      show i.natAbs < 2 ^ 20
      omega) (by decide : 20 ≤ 1920)
  · rw [← h]
    decide, by
  simp only [PyData.leavesShort, decide_eq_true_eq]
  exact PyData.shown_int_le2 (by omega) (by omega), by simp [PyData.bulk], by simp [PyData.depth], by
  show PyData.strOk (Str.ofString (toString i)) = true
  exact strOk_lit⟩
theorem RepOk.all {n k : Nat} : ∀ {ds : List D}, (∀ d ∈ ds, RepOk n k d) → ∃ xs, D.dataAll ds = some xs ∧ PyData.showableAll xs = true ∧ PyData.leavesShortAll 13 xs = true ∧ PyData.bulkAll xs ≤ (n + 1) * ds.length ∧ PyData.depthAll xs ≤ k ∧ (∀ w ∈ PyData.shownAll xs, PyData.strOk w = true)
  | [], _ => ⟨[], rfl, rfl, rfl, by simp [PyData.bulkAll], by simp [PyData.depthAll], by simp [PyData.shownAll]⟩
  | d :: ds, h => by
    obtain ⟨xs, h1, h2, h3, h4, h5, h6⟩ := RepOk.all (ds := ds) fun x hx => h x (.tail _ hx)
    obtain ⟨y, k1, k2, k3, k4, k5, k6⟩ := h d (.head _)
    refine ⟨y :: xs, by simp [D.dataAll, k1, h1], by simp [PyData.showableAll, k2, h2], by simp [PyData.leavesShortAll, k3, h3], ?_, ?_, ?_⟩
    · simp only [PyData.bulkAll, List.length_cons, Nat.mul_succ]
      omega
    · simp only [PyData.depthAll]
      omega
    · intro w hw
      simp only [PyData.shownAll, List.mem_cons] at hw
      rcases hw with rfl | hw
      · exact k6
      · exact h6 w hw
theorem RepOk.tup {n k m : Nat} {ds : List D} (h : ∀ d ∈ ds, RepOk n k d) (hm : ds.length ≤ m) : RepOk ((n + 1) * m) (k + 1) (.tup ds) := by
  obtain ⟨xs, h1, h2, h3, h4, h5, h6⟩ := RepOk.all h
  refine ⟨.tuple xs, by simp [D.data, h1], by simpa [PyData.showable] using h2, by simpa [PyData.leavesShort] using h3, ?_, by simp only [PyData.depth]; omega, ?_⟩
  · simp only [PyData.bulk]
    exact Nat.le_trans h4 (Nat.mul_le_mul_left _ hm)
  · show PyData.strOk (tupleText (PyData.shownAll xs)) = true
    unfold tupleText
    exact strOk_app (strOk_app strOk_lit (strOk_join strOk_lit h6)) strOk_lit
theorem RepOk.mono {n k n' k' : Nat} {d : D} (h : RepOk n k d) (hn : n ≤ n') (hk : k ≤ k') : RepOk n' k' d := by
  obtain ⟨x, h1, h2, h3, h4, h5, h6⟩ := h
  exact ⟨x, h1, h2, h3, Nat.le_trans h4 hn, Nat.le_trans h5 hk, h6⟩
/-- the same thing shown twice -/
theorem repr_same {d : D} {n k : Nat} {Q : D → Prop} (h : RepOk n k d) (hn : n ≤ 100000) (hk : k ≤ 40) (hQ : Q (.bl false)) : owp (reprD [d]) fun x => owp (reprD [d]) fun y => owp (neD x y) Q := by
  obtain ⟨x, e, ok⟩ := h.repr hn hk
  rw [e, owp_some, owp_some, owp_neSS]
  simp [ok, hQ]
theorem wp_noEx {g : S → Ro} {s : S} {N : S → Prop} {R : D → S → Prop} : (noEx g s).wp N R = (g s).wp N R := by
  unfold noEx
  cases g s <;> rfl
theorem isa_it {l : List D} : D.isa (.tup l) "tuple" = true := rfl
theorem isN_nm {ns : List Str} {j : Nat} : (nmD ns j).isN = false := rfl
theorem isN_int {k : Int} : D.isN (.int k) = false := rfl
theorem repr_sameE {d : D} {n k : Nat} {Q : D → Prop} (h : RepOk n k d) (hn : n ≤ 100000) (hk : k ≤ 40) (hQ : Q (.bl true)) : owp (reprD [d]) fun x => owp (reprD [d]) fun y => owp (eqD x y) Q := by
  obtain ⟨x, e, ok⟩ := h.repr hn hk
  rw [e, owp_some, owp_some, owp_eqSS]
  simp [ok, hQ]
theorem sum_cD {sh : List Nat} {c : Nat → Int} {Q : D → Prop} : owp (sumD [cD sh c]) Q = Q (.int (totI sh c)) := owp_sumT
theorem number_eqC {u : D} {ns : List Str} {sh : List Nat} {rs : Nat → D × D} {p : Nat} (t : Tr ns sh) (hp : p < sh.length + 1) {c : Nat → Int} (h0 : ∀ k, 0 ≤ c k) (h1 : ∀ k, c k ≤ 1000000000) : m_l_number [loreD u ns sh rs, cD sh c, nmD ns p] = .ok (.int (numI sh c p)) := number_eq t hp h0 h1
theorem wp_rng2 {s : S} {L : List D → S → Prop} {fr : S → Rs (List D)} : (mRng2 fr s).wp L = (fr s).wp fun xs s1 => twoW xs fun x y => intW x fun m => intW y fun n => (-1000000 ≤ n ∧ n ≤ 1000000 ∧ -1000000 ≤ m ∧ m ≤ 1000000) ∧ L (rangeD m (n - m).toNat) s1 := by
  unfold mRng2
  rw [wp_bind]
  congr 1
  funext xs s1
  match xs with
  | [] => rfl
  | [x] => cases x <;> rfl
  | [x, y] =>
    cases x with
    | int m =>
      cases y with
      | int n =>
        show Rs.wp (if -1000000 ≤ n ∧ n ≤ 1000000 ∧ -1000000 ≤ m ∧ m ≤ 1000000 then Rs.ok (rangeD m (n - m).toNat) s1 else .no) L = ((-1000000 ≤ n ∧ n ≤ 1000000 ∧ -1000000 ≤ m ∧ m ≤ 1000000) ∧ L (rangeD m (n - m).toNat) s1)
        by_cases h : -1000000 ≤ n ∧ n ≤ 1000000 ∧ -1000000 ≤ m ∧ m ≤ 1000000
        · rw [if_pos h]
          simp [Rs.wp, h]
        · rw [if_neg h]
          simp only [Rs.wp, h, false_and]
      | _ => rfl
    | _ => cases y <;> rfl
  | x :: y :: z :: r => cases x <;> cases y <;> rfl

end Ak
namespace Ak
open PySem PySem.Spec PyProof.Rows L2
/-! ### what a page tells -/
section
variable {u : Int} {how : Str} {ns : List Str} {sh : List Nat} {rs : Nat → D × D} {i m p : Nat} {Q : D → Prop}
theorem pg_text : owp (fldC ["Page"] "own_text" (pageD u how ns sh rs)) Q = Q (.str (textS u how ns sh rs)) := rfl
theorem pg_units : owp (fldC ["Page"] "own_units" (pageD u how ns sh rs)) Q = Q (.tup [.int u, .str how]) := rfl
theorem pg_rows : owp (fldC ["Page"] "own_rows" (pageD u how ns sh rs)) Q = Q (.dic (keysI ns (sh.length + 1)) (valsI ns sh rs (sh.length + 1))) := rfl
theorem pg_ends : owp (fldC ["Page"] "own_ends" (pageD u how ns sh rs)) Q = Q (.tup ((endsI sh).map (nmD ns))) := rfl
theorem pg_weights : owp (fldC ["Page"] "own_weights" (pageD u how ns sh rs)) Q = Q (.dic (keysI ns (sh.length + 1)) ((List.range (sh.length + 1)).map fun p => .tup ((endsI sh).map fun e => .int (wt sh p e)))) := rfl
theorem objW_pg {Q : Str → List Str → List D → Prop} : objW (pageD u how ns sh rs) Q = Q "Page" pgK [.str (textS u how ns sh rs), .tup [.int u, .str how], .dic (keysI ns (sh.length + 1)) (valsI ns sh rs (sh.length + 1)), .tup ((endsI sh).map (nmD ns)), .dic (keysI ns (sh.length + 1)) ((List.range (sh.length + 1)).map fun p => .tup ((endsI sh).map fun e => .int (wt sh p e)))] := rfl
theorem pg_fold : D.obj "Page" pgK [.str (textS u how ns sh rs), .tup [.int u, .str how], .dic (keysI ns (sh.length + 1)) (valsI ns sh rs (sh.length + 1)), .tup ((endsI sh).map (nmD ns)), .dic (keysI ns (sh.length + 1)) ((List.range (sh.length + 1)).map fun p => .tup ((endsI sh).map fun e => .int (wt sh p e)))] = pageD u how ns sh rs := rfl
theorem prop_pg {s : S} {QS : D → S → Prop} {m : List D → Rv} {d : D} (h : m [pageD u how ns sh rs] = .ok d) (hq : QS d s) : objW (pageD u how ns sh rs) fun c ks vs => c = "Page" ∧ (m [.obj c ks vs]).wp fun d => QS d s := by
  refine ⟨rfl, ?_⟩
  show (m [pageD u how ns sh rs]).wp _
  rw [h]
  exact hq
theorem meth_pg {mn : Str} {m : List D → Rv} {a d : D} (hm : pgK.contains mn = false) (h : m [pageD u how ns sh rs, a] = .ok d) (hq : Q d) : objW (pageD u how ns sh rs) fun c ks vs => (c = "Page" ∧ ks.contains mn = false) ∧ (m [.obj c ks vs, a]).wp Q := by
  refine ⟨⟨rfl, hm⟩, ?_⟩
  show (m [pageD u how ns sh rs, a]).wp _
  rw [h]
  exact hq
theorem keys_kD : (keysI ns m).map kD = (List.range m).map (nmD ns) := by
  unfold keysI
  rw [List.map_map]
  rfl
local macro_rules | `(tactic| walk_at "z0") => `(tactic| simp only [wp_cal, wp_calP, calPW_p, wp_frz, wp_mkL, wp_mk, wp_drop, wp_asg, wp_iter, wp_for, wp_comp, wp_part, wp_noPart, intW_int, wp_sl, wp_and, wp_or, wp_not, wp_chain, strW_str, wp_s1, wp_s0, twoW_two, wp_par, wp_parMV, wp_parVM, wp_parMM, wp_rng1, owp_rng, wp_zip, owp_zipL, owp_zipT, wp_enum2, owp_enum2, wp_mkO, lW_l, kW_k, oneW_one, lstW_lst, wp_app, wp_ext, wp_dput, wp_opR, wp_opL, wp_CBO, objW_obj, wp_prop, wp_meth, bobjW_obj, wp_new, dW_d, wp_varP, wp_pureR, wp_pairs0, wp_pairs, wp_disp, owp_lenL, wp_popAt, wp_C, wp_var, wp_op, wp_un, wp_test, wp_if, wp_notT, wp_andT, wp_orT, wp_nil, wp_cons, wp_CB, wp_tup, wp_lst, wp_seq, wp_ret, wp_sNil, wp_set, wp_sIf, wp_potC, wp_potSetC, potsW_0, potsW_1, potsW_2, setW_0, setW_2, isPW_p, blW_bl, owp_some, varW_d, varW_l, varW_k, initP, initS, S.put, owp_cmp, owp_add, owp_sub, owp_mul, owp_fdiv, owp_mod, owp_pow, owp_int, owp_intB, owp_tup, owp_lst, List.length_cons, List.length_nil, List.map_cons, List.map_nil, List.cons_append, List.nil_append, List.append_nil, List.getElem?_cons_zero, List.getElem?_cons_succ, List.set_cons_zero, List.set_cons_succ, List.replicate_succ, List.replicate_zero, Nat.reduceAdd, Nat.reduceSub, Rv.wp_ok, Rp.wp_ok, wp_yes, wp_dNew, wp_ifT, wp_pop, wp_self, wp_sSelf, pobjW_obj, wp_rdU, rdW_rd, pkW_rd, wp_peek, wp_peekT, wp_rdPut, wp_methP, tlW_tup, wp_star, wp_setIx, wp_lenX, llW_l, llW_d, wp_atL, owp_bTup, owp_bCons, owp_bNil, owp_bName, owp_eqII, owp_neII, owp_eqSS, owp_neSS, owp_eqNS, owp_isN, owp_notN, owp_ixL0, owp_ixL1, owp_ixL2, owp_ixL3, owp_ixT0, owp_ixT1, owp_iterL, owp_iterT, owp_seqL, owp_addL, owp_addT, owp_addS, owp_lenT, owp_tupleL, owp_tupleT, owp_din, owp_dnotin, owp_isi, owp_neg, owp_keys, owp_values, owp_items, owp_lenK, owp_tupK, LVd_l, LVd_k, S.wipe, S.back, wipeE, restE, Bool.not_true, Bool.not_false, true_implies, false_implies, reduceCtorEq, true_and, and_true, Nat.reduceLeDiff, lore_units, lore_first, lore_rows, strOk_lit, owp_keyS, and_self, beq_iff_eq, beq_eq_false_iff_ne, decide_eq_true_eq, decide_eq_false_iff_not])
theorem p_has {x : Str} : m_Page___contains__ [pageD u how ns sh rs, .str x] = .ok (.bl (findL (.inr x) (keysI ns (sh.length + 1)) (valsI ns sh rs (sh.length + 1))).isSome) := by
  apply Rv.of_wp
  unfold m_Page___contains__ g_Page___contains__
  refine def_of rfl ?_
  try walk_at "z0"
  simp only [isa_ss]
  try walk_at "z0"
  rw [pg_rows]
  try walk_at "z0"
theorem p_hasNo {d : D} (h : d.isa "str" = false) : m_Page___contains__ [pageD u how ns sh rs, d] = .ok (.bl false) := by
  apply Rv.of_wp
  unfold m_Page___contains__ g_Page___contains__
  refine def_of rfl ?_
  try walk_at "z0"
  simp only [h]
  try walk_at "z0"
theorem p_hasNm (t : Tr ns sh) (hp : p < sh.length + 1) : m_Page___contains__ [pageD u how ns sh rs, nmD ns p] = .ok (.bl true) := by
  unfold nmD
  rw [p_has]
  unfold valsI
  rw [find_range t hp (Nat.le_refl _), if_pos hp]
  rfl
theorem p_check (t : Tr ns sh) (hp : p < sh.length + 1) : m_Page_check_part [pageD u how ns sh rs, nmD ns p] = .ok .non := by
  apply Rv.of_wp
  unfold m_Page_check_part g_Page_check_part
  refine def_of rfl ?_
  try walk_at "z0"
  have e : inO "Page" m_Page___contains__ true (nmD ns p) (pageD u how ns sh rs) = some (.bl false) := by
    show (if (Str.ofString "Page" : Str) = Str.ofString "Page" then (match m_Page___contains__ [pageD u how ns sh rs, nmD ns p] with
      | .ok (.bl b) => some (D.bl (if true then !b else b))
      | _ => none) else none) = _
    rw [if_pos rfl, p_hasNm t hp]
    rfl
  rw [e]
  try walk_at "z0"
theorem p_get (t : Tr ns sh) (hp : p < sh.length + 1) : m_Page___getitem__ [pageD u how ns sh rs, nmD ns p] = .ok (valI ns sh rs p) := by
  apply Rv.of_wp
  unfold m_Page___getitem__ g_Page___getitem__
  refine def_of rfl ?_
  try walk_at "z0"
  refine meth_pg rfl (p_check t hp) ?_
  try walk_at "z0"
  rw [pg_rows]
  try walk_at "z0"
  unfold nmD
  rw [owp_dget]
  unfold valsI
  rw [find_range t hp (Nat.le_refl _), if_pos hp]
  rfl
theorem zip_mapL {js : List Nat} {f g : Nat → D} : zipD (js.map f) (js.map g) = js.map fun k => pairD (f k) (g k) := by
  unfold zipD
  rw [List.zipWith_map, List.zipWith_self]
theorem endsOf_filter : (endsI sh).filter (fun e => decide (wt sh p e = 1)) = endsOfI sh p := by
  have : ∀ e ∈ endsI sh, decide (wt sh p e = 1) = decide (e ∈ knownI sh p sh.length) := by
    intro e he
    unfold wt
    by_cases h : e ∈ endsOfI sh p
    · rw [if_pos h]
      have := (List.mem_filter.mp h).2
      simpa using this
    · rw [if_neg h]
      have h2 : ¬ e ∈ knownI sh p sh.length := fun z => h (List.mem_filter.mpr ⟨he, by simpa using z⟩)
      simp [h2]
  rw [List.filter_congr this]
  rfl
theorem bnI_eq : bnI sh p = ((List.range sh.length).filter fun i => up sh i == p).map (· + 1) := by
  unfold bnI
  rw [List.range_succ_eq_map, List.filter_cons]
  simp only [bel, Bool.false_eq_true, if_false]
  rw [List.filter_map]
  rfl
theorem ixO_pg {QS : D → Prop} (t : Tr ns sh) (hp : p < sh.length + 1) : owp (ixO "Page" m_Page___getitem__ (pageD u how ns sh rs) (nmD ns p)) QS = QS (valI ns sh rs p) := by
  show owp (if (Str.ofString "Page" : Str) = Str.ofString "Page" then (match m_Page___getitem__ [pageD u how ns sh rs, nmD ns p] with
    | .ok d => some d
    | _ => none) else none) QS = _
  rw [if_pos rfl, p_get t hp]
  rfl
theorem prop1 {m : List D → Rv} {d : D} (h : m [pageD u how ns sh rs] = .ok d) (hq : Q d) : objW (pageD u how ns sh rs) fun c ks vs => c = "Page" ∧ (m [.obj c ks vs]).wp Q := by
  refine ⟨rfl, ?_⟩
  show (m [pageD u how ns sh rs]).wp _
  rw [h]
  exact hq
theorem LoreOk.strText (ok : LoreOk u how ns sh rs) : PyData.strOk (textS u how ns sh rs) = true := by
  obtain ⟨w1, w2, w3, w4, w5, w6⟩ := lit_ok
  refine strOk_join strOk_lit fun l hl => ?_
  unfold linesS at hl
  rcases List.mem_cons.mp hl with rfl | hl
  · refine strOk_join strOk_lit fun w hw => ?_
    simp only [List.mem_cons, List.not_mem_nil, or_false] at hw
    rcases hw with rfl | rfl | rfl
    · exact w5.ok
    · exact ok.uW.1.ok
    · exact (WOk.of (hows_ok _ ok.hh)).ok
  · rcases List.mem_cons.mp hl with rfl | hl
    · refine strOk_join strOk_lit fun w hw => ?_
      simp only [List.mem_cons, List.not_mem_nil, or_false] at hw
      rcases hw with rfl | rfl
      · exact w6.ok
      · exact (ok.nmW (by omega)).ok
    · obtain ⟨j, hj, rfl⟩ := List.mem_map.mp hl
      exact strOk_join strOk_lit fun w hw => (ok.wordsOk (List.mem_range.mp hj) w hw).ok
theorem LoreOk.repNames (ok : LoreOk u how ns sh rs) {js : List Nat} (hj : ∀ j ∈ js, j < sh.length + 1) (hl : js.length ≤ 10) : RepOk 1000 1 (.tup (js.map (nmD ns))) := by
  refine (RepOk.tup (n := 10) (k := 0) (m := 10) (fun d hd => ?_) (by simpa using hl)).mono (by decide) (by decide)
  obtain ⟨j, h1, rfl⟩ := List.mem_map.mp hd
  have w := ok.nmW (hj j h1)
  exact .str w.ok w.len
theorem ShOk.rep (h : ShOk u d) (hu : u ≤ 100) : RepOk 10 0 d := by
  cases h with
  | non => exact .non
  | none => exact .str strOk_lit (by decide +kernel)
  | some => exact .str strOk_lit (by decide +kernel)
  | int k hk => exact .int (by omega) (by omega)
theorem LoreOk.repVal (ok : LoreOk u how ns sh rs) {j : Nat} (hj : j < sh.length + 1) : RepOk 1000 1 (valI ns sh rs j) := by
  cases j with
  | zero =>
    show RepOk 1000 1 (.tup [.non, .non, .non])
    refine RepOk.mono (n := 33) (k := 1) (RepOk.tup (n := 10) (k := 0) (m := 3) (fun d hd => ?_) (Nat.le_refl 3)) (by decide) (by decide)
    simp only [List.mem_cons, List.not_mem_nil, or_false, or_self] at hd
    rw [hd]
    exact .non
  | succ j =>
    have hu := ok.t.up_le (i := j) (by omega)
    show RepOk 1000 1 (.tup [nmD ns (up sh j), (rs j).1, (rs j).2])
    refine RepOk.mono (n := 33) (k := 1) (RepOk.tup (n := 10) (k := 0) (m := 3) (fun d hd => ?_) (Nat.le_refl 3)) (by decide) (by decide)
    simp only [List.mem_cons, List.not_mem_nil, or_false] at hd
    rcases hd with rfl | rfl | rfl
    · have w := ok.nmW (i := up sh j) (by omega)
      exact .str w.ok w.len
    · exact (ok.r1 j).rep ok.u1
    · exact (ok.r2 j).rep ok.u1
def rwI (ns : List Str) (sh : List Nat) (rs : Nat → D × D) : Nat → D
  | 0 => .tup [nmD ns 0, .non, .non, .non]
  | j + 1 => rowD ns sh rs j
theorem rows_cons : .tup [nmD ns 0, .non, .non, .non] :: rowsD ns sh rs = (List.range (sh.length + 1)).map (rwI ns sh rs) := by
  rw [List.range_succ_eq_map, List.map_cons, List.map_map]
  rfl
theorem rwI_eq {j : Nat} : ∃ a b c, rwI ns sh rs j = .tup [nmD ns j, a, b, c] ∧ valI ns sh rs j = .tup [a, b, c] := by
  cases j with
  | zero => exact ⟨_, _, _, rfl, rfl⟩
  | succ j => exact ⟨_, _, _, rfl, rfl⟩
theorem endsOfI_len : (endsOfI sh p).length ≤ (endsI sh).length := List.length_filter_le _ _
end

end Ak
namespace Ak
open PySem PySem.Spec PyProof.Rows L2
/-! ### the part above -/
section
variable {u : Int} {how : Str} {ns : List Str} {sh : List Nat} {rs rs2 : Nat → D × D} {i m p : Nat} {d : D} {Q : D → Prop}
theorem eq_untold {x : Str} {d1 d2 : D} (hx : PyData.strOk x = true) (h1 : flatOk d1 = true) (h2 : flatOk d2 = true) : eqD (.tup [.str x, d1, d2]) (.tup [.non, .non, .non]) = some (.bl false) := by
  obtain ⟨xs, e1, e2, e3, e4⟩ := flat_data (ds := [.str x, d1, d2]) (fun d hd => by
    simp only [List.mem_cons, List.not_mem_nil, or_false] at hd
    rcases hd with rfl | rfl | rfl
    · exact hx
    · exact h1
    · exact h2)
  obtain ⟨a, r, rfl⟩ : ∃ a r, xs = a :: r := by
    cases xs with
    | nil => simp at e4
    | cons a r => exact ⟨a, r, rfl⟩
  have ea : a = .str x := by
    unfold D.dataAll at e1
    have : (D.str x).data = some (.str x) := rfl
    rw [this] at e1
    dsimp only at e1
    split at e1
    · injection e1 with e1
      injection e1 with e1 _
      exact e1.symm
    · cases e1
  have eb : (D.tup [.str x, d1, d2]).data = some (.tuple (a :: r)) := by
    unfold D.data
    rw [e1]
  have ec : (D.tup [.non, .non, .non]).data = some (.tuple [.none, .none, .none]) := rfl
  have s1 : SeqAt.shaped (.tuple (a :: r)) = true := by
    simp [SeqAt.shaped, PyData.canLay0, PyData.depth, e2, e3]
  have s2 : SeqAt.shaped (.tuple [.none, .none, .none]) = true := by
    simp [SeqAt.shaped, PyData.canLay0, PyData.depth, PyData.canLayAll0, PyData.depthAll]
  unfold eqD eqB
  rw [eb, ec]
  show (match (if (SeqAt.shaped (.tuple (a :: r)) && SeqAt.shaped (.tuple [.none, .none, .none])) = true then some (PyData.eqv (.tuple (a :: r)) (.tuple [.none, .none, .none])) else none) with
    | some k => some (D.bl k)
    | none => none) = _
  rw [s1, s2, ea]
  simp [PyData.eqv, PyData.eqvAll]
local macro_rules | `(tactic| walk_at "z0") => `(tactic| simp only [wp_cal, wp_calP, calPW_p, wp_frz, wp_mkL, wp_mk, wp_drop, wp_asg, wp_iter, wp_for, wp_comp, wp_part, wp_noPart, intW_int, wp_sl, wp_and, wp_or, wp_not, wp_chain, strW_str, wp_s1, wp_s0, twoW_two, wp_par, wp_parMV, wp_parVM, wp_parMM, wp_rng1, owp_rng, wp_zip, owp_zipL, owp_zipT, wp_enum2, owp_enum2, wp_mkO, lW_l, kW_k, oneW_one, lstW_lst, wp_app, wp_ext, wp_dput, wp_opR, wp_opL, wp_CBO, objW_obj, wp_prop, wp_meth, bobjW_obj, wp_new, dW_d, wp_varP, wp_pureR, wp_pairs0, wp_pairs, wp_disp, owp_lenL, wp_popAt, wp_C, wp_var, wp_op, wp_un, wp_test, wp_if, wp_notT, wp_andT, wp_orT, wp_nil, wp_cons, wp_CB, wp_tup, wp_lst, wp_seq, wp_ret, wp_sNil, wp_set, wp_sIf, wp_potC, wp_potSetC, potsW_0, potsW_1, potsW_2, setW_0, setW_2, isPW_p, blW_bl, owp_some, varW_d, varW_l, varW_k, initP, initS, S.put, owp_cmp, owp_add, owp_sub, owp_mul, owp_fdiv, owp_mod, owp_pow, owp_int, owp_intB, owp_tup, owp_lst, List.length_cons, List.length_nil, List.map_cons, List.map_nil, List.cons_append, List.nil_append, List.append_nil, List.getElem?_cons_zero, List.getElem?_cons_succ, List.set_cons_zero, List.set_cons_succ, List.replicate_succ, List.replicate_zero, Nat.reduceAdd, Nat.reduceSub, Rv.wp_ok, Rp.wp_ok, wp_yes, wp_dNew, wp_ifT, wp_pop, wp_self, wp_sSelf, pobjW_obj, wp_rdU, rdW_rd, pkW_rd, wp_peek, wp_peekT, wp_rdPut, wp_methP, tlW_tup, wp_star, wp_setIx, wp_lenX, llW_l, llW_d, wp_atL, owp_bTup, owp_bCons, owp_bNil, owp_bName, owp_eqII, owp_neII, owp_eqSS, owp_neSS, owp_eqNS, owp_isN, owp_notN, owp_ixL0, owp_ixL1, owp_ixL2, owp_ixL3, owp_ixT0, owp_ixT1, owp_iterL, owp_iterT, owp_seqL, owp_addL, owp_addT, owp_addS, owp_lenT, owp_tupleL, owp_tupleT, owp_din, owp_dnotin, owp_isi, owp_neg, owp_keys, owp_values, owp_items, owp_lenK, owp_tupK, LVd_l, LVd_k, S.wipe, S.back, wipeE, restE, Bool.not_true, Bool.not_false, true_implies, false_implies, reduceCtorEq, true_and, and_true, Nat.reduceLeDiff, lore_units, lore_first, lore_rows, strOk_lit, owp_keyS, and_self, beq_iff_eq, beq_eq_false_iff_ne, decide_eq_true_eq, decide_eq_false_iff_not])
theorem check_above_eq (ok : LoreOk u how ns sh rs) (hi : i < sh.length) : m_Page_check_above [pageD u how ns sh rs, nmD ns (i + 1)] = .ok .non := by
  apply Rv.of_wp
  unfold m_Page_check_above g_Page_check_above
  refine def_of rfl ?_
  have t := ok.t
  have hu := t.up_le hi
  try walk_at "z0"
  refine meth_pg rfl (p_check t (by omega)) ?_
  try walk_at "z0"
  rw [pg_rows]
  try walk_at "z0"
  rw [show nmD ns (i + 1) = .str (nm ns (i + 1)) from rfl, owp_dget]
  unfold valsI
  rw [find_range t (by omega) (Nat.le_refl _), if_pos (by omega), owp_some]
  rw [show valI ns sh rs (i + 1) = .tup [.str (nm ns (up sh i)), (rs i).1, (rs i).2] from rfl, eq_untold (t.ok (by omega)) (ok.r1 i).flat (ok.r2 i).flat]
  try walk_at "z0"
end

end Ak
namespace Ak
open PySem PySem.Spec PyProof.Rows L2
/-! ### rounding and rightness, the program's own -/
theorem owp_divmod {i j : Int} {Q : D → Prop} : owp (divmodD [.int i, .int j]) Q = ((0 < j ∧ j < 1073741824) ∧ Q (.tup [.int (i / j), .int (i % j)])) := owp_if
local macro_rules | `(tactic| walk_at "z0") => `(tactic| simp only [wp_cal, wp_calP, calPW_p, wp_frz, wp_mkL, wp_mk, wp_drop, wp_asg, wp_iter, wp_for, wp_comp, wp_part, wp_noPart, intW_int, wp_sl, wp_and, wp_or, wp_not, wp_chain, strW_str, wp_s1, wp_s0, twoW_two, wp_par, wp_parMV, wp_parVM, wp_parMM, wp_rng1, owp_rng, wp_zip, owp_zipL, owp_zipT, wp_enum2, owp_enum2, wp_mkO, lW_l, kW_k, oneW_one, lstW_lst, wp_app, wp_ext, wp_dput, wp_opR, wp_opL, wp_CBO, objW_obj, wp_prop, wp_meth, bobjW_obj, wp_new, dW_d, wp_varP, wp_pureR, wp_pairs0, wp_pairs, wp_disp, owp_lenL, wp_popAt, wp_C, wp_var, wp_op, wp_un, wp_test, wp_if, wp_notT, wp_andT, wp_orT, wp_nil, wp_cons, wp_CB, wp_tup, wp_lst, wp_seq, wp_ret, wp_sNil, wp_set, wp_sIf, wp_potC, wp_potSetC, potsW_0, potsW_1, potsW_2, setW_0, setW_2, isPW_p, blW_bl, owp_some, varW_d, varW_l, varW_k, initP, initS, S.put, owp_cmp, owp_add, owp_sub, owp_mul, owp_fdiv, owp_mod, owp_pow, owp_int, owp_intB, owp_tup, owp_lst, List.length_cons, List.length_nil, List.map_cons, List.map_nil, List.cons_append, List.nil_append, List.append_nil, List.getElem?_cons_zero, List.getElem?_cons_succ, List.set_cons_zero, List.set_cons_succ, List.replicate_succ, List.replicate_zero, Nat.reduceAdd, Nat.reduceSub, Rv.wp_ok, Rp.wp_ok, wp_yes, wp_dNew, wp_ifT, wp_pop, wp_self, wp_sSelf, pobjW_obj, wp_rdU, rdW_rd, pkW_rd, wp_peek, wp_peekT, wp_rdPut, wp_methP, tlW_tup, wp_star, wp_setIx, wp_lenX, llW_l, llW_d, wp_atL, owp_bTup, owp_bCons, owp_bNil, owp_bName, owp_eqII, owp_neII, owp_eqSS, owp_neSS, owp_eqNS, owp_isN, owp_notN, owp_ixL0, owp_ixL1, owp_ixL2, owp_ixL3, owp_ixT0, owp_ixT1, owp_iterL, owp_iterT, owp_seqL, owp_addL, owp_addT, owp_addS, owp_lenT, owp_tupleL, owp_tupleT, owp_din, owp_dnotin, owp_isi, owp_neg, owp_keys, owp_values, owp_items, owp_lenK, owp_tupK, LVd_l, LVd_k, S.wipe, S.back, wipeE, restE, Bool.not_true, Bool.not_false, true_implies, false_implies, reduceCtorEq, true_and, and_true, Nat.reduceLeDiff, lore_units, lore_first, lore_rows, strOk_lit, owp_keyS, and_self, beq_iff_eq, beq_eq_false_iff_ne, decide_eq_true_eq, decide_eq_false_iff_not])
theorem rounded_eq {how : Str} {a w : Int} (hh : how ∈ hows) (hw : 0 < w) (lw : w < 1073741824) : m_rounded [.str how, .int a, .int w] = .ok (.int (rndI how a w)) := by
  apply Rv.of_wp
  unfold m_rounded g_rounded
  refine def_of rfl ?_
  have hs := hows_strOk how hh
  have sm : small 2 = true := rfl
  walk_at "z0"
  rw [owp_divmod]
  refine ⟨⟨hw, lw⟩, ?_⟩
  walk_at "z0"
  have hr0 := Int.emod_nonneg a (b := w) (by omega)
  have hm2 := Int.emod_two_eq (a / w)
  unfold rndI
  generalize a / w = q at *
  generalize a % w = r at *
  obtain ⟨n1, n2, n3, n4, n5, n6, n7, n8, n9, n10, n11, n12⟩ := hows_ne
  simp only [hs, hw, sm, and_self, true_and, Bool.true_or]
  simp only [hows, List.mem_cons, List.not_mem_nil, or_false] at hh
  by_cases hr : r = 0
  · subst hr
    rcases hh with rfl | rfl | rfl | rfl <;> simp
  by_cases h2 : 2 * r = w <;> by_cases h3 : 2 * r > w
  all_goals rcases hh with rfl | rfl | rfl | rfl <;> simp_all <;> omega
theorem is_right_eq {u : Int} {how : Str} {d : D} {many whole : Int} (hh : how ∈ hows) (u0 : 2 ≤ u) (u1 : u ≤ 100) (hd : ShOk u d) (m0 : 0 ≤ many) (m1 : many ≤ whole) (w1 : whole < 1073741824) : m_is_right [.tup [.int u, .str how], d, .int many, .int whole] = .ok (.bl (rtI u how d many whole)) := by
  apply Rv.of_wp
  unfold m_is_right g_is_right
  refine def_of rfl ?_
  have sm : small u = true := small_of (by omega)
  have e0 : ¬ many > whole := by omega
  have sn := some_ne_none
  by_cases hw : whole = 0
  · cases hd <;> walk_at "z0" <;> simp [D.isN, hw, rtI, m1] <;> omega
  · cases hd with
    | non =>
      walk_at "z0"
      simp [D.isN, rtI, m1]
    | none =>
      walk_at "z0"
      simp [D.isN, hw, e0, rtI]
    | some =>
      walk_at "z0"
      simp [D.isN, hw, e0, rtI, sn, sm]
      by_cases h : 0 < u * many
      · simp [h]
        intro z
        omega
      · simp [h]
    | int k hk =>
      walk_at "z0"
      rw [rounded_eq hh (by omega) w1]
      simp only [owp_eqIS, strOk_lit]
      walk_at "z0"
      simp [D.isN, hw, e0, rtI, sm]
theorem l_is_right_eq {u : Int} {how : Str} {d : D} {many whole : Int} (hh : how ∈ hows) (u0 : 2 ≤ u) (u1 : u ≤ 100) (hd : ShOk u d) (m1 : 0 ≤ whole) (w1 : whole < 1073741824) : m_l_is_right [.tup [.int u, .str how], d, .int many, .int whole] = .ok (.bl (rtI u how d many whole)) := by
  apply Rv.of_wp
  unfold m_l_is_right g_l_is_right
  refine def_of rfl ?_
  have sm : small u = true := small_of (by omega)
  have sn := some_ne_none
  by_cases hw : whole = 0
  · cases hd <;> walk_at "z0" <;> simp [D.isN, hw, rtI]
  · cases hd with
    | non =>
      walk_at "z0"
      simp [D.isN, rtI]
    | none =>
      walk_at "z0"
      simp [D.isN, hw, rtI]
    | some =>
      walk_at "z0"
      simp [D.isN, hw, rtI, sn, sm]
      by_cases h : 0 < u * many
      · simp [h]
        intro z
        omega
      · simp [h]
    | int k hk =>
      walk_at "z0"
      rw [l_rounded_eq hh (by omega) (log2_lt (by omega) w1)]
      simp only [owp_eqIS, strOk_lit]
      walk_at "z0"
      simp [D.isN, hw, rtI, sm]

end Ak
namespace Ak
open PySem PySem.Spec PyProof.Rows L2
/-! ### tables -/
section
variable {u : Int} {how : Str} {ns : List Str} {sh : List Nat} {rs : Nat → D × D} {c : Nat → Int} {i m p : Nat} {Q : D → Prop}
def fitsI (u : Int) (how : Str) (sh : List Nat) (rs : Nat → D × D) (c : Nat → Int) : Bool := (List.range sh.length).all fun i => rtI u how (rs i).1 (numI sh c (i + 1)) (numI sh c (up sh i)) && rtI u how (rs i).2 (numI sh c (i + 1)) (totI sh c)
theorem Shown.fits (h : Shown u how sh rs c) : fitsI u how sh rs c = true := by
  unfold fitsI
  rw [List.all_eq_true]
  intro i hi
  have := h i (List.mem_range.mp hi)
  rw [this.1, this.2]
  rfl
def tbK : List Str := ["own_page", "own_counts", "own_numbers", "own_fits"]
def numsI (ns : List Str) (sh : List Nat) (c : Nat → Int) : D := .dic (keysI ns (sh.length + 1)) ((List.range (sh.length + 1)).map fun p => .int (numI sh c p))
def tabD (u : Int) (how : Str) (ns : List Str) (sh : List Nat) (rs : Nat → D × D) (c : Nat → Int) : D := .obj "Table" tbK [pageD u how ns sh rs, cD sh c, numsI ns sh c, .bl (fitsI u how sh rs c)]
local macro_rules | `(tactic| walk_at "z0") => `(tactic| simp only [wp_cal, wp_calP, calPW_p, wp_frz, wp_mkL, wp_mk, wp_drop, wp_asg, wp_iter, wp_for, wp_comp, wp_part, wp_noPart, intW_int, wp_sl, wp_and, wp_or, wp_not, wp_chain, strW_str, wp_s1, wp_s0, twoW_two, wp_par, wp_parMV, wp_parVM, wp_parMM, wp_rng1, owp_rng, wp_zip, owp_zipL, owp_zipT, wp_enum2, owp_enum2, wp_mkO, lW_l, kW_k, oneW_one, lstW_lst, wp_app, wp_ext, wp_dput, wp_opR, wp_opL, wp_CBO, objW_obj, wp_prop, wp_meth, bobjW_obj, wp_new, dW_d, wp_varP, wp_pureR, wp_pairs0, wp_pairs, wp_disp, owp_lenL, wp_popAt, wp_C, wp_var, wp_op, wp_un, wp_test, wp_if, wp_notT, wp_andT, wp_orT, wp_nil, wp_cons, wp_CB, wp_tup, wp_lst, wp_seq, wp_ret, wp_sNil, wp_set, wp_sIf, wp_potC, wp_potSetC, potsW_0, potsW_1, potsW_2, setW_0, setW_2, isPW_p, blW_bl, owp_some, varW_d, varW_l, varW_k, initP, initS, S.put, owp_cmp, owp_add, owp_sub, owp_mul, owp_fdiv, owp_mod, owp_pow, owp_int, owp_intB, owp_tup, owp_lst, List.length_cons, List.length_nil, List.map_cons, List.map_nil, List.cons_append, List.nil_append, List.append_nil, List.getElem?_cons_zero, List.getElem?_cons_succ, List.set_cons_zero, List.set_cons_succ, List.replicate_succ, List.replicate_zero, Nat.reduceAdd, Nat.reduceSub, Rv.wp_ok, Rp.wp_ok, wp_yes, wp_dNew, wp_ifT, wp_pop, wp_self, wp_sSelf, pobjW_obj, wp_rdU, rdW_rd, pkW_rd, wp_peek, wp_peekT, wp_rdPut, wp_methP, tlW_tup, wp_star, wp_setIx, wp_lenX, llW_l, llW_d, wp_atL, owp_bTup, owp_bCons, owp_bNil, owp_bName, owp_eqII, owp_neII, owp_eqSS, owp_neSS, owp_eqNS, owp_isN, owp_notN, owp_ixL0, owp_ixL1, owp_ixL2, owp_ixL3, owp_ixT0, owp_ixT1, owp_iterL, owp_iterT, owp_seqL, owp_addL, owp_addT, owp_addS, owp_lenT, owp_tupleL, owp_tupleT, owp_din, owp_dnotin, owp_isi, owp_neg, owp_keys, owp_values, owp_items, owp_lenK, owp_tupK, LVd_l, LVd_k, S.wipe, S.back, wipeE, restE, Bool.not_true, Bool.not_false, true_implies, false_implies, reduceCtorEq, true_and, and_true, Nat.reduceLeDiff, lore_units, lore_first, lore_rows, strOk_lit, owp_keyS, and_self, beq_iff_eq, beq_eq_false_iff_ne, decide_eq_true_eq, decide_eq_false_iff_not, wp_noEx, pg_text, pg_units, pg_rows, pg_ends, pg_weights, isa_it, isa_ii, isa_ib, isa_ss, isN_nm, isN_non, isN_str, isN_int, keys_kD, sum_cD])
theorem many_eq (t : Tr ns sh) (hp : p < sh.length + 1) (h0 : ∀ k, 0 ≤ c k) (h1 : ∀ k, c k ≤ 1000000000) : m_many_in [pageD u how ns sh rs, cD sh c, nmD ns p] = .ok (.int (numI sh c p)) := by
  apply Rv.of_wp
  unfold m_many_in g_many_in cD
  refine def_of rfl ?_
  try walk_at "z0"
  unfold nmD
  rw [owp_dget]
  rw [find_range t hp (Nat.le_refl _), if_pos hp, owp_some, idx_map (f := fun e => D.int (wt sh p e))]
  try walk_at "z0"
  rw [zip_map]
  have l9 := (shapes_len sh t.hsh).2
  have := endsI_len (sh := sh)
  refine ⟨by simp; omega, comp_all (fun k => .int (wt sh p ((endsI sh)[k]?.getD 0) * c k)) (fun i hi => ?_) ?_⟩
  · unfold pairD
    try walk_at "z0"
    have : small (c i) = true := small_of (by have := h0 i; have := h1 i; omega)
    rw [this]
    simp
  · rw [owp_sumL]
    rfl
theorem is_tuple_len {l : List D} {a b : Int} : m_is_tuple [.tup l, .int a, .int b] = .ok (.bl (decide (a ≤ l.length) && decide (l.length ≤ b))) := by
  apply Rv.of_wp
  unfold m_is_tuple g_is_tuple
  refine def_of rfl ?_
  try walk_at "z0"
  by_cases h : a ≤ (l.length : Int) <;> simp [h]
theorem is_integer_int {k : Int} : m_is_integer [.int k] = .ok (.bl true) := by
  apply Rv.of_wp
  unfold m_is_integer g_is_integer
  refine def_of rfl ?_
  try walk_at "z0"
theorem allD_map {α : Type} {l : List α} {f : α → Bool} : allD [.lst (l.map fun a => D.bl (f a))] = some (.bl (l.all f)) := by
  have go : ∀ l : List α, blsOf (l.map fun a => D.bl (f a)) = some (l.map f) := by
    intro l
    induction l with
    | nil => rfl
    | cons a l ih =>
      simp only [List.map_cons, blsOf]
      rw [ih]
  show (match blsOf (l.map fun a => D.bl (f a)) with
    | some bs => some (D.bl (bs.all id))
    | none => none) = _
  rw [go]
  simp [List.all_map, Function.comp_def]
theorem are_counts_eq (t : Tr ns sh) (h0 : ∀ k, 0 ≤ c k) (h1 : 0 < totI sh c) : m_are_counts [pageD u how ns sh rs, cD sh c] = .ok (.bl true) := by
  apply Rv.of_wp
  unfold m_are_counts g_are_counts cD
  refine def_of rfl ?_
  have l9 := (shapes_len sh t.hsh).2
  have := endsI_len (sh := sh)
  try walk_at "z0"
  rw [is_tuple_len]
  try walk_at "z0"
  simp only [List.length_map, List.length_range, Int.le_refl, decide_true, Bool.and_true, Bool.not_true]
  try walk_at "z0"
  refine ⟨by omega, comp_all (fun k => .bl true) (fun i hi => ?_) ?_⟩
  · try walk_at "z0"
    rw [is_integer_int]
    try walk_at "z0"
    have := h0 i
    simp [this]
  · rw [allD_map, owp_some]
    try walk_at "z0"
    rw [owp_sumT]
    try walk_at "z0"
    have : ((List.range (endsI sh).length).map c).sum > 0 := h1
    simp [this]
theorem shapes_root : ∀ sh ∈ shapes, ∀ k < (endsI sh).length, wt sh 0 ((endsI sh)[k]?.getD 0) = 1 := by decide +kernel
theorem num_root (t : Tr ns sh) : numI sh c 0 = totI sh c := by
  unfold numI totI
  congr 1
  refine List.map_congr_left fun k hk => ?_
  rw [shapes_root sh t.hsh k (List.mem_range.mp hk), Int.one_mul]
theorem valI_row {j : Nat} : valI ns sh rs (j + 1) = .tup [nmD ns (up sh j), (rs j).1, (rs j).2] := rfl
theorem valI_first : valI ns sh rs 0 = .tup [.non, .non, .non] := rfl
theorem do_fit_eq (ok : LoreOk u how ns sh rs) (h0 : ∀ k, 0 ≤ c k) (h1 : ∀ k, c k ≤ 1000000000) (h2 : totI sh c ≤ 1000000000) : m_do_fit [pageD u how ns sh rs, cD sh c] = .ok (.bl (fitsI u how sh rs c)) := by
  apply Rv.of_wp
  unfold m_do_fit g_do_fit
  refine def_of rfl ?_
  obtain ⟨t, u0, u1, hh, r1, r2⟩ := ok
  have l9 := (shapes_len sh t.hsh).2
  try walk_at "z0"
  unfold valsI
  rw [zip_map]
  have bb : ∀ p, 0 ≤ numI sh c p ∧ numI sh c p ≤ totI sh c ∧ totI sh c ≤ 1000000000 := fun p => by
    have := num_boundsB (p := p) t h0 h1
    exact ⟨this.1, this.2.1, h2⟩
  refine forL_inv (fun i s => ((List.range (i - 1)).all fun i => rtI u how (rs i).1 (numI sh c (i + 1)) (numI sh c (up sh i)) && rtI u how (rs i).2 (numI sh c (i + 1)) (totI sh c)) = true ∧ ∃ a b d e f g : Option LV, s = ⟨[some (.d (pageD u how ns sh rs)), some (.d (cD sh c)), some (.d (.int (totI sh c))), a, b, d, e, f, g], .pot ⟨0, 0, 0⟩⟩) ⟨rfl, none, none, none, none, none, none, rfl⟩ ?_ ?_
  · rintro i d s hd ⟨hall, a, b, d', e, f, g, rfl⟩
    obtain ⟨hi, rfl⟩ := range_get hd
    unfold pairD
    cases i with
    | zero =>
      rw [valI_first]
      try walk_at "z0"
      rw [many_eq t hi h0 h1]
      try walk_at "z0"
      obtain ⟨b1, b2, b3⟩ := bb 0
      try walk_at "z0"
      rw [is_right_eq hh u0 u1 .non b1 b2 (by omega)]
      try walk_at "z0"
      simp only [show rtI u how .non (numI sh c 0) (totI sh c) = true from rfl]
      try walk_at "z0"
      exact ⟨rfl, _, _, _, _, _, _, rfl⟩
    | succ i =>
      have hu := t.up_le (i := i) (by omega)
      rw [valI_row]
      try walk_at "z0"
      rw [many_eq t hi h0 h1]
      try walk_at "z0"
      rw [many_eq t (by omega) h0 h1]
      try walk_at "z0"
      obtain ⟨b1, b2, b3⟩ := bb (i + 1)
      obtain ⟨b4, b5, _⟩ := bb (up sh i)
      have b6 := num_le t h0 (i := i) (by omega)
      try walk_at "z0"
      rw [is_right_eq hh u0 u1 (r1 i) b1 b6 (by omega)]
      try walk_at "z0"
      rw [is_right_eq hh u0 u1 (r2 i) b1 b2 (by omega)]
      try walk_at "z0"
      have fno : (rtI u how (rs i).1 (numI sh c (i + 1)) (numI sh c (up sh i)) && rtI u how (rs i).2 (numI sh c (i + 1)) (totI sh c)) = false → D.bl false = D.bl (fitsI u how sh rs c) := by
        intro hf
        congr 1
        symm
        unfold fitsI
        rw [List.all_eq_false]
        exact ⟨i, List.mem_range.mpr (by omega), by rw [hf]; simp⟩
      cases e1 : rtI u how (rs i).1 (numI sh c (i + 1)) (numI sh c (up sh i)) <;> cases e2 : rtI u how (rs i).2 (numI sh c (i + 1)) (totI sh c)
      all_goals
        rw [e1, e2] at fno
        try simp only [Bool.not_true, Bool.not_false, reduceCtorEq, true_implies, false_implies, and_true, true_and]
      · exact fno rfl
      · exact fno rfl
      · exact fno rfl
      · refine ⟨?_, _, _, _, _, _, _, rfl⟩
        simp only [Nat.add_sub_cancel] at hall ⊢
        rw [List.range_succ, List.all_append, hall]
        simp [e1, e2]
  · rintro s ⟨hall, a, b, d', e, f, g, rfl⟩
    try walk_at "z0"
    rw [List.length_map, List.length_range, Nat.add_sub_cancel] at hall
    unfold fitsI
    rw [hall]
theorem tb_page : owp (fldC ["Table"] "own_page" (tabD u how ns sh rs c)) Q = Q (pageD u how ns sh rs) := rfl
theorem tb_counts : owp (fldC ["Table"] "own_counts" (tabD u how ns sh rs c)) Q = Q (cD sh c) := rfl
theorem tb_numbers : owp (fldC ["Table"] "own_numbers" (tabD u how ns sh rs c)) Q = Q (numsI ns sh c) := rfl
theorem tb_fits : owp (fldC ["Table"] "own_fits" (tabD u how ns sh rs c)) Q = Q (.bl (fitsI u how sh rs c)) := rfl
theorem tb_fold : D.obj "Table" tbK [pageD u how ns sh rs, cD sh c, numsI ns sh c, .bl (fitsI u how sh rs c)] = tabD u how ns sh rs c := rfl
theorem table_wp {Q : D → Bw → Prop} (ok : LoreOk u how ns sh rs) (hc : CtW sh c) (hQ : Q .non (.obj "Table" tbK [pageD u how ns sh rs, cD sh c, numsI ns sh c, .bl (fitsI u how sh rs c)])) : (m_Table___init__ (.obj "Table" [] []) [pageD u how ns sh rs, cD sh c]).wp Q := by
  unfold m_Table___init__ g_Table___init__
  refine defP_of rfl ?_
  have t := ok.t
  have l9 := (shapes_len sh t.hsh).2
  obtain ⟨h0, h1, h2, h3⟩ := hc
  try walk_at "z0"
  rw [are_counts_eq t h0 h2]
  try walk_at "z0"
  have k1 : fsK (Str.ofString "own_page") [] = [Str.ofString "own_page"] := rfl
  have k2 : fsK (Str.ofString "own_counts") [Str.ofString "own_page"] = [Str.ofString "own_page", Str.ofString "own_counts"] := rfl
  have k3 : fsK (Str.ofString "own_numbers") [Str.ofString "own_page", Str.ofString "own_counts"] = [Str.ofString "own_page", Str.ofString "own_counts", Str.ofString "own_numbers"] := rfl
  have k4 : fsK (Str.ofString "own_fits") [Str.ofString "own_page", Str.ofString "own_counts", Str.ofString "own_numbers"] = tbK := rfl
  have v1 : ∀ d : D, fsV (Str.ofString "own_page") d [] [] = [d] := fun _ => rfl
  have v2 : ∀ d a : D, fsV (Str.ofString "own_counts") d [Str.ofString "own_page"] [a] = [a, d] := fun _ _ => rfl
  have v3 : ∀ d a b : D, fsV (Str.ofString "own_numbers") d [Str.ofString "own_page", Str.ofString "own_counts"] [a, b] = [a, b, d] := fun _ _ _ => rfl
  have v4 : ∀ d a b c : D, fsV (Str.ofString "own_fits") d [Str.ofString "own_page", Str.ofString "own_counts", Str.ofString "own_numbers"] [a, b, c] = [a, b, c, d] := fun _ _ _ _ => rfl
  simp only [k1, k2, v1, v2]
  refine ⟨by decide, by decide, ?_⟩
  try walk_at "z0"
  refine ⟨by simp [keysI]; omega, ?_⟩
  refine comp_all (fun p => .tup [nmD ns p, .int (numI sh c p)]) (fun p hp => ?_) ?_
  · try walk_at "z0"
    rw [many_eq t (List.mem_range.mp hp) h0 h1]
    try walk_at "z0"
  · rw [dict_eq t]
    try walk_at "z0"
    rw [k3, v3]
    refine ⟨by decide, ?_⟩
    rw [do_fit_eq ok h0 h1 h3]
    try walk_at "z0"
    rw [k4, v4]
    exact ⟨by decide, hQ⟩
theorem tb_get (t : Tr ns sh) (hp : p < sh.length + 1) : m_Table___getitem__ [tabD u how ns sh rs c, nmD ns p] = .ok (.int (numI sh c p)) := by
  apply Rv.of_wp
  unfold m_Table___getitem__ g_Table___getitem__
  refine def_of rfl ?_
  have e : findL (.inr (nm ns p)) (keysI ns (sh.length + 1)) ((List.range (sh.length + 1)).map fun p => D.int (numI sh c p)) = some (.int (numI sh c p)) := by
    rw [find_range t hp (Nat.le_refl _), if_pos hp]
  unfold nmD
  try walk_at "z0"
  simp only [tb_numbers]
  unfold numsI
  try walk_at "z0"
  simp only [owp_dget, e]
  try walk_at "z0"
  simp only [Option.isSome_some]
  try walk_at "z0"
theorem tb_total : m_Table_total [tabD u how ns sh rs c] = .ok (.int (totI sh c)) := by
  apply Rv.of_wp
  unfold m_Table_total g_Table_total
  refine def_of rfl ?_
  try walk_at "z0"
  rw [tb_counts]
  unfold cD
  try walk_at "z0"
  rw [owp_sumT]
  rfl
theorem tb_fits_eq : m_Table_fits [tabD u how ns sh rs c] = .ok (.bl (fitsI u how sh rs c)) := by
  apply Rv.of_wp
  unfold m_Table_fits g_Table_fits
  refine def_of rfl ?_
  try walk_at "z0"
  rw [tb_fits]
end

end Ak
namespace Ak
open PySem PySem.Spec PyProof.Rows L2
/-! ### what a table shows; counts that are drawn -/
section
variable {u : Int} {how : Str} {ns : List Str} {sh : List Nat} {rs : Nat → D × D} {c : Nat → Int} {i m p : Nat} {Q : D → Prop}
def shwI (u : Int) (how : Str) (many whole : Int) : D := if whole = 0 then .non else .int (rndI how (u * many) whole)
def showsI (u : Int) (how : Str) (sh : List Nat) (c : Nat → Int) (i : Nat) : D := .tup [shwI u how (numI sh c (i + 1)) (numI sh c (up sh i)), .int (rndI how (u * numI sh c (i + 1)) (totI sh c))]
theorem prop1_tb {m : List D → Rv} {d : D} (h : m [tabD u how ns sh rs c] = .ok d) (hq : Q d) : objW (tabD u how ns sh rs c) fun c ks vs => c = "Table" ∧ (m [.obj c ks vs]).wp Q := by
  refine ⟨rfl, ?_⟩
  show (m [tabD u how ns sh rs c]).wp _
  rw [h]
  exact hq
theorem meth_tb {mn : Str} {m : List D → Rv} {a d : D} (hm : tbK.contains mn = false) (h : m [tabD u how ns sh rs c, a] = .ok d) (hq : Q d) : objW (tabD u how ns sh rs c) fun c ks vs => (c = "Table" ∧ ks.contains mn = false) ∧ (m [.obj c ks vs, a]).wp Q := by
  refine ⟨⟨rfl, hm⟩, ?_⟩
  show (m [tabD u how ns sh rs c, a]).wp _
  rw [h]
  exact hq
theorem ixO_tb {QS : D → Prop} (t : Tr ns sh) (hp : p < sh.length + 1) : owp (ixO "Table" m_Table___getitem__ (tabD u how ns sh rs c) (nmD ns p)) QS = QS (.int (numI sh c p)) := by
  show owp (if (Str.ofString "Table" : Str) = Str.ofString "Table" then (match m_Table___getitem__ [tabD u how ns sh rs c, nmD ns p] with
    | .ok d => some d
    | _ => none) else none) QS = _
  rw [if_pos rfl, tb_get t hp]
  rfl
structure CtB (sh : List Nat) (c : Nat → Int) : Prop where
  n0 : ∀ p, 0 ≤ numI sh c p
  n1 : ∀ p, numI sh c p ≤ totI sh c
  t1 : totI sh c ≤ 1000000000
theorem CtW.b (t : Tr ns sh) (h : CtW sh c) : CtB sh c := by
  have := fun p => num_boundsB (p := p) t h.c0 h.c1
  exact ⟨fun p => (this p).1, fun p => (this p).2.1, h.tot⟩
local macro_rules | `(tactic| walk_at "z0") => `(tactic| simp only [wp_cal, wp_calP, calPW_p, wp_frz, wp_mkL, wp_mk, wp_drop, wp_asg, wp_iter, wp_for, wp_comp, wp_part, wp_noPart, intW_int, wp_sl, wp_and, wp_or, wp_not, wp_chain, strW_str, wp_s1, wp_s0, twoW_two, wp_par, wp_parMV, wp_parVM, wp_parMM, wp_rng1, owp_rng, wp_zip, owp_zipL, owp_zipT, wp_enum2, owp_enum2, wp_mkO, lW_l, kW_k, oneW_one, lstW_lst, wp_app, wp_ext, wp_dput, wp_opR, wp_opL, wp_CBO, objW_obj, wp_prop, wp_meth, bobjW_obj, wp_new, dW_d, wp_varP, wp_pureR, wp_pairs0, wp_pairs, wp_disp, owp_lenL, wp_popAt, wp_C, wp_var, wp_op, wp_un, wp_test, wp_if, wp_notT, wp_andT, wp_orT, wp_nil, wp_cons, wp_CB, wp_tup, wp_lst, wp_seq, wp_ret, wp_sNil, wp_set, wp_sIf, wp_potC, wp_potSetC, potsW_0, potsW_1, potsW_2, setW_0, setW_2, isPW_p, blW_bl, owp_some, varW_d, varW_l, varW_k, initP, initS, S.put, owp_cmp, owp_add, owp_sub, owp_mul, owp_fdiv, owp_mod, owp_pow, owp_int, owp_intB, owp_tup, owp_lst, List.length_cons, List.length_nil, List.map_cons, List.map_nil, List.cons_append, List.nil_append, List.append_nil, List.getElem?_cons_zero, List.getElem?_cons_succ, List.set_cons_zero, List.set_cons_succ, List.replicate_succ, List.replicate_zero, Nat.reduceAdd, Nat.reduceSub, Rv.wp_ok, Rp.wp_ok, wp_yes, wp_dNew, wp_ifT, wp_pop, wp_self, wp_sSelf, pobjW_obj, wp_rdU, rdW_rd, pkW_rd, wp_peek, wp_peekT, wp_rdPut, wp_methP, tlW_tup, wp_star, wp_setIx, wp_lenX, llW_l, llW_d, wp_atL, owp_bTup, owp_bCons, owp_bNil, owp_bName, owp_eqII, owp_neII, owp_eqSS, owp_neSS, owp_eqNS, owp_isN, owp_notN, owp_ixL0, owp_ixL1, owp_ixL2, owp_ixL3, owp_ixT0, owp_ixT1, owp_iterL, owp_iterT, owp_seqL, owp_addL, owp_addT, owp_addS, owp_lenT, owp_tupleL, owp_tupleT, owp_din, owp_dnotin, owp_isi, owp_neg, owp_keys, owp_values, owp_items, owp_lenK, owp_tupK, LVd_l, LVd_k, S.wipe, S.back, wipeE, restE, Bool.not_true, Bool.not_false, true_implies, false_implies, reduceCtorEq, true_and, and_true, Nat.reduceLeDiff, lore_units, lore_first, lore_rows, strOk_lit, owp_keyS, and_self, beq_iff_eq, beq_eq_false_iff_ne, decide_eq_true_eq, decide_eq_false_iff_not, wp_noEx, pg_text, pg_units, pg_rows, pg_ends, pg_weights, isa_it, isa_ii, isa_ib, isa_ss, isN_nm, isN_non, isN_str, isN_int, keys_kD, sum_cD])
theorem shows_eq (ok : LoreOk u how ns sh rs) (hc : CtW sh c) (hi : i < sh.length) : m_Table_shows [tabD u how ns sh rs c, nmD ns (i + 1)] = .ok (showsI u how sh c i) := by
  apply Rv.of_wp
  unfold m_Table_shows g_Table_shows
  refine def_of rfl ?_
  have t := ok.t
  have hh := ok.hh
  have hu := t.up_le hi
  have cb := hc.b t
  have b1 := cb.n0 (i + 1)
  have b2 := cb.n1 (i + 1)
  have b3 := cb.n0 (up sh i)
  have b4 := cb.n1 (up sh i)
  have b5 := cb.t1
  have hpos := hc.pos
  have sm : small u = true := small_of (by have := ok.u0; have := ok.u1; omega)
  try walk_at "z0"
  rw [tb_page]
  refine meth_pg rfl (check_above_eq ok hi) ?_
  try walk_at "z0"
  rw [tb_page]
  try walk_at "z0"
  rw [tb_page, ixO_pg t (by omega), valI_row]
  try walk_at "z0"
  rw [ixO_tb t (by omega)]
  try walk_at "z0"
  simp only [ixO_tb t (show i + 1 < sh.length + 1 by omega), owp_mul, sm, Bool.true_or, true_and]
  refine ⟨fun hw => ?_, fun hw => ?_⟩
  · refine prop1_tb tb_total ?_
    rw [rounded_eq hh hpos (by omega)]
    simp [Rv.wp, showsI, shwI, hw]
  · rw [rounded_eq hh (by omega) (by omega)]
    try walk_at "z0"
    refine prop1_tb tb_total ?_
    rw [rounded_eq hh hpos (by omega)]
    simp [Rv.wp, showsI, shwI, hw]
theorem shown_due_eq (ok : LoreOk u how ns sh rs) (hc : CtW sh c) (hi : i < sh.length) : m_l_shown_due [loreD (.tup [.int u, .str how]) ns sh rs, cD sh c, rowD ns sh rs i] = .ok (showsI u how sh c i) := by
  apply Rv.of_wp
  unfold m_l_shown_due g_l_shown_due rowD
  refine def_of rfl ?_
  have t := ok.t
  have hh := ok.hh
  have hu := t.up_le hi
  have cb := hc.b t
  have b1 := cb.n0 (i + 1)
  have b2 := cb.n1 (i + 1)
  have b3 := cb.n0 (up sh i)
  have b4 := cb.n1 (up sh i)
  have b5 := cb.t1
  have hpos := hc.pos
  have c9 : ∀ k, c k ≤ 1000000000 := fun k => Int.le_trans (hc.c1 k) (by decide)
  have sm : small u = true := small_of (by have := ok.u0; have := ok.u1; omega)
  try walk_at "z0"
  rw [number_eqC t (by omega) hc.c0 c9]
  try walk_at "z0"
  rw [number_eqC t (by omega) hc.c0 c9]
  try walk_at "z0"
  simp only [owp_mul, sm, Bool.true_or, true_and]
  refine ⟨fun hw => ?_, fun hw => ?_⟩
  · rw [l_rounded_eq hh hpos (log2_lt hpos (by omega))]
    simp [Rv.wp, showsI, shwI, hw]
  · rw [l_rounded_eq hh (by omega) (log2_lt (by omega) (by omega))]
    try walk_at "z0"
    rw [l_rounded_eq hh hpos (log2_lt hpos (by omega))]
    simp [Rv.wp, showsI, shwI, hw]
theorem l_fits_eq (ok : LoreOk u how ns sh rs) (hc : CtW sh c) : m_l_fits [loreD (.tup [.int u, .str how]) ns sh rs, cD sh c] = .ok (.bl (fitsI u how sh rs c)) := by
  apply Rv.of_wp
  unfold m_l_fits g_l_fits
  refine def_of rfl ?_
  have cb := hc.b ok.t
  have b5 := cb.t1
  obtain ⟨t, u0, u1, hh, r1, r2⟩ := ok
  have l9 := (shapes_len sh t.hsh).2
  have c9 : ∀ k, c k ≤ 1000000000 := fun k => Int.le_trans (hc.c1 k) (by decide)
  try walk_at "z0"
  refine forL_inv (fun i s => ((List.range i).all fun i => rtI u how (rs i).1 (numI sh c (i + 1)) (numI sh c (up sh i)) && rtI u how (rs i).2 (numI sh c (i + 1)) (totI sh c)) = true ∧ ∃ a b d e f : Option LV, s = ⟨[some (.d (loreD (.tup [.int u, .str how]) ns sh rs)), some (.d (cD sh c)), a, b, d, e, f], .pot ⟨0, 0, 0⟩⟩) ⟨rfl, none, none, none, none, none, rfl⟩ ?_ ?_
  · rintro i d s hd ⟨hall, a, b, d', e, f, rfl⟩
    obtain ⟨hi, rfl⟩ := range_get hd
    have hu := t.up_le hi
    have b1 := cb.n0 (i + 1)
    have b2 := cb.n1 (i + 1)
    have b3 := cb.n0 (up sh i)
    have b4 := cb.n1 (up sh i)
    rw [show rowD ns sh rs i = .tup [nmD ns (i + 1), nmD ns (up sh i), (rs i).1, (rs i).2] from rfl]
    try walk_at "z0"
    rw [number_eqC t (by omega) hc.c0 c9]
    try walk_at "z0"
    rw [number_eqC t (by omega) hc.c0 c9]
    try walk_at "z0"
    rw [l_is_right_eq hh u0 u1 (r1 i) b3 (by omega)]
    try walk_at "z0"
    rw [l_is_right_eq hh u0 u1 (r2 i) (by omega) (by omega)]
    try walk_at "z0"
    have fno : (rtI u how (rs i).1 (numI sh c (i + 1)) (numI sh c (up sh i)) && rtI u how (rs i).2 (numI sh c (i + 1)) (totI sh c)) = false → D.bl false = D.bl (fitsI u how sh rs c) := by
      intro hf
      congr 1
      symm
      unfold fitsI
      rw [List.all_eq_false]
      exact ⟨i, List.mem_range.mpr (by omega), by rw [hf]; simp⟩
    cases e1 : rtI u how (rs i).1 (numI sh c (i + 1)) (numI sh c (up sh i)) <;> cases e2 : rtI u how (rs i).2 (numI sh c (i + 1)) (totI sh c)
    all_goals
      rw [e1, e2] at fno
      try simp only [Bool.not_true, Bool.not_false, reduceCtorEq, true_implies, false_implies, and_true, true_and]
    · exact fno rfl
    · exact fno rfl
    · exact fno rfl
    · refine ⟨?_, _, _, _, _, _, rfl⟩
      rw [List.range_succ, List.all_append, hall]
      simp [e1, e2]
  · rintro s ⟨hall, a, b, d', e, f, rfl⟩
    try walk_at "z0"
    rw [show (rowsD ns sh rs).length = sh.length by simp [rowsD]] at hall
    unfold fitsI
    rw [hall]
theorem showsI_rep (ok : LoreOk u how ns sh rs) (hc : CtW sh c) (hi : i < sh.length) : RepOk 100 1 (showsI u how sh c i) := by
  have t := ok.t
  have cb := hc.b t
  have u0 := ok.u0
  have u1 := ok.u1
  have b1 := cb.n0 (i + 1)
  have b2 := cb.n1 (i + 1)
  have b3 := cb.n0 (up sh i)
  have b6 := num_le t hc.c0 hi
  have hpos := hc.pos
  have um : 0 ≤ u * numI sh c (i + 1) := Int.mul_nonneg (by omega) b1
  refine RepOk.mono (RepOk.tup (n := 10) (k := 0) (m := 2) (fun d hd => ?_) (Nat.le_refl 2)) (by decide) (by decide)
  simp only [List.mem_cons, List.not_mem_nil, or_false] at hd
  rcases hd with rfl | rfl
  · unfold shwI
    split
    · exact .non
    · have := rndI_ok (how := how) (u := u) (w := numI sh c (up sh i)) (by omega) um (Int.mul_le_mul_of_nonneg_left b6 (by omega))
      exact .int this.1 (by omega)
  · have := rndI_ok (how := how) (u := u) (w := totI sh c) (by omega) um (Int.mul_le_mul_of_nonneg_left b2 (by omega))
    exact .int this.1 (by omega)
end
/-- a comprehension whose turns draw -/
theorem comp_draw {n m : Nat} {b : D → S → Option S} {fa : S → Rs D} {vs : List Nat} {f : Nat → D} {e : Env'} {q : Pot} {L : List D → S → Prop} (P : Nat → Int → Prop) (hq : PotOk n q)
    (step : ∀ i < m, ∀ q', PotOk (n + i) q' → owp (b (f i) ((⟨e, .pot q'⟩ : S).wipe vs)) fun s1 => (fa s1).wp fun y s3 => ∃ r q'', y = .int r ∧ P i r ∧ PotOk (n + i + 1) q'' ∧ s3.back ⟨e, .pot q'⟩ vs = ⟨e, .pot q''⟩)
    (fin : ∀ (c : Nat → Int) q', (∀ k < m, P k (c k)) → (∀ k, ¬ k < m → c k = 0) → PotOk (n + m) q' → L ((List.range m).map fun k => .int (c k)) ⟨e, .pot q'⟩) :
    (compL b mYes fa vs ((List.range m).map f) ⟨e, .pot q⟩).wp L := by
  refine compL_inv (fun i ys s => ∃ (c : Nat → Int) (q' : Pot), (∀ k < i, P k (c k)) ∧ (∀ k, ¬ k < i → c k = 0) ∧ ys = (List.range i).map (fun k => D.int (c k)) ∧ PotOk (n + i) q' ∧ s = ⟨e, .pot q'⟩) [] ⟨fun _ => 0, q, fun k hk => absurd hk (Nat.not_lt_zero k), fun _ _ => rfl, rfl, hq, rfl⟩ ?_ ?_
  · rintro i d ys s hd ⟨c, q', h1, h2, rfl, hq', rfl⟩
    obtain ⟨hi, rfl⟩ := range_get hd
    have st := step i hi q' hq'
    cases e1 : b (f i) ((⟨e, .pot q'⟩ : S).wipe vs) with
    | none =>
      rw [e1] at st
      exact st.elim
    | some s1 =>
      rw [e1] at st
      refine ⟨fun _ => ?_, fun z => by cases z⟩
      refine Rs.wp_mono st ?_
      rintro y s3 ⟨r, q'', rfl, hr, hq'', hb⟩
      rw [hb]
      refine ⟨fun k => if k = i then r else c k, q'', fun k hk => ?_, fun k hk => ?_, ?_, hq'', rfl⟩
      · dsimp only
        split
        · rename_i z
          subst z
          exact hr
        · exact h1 k (by omega)
      · dsimp only
        rw [if_neg (by omega)]
        exact h2 k (by omega)
      · exact range_snoc (fun k hk => by dsimp only; rw [if_neg (by omega)]) (by simp)
  · rintro ys s ⟨c, q', h1, h2, h3, hq', rfl⟩
    rw [List.nil_append] at h3
    subst h3
    rw [List.length_map, List.length_range] at h1 h2 hq' ⊢
    exact fin c q' h1 h2 hq'
theorem cut_take {xs : List D} {j : Nat} (hj : j ≤ xs.length) : cutD xs none (some (j : Nat)) = xs.take j := by
  unfold cutD
  rw [HT.sIx_nat, HT.sIx_none]
  simp [Nat.min_eq_left hj]
theorem cut_drop {xs : List D} {j : Nat} (hj : j ≤ xs.length) : cutD xs (some (j : Nat)) none = xs.drop j := by
  unfold cutD
  rw [HT.sIx_nat, HT.sIx_none]
  rw [Nat.min_eq_left hj, List.take_of_length_le]
  simp
theorem cut_set {m j : Nat} (hj : j < m) {f : Nat → D} {x : D} : ((List.range m).map f).take j ++ [x] ++ ((List.range m).map f).drop (j + 1) = (List.range m).map fun k => if k = j then x else f k := by
  apply List.ext_getElem
  · simp
    omega
  · intro i h1 h2
    simp at h2
    have hm : min j m = j := Nat.min_eq_left (by omega)
    simp only [List.getElem_append, List.getElem_map, List.getElem_range]
    by_cases a : i < j
    · simp [a, hm, show i < j + 1 by omega, show ¬ i = j by omega]
    · by_cases b : i = j
      · subst b
        simp [hm]
      · simp [hm, show ¬ i < j by omega, show ¬ i < j + 1 by omega, b]
        congr 1
        omega
theorem tupd_cD {sh : List Nat} {c : Nat → Int} : D.tup ((List.range (endsI sh).length).map fun k => .int (c k)) = cD sh c := rfl

end Ak
namespace Ak
open PySem PySem.Spec PyProof.Rows L2
/-! ### the law's own question -/
section
variable {u : Int} {how : Str} {ns : List Str} {sh : List Nat} {rs : Nat → D × D} {c : Nat → Int} {i m p : Nat} {Q : D → Prop}
theorem table_obj {s : S} {QS : D → S → Prop} (ok : LoreOk u how ns sh rs) (hc : CtW sh c) (hQ : QS (tabD u how ns sh rs c) s) : (m_Table___init__ (.obj "Table" [] []) [pageD u how ns sh rs, cD sh c]).wp fun d b => bobjW d b fun c ks vs => c = "Table" ∧ QS (.obj c ks vs) s := by
  refine table_wp ok hc ?_
  exact ⟨rfl, hQ⟩
local macro_rules | `(tactic| walk_at "z0") => `(tactic| simp only [wp_cal, wp_calP, calPW_p, wp_frz, wp_mkL, wp_mk, wp_drop, wp_asg, wp_iter, wp_for, wp_comp, wp_part, wp_noPart, intW_int, wp_sl, wp_and, wp_or, wp_not, wp_chain, strW_str, wp_s1, wp_s0, twoW_two, wp_par, wp_parMV, wp_parVM, wp_parMM, wp_rng1, owp_rng, wp_zip, owp_zipL, owp_zipT, wp_enum2, owp_enum2, wp_mkO, lW_l, kW_k, oneW_one, lstW_lst, wp_app, wp_ext, wp_dput, wp_opR, wp_opL, wp_CBO, objW_obj, wp_prop, wp_meth, bobjW_obj, wp_new, dW_d, wp_varP, wp_pureR, wp_pairs0, wp_pairs, wp_disp, owp_lenL, wp_popAt, wp_C, wp_var, wp_op, wp_un, wp_test, wp_if, wp_notT, wp_andT, wp_orT, wp_nil, wp_cons, wp_CB, wp_tup, wp_lst, wp_seq, wp_ret, wp_sNil, wp_set, wp_sIf, wp_potC, wp_potSetC, potsW_0, potsW_1, potsW_2, setW_0, setW_2, isPW_p, blW_bl, owp_some, varW_d, varW_l, varW_k, initP, initS, S.put, owp_cmp, owp_add, owp_sub, owp_mul, owp_fdiv, owp_mod, owp_pow, owp_int, owp_intB, owp_tup, owp_lst, List.length_cons, List.length_nil, List.map_cons, List.map_nil, List.cons_append, List.nil_append, List.append_nil, List.getElem?_cons_zero, List.getElem?_cons_succ, List.set_cons_zero, List.set_cons_succ, List.replicate_succ, List.replicate_zero, Nat.reduceAdd, Nat.reduceSub, Rv.wp_ok, Rp.wp_ok, wp_yes, wp_dNew, wp_ifT, wp_pop, wp_self, wp_sSelf, pobjW_obj, wp_rdU, rdW_rd, pkW_rd, wp_peek, wp_peekT, wp_rdPut, wp_methP, tlW_tup, wp_star, wp_setIx, wp_lenX, llW_l, llW_d, wp_atL, owp_bTup, owp_bCons, owp_bNil, owp_bName, owp_eqII, owp_neII, owp_eqSS, owp_neSS, owp_eqNS, owp_isN, owp_notN, owp_ixL0, owp_ixL1, owp_ixL2, owp_ixL3, owp_ixT0, owp_ixT1, owp_iterL, owp_iterT, owp_seqL, owp_addL, owp_addT, owp_addS, owp_lenT, owp_tupleL, owp_tupleT, owp_din, owp_dnotin, owp_isi, owp_neg, owp_keys, owp_values, owp_items, owp_lenK, owp_tupK, LVd_l, LVd_k, S.wipe, S.back, wipeE, restE, Bool.not_true, Bool.not_false, true_implies, false_implies, reduceCtorEq, true_and, and_true, Nat.reduceLeDiff, lore_units, lore_first, lore_rows, strOk_lit, owp_keyS, and_self, beq_iff_eq, beq_eq_false_iff_ne, decide_eq_true_eq, decide_eq_false_iff_not, wp_noEx, pg_text, pg_units, pg_rows, pg_ends, pg_weights, isa_it, isa_ii, isa_ib, isa_ss, isN_nm, isN_non, isN_str, isN_int, keys_kD, sum_cD])
theorem right_of_eq (ok : LoreOk u how ns sh rs) (hc : CtW sh c) : m_l_is_right_of [loreD (.tup [.int u, .str how]) ns sh rs, pageD u how ns sh rs, cD sh c] = .ok (.bl true) := by
  apply Rv.of_wp
  unfold m_l_is_right_of g_l_is_right_of
  refine def_of rfl ?_
  have t := ok.t
  try walk_at "z0"
  refine table_wp ok hc ⟨rfl, ?_⟩
  rw [tb_fold]
  try walk_at "z0"
  refine forL_inv (fun i s => ∃ a : Option LV, s = ⟨[some (.d (loreD (.tup [.int u, .str how]) ns sh rs)), some (.d (pageD u how ns sh rs)), some (.d (cD sh c)), some (.d (tabD u how ns sh rs c)), a], .pot ⟨0, 0, 0⟩⟩) ⟨none, rfl⟩ ?_ ?_
  · rintro i d s hd ⟨a, rfl⟩
    obtain ⟨hi, rfl⟩ := range_get hd
    try walk_at "z0"
    rw [show owp (ixD (rowD ns sh rs i) (.int 0)) = owp (some (nmD ns (i + 1))) from rfl]
    try walk_at "z0"
    refine meth_tb rfl (shows_eq ok hc hi) ?_
    rw [shown_due_eq ok hc hi]
    try walk_at "z0"
    refine repr_same (showsI_rep ok hc hi) (by decide) (by decide) ?_
    try walk_at "z0"
    exact ⟨_, rfl⟩
  · rintro s ⟨a, rfl⟩
    try walk_at "z0"
    refine prop1_tb tb_fits_eq ?_
    rw [l_fits_eq ok hc]
    try walk_at "z0"
    exact repr_sameE (n := 1) (k := 1) RepOk.bl (by decide) (by decide) rfl
end
section
variable {n : Nat} {q : Pot} {ns : List Str} {sh : List Nat} {c : Nat → Int}
local macro_rules | `(tactic| walk_at "z0") => `(tactic| simp only [wp_cal, wp_calP, calPW_p, wp_frz, wp_mkL, wp_mk, wp_drop, wp_asg, wp_iter, wp_for, wp_comp, wp_part, wp_noPart, intW_int, wp_sl, wp_and, wp_or, wp_not, wp_chain, strW_str, wp_s1, wp_s0, twoW_two, wp_par, wp_parMV, wp_parVM, wp_parMM, wp_rng1, owp_rng, wp_zip, owp_zipL, owp_zipT, wp_enum2, owp_enum2, wp_mkO, lW_l, kW_k, oneW_one, lstW_lst, wp_app, wp_ext, wp_dput, wp_opR, wp_opL, wp_CBO, objW_obj, wp_prop, wp_meth, bobjW_obj, wp_new, dW_d, wp_varP, wp_pureR, wp_pairs0, wp_pairs, wp_disp, owp_lenL, wp_popAt, wp_C, wp_var, wp_op, wp_un, wp_test, wp_if, wp_notT, wp_andT, wp_orT, wp_nil, wp_cons, wp_CB, wp_tup, wp_lst, wp_seq, wp_ret, wp_sNil, wp_set, wp_sIf, wp_potC, wp_potSetC, potsW_0, potsW_1, potsW_2, setW_0, setW_2, isPW_p, blW_bl, owp_some, varW_d, varW_l, varW_k, initP, initS, S.put, owp_cmp, owp_add, owp_sub, owp_mul, owp_fdiv, owp_mod, owp_pow, owp_int, owp_intB, owp_tup, owp_lst, List.length_cons, List.length_nil, List.map_cons, List.map_nil, List.cons_append, List.nil_append, List.append_nil, List.getElem?_cons_zero, List.getElem?_cons_succ, List.set_cons_zero, List.set_cons_succ, List.replicate_succ, List.replicate_zero, Nat.reduceAdd, Nat.reduceSub, Rv.wp_ok, Rp.wp_ok, wp_yes, wp_dNew, wp_ifT, wp_pop, wp_self, wp_sSelf, pobjW_obj, wp_rdU, rdW_rd, pkW_rd, wp_peek, wp_peekT, wp_rdPut, wp_methP, tlW_tup, wp_star, wp_setIx, wp_lenX, llW_l, llW_d, wp_atL, owp_bTup, owp_bCons, owp_bNil, owp_bName, owp_eqII, owp_neII, owp_eqSS, owp_neSS, owp_eqNS, owp_isN, owp_notN, owp_ixL0, owp_ixL1, owp_ixL2, owp_ixL3, owp_ixT0, owp_ixT1, owp_iterL, owp_iterT, owp_seqL, owp_addL, owp_addT, owp_addS, owp_lenT, owp_tupleL, owp_tupleT, owp_din, owp_dnotin, owp_isi, owp_neg, owp_keys, owp_values, owp_items, owp_lenK, owp_tupK, LVd_l, LVd_k, S.wipe, S.back, wipeE, restE, Bool.not_true, Bool.not_false, true_implies, false_implies, reduceCtorEq, true_and, and_true, Nat.reduceLeDiff, lore_units, lore_first, lore_rows, strOk_lit, owp_keyS, and_self, beq_iff_eq, beq_eq_false_iff_ne, decide_eq_true_eq, decide_eq_false_iff_not, wp_noEx, pg_text, pg_units, pg_rows, pg_ends, pg_weights, isa_it, isa_ii, isa_ib, isa_ss, isN_nm, isN_non, isN_str, isN_int, keys_kD, sum_cD])
theorem near_wp {Q : D → Bw → Prop} (t : Tr ns sh) (hq : PotOk n q) (hn : n + 40 < 100000) (h0 : ∀ k, 0 ≤ c k) (h1 : ∀ k, c k ≤ 80) (hQ : ∀ (cs : List (Nat → Int)) q', (∀ c ∈ cs, CtW sh c) → cs.length ≤ 20 → PotOk (n + 40) q' → Q (.lst (cs.map (cD sh))) (.pot q')) : (m_l_near_counts (.pot q) [cD sh c]).wp Q := by
  unfold m_l_near_counts g_l_near_counts
  refine defP_of rfl ?_
  have l6 := (shapes_ends sh t.hsh)
  have sc : ∀ k, small (c k) = true := fun k => small_of (by have := h0 k; have := h1 k; omega)
  try walk_at "z0"
  rw [show owp (iterD (cD sh c)) = owp (some ((List.range (endsI sh).length).map fun k => D.int (c k))) from rfl, owp_some]
  refine ⟨by simp; omega, comp_all (fun k => .int (7 * c k)) (fun i hi => ?_) ?_⟩
  · try walk_at "z0"
    simp [sc]
  try walk_at "z0"
  rw [show owp (iterD (cD sh c)) = owp (some ((List.range (endsI sh).length).map fun k => D.int (c k))) from rfl, owp_some]
  refine ⟨by simp; omega, comp_all (fun k => .int (1000000 * c k)) (fun i hi => ?_) ?_⟩
  · try walk_at "z0"
    refine ⟨⟨by decide, by decide, ?_⟩, ?_, ?_⟩
    · exact Nat.lt_of_lt_of_le (show (10 : Int).natAbs < 2 ^ 4 by decide) (Nat.pow_le_pow_right (by decide) (by decide))
    · simp [sc]
    · rfl
  try walk_at "z0"
  rw [tupd_cD, tupd_cD]
  refine ⟨⟨by decide, by decide⟩, ?_⟩
  refine forL_inv (fun i s => ∃ (cs : List (Nat → Int)) (q' : Pot) (a b d : Option LV), (∀ c ∈ cs, ∀ k, 0 ≤ c k ∧ c k ≤ 100000000) ∧ cs.length = 3 + i ∧ PotOk (n + 2 * i) q' ∧ s = ⟨[some .p, some (.d (cD sh c)), some (.l (cs.map (cD sh))), a, b, d, none, none], .pot q'⟩) ⟨[c, fun k => 7 * c k, fun k => 1000000 * c k], q, none, none, none, fun c' hc' k => ?_, rfl, hq, rfl⟩ ?_ ?_
  · have := h0 k
    have := h1 k
    simp only [List.mem_cons, List.not_mem_nil, or_false] at hc'
    rcases hc' with rfl | rfl | rfl <;> (try dsimp only) <;> omega
  · rintro i d s hd ⟨cs, q', a, b, d', hcs, hl, hq', rfl⟩
    have hi : i < 4 := by
      have := (List.getElem?_eq_some_iff.mp hd).1
      simpa [rangeD] using this
    try walk_at "z0"
    rw [show owp (lenD [cD sh c]) = owp (some (D.int ((endsI sh).length : Nat))) from by simp [cD, lenD], owp_some]
    refine take_wp hq' (by omega) (by omega) (by omega) fun r q1 r0 r1 hq1 => ?_
    obtain ⟨j, rfl⟩ : ∃ j : Nat, r = j := ⟨r.toNat, by omega⟩
    have hj : j < (endsI sh).length := by omega
    try walk_at "z0"
    refine of_wp hq1 (by omega) (by simp) (by simp) fun x hx q2 hq2 => ?_
    obtain ⟨z, rfl, z0, z1⟩ : ∃ z : Int, x = .int z ∧ -1 ≤ z ∧ z ≤ 5 := by
      simp only [List.mem_cons, List.not_mem_nil, or_false] at hx
      rcases hx with rfl | rfl | rfl | rfl
      · exact ⟨_, rfl, by decide, by decide⟩
      · exact ⟨_, rfl, by decide, by decide⟩
      · exact ⟨_, rfl, by decide, by decide⟩
      · exact ⟨_, rfl, by decide, by decide⟩
    try walk_at "z0"
    have e1 : slD (cD sh c) none (some (j : Nat)) = some (.tup (((List.range (endsI sh).length).map fun k => D.int (c k)).take j)) := by
      show some (D.tup (cutD _ none (some (j : Nat)))) = _
      rw [cut_take (by simp; omega)]
    have e2 : slD (cD sh c) (some ((j : Nat) + 1 : Int)) none = some (.tup (((List.range (endsI sh).length).map fun k => D.int (c k)).drop (j + 1))) := by
      show some (D.tup (cutD _ (some ((j + 1 : Nat) : Int)) none)) = _
      rw [cut_drop (by simp; omega)]
    have e3 : ixD (cD sh c) (.int (j : Nat)) = some (.int (c j)) := by
      show atI ((List.range (endsI sh).length).map fun k => D.int (c k)) (j : Nat) = _
      rw [atI_nat]
      simp [hj]
    rw [e1, e3]
    try walk_at "z0"
    rw [show owp (max2D [.int 0, .int (c j + z)]) = owp (some (.int (if 0 < c j + z then c j + z else 0))) from by simp [max2D]]
    try walk_at "z0"
    rw [e2]
    try walk_at "z0"
    rw [cut_set hj]
    have e4 : (List.range (endsI sh).length).map (fun k => if k = j then D.int (if 0 < c j + z then c j + z else 0) else D.int (c k)) = (List.range (endsI sh).length).map fun k => D.int ((fun k => if k = j then (if 0 < c j + z then c j + z else 0) else c k) k) := by
      refine List.map_congr_left fun k _ => ?_
      dsimp only
      split <;> rfl
    rw [e4, tupd_cD]
    refine ⟨by simp; omega, by simp; omega, by simp; omega, cs ++ [fun k => if k = j then (if 0 < c j + z then c j + z else 0) else c k], q2, _, _, _, fun c' hc' k => ?_, by simp; omega, hq2.mono (by omega), by rw [List.map_append]; rfl⟩
    rcases List.mem_append.mp hc' with h | h
    · exact hcs c' h k
    · rw [List.mem_singleton.mp h]
      have := h0 k
      have := h1 k
      have := h0 j
      have := h1 j
      dsimp only
      repeat' split
      all_goals omega
  · rintro s ⟨cs, q', a, b, d', hcs, hl, hq', rfl⟩
    have hl : cs.length = 7 := by simpa [rangeD] using hl
    replace hq' : PotOk (n + 8) q' := by simpa [rangeD] using hq'
    try walk_at "z0"
    rw [show owp (iterD (cD sh c)) = owp (some ((List.range (endsI sh).length).map fun k => D.int (c k))) from rfl, owp_some]
    refine ⟨by simp; omega, comp_draw (fun k r => 0 ≤ r ∧ r ≤ 100000000) hq' (fun i hi q1 hq1 => ?_) fun c1 q1 g1 g2 hq1 => ?_⟩
    · try walk_at "z0"
      refine ⟨by simp [sc], ?_⟩
      refine take_wp hq1 (by omega) (by omega) (by omega) fun r q2 r0 r1 hq2 => ?_
      try walk_at "z0"
      have := h0 i
      have := h1 i
      exact ⟨_, q2, rfl, ⟨by omega, by omega⟩, hq2, rfl⟩
    try walk_at "z0"
    rw [tupd_cD]
    rw [show owp (iterD (cD sh c)) = owp (some ((List.range (endsI sh).length).map fun k => D.int (c k))) from rfl, owp_some]
    refine ⟨by simp; omega, by simp; omega, comp_draw (fun k r => 0 ≤ r ∧ r ≤ 100000000) hq1 (fun i hi q2 hq2 => ?_) fun c2 q2 g3 g4 hq2 => ?_⟩
    · try walk_at "z0"
      refine take_wp hq2 (by omega) (by omega) (by omega) fun r q3 r0 r1 hq3 => ?_
      try walk_at "z0"
      exact ⟨_, q3, rfl, ⟨by omega, by omega⟩, hq3, rfl⟩
    try walk_at "z0"
    rw [tupd_cD]
    have e5 : cs.map (cD sh) ++ [cD sh c1] ++ [cD sh c2] = (cs ++ [c1, c2]).map (cD sh) := by simp
    rw [e5]
    refine ⟨by simp; omega, by simp; omega, comp_idx (fun c => decide (totI sh c > 0)) (cD sh) (fun c' hc' => ?_) ?_⟩
    · try walk_at "z0"
      exact ⟨fun _ => trivial, fun _ => trivial⟩
    · try walk_at "z0"
      refine hQ _ q2 (fun c' hc' => ?_) ?_ (hq2.mono (by omega))
      · obtain ⟨m1, m2⟩ := List.mem_filter.mp hc'
        have bb : ∀ k, 0 ≤ c' k ∧ c' k ≤ 100000000 := by
          rcases List.mem_append.mp m1 with m3 | m3
          · exact hcs c' m3
          · simp only [List.mem_cons, List.not_mem_nil, or_false] at m3
            intro k
            by_cases hk : k < (endsI sh).length
            · rcases m3 with rfl | rfl
              · exact g1 k hk
              · exact g3 k hk
            · rcases m3 with rfl | rfl
              · rw [g2 k hk]
                omega
              · rw [g4 k hk]
                omega
        exact CtOk.w (B := 100000000) t ⟨fun k => (bb k).1, fun k => (bb k).2, by simpa using m2⟩ (by decide)
      · have := List.length_filter_le (fun c => decide (totI sh c > 0)) (cs ++ [c1, c2])
        simp only [List.length_append, List.length_cons, List.length_nil] at this
        omega
end
theorem owp_isB {a b : Bool} {Q : D → Prop} : owp (isBD (.bl a) (.bl b)) Q = Q (.bl (decide (a = b))) := rfl
local macro_rules | `(tactic| walk_at "z0") => `(tactic| simp only [wp_cal, wp_calP, calPW_p, wp_frz, wp_mkL, wp_mk, wp_drop, wp_asg, wp_iter, wp_for, wp_comp, wp_part, wp_noPart, intW_int, wp_sl, wp_and, wp_or, wp_not, wp_chain, strW_str, wp_s1, wp_s0, twoW_two, wp_par, wp_parMV, wp_parVM, wp_parMM, wp_rng1, owp_rng, wp_zip, owp_zipL, owp_zipT, wp_enum2, owp_enum2, wp_mkO, lW_l, kW_k, oneW_one, lstW_lst, wp_app, wp_ext, wp_dput, wp_opR, wp_opL, wp_CBO, objW_obj, wp_prop, wp_meth, bobjW_obj, wp_new, dW_d, wp_varP, wp_pureR, wp_pairs0, wp_pairs, wp_disp, owp_lenL, wp_popAt, wp_C, wp_var, wp_op, wp_un, wp_test, wp_if, wp_notT, wp_andT, wp_orT, wp_nil, wp_cons, wp_CB, wp_tup, wp_lst, wp_seq, wp_ret, wp_sNil, wp_set, wp_sIf, wp_potC, wp_potSetC, potsW_0, potsW_1, potsW_2, setW_0, setW_2, isPW_p, blW_bl, owp_some, varW_d, varW_l, varW_k, initP, initS, S.put, owp_cmp, owp_add, owp_sub, owp_mul, owp_fdiv, owp_mod, owp_pow, owp_int, owp_intB, owp_tup, owp_lst, List.length_cons, List.length_nil, List.map_cons, List.map_nil, List.cons_append, List.nil_append, List.append_nil, List.getElem?_cons_zero, List.getElem?_cons_succ, List.set_cons_zero, List.set_cons_succ, List.replicate_succ, List.replicate_zero, Nat.reduceAdd, Nat.reduceSub, Rv.wp_ok, Rp.wp_ok, wp_yes, wp_dNew, wp_ifT, wp_pop, wp_self, wp_sSelf, pobjW_obj, wp_rdU, rdW_rd, pkW_rd, wp_peek, wp_peekT, wp_rdPut, wp_methP, tlW_tup, wp_star, wp_setIx, wp_lenX, llW_l, llW_d, wp_atL, owp_bTup, owp_bCons, owp_bNil, owp_bName, owp_eqII, owp_neII, owp_eqSS, owp_neSS, owp_eqNS, owp_isN, owp_notN, owp_ixL0, owp_ixL1, owp_ixL2, owp_ixL3, owp_ixT0, owp_ixT1, owp_iterL, owp_iterT, owp_seqL, owp_addL, owp_addT, owp_addS, owp_lenT, owp_tupleL, owp_tupleT, owp_din, owp_dnotin, owp_isi, owp_neg, owp_keys, owp_values, owp_items, owp_lenK, owp_tupK, LVd_l, LVd_k, S.wipe, S.back, wipeE, restE, Bool.not_true, Bool.not_false, true_implies, false_implies, reduceCtorEq, true_and, and_true, Nat.reduceLeDiff, lore_units, lore_first, lore_rows, strOk_lit, owp_keyS, and_self, beq_iff_eq, beq_eq_false_iff_ne, decide_eq_true_eq, decide_eq_false_iff_not, wp_noEx, pg_text, pg_units, pg_rows, pg_ends, pg_weights, isa_it, isa_ii, isa_ib, isa_ss, isN_nm, isN_non, isN_str, isN_int, keys_kD, sum_cD])
theorem right_wp {n : Nat} {q : Pot} {Q : D → Bw → Prop} (hq : PotOk n q) (hn : n + 300 < 100000) (h : ∀ q', PotOk (n + 300) q' → Q (.bl true) (.pot q')) : (m_l_right (.pot q) []).wp Q := by
  unfold m_l_right g_l_right
  refine defP_of rfl ?_
  try walk_at "z0"
  rw [wide_eq]
  try walk_at "z0"
  refine of_wp hq (by omega) (by simp) (by simp) fun x hx q0 hq0 => ?_
  obtain ⟨most, m0, m1, rfl⟩ : ∃ most : Int, 2 ≤ most ∧ most ≤ 100 ∧ D.int most = x := by
    simp only [List.mem_cons, List.not_mem_nil, or_false] at hx
    rcases hx with rfl | rfl | rfl | rfl <;> exact ⟨_, by decide, by decide, rfl⟩
  refine lore_wpC hq0 (by omega) m0 m1 (by decide) (by decide) fun u how ns sh rs c q1 ok hc hs hq1 => ?_
  have t := ok.t
  try walk_at "z0"
  refine bent_wp hq1 (by omega) ok fun rs' q2 ok2 hq2 => ?_
  try walk_at "z0"
  have hc8 : CtW sh c := hc.w t (by decide)
  refine forL_inv (fun i s => ∃ (q' : Pot) (a b : Option LV), PotOk (n + 205 + 40 * i) q' ∧ s = ⟨[some .p, some (.d (loreD (.tup [.int u, .str how]) ns sh rs)), some (.d (cD sh c)), a, b, none], .pot q'⟩) ⟨q2, none, none, hq2, rfl⟩ ?_ ?_
  · rintro i d s hd ⟨q', a, b, hq', rfl⟩
    have hi : i < 2 := by
      have := (List.getElem?_eq_some_iff.mp hd).1
      simpa using this
    obtain ⟨rsx, rfl, okx⟩ : ∃ rsx, d = loreD (.tup [.int u, .str how]) ns sh rsx ∧ LoreOk u how ns sh rsx := by
      match i, hi, hd with
      | 0, _, hd =>
        cases hd
        exact ⟨rs, rfl, ok⟩
      | 1, _, hd =>
        cases hd
        exact ⟨rs', rfl, ok2⟩
    try walk_at "z0"
    rw [text_eq okx]
    try walk_at "z0"
    refine page_wp okx ⟨rfl, ?_⟩
    rw [pg_fold]
    try walk_at "z0"
    refine near_wp t hq' (by omega) hc.c0 (fun k => Int.le_trans (hc.c1 k) (by decide)) fun cs q3 hcs hl hq3 => ?_
    try walk_at "z0"
    refine ⟨by simp; omega, comp_all (fun _ => .bl true) (fun c' hc' => ?_) ?_⟩
    · try walk_at "z0"
      rw [right_of_eq okx (hcs c' hc')]
      try walk_at "z0"
    · rw [allD_map]
      try walk_at "z0"
      simp only [List.all_eq_true, implies_true, Bool.not_true, show (cs.all fun _ => true) = true from by simp]
      try walk_at "z0"
      exact ⟨q3, _, _, hq3.mono (by omega), rfl⟩
  · rintro s ⟨q', a, b, hq', rfl⟩
    try walk_at "z0"
    rw [text_eq ok]
    try walk_at "z0"
    refine page_wp ok ⟨rfl, ?_⟩
    rw [pg_fold]
    try walk_at "z0"
    refine table_wp ok hc8 ⟨rfl, ?_⟩
    rw [tb_fold]
    refine prop1_tb tb_fits_eq ?_
    rw [hs.fits, owp_isB]
    try walk_at "z0"
    exact h q' (hq'.mono (by simp))

end Ak
namespace Ak
open PySem PySem.Spec PyProof.Rows L2
/-! ### the walk of readings -/
local macro_rules | `(tactic| walk_at "go1") => `(tactic| (first
  | with_reducible refine w_seq ?_ | with_reducible refine w_next ?_ | with_reducible refine w_set ?_ | with_reducible refine w_asgS ?_ | with_reducible refine w_ret ?_ | with_reducible refine w_drop ?_ | with_reducible refine w_ifS ?_
  | with_reducible refine w_op ?_ | with_reducible refine w_un ?_ | ((with_reducible apply w_var); (· exact rfl)) | with_reducible refine w_c ?_
  | with_reducible refine w_add ?_ | with_reducible refine w_sub ?_ | with_reducible refine w_lt ?_ | with_reducible refine w_le ?_ | with_reducible refine w_gt ?_ | with_reducible refine w_ge ?_ | with_reducible refine w_neg ?_ | with_reducible refine w_isN ?_ | with_reducible refine w_notN ?_
  | ((with_reducible refine w_eq ?_ ?_); (· exact rfl)) | ((with_reducible refine w_ne ?_ ?_); (· exact rfl))
  | with_reducible refine w_test ?_ | with_reducible refine w_B ?_ | with_reducible refine w_or ?_ | with_reducible refine w_and ?_ | with_reducible refine w_not ?_ | with_reducible refine w_andV ?_ | with_reducible refine w_orV ?_ | with_reducible refine w_notV ?_
  | with_reducible refine w_ifE ?_ | with_reducible refine w_chain ?_ | with_reducible refine w_cb ?_ | with_reducible refine w_nil ?_ | with_reducible refine w_cons ?_ | with_reducible refine w_tup ?_ | with_reducible refine w_lst ?_ | with_reducible refine w_call ?_
  | with_reducible refine w_int1 ?_ | with_reducible refine w_abs ?_ | with_reducible refine w_max2 ?_ | with_reducible refine w_min2 ?_
  | with_reducible refine w_mknx ?_ | with_reducible refine w_mkrt ?_ | with_reducible refine w_mkbk ?_ | with_reducible refine w_mkct ?_ | with_reducible refine w_ifT ?_ | with_reducible refine w_ifF ?_ | with_reducible refine w_ifNT ?_ | with_reducible refine w_ifNF ?_
  | with_reducible refine w_lc ?_ | with_reducible refine w_lrg ?_ | with_reducible refine w_rg1 ?_ | with_reducible refine w_rg2 ?_ | with_reducible refine w_exI ?_ | with_reducible refine w_exI2 ?_
  | with_reducible refine w_sl ?_ | with_reducible refine w_part ?_ | with_reducible refine w_noPart ?_ | with_reducible refine w_lcE ?_ | with_reducible refine w_lcZ ?_ | with_reducible refine w_yes ?_
  | with_reducible refine w_bl ?_ | with_reducible refine w_asgT ?_ | with_reducible refine w_gcons ?_ | with_reducible refine w_gnil ?_ | with_reducible refine w_par ?_ | with_reducible refine w_pair ?_
  | ((with_reducible refine w_ixL (v := ?vv) (sqL (by assumption)) ?ee ?_); (case ee => exact rfl)) | ((with_reducible refine w_ixT (v := ?vv) (sqT (by assumption)) ?ee ?_); (case ee => exact rfl))
  | ((with_reducible refine w_ixL (v := ?vv) (by assumption) ?ee ?_); (case ee => exact rfl)) | ((with_reducible refine w_ixT (v := ?vv) (by assumption) ?ee ?_); (case ee => exact rfl))
  | ((with_reducible refine w_ifDT ?_ ?_); (· first | omega | decide +kernel)) | ((with_reducible refine w_ifDF ?_ ?_); (· first | omega | decide +kernel | exact ne_IS | exact ne_SI | exact ne_IN | exact ne_SN | exact ne_RN))
  | ((with_reducible refine w_mod ?_ ?_); (· omega)) | ((with_reducible refine w_fdiv ?_ ?_ ?_); (· omega); (· omega))
  | ((with_reducible refine w_mulL ?_ ?_ ?_); (· omega); (· omega)) | ((with_reducible refine w_mulR ?_ ?_ ?_); (· omega); (· omega))
  | with_reducible refine w_lenL (sqL (by assumption)) ?_ | with_reducible refine w_lenL (by assumption) ?_ | with_reducible refine w_lenT (sqT (by assumption)) ?_ | with_reducible refine w_lenT (by assumption) ?_))
local macro_rules | `(tactic| walk_at "go") => `(tactic| repeat walk_at "go1")
/-! ### the law's own loop over its cells; tables may grow -/
theorem PotL.mono {n m : Nat} {xs : List V} (h : PotL n xs) (le : n ≤ m) : PotL m xs := by
  obtain ⟨a, b, c, e, h1, h2, h3, h4, h5⟩ := h
  exact ⟨a, b, c, e, h1, h2, h3, h4, by omega⟩
theorem KBut.trans {p : Addr} {H1 H2 H3 : Hp} (a : KBut p H1 H2) (b : KBut p H2 H3) : KBut p H1 H3 := fun c o nc hc => by
  obtain ⟨o2, h2, e2⟩ := a c o nc hc
  obtain ⟨o3, h3, e3⟩ := b c o2 nc h2
  refine ⟨o3, h3, fun nt => ?_⟩
  have e := e2 nt
  subst e
  exact e3 nt
theorem Kept.kbut {p : Addr} {H H' : Hp} (k : Kept H H') : KBut p H H' := fun c o _ hc => k c o hc
/-- a comprehension over a range whose turns change what stands at p -/
theorem w_lcRpK {σ : L2.St} {H : Hp} {Q : VK} {p : Addr} {k n : Nat} {te : TE} {tA : TA} (Pt : Nat → Hp → Prop) (hA : ∀ R : List V → Hp → Prop, R [.int n] H → tA σ H R) (hn : n ≤ 1000) (hp : ∃ o, H p = some o) (h0 : ∀ D H', H D = none → Same H H' → Pt 0 H')
    (step : ∀ i H' (Nx : VK), i < n → Pt i H' → (∀ H3, KBut p H' H3 → Pt (i + 1) H3 → Nx (.bl true) H3) → te ((wipe σ [k]).set k (some (.int (i : Int)))) H' Nx)
    (keep : ∀ i H' D xs acc, H' D = some (.lst xs) → D ≠ p → Pt i H' → Pt i (upd H' D (.lst acc)))
    (hw : ∀ i : Int, wipe ((wipe σ [k]).set k (some (.int i))) [k] = wipe σ [k])
    (q : ∀ D H' ys, H D = none → KBut p H H' → Pt n H' → H' D = some (.lst ys) → (∀ (i : Nat) (y : V), ys[i]? = some y → y = .bl true) → Q (.ref D) H') : tLc (iRng1 tA) (gName k) tYes te [k] σ H Q := by
  refine hA _ ⟨(n : Int), rfl, by omega, by omega, fun D hD => ?_⟩
  have e : ((n : Int)).toNat = n := by omega
  rw [e]
  obtain ⟨o, hpo⟩ := hp
  have hDp : D ≠ p := fun z => by
    rw [z, hpo] at hD
    cases hD
  refine lc_range (lo := 0) (n := n) (fun i H' => KBut p H H' ∧ Pt i H' ∧ ∃ acc, H' D = some (.lst acc) ∧ acc.length = i ∧ ∀ y ∈ acc, y = V.bl true) ⟨(Kept.of (same_new hD)).kbut, h0 D _ hD (same_new hD), [], upd_same, rfl, fun y hy => by cases hy⟩ (fun i H' hi h => ?_) (fun H' h => ?_)
  · obtain ⟨b1, pt, acc, hacc, hlen, hall⟩ := h
    rw [Int.zero_add]
    refine ⟨hw _, step i H' _ hi pt (fun H3 b3 pt3 => ?_)⟩
    · have hacc3 : H3 D = some (.lst acc) := by
        obtain ⟨o3, h3, e3⟩ := b3 _ _ hDp hacc
        rw [h3, e3 (fun _ z => nomatch z)]
      refine ⟨acc, hacc3, Nat.lt_of_le_of_lt (show acc.length ≤ 1000 by omega) (small1000 (Nat.le_refl _)), ?_, keep _ _ _ _ _ hacc3 hDp pt3, acc ++ [.bl true], upd_same, by simp [hlen], fun y hy => ?_⟩
      · intro c u nc hc
        by_cases hcD : c = D
        · rw [hcD, hD] at hc
          cases hc
        · rw [upd_ne hcD]
          exact (b1.trans b3) c u nc hc
      · rcases List.mem_append.mp hy with hy | hy
        · exact hall y hy
        · simpa using hy
  · obtain ⟨b1, pt, acc, hacc, hlen, hall⟩ := h
    exact q D H' acc hD b1 pt hacc (fun i y hy => hall y (List.mem_of_getElem? hy))
def ForA (K : PySem.W.Frag) (x : V) (g : TG) (tb : TS) (D : Ends) (σ : L2.St) (H : Hp) : Prop := tFor (iList K (tC x)) g tb D σ H
theorem w_forA {K : PySem.W.Frag} {σ : L2.St} {H : Hp} {D : Ends} {tl : TE} {g : TG} {tb : TS} (h : tl σ H fun x H1 => ForA K x g tb D σ H1) : tFor (iList K tl) g tb D σ H := h
def spRightN : Sp := fun vs H Q _ => ∃ n p ys, vs = [.ref p] ∧ H p = some (.lst ys) ∧ PotL n ys ∧ Sub mkF H ∧ n + 300 < 100000 ∧ ∀ H' ys', KBut p H H' → Sub mkF H' → H' p = some (.lst ys') → PotL (n + 300) ys' → Q (.bl true) H'
theorem spRightN_of {K : PySem.W.Frag} {m : Bw → List D → Rp} (h : ∀ (n : Nat) (q : Pot), PotOk n q → n + 300 < 100000 → ∃ q', m (.pot q) [] = .ok (.bl true) (.pot q') ∧ PotOk (n + 300) q') {vs : List V} {H : Hp} {Q : VK} {E : XK} (w : spRightN vs H Q E) : spP K m vs H Q E := by
  obtain ⟨n, p, ys, rfl, hp, ⟨a, b, c, rfl, ha, hb, hb2, hc, hc2⟩, sub, hn, w⟩ := w
  obtain ⟨q', e, ok⟩ := h n ⟨a, b, c⟩ ⟨ha, hb, hb2, hc, hc2⟩ hn
  refine ⟨mkF, ⟨p, []⟩, .pot ⟨a, b, c⟩, [], [], rfl, sub, fun z hz => ?_, ⟨rfl, hp⟩, .nil, ?_⟩
  · rcases hz with rfl | hz
    · exact mkF_no sub hp
    · cases hz
  rw [e]
  intro v H' F' ex bo dv
  have ev := dv.isBl
  subst ev
  exact w H' _ (fun b o ne ho => ex.keep b o ho fun z => z.elim ne fun z => nomatch z) (ex.sub.less ex.le fun p hp => mkF_at hp) bo.2 ⟨_, _, _, rfl, ok.a0, ok.b0, ok.b1, ok.c0, ok.c1⟩
def spLaw (K : PySem.W.Frag) : Sp := fun vs H Q _ => ∃ (a : Addr) (ns : List Int), vs = [.ref a] ∧ SqL K H a (ns.map V.int) ∧ Sub mkF H ∧ ∀ H', Q (.bl true) H'
section
variable {P : Program} {w : World} {K : PySem.W.Frag} {mg : Str → Option Value} {base : Heap}
theorem right_n (n : Nat) (q : Pot) (hq : PotOk n q) (hn : n + 300 < 100000) : ∃ q', m_l_right (.pot q) [] = .ok (.bl true) (.pot q') ∧ PotOk (n + 300) q' := by
  have key := right_wp (Q := fun d p => d = .bl true ∧ ∃ q', p = .pot q' ∧ PotOk (n + 300) q') hq hn fun q' hq' => ⟨rfl, q', rfl, hq'⟩
  cases e : m_l_right (.pot q) [] with
  | ok d p' =>
    rw [e] at key
    obtain ⟨rfl, q', rfl, hq'⟩ := key
    exact ⟨q', rfl, hq'⟩
  | _ =>
    rw [e] at key
    exact key.elim
theorem ok_law (T : Txt K mg) {fd : FuncData} (F : FnP K "law" s_law (He.ga K "law") fd) : FnG P w K mg base 18 (He.ga K "law") fd ["_law_script"] (spLaw K) := by
  have C_l_cells := C_l_cells (P := P) (w := w) (base := base) T
  have C_l_pot := C_l_pot (P := P) (w := w) (base := base) T
  have C_l_right := (C_l_right (P := P) (w := w) (base := base) T).weak fun _ _ _ _ z => spRightN_of right_n z
  refine okG F sc_law (fun vs H Q E h => ?_) (fun cdv A outer s H vs Q E hr hgd h => ?_)
  · obtain ⟨p, xs, rfl, _⟩ := h
    rfl
  · obtain ⟨a, ns, rfl, hS, sub, q⟩ := h
    refine ⟨_, PSs.nox (pss_cons (ps_for PassesOwn.never rfl (xi_list (K := K) rfl (pe_cal C_l_cells (hr.mono (by decide)) hgd (by rfl) (pa_cons (pv 0) (pa_cons pe_int pa_nil)))) (pg_name (i := 1) sc_law.nd rfl (.inl rfl))
    (pss_cons (ps_set (i := 2) sc_law.nd rfl (.inr rfl) (pe_cal C_l_pot (hr.mono (by decide)) hgd (by rfl) (pa_cons (pv 0) (pa_cons (pv 1) pa_nil))))
    (pss_one (ps_if (pt_not (pt_val (pe_callB (x_all (K := K) rfl rfl) (by rfl) T.z_all (by decide +kernel) (pa_cons (pe_lc (own := [("_law_lap", 3)]) (g := gName 3) rfl sc_law.nd (pi_range1 (by rfl) T.z_range (pa_cons pe_int pa_nil)) (blkOk_by (own := [("_law_lap", 3)]) (N := ["_law_script", "_law_place", "_law_pot_here", "_law_lap"]) (sc := defScope s_law) (by decide +kernel)) (fun _ _ _ _ _ => (pg_name (i := 3) sc_law.nd rfl (.inl rfl))) (fun _ _ _ _ _ => pts_nil) (fun _ _ _ _ _ => (pe_cal C_l_right (hr.mono (by decide)) hgd (by rfl) (pa_cons (pv 2) pa_nil)))) pa_nil)))) (pss_one (ps_ret pe_bl)) pss_nil))))
    (pss_one (ps_ret pe_bl))), ?_⟩
    try dsimp only [cxOf, Cx.nox, Cx.wish]
    rw [st_law]; walk_at "go"
    refine w_forA ?_
    walk_at "go"
    refine ⟨a, _, ns, rfl, hS, by decide, by decide, fun l H1 n nl s1 hn hl => ?_⟩
    have hz : (rgV 0 n).length ≤ 1000 := by
      rw [rgV_length]
      omega
    refine ⟨l, rfl, ⟨_, sqL hl⟩, for_list (K := K) (a := l) (xs := rgV 0 n) (fun _ σ' H' => ∃ y1 y2 y3, σ' = [some (.ref a), y1, y2, y3] ∧ Kept H1 H' ∧ Sub mkF H') ⟨none, none, none, rfl, Kept.refl, sub.same s1⟩ (fun i σ' H' _ h => ?_) ?_ ?_⟩
    · obtain ⟨_, _, _, _, s2, _⟩ := h
      exact s2.seq (sqL hl)
    · rintro i x σ' H2 hx ⟨y1, y2, y3, rfl, s2, sub2⟩
      obtain ⟨k, rfl, k0, k1⟩ : ∃ k : Int, x = .int k ∧ 0 ≤ k ∧ k ≤ 100 := by
        have hx2 : ((List.range (n - 0).toNat).map fun i => V.int (0 + (i : Nat)))[i]? = some x := hx
        rw [List.getElem?_map] at hx2
        cases e : (List.range (n - 0).toNat)[i]? with
        | none =>
          rw [e] at hx2
          cases hx2
        | some j =>
          rw [e] at hx2
          have hj := List.mem_range.mp (List.mem_of_getElem? e)
          exact ⟨_, (Option.some.inj hx2).symm, by omega, by omega⟩
      show tSeq _ _ _ _ _
      try dsimp only [List.set]
      walk_at "go"
      refine ⟨a, k, ns, rfl, s2.seq (s1.seq hS), k0, k1, fun p H3 ys np s3 hp hP => ?_⟩
      try dsimp only [List.set]
      walk_at "go"
      refine w_lcRpK (p := p) (k := 3) (n := 4) (fun j H' => ∃ zs, H' p = some (.lst zs) ∧ PotL (300 * j) zs ∧ Sub mkF H') (fun R h => h) (by decide) ⟨_, hp⟩ (fun D H' _ s => ⟨ys, s _ _ hp, hP, (sub2.same s3).same s⟩) ?_ ?_ (fun _ => rfl) ?_
      · rintro j H' Nx hj ⟨zs, hz1, hz2, hz3⟩ nx
        walk_at "go"
        refine ⟨300 * j, p, zs, rfl, hz1, hz2, hz3, by omega, fun H4 zs4 b4 sub4 hp4 hP4 => ?_⟩
        exact nx _ b4 ⟨zs4, hp4, hP4.mono (by omega), sub4⟩
      · rintro j H' D xs acc hD1 hD ⟨zs, hz1, hz2, hz3⟩
        exact ⟨zs, by rw [upd_ne (Ne.symm hD)]; exact hz1, hz2, hz3.updN (mkF_no hz3 hD1) (plain_of hD1)⟩
      · rintro D H4 bs nD b4 ⟨zs4, _, _, sub4⟩ hD hy
        walk_at "go"
        refine w_allT (sqL hD) hy ?_
        walk_at "go"
        refine ⟨_, _, _, rfl, fun c o hc => ?_, sub4⟩
        obtain ⟨o2, h2, e2⟩ := s2 c o hc
        have nc : c ≠ p := fun z => by
          rw [z, np] at h2
          cases h2
        obtain ⟨o4, h4, e4⟩ := b4 c o2 nc (s3 _ _ h2)
        refine ⟨o4, h4, fun nt => ?_⟩
        have e := e2 nt
        subst e
        exact e4 nt
    · rintro σ' H2 ⟨y1, y2, y3, rfl, s2, _⟩
      walk_at "go"
      exact q _
end

end Ak
namespace Ak
open PySem PySem.Spec PyProof.Rows L2
set_option maxHeartbeats 0
theorem txt_of {K : PySem.W.Frag} {h : Heap} {mg : Str → Option Value} {w : World} {h2 : Heap} (X : K.In h) (G : h.Ns mainGlobals mg) (cx : SaysP fa fn ex pr w h2 K) : Txt K mg := by
  have c := cx.x.t.d
  have m : ex K = true := cx.x.more
  unfold ex at m
  obtain ⟨m16, u16⟩ := Bool.and_eq_true_iff.mp m
  obtain ⟨m15, u15⟩ := Bool.and_eq_true_iff.mp m16
  obtain ⟨m14, u14⟩ := Bool.and_eq_true_iff.mp m15
  obtain ⟨m13, u13⟩ := Bool.and_eq_true_iff.mp m14
  obtain ⟨m12, u12⟩ := Bool.and_eq_true_iff.mp m13
  obtain ⟨m11, u11⟩ := Bool.and_eq_true_iff.mp m12
  obtain ⟨m10, u10⟩ := Bool.and_eq_true_iff.mp m11
  obtain ⟨m9, u9⟩ := Bool.and_eq_true_iff.mp m10
  obtain ⟨m8, u8⟩ := Bool.and_eq_true_iff.mp m9
  obtain ⟨m7, u7⟩ := Bool.and_eq_true_iff.mp m8
  obtain ⟨m6, u6⟩ := Bool.and_eq_true_iff.mp m7
  obtain ⟨m5, u5⟩ := Bool.and_eq_true_iff.mp m6
  obtain ⟨m4, u4⟩ := Bool.and_eq_true_iff.mp m5
  obtain ⟨m3, u3⟩ := Bool.and_eq_true_iff.mp m4
  obtain ⟨m2, u2⟩ := Bool.and_eq_true_iff.mp m3
  obtain ⟨m1, u1⟩ := Bool.and_eq_true_iff.mp m2
  exact { d_wall := c.def_ 0, g_wall := He.glo_ok X G (c.fact 0), d_is_integer := c.def_ 1, g_is_integer := He.glo_ok X G (c.fact 1), d_is_between := c.def_ 2, g_is_between := He.glo_ok X G (c.fact 2), d_is_tuple := c.def_ 3, g_is_tuple := He.glo_ok X G (c.fact 3), d_is_word := c.def_ 4, g_is_word := He.glo_ok X G (c.fact 4), d_is_name := c.def_ 5, g_is_name := He.glo_ok X G (c.fact 5), d_number_in := c.def_ 6, g_number_in := He.glo_ok X G (c.fact 6), d_divisor_of := c.def_ 7, g_divisor_of := He.glo_ok X G (c.fact 7), d_fraction := c.def_ 8, g_fraction := He.glo_ok X G (c.fact 8), d_is_units := c.def_ 9, g_is_units := He.glo_ok X G (c.fact 9), d_is_share := c.def_ 10, g_is_share := He.glo_ok X G (c.fact 10), d_check_share := c.def_ 11, g_check_share := He.glo_ok X G (c.fact 11), d_rounded := c.def_ 12, g_rounded := He.glo_ok X G (c.fact 12), d_is_right := c.def_ 13, g_is_right := He.glo_ok X G (c.fact 13), d_are_counts := c.def_ 14, g_are_counts := He.glo_ok X G (c.fact 14), d_many_in := c.def_ 15, g_many_in := He.glo_ok X G (c.fact 15), d_do_fit := c.def_ 16, g_do_fit := He.glo_ok X G (c.fact 16), d_share_in := c.def_ 17, g_share_in := He.glo_ok X G (c.fact 17), d_units_in := c.def_ 18, g_units_in := He.glo_ok X G (c.fact 18), d_shares_in := c.def_ 19, g_shares_in := He.glo_ok X G (c.fact 19), d_line_of := c.def_ 20, g_line_of := He.glo_ok X G (c.fact 20), d_ends_beneath := c.def_ 21, g_ends_beneath := He.glo_ok X G (c.fact 21), d_weights_in := c.def_ 22, g_weights_in := He.glo_ok X G (c.fact 22), d_l_pot := c.def_ 23, g_l_pot := He.glo_ok X G (c.fact 23), d_l_take := c.def_ 24, g_l_take := He.glo_ok X G (c.fact 24), d_l_of := c.def_ 25, g_l_of := He.glo_ok X G (c.fact 25), d_l_some := c.def_ 26, g_l_some := He.glo_ok X G (c.fact 26), d_l_cells := c.def_ 27, g_l_cells := He.glo_ok X G (c.fact 27), d_l_names := c.def_ 28, g_l_names := He.glo_ok X G (c.fact 28), d_l_tree := c.def_ 29, g_l_tree := He.glo_ok X G (c.fact 29), d_l_shapes := c.def_ 30, g_l_shapes := He.glo_ok X G (c.fact 30), d_l_units := c.def_ 31, g_l_units := He.glo_ok X G (c.fact 31), d_l_rounded := c.def_ 32, g_l_rounded := He.glo_ok X G (c.fact 32), d_l_is_right := c.def_ 33, g_l_is_right := He.glo_ok X G (c.fact 33), d_l_parts := c.def_ 34, g_l_parts := He.glo_ok X G (c.fact 34), d_l_ends := c.def_ 35, g_l_ends := He.glo_ok X G (c.fact 35), d_l_ends_of := c.def_ 36, g_l_ends_of := He.glo_ok X G (c.fact 36), d_l_weights := c.def_ 37, g_l_weights := He.glo_ok X G (c.fact 37), d_l_number := c.def_ 38, g_l_number := He.glo_ok X G (c.fact 38), d_l_fits := c.def_ 39, g_l_fits := He.glo_ok X G (c.fact 39), d_l_share_of := c.def_ 40, g_l_share_of := He.glo_ok X G (c.fact 40), d_l_lore := c.def_ 41, g_l_lore := He.glo_ok X G (c.fact 41), d_l_bent_lore := c.def_ 42, g_l_bent_lore := He.glo_ok X G (c.fact 42), d_l_line := c.def_ 43, g_l_line := He.glo_ok X G (c.fact 43), d_l_text := c.def_ 44, g_l_text := He.glo_ok X G (c.fact 44), d_l_wide_shapes := c.def_ 45, g_l_wide_shapes := He.glo_ok X G (c.fact 45), d_l_shown_due := c.def_ 46, g_l_shown_due := He.glo_ok X G (c.fact 46), d_l_is_right_of := c.def_ 47, g_l_is_right_of := He.glo_ok X G (c.fact 47), d_l_near_counts := c.def_ 48, g_l_near_counts := He.glo_ok X G (c.fact 48), d_l_right := c.def_ 49, g_l_right := He.glo_ok X G (c.fact 49), d_law := c.def_ 50, g_law := He.glo_ok X G (c.fact 50), g_Table := He.glo_ok X G (c.fact 51), k_Table := He.cls_ok (c.fact 52), n_Table := He.mkr_ok (c.fact 53), a_Table_own_page := He.noat_ok (c.fact 54), a_Table_own_counts := He.noat_ok (c.fact 55), a_Table_own_numbers := He.noat_ok (c.fact 56), a_Table_own_fits := He.noat_ok (c.fact 57), m_Table___init__ := He.meth_ok (c.fact 58), d_Table___init__ := c.def_ 51, m_Table___eq__ := He.meth_ok (c.fact 59), d_Table___eq__ := c.def_ 52, m_Table___getitem__ := He.meth_ok (c.fact 60), d_Table___getitem__ := c.def_ 53, m_Table___iter__ := He.meth_ok (c.fact 61), d_Table___iter__ := c.def_ 54, m_Table___add__ := He.meth_ok (c.fact 62), d_Table___add__ := c.def_ 55, m_Table___mul__ := He.meth_ok (c.fact 63), d_Table___mul__ := c.def_ 56, m_Table___rmul__ := He.meth_ok (c.fact 64), d_Table___rmul__ := c.def_ 57, p_Table_page := cx.prop 0, p_Table_counts := cx.prop 1, p_Table_total := cx.prop 2, p_Table_fits := cx.prop 3, m_Table_share := He.meth_ok (c.fact 65), d_Table_share := c.def_ 58, m_Table_shows := He.meth_ok (c.fact 66), d_Table_shows := c.def_ 59, g_Reading := He.glo_ok X G (c.fact 67), k_Reading := He.cls_ok (c.fact 68), n_Reading := He.mkr_ok (c.fact 69), a_Reading_own_units := He.noat_ok (c.fact 70), a_Reading_own_rows := He.noat_ok (c.fact 71), a_Reading_own_depths := He.noat_ok (c.fact 72), m_Reading___init__ := He.meth_ok (c.fact 73), d_Reading___init__ := c.def_ 60, m_Reading_reads_first := He.meth_ok (c.fact 74), d_Reading_reads_first := c.def_ 61, m_Reading_reads_part := He.meth_ok (c.fact 75), d_Reading_reads_part := c.def_ 62, m_Reading_lowest := He.meth_ok (c.fact 76), d_Reading_lowest := c.def_ 63, g_Page := He.glo_ok X G (c.fact 77), k_Page := He.cls_ok (c.fact 78), n_Page := He.mkr_ok (c.fact 79), a_Page_own_text := He.noat_ok (c.fact 80), a_Page_own_units := He.noat_ok (c.fact 81), a_Page_own_rows := He.noat_ok (c.fact 82), a_Page_own_ends := He.noat_ok (c.fact 83), a_Page_own_weights := He.noat_ok (c.fact 84), m_Page___init__ := He.meth_ok (c.fact 85), d_Page___init__ := c.def_ 64, m_Page___eq__ := He.meth_ok (c.fact 86), d_Page___eq__ := c.def_ 65, m_Page___len__ := He.meth_ok (c.fact 87), d_Page___len__ := c.def_ 66, m_Page___iter__ := He.meth_ok (c.fact 88), d_Page___iter__ := c.def_ 67, m_Page___contains__ := He.meth_ok (c.fact 89), d_Page___contains__ := c.def_ 68, m_Page___getitem__ := He.meth_ok (c.fact 90), d_Page___getitem__ := c.def_ 69, p_Page_text := cx.prop 4, p_Page_units := cx.prop 5, p_Page_parts := cx.prop 6, p_Page_ends := cx.prop 7, m_Page_check_part := He.meth_ok (c.fact 91), d_Page_check_part := c.def_ 70, m_Page_check_above := He.meth_ok (c.fact 92), d_Page_check_above := c.def_ 71, m_Page_beneath := He.meth_ok (c.fact 93), d_Page_beneath := c.def_ 72, m_Page_ends_of := He.meth_ok (c.fact 94), d_Page_ends_of := c.def_ 73, m_Page_with_row := He.meth_ok (c.fact 95), d_Page_with_row := c.def_ 74, m_Page_checked := He.meth_ok (c.fact 96), d_Page_checked := c.def_ 75, m_Page_told := He.meth_ok (c.fact 97), d_Page_told := c.def_ 76, m_Page_told_far := He.meth_ok (c.fact 98), d_Page_told_far := c.def_ 77, c_LETTERS := He.str_ok X G (c.fact 99), c_FIGURES := He.str_ok X G (c.fact 100), c_MOST_LETTERS := He.int_ok X G (c.fact 101), c_MOST_FIGURES := He.int_ok X G (c.fact 102), c_PAIR := He.int_ok X G (c.fact 103), c_NEAR := He.str_ok X G (c.fact 104), c_EVEN := He.str_ok X G (c.fact 105), c_DOWN := He.str_ok X G (c.fact 106), c_UP := He.str_ok X G (c.fact 107), c_HOWS := He.glo_ok X G (c.fact 108), c_NONE := He.str_ok X G (c.fact 109), c_SOME := He.str_ok X G (c.fact 110), c_LEAST_UNITS := He.int_ok X G (c.fact 111), c_MOST_UNITS := He.int_ok X G (c.fact 112), c_MOST_TIMES := He.int_ok X G (c.fact 113), c_FEED := He.str_ok X G (c.fact 114), c_BLANK := He.str_ok X G (c.fact 115), c_IN := He.str_ok X G (c.fact 116), c_ASKED := He.str_ok X G (c.fact 117), c_PART := He.str_ok X G (c.fact 118), c_OF := He.str_ok X G (c.fact 119), c_IS := He.str_ok X G (c.fact 120), c_ALL := He.str_ok X G (c.fact 121), c_MOST_PARTS := He.int_ok X G (c.fact 122), c_MOST_ENDS := He.int_ok X G (c.fact 123), c_MOST_DEPTH := He.int_ok X G (c.fact 124), c_UNITS_WORDS := He.int_ok X G (c.fact 125), c_ASKED_WORDS := He.int_ok X G (c.fact 126), c_PART_WORDS := He.int_ok X G (c.fact 127), c_BOTH_WORDS := He.int_ok X G (c.fact 128), c_UNTOLD := He.glo_ok X G (c.fact 129), c_TAILS := He.glo_ok X G (c.fact 130), z_NotImplemented := He.free_ok X G (c.fact 131), z_TypeError := He.free_ok X G (c.fact 132), z_abs := He.free_ok X G (c.fact 133), z_all := He.free_ok X G (c.fact 134), z_bool := He.free_ok X G (c.fact 135), z_dict := He.free_ok X G (c.fact 136), z_divmod := He.free_ok X G (c.fact 137), z_enumerate := He.free_ok X G (c.fact 138), z_int := He.free_ok X G (c.fact 139), z_isinstance := He.free_ok X G (c.fact 140), z_len := He.free_ok X G (c.fact 141), z_list := He.free_ok X G (c.fact 142), z_max := He.free_ok X G (c.fact 143), z_min := He.free_ok X G (c.fact 144), z_property := He.free_ok X G (c.fact 145), z_range := He.free_ok X G (c.fact 146), z_repr := He.free_ok X G (c.fact 147), z_str := He.free_ok X G (c.fact 148), z_sum := He.free_ok X G (c.fact 149), z_tuple := He.free_ok X G (c.fact 150), z_zip := He.free_ok X G (c.fact 151), w_Table := ownB_ok m1 (He.cls_ok (c.fact 52)), v_Table := isiB_ok u1, e_Table := He.eqO_ok u2, w_Reading := ownB_ok u3 (He.cls_ok (c.fact 68)), v_Reading := isiB_ok u4, w_Page := ownB_ok u5 (He.cls_ok (c.fact 78)), v_Page := isiB_ok u6, e_Page := He.eqO_ok u7, t_HOWS := fun H => He.tupB_ok u8 H, t_UNTOLD := fun H => He.tupB_ok u9 H, i_TAILS := idB_ok u10, r_TAILS_0 := u11, t_TAILS_0 := fun H => tupA_ok u12 H, r_TAILS_2 := u13, t_TAILS_2 := fun H => tupA_ok u14 H, r_TAILS_4 := u15, t_TAILS_4 := fun H => tupA_ok u16 H }
end Ak
open PySem PySem.W PySem.Calls PyProof.Rows
theorem PySem.Challenge.cw_anyasked_k19_whole_what_fits_by_own_look_holds : PySem.Challenge.rw_anyasked_k19_whole_what_fits_by_own_look.Holds := by
  w_on; o_law
  refine HandSHeadRun.head_any (r := OpenLaw.row PySem.Challenge.rw_anyasked_k19_whole_what_fits_by_own_look) (q := view (OpenLaw.row PySem.Challenge.rw_anyasked_k19_whole_what_fits_by_own_look).prog [99]) (H := Ak.hk) (ob := Ak.ob) (M := 40000) (loose := Ak.names) (d := HandSHeadRun.topDef (OpenLaw.row PySem.Challenge.rw_anyasked_k19_whole_what_fits_by_own_look).prog 99) (kwd := []) Ak.ob_eq
    (by kernel_rfl) (fun s => by kernel_rfl) Ak.run (by kernel_rfl) (by kernel_rfl) (by kernel_rfl) (by rfl) (by first | assumption | decide +kernel) (by decide +kernel) ⟨rfl, rfl, rfl, rfl, rfl, by decide +kernel⟩ ?hw ?hc
  case hw => w_witness2
  case hc =>
    refine Ak.walk_G (l := PySem.Challenge.rw_anyasked_k19_whole_what_fits_by_own_look) (n := 63) (k := 18) (x := "_law_script") rfl (by decide) (by kernel_rfl) ⟨rfl, by decide, by decide⟩ ?F
    intro w mg fa h Y G hmg0
    obtain ⟨K, KX, c⟩ := Y
    have hmg : mg ("law" : PySem.Str) = some (.ref fa) := by
      have e : (HandSHeadRun.topDef (OpenLaw.row PySem.Challenge.rw_anyasked_k19_whole_what_fits_by_own_look).prog 99).name = ("law" : PySem.Str) := by kernel_rfl
      rw [← e]
      exact hmg0
    have T := Ak.txt_of KX G c
    have e := hmg.symm.trans T.g_law
    cases e
    obtain ⟨fd, F⟩ := T.d_law
    have b := L2.FunD.bindsA (ps := ["_law_script"]) F fun _ _ _ _ _ _ us hl => match us, hl with | [_], _ => rfl
    exact ⟨K, fd, Ak.spLaw K, KX, fun s v => b s [v] rfl, fun H a ns hl hS => ⟨a, ns, rfl, hS, Ak.mkF_sub (fun p hp => nomatch hp), fun _ => rfl⟩, fun base _ _ => Ak.ok_law T F⟩

