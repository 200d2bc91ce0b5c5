import PyProof.Rows.All
import Wide.All
import OpenK.AllK
import Wide.FinOn
import KE.KStateDown
import Lean
import HandS.ForMost
import HandS.Exc
import HandS.ExcOwn
import HandS.TryOnly
import HandS.Walk
import HandS.TupAny
import HandS.WordsExc
import HandS.Wide
import HandS.WideBits
import HandS.Conv
import HandS.IsInst
import HandS.RaiseMore
import HandS.FStrTup
import HandS.Defaults
import HandS.Head0
import HandS.Head1
import HandS.Head2
import HandS.HeadEnd
import HandS.HeadHook1
import HandS.HeadHook2
import HandS.HeadHook3
import HandS.HeadHook4
import PySem.Challenge.RW_anyasked_k03_whole_each_fraction_by_one
set_option Elab.async false
set_option linter.all false
set_option maxRecDepth 100000
set_option maxHeartbeats 4000000

namespace Ak
open PySem PySem.Spec PyProof.Rows L2
/-! ### defs whose callers repr nothing just now: what is known of the stack -/
structure FnG (P : Program) (w : World) (K : PySem.W.Frag) (mg : Str → Option Value) (base : Heap) (k : Nat) (f : Addr) (fd : FuncData) (ps : List Str) (sp : Sp) : Prop where
  many : ∀ vs H Q E, sp vs H Q E → vs.length = ps.length
  goes : ∀ (A : Around) (outer : List Env) (s : Shared) (H : Hp) (args : Args) (us : List Value) (vs : List V) (Q : VK) (E : XK), Room k A → A.guards = some [] → Env0 P w K mg base A outer s H → BindsTo s fd args (ps.zip us) → Vals vs us → sp vs H Q E →
    codeAny (model P w) A (.call (.ref f) args) (CR (L2.CX P w) outer P w H s Q E) s
theorem FnG.up {P : Program} {w : World} {K : PySem.W.Frag} {mg : Str → Option Value} {base : Heap} {j k : Nat} {f : Addr} {fd : FuncData} {ps : List Str} {sp : Sp} (F : FnG P w K mg base j f fd ps sp) (le : j ≤ k) : FnG P w K mg base k f fd ps sp :=
  ⟨F.many, fun A outer s H args us vs Q E room => F.goes A outer s H args us vs Q E (room.mono le)⟩
section
variable {P : Program} {w : World} {K : PySem.W.Frag} {mg : Str → Option Value} {base : Heap}
theorem okG {x qual : Str} {params : Arguments} {body : List Stmt} {scope : Scope} {dvs : List V} {kws : List (Str × V)} {f : Addr} {fd : FuncData} {N ps : List Str} {k : Nat} {sp : Sp} (F : FunD K x qual params body scope dvs kws f fd) (S : FnScope N ps scope) (many : ∀ vs H Q E, sp vs H Q E → vs.length = ps.length)
    (walk : ∀ (cdv : Value) (A : Around) (outer : List Env) (s : Shared) (H : Hp) (vs : List V) (Q : VK) (E : XK), Room k (A.deeper (envOfC qual scope s.heap.objs.size f cdv)) → A.guards = some [] → sp vs H Q E →
      ∃ t, PSs (cxOf (L2.CX P w) P w K mg base N qual scope f cdv A outer s H E) body t ∧ t { nx := fun _ H' => Q .non H', rt := Q } (L2.start N vs) H) : FnG P w K mg base (k + 1) f fd ps sp := by
  obtain ⟨oc, od, dV, kV, doc, pm, an, cdv, ct, osl, rfl, there, code, _⟩ := F.ex
  refine ⟨many, fun A outer s H args us vs Q E room gd e0 bound rel want => ?_⟩
  have KX : K.In s.heap := e0.mod.kin.keeps fun b o z => (e0.bs b o z).1
  have nolim : s.heap.NoLimit := e0.mod.nolimit.keeps fun b o z => (e0.bs b o z).1
  have kinds : ((ps.zip us).all fun y => scope.names.lookup y.1 == some .local || scope.names.lookup y.1 == some .cell) = true := by
    rw [List.all_eq_true]
    intro y hy
    rcases S.par y.1 (List.of_mem_zip (a := y.1) (b := y.2) hy).1 with z | z
    · rw [z]
      rfl
    · rw [z]
      rfl
  refine Att.call_fn (binds := ps.zip us) KX nolim there code room.depth bound kinds (fun s1 inC => ?_) S.co S.gen S.kind
  obtain ⟨t, runs, goal⟩ := walk cdv A outer s H vs Q E (room.deeper _) gd want
  have J := inv_start (CX := L2.CX P w) (E := E) S room.hd e0 (many _ _ _ _ want) rel inC
  refine wpAny_mono (runs.run [] s1 (L2.start N vs) H _ J goal) (fun fl s2 z => ?_) (fun e s2 z => z)
  cases fl with
  | ret u =>
    obtain ⟨v, σ2, H2, J2, r2, q2⟩ := z
    exact ⟨v, H2, J2.os, J2.bare, J2.base, J2.hok, r2, q2⟩
  | next =>
    obtain ⟨σ2, H2, J2, q2⟩ := z
    exact ⟨.non, H2, J2.os, J2.bare, J2.base, J2.hok, rfl, q2⟩
  | brk =>
    obtain ⟨_, _, _, no⟩ := z
    exact no.elim
  | cont =>
    obtain ⟨_, _, _, no⟩ := z
    exact no.elim
end
/-! ### calls of defs by their names -/
structure Cal (P : Program) (w : World) (K : PySem.W.Frag) (mg : Str → Option Value) (base : Heap) (k : Nat) (x : Str) (ps : List Str) (sp : Sp) : Prop where
  ex : ∃ f fd, FnG P w K mg base k f fd ps sp ∧ mg x = some (.ref f) ∧ PySem.W.keepIn K (.ref f) = true ∧ Binds K fd ps []
section
variable {X : Cx}
theorem runG {k : Nat} {f : Addr} {fd : FuncData} {ps : List Str} {sp : Sp} {pins : List (Addr × Obj)} {σ : L2.St} {H : Hp} {s : Shared} {Q : VK} {E : XK} {us : List Value} {vs : List V} (G : FnG X.prog X.w X.K X.mg X.base k f fd ps sp) (room : Room k X.A) (gd : X.A.guards = some []) (b : Binds X.K fd ps [])
    (px : Passes (L2.CX X.prog X.w) X E) (I : Inv X pins σ H s) (rel : Vals vs us) (want : sp vs H Q E) : wpAny (model X.prog X.w) X.A (call (.ref f) us) (EP X pins σ Q) X.xe s := by
  have hl : us.length = ps.length := rel.length.symm.trans (G.many _ _ _ _ want)
  have bt : BindsTo s fd ⟨us, []⟩ (ps.zip us) := by
    have z := b s us I.kIn (by rw [List.append_nil]; exact hl)
    rw [List.append_nil] at z
    exact z
  refine wpAny_call (codeAny_mono (G.goes X.A X.stack s H ⟨us, []⟩ us vs Q E room gd I.env0 bt rel want) fun out s2 z => ?_)
  match out, z with
  | .error e, z => exact px pins σ H s e s2 I z
  | .ok (.ret u), z => exact I.after z
  | .ok .next, z => exact z.elim
  | .ok .brk, z => exact z.elim
  | .ok .cont, z => exact z.elim
/-- a call whose errors are wanted as E -/
theorem pe_calE {k : Nat} {x : Str} {ps : List Str} {sp : Sp} {E : XK} {e : Expr} {es : List Expr} {t : TA} {p pos : Pos} (px : Passes (L2.CX X.prog X.w) X E) (C : Cal X.prog X.w X.K X.mg X.base k x ps sp) (room : Room k X.A) (gd : X.A.guards = some []) (gl : Gl X x) (args : PA X (e :: es) t)
    (n1 : (x == ("__debug__" : Str)) = false := by decide) (n2 : starEach (e :: es) X.env = (false, eval e X.env) :: starEach es X.env := by rfl) (n3 : (backTo pos (starEach es X.env)).any (·.1) = false := by rfl) :
    PE X (.Call (.Name x p) (e :: es) [] pos) (tCall sp [] E t) := by
  obtain ⟨f, fd, G, at_, kp, b⟩ := C.ex
  refine ⟨fun pins s σ H Q I want => wpAny_Call_Name_kw (ld_glob I gl at_ ?_ n1)⟩
  refine PySem.W.callWith_K (h₀ := X.base) I.ok.mod.kin kp (thn (args.run pos pins s σ H _ I want) fun us s1 z => ?_) n2 n3
  obtain ⟨vs, H1, I1, rel, q⟩ := z
  refine ⟨I1.kIn, runG G room gd b px I1 rel ?_⟩
  have q2 : sp (vs ++ []) H1 Q E := q
  rw [List.append_nil] at q2
  exact q2
theorem pe_cal {k : Nat} {x : Str} {ps : List Str} {sp : Sp} {e : Expr} {es : List Expr} {t : TA} {p pos : Pos} (C : Cal X.prog X.w X.K X.mg X.base k x ps sp) (room : Room k X.A) (gd : X.A.guards = some []) (gl : Gl X x) (args : PA X (e :: es) t)
    (n1 : (x == ("__debug__" : Str)) = false := by decide) (n2 : starEach (e :: es) X.env = (false, eval e X.env) :: starEach es X.env := by rfl) (n3 : (backTo pos (starEach es X.env)).any (·.1) = false := by rfl) :
    PE X (.Call (.Name x p) (e :: es) [] pos) (tCall sp [] E0 t) := pe_calE passL C room gd gl args n1 n2 n3
/-! ### repr of data -/
mutual
theorem dp_noDict {K : PySem.W.Frag} {H : Hp} : ∀ (d : PyData) (v : V), Dp K H v d → d.hasDict = false
  | _, _, .non => rfl
  | _, _, .bl _ => rfl
  | _, _, .int _ => rfl
  | _, _, .str _ => rfl
  | _, _, .lst _ h => by
    simp only [PyData.hasDict]
    exact dp_noDictAll _ _ h
  | _, _, .tup _ h => by
    simp only [PyData.hasDict]
    exact dp_noDictAll _ _ h
theorem dp_noDictAll {K : PySem.W.Frag} {H : Hp} : ∀ (ds : List PyData) (vs : List V), DpAll K H vs ds → PyData.hasDictAll ds = false
  | _, _, .nil => rfl
  | _, _, .cons h r => by
    simp only [PyData.hasDictAll, dp_noDict _ _ h, dp_noDictAll _ _ r, Bool.or_false]
end
/-- a value that repr takes -/
structure Shw (K : PySem.W.Frag) (H : Hp) (x : V) (d : PyData) : Prop where
  dp : Dp K H x d
  ok : d.showable = true
  sz : d.shown.length ≤ sizeLine
  dep : d.depth ≤ 40
def rReprD (K : PySem.W.Frag) : List V → Hp → VK → Prop := fun xs H Q => ∃ x d, xs = [x] ∧ Shw K H x d ∧ Q (.str d.shown) H
theorem call_repr_data {prog : Program} {w : World} {A : Around} {E : Value → Shared → Prop} {s : Shared} {Q : Value → Shared → Prop} {v : Value} {d : PyData} {as : List Addr} (r : Reads s.heap v d as) (hs : d.showable = true) (hd : d.hasDict = false) (hz : d.shown.length ≤ sizeLine) (gd : A.guards = some []) (hu : A.units + (d.depth + 2) < cLine)
    (q : ∀ h' u tk, (∀ b o, s.heap.get? b = some o → h'.get? b = some o) → Q (.str d.shown u) { s with heap := h', toks := tk }) : wpAny (model prog w) A (call (.builtin "repr") [v]) Q E s := by
  cases r with
  | none => exact PySem.P.repr_of_none (q s.heap _ _ fun _ _ z => z)
  | bool b => exact PySem.P.repr_of_bool (by simpa only [PyData.shown] using q s.heap _ _ fun _ _ z => z)
  | int i t => exact PySem.P.repr_of_int (by simpa [PyData.showable] using hs) (by simpa only [PyData.shown] using q s.heap _ _ fun _ _ z => z)
  | str x t => exact PySem.P.repr_of_str (by simpa only [PyData.shown] using q s.heap _ _ fun _ _ z => z) (by simpa only [PyData.shown] using hz)
  | tuple h1 h2 h3 h4 =>
    rename_i a o items n xs
    have hz2 : (tupleText (PyData.shownAll xs)).length ≤ sizeLine := by simpa only [PyData.shown] using hz
    obtain ⟨bs, hb, hk⟩ := ReprAllK.of_readsAll (prog := prog) (w := w) h4 (by simpa [PyData.showable] using hs) (fun z => by rw [show PyData.hasDictAll xs = false by simpa [PyData.hasDict] using hd] at z; cases z) (fun t ht => Nat.le_trans (tupleText_mem_le ht) hz2)
    have rr : Reads s.heap (.ref a) (.tuple xs) _ := .tuple h1 h2 h3 h4
    have na : a ∉ bs := not_mem_of_deeper rr (by simp only [PyData.depth]; omega) hb
    simp only [PyData.depth] at hu
    refine call_repr_slot (by omega) ⟨_, h1, h2⟩ F.slot_tuple_repr (call_tuple_reprK h1 h2 h3 na hk gd (fun b _ => Clear.nil b) (by show A.units + 1 + _ < _; omega) (fun _ _ z => z) (fun h' u tk k => ⟨_, _, rfl, ?_⟩) hz2)
    simpa only [PyData.shown] using q h' u tk k
  | list h1 h2 h3 h4 =>
    rename_i a o items n xs as
    have hz2 : (listText (PyData.shownAll xs)).length ≤ sizeLine := by simpa only [PyData.shown] using hz
    obtain ⟨bs, hb, hk⟩ := ReprAllK.of_readsAll (prog := prog) (w := w) h4 (by simpa [PyData.showable] using hs) (fun z => by rw [show PyData.hasDictAll xs = false by simpa [PyData.hasDict] using hd] at z; cases z) (fun t ht => Nat.le_trans (listText_mem_le ht) hz2)
    have rr : Reads s.heap (.ref a) (.list xs) _ := .list h1 h2 h3 h4
    have na : a ∉ bs := not_mem_of_deeper rr (by simp only [PyData.depth]; omega) hb
    simp only [PyData.depth] at hu
    obtain ⟨l⟩ := items
    cases l with
    | nil =>
      have h4' : ReadsAll s.heap [] xs _ := h4
      cases h4'
      refine call_repr_slot (by omega) ⟨_, h1, h2⟩ F.slot_list_repr.toG (call_list_repr_empty ⟨_, h1, h2⟩ h1 h3 ⟨_, _, rfl, ?_⟩)
      simpa only [PyData.shown, PyData.shownAll, listText_nil] using q s.heap _ _ fun _ _ z => z
    | cons y l =>
      refine call_repr_slot (by omega) ⟨_, h1, h2⟩ F.slot_list_repr.toG (call_list_reprK h1 h2 h3 na (by simpa using hk.length_eq) (fun i y e => hk.item i y (by simpa using e)) gd (fun b _ => Clear.nil b) (by show A.units + 1 + _ < _; omega) (fun _ _ z => z) (fun h' u tk k => ⟨_, _, rfl, ?_⟩) hz2)
      simpa only [PyData.shown] using q h' u tk k
  | dict h1 h2 h3 h4 h5 =>
    simp only [PyData.hasDict] at hd
    cases hd
theorem c_reprD {k : Nat} (room : Room k X.A) (gd : X.A.guards = some []) : CallR X (.builtin "repr") (rReprD X.K) := by
  intro pins s σ H xs us Q I rel want
  obtain ⟨x, d, rfl, sh, q⟩ := want
  obtain ⟨u, rfl, ru⟩ := vals1 rel
  obtain ⟨as, rd⟩ := Dp.reads I d x u sh.dp ru
  have hu := room.units
  have hd := sh.dep
  exact call_repr_data rd sh.ok (dp_noDict _ _ sh.dp) sh.sz gd (by omega) fun h' t tk k => ⟨.str d.shown, H, I.kept k, ⟨t, rfl⟩, q⟩
end

section
variable {X : Cx}
theorem pe_con {x : Str} {v : V} {u : Tok → Value} {pos : Pos} (hm : ∃ t, X.mg x = some (u t)) (hg : Gl X x) (r : ∀ t, RelV v (u t) := by intro t; exact ⟨t, rfl⟩) (hd : (x == ("__debug__" : Str)) = false := by decide) : PE X (.Name x pos) (tC v) := by
  obtain ⟨t, e⟩ := hm
  exact pe_glob hg e (r t) hd
theorem pe_ci {x : Str} {i : Int} {pos : Pos} (hm : ∃ t, X.mg x = some (.int i t)) (hg : Gl X x) (hd : (x == ("__debug__" : Str)) = false := by decide) : PE X (.Name x pos) (tC (.int i)) := by
  obtain ⟨t, e⟩ := hm
  exact pe_glob hg e ⟨t, rfl⟩ hd
theorem pe_cs {x s : Str} {pos : Pos} (hm : ∃ t, X.mg x = some (.str s t)) (hg : Gl X x) (hd : (x == ("__debug__" : Str)) = false := by decide) : PE X (.Name x pos) (tC (.str s)) := by
  obtain ⟨t, e⟩ := hm
  exact pe_glob hg e ⟨t, rfl⟩ hd
/-! ### rules whose readings name the written part K -/
section
variable {K : PySem.W.Frag}
theorem x_repr {k : Nat} (e : X.K = K) (room : Room k X.A) (gd : X.A.guards = some []) : CallR X (.builtin "repr") (rReprD K) := by subst e; exact c_reprD room gd
theorem x_ix (e : X.K = K) : IxR X (rIx K) := by subst e; exact ix_seq
theorem x_isi (e : X.K = K) : CallR X (.builtin "isinstance") (rIsi K) := by subst e; exact call_isi
theorem x_all (e : X.K = K) (hc : X.calm = true) : CallR X (.builtin "all") (rAll K) := by subst e; exact cr_all hc
theorem x_any (e : X.K = K) (hc : X.calm = true) : CallR X (.builtin "any") (rAny K) := by subst e; exact cr_any hc
theorem x_sum (e : X.K = K) (hc : X.calm = true) : CallR X (.builtin "sum") (rSum K) := by subst e; exact cr_sum hc
theorem x_in (e : X.K = K) : OpR X (compareOp .In) (rIn K false) := by subst e; exact op_in_seq
theorem x_notIn (e : X.K = K) : OpR X (compareOp .NotIn) (rIn K true) := by subst e; exact op_notIn_seq
def rLenS (K : PySem.W.Frag) : List V → Hp → VK → Prop := fun xs H Q => ∃ p ys, xs = [.ref p] ∧ (SqL K H p ys ∨ SqT K H p ys) ∧ Q (.int ys.length) H
theorem x_len (e : X.K = K) : CallR X (.builtin "len") (rLenS K) := by subst e; exact call_len_seq
theorem xi_list {tg it : Expr} {tl : TE} (e : X.K = K) (h : PE X it tl) : PI X tg it (iList K tl) := by subst e; exact pi_list h
theorem xi_tup {tg it : Expr} {tl : TE} (e : X.K = K) (h : PE X it tl) : PI X tg it (iTup K tl) := by subst e; exact pi_tup h
def iSeq (K : PySem.W.Frag) (tl : TE) : TI := fun σ H R => iList K tl σ H R ∨ iTup K tl σ H R
theorem xi_seq {tg it : Expr} {tl : TE} (e : X.K = K) (h : PE X it tl) : PI X tg it (iSeq K tl) := ⟨fun pins s σ H R I z => by
  rcases z with z | z
  · exact (xi_list e h).run pins s σ H R I z
  · exact (xi_tup e h).run pins s σ H R I z⟩
theorem xg_tup {es : List Expr} {k : Nat} {t : TGs} {n : Nat} {pos : Pos} (e : X.K = K) (hc : X.calm = true) (h : PGs X es t) (hn : (assignEach es X.env).length = n := by rfl) (hst : (assignEach es X.env).findIdx? (·.1) = none := by rfl) : PG X (.Tuple es k pos) (gTup K n t) := by subst e; exact pg_tup hc h hn hst
end
/-! ### operators on greater ints -/
def CPowW (i j : Int) : Prop := 0 ≤ j ∧ j ≤ 100 ∧ i.natAbs < 2 ^ 4096
theorem op_powW : OpR X (binaryOp .Pow) (rI CPowW fun i j => .int (i ^ j.toNat)) := opI fun i j _ _ _ _ _ hc q => by
  obtain ⟨h1, h2, h3⟩ := hc
  have b : Builtin.Int.intBits i ≤ 4096 := by
    have hl : i.natAbs.log2 < 4096 := PySem.Flt.log2_lt_of (by decide) h3
    unfold Builtin.Int.intBits
    split <;> omega
  refine pow_int h1 ?_ q
  have b2 : (Builtin.Int.intBits i : Int) ≤ 4096 := by omega
  have : (Builtin.Int.intBits i : Int) * j ≤ 4096 * 100 := Int.mul_le_mul b2 h2 h1 (by decide)
  exact Int.le_trans this (by decide)
/-! ### readings by names -/
def rAddI : R2 := rI0 fun i j => .int (i + j)
theorem o_add : OpR X (binaryOp .Add) rAddI := op_add
def rSubI : R2 := rI0 fun i j => .int (i - j)
theorem o_sub : OpR X (binaryOp .Sub) rSubI := op_sub
def rMulI : R2 := rI (fun i j => IntMulOk i j) fun i j => .int (i * j)
theorem o_mul : OpR X (binaryOp .Mult) rMulI := opI fun _ _ _ _ _ _ _ ok q => mul_int q ok
def rFdivI : R2 := rI CDivW fun i j => .int (i / j)
theorem o_fdiv : OpR X (binaryOp .FloorDiv) rFdivI := op_fdivW
def rModI : R2 := rI (fun _ j => 0 < j) fun i j => .int (i % j)
theorem o_mod : OpR X (binaryOp .Mod) rModI := op_mod
def rPowI : R2 := rI CPowW fun i j => .int (i ^ j.toNat)
theorem o_pow : OpR X (binaryOp .Pow) rPowI := op_powW
def rLtI : R2 := rI0 fun i j => .bl (decide (i < j))
theorem o_lt : OpR X (compareOp .Lt) rLtI := op_lt
def rLeI : R2 := rI0 fun i j => .bl (decide (i ≤ j))
theorem o_le : OpR X (compareOp .LtE) rLeI := op_le
def rGtI : R2 := rI0 fun i j => .bl (decide (j < i))
theorem o_gt : OpR X (compareOp .Gt) rGtI := op_gt
def rGeI : R2 := rI0 fun i j => .bl (decide (j ≤ i))
theorem o_ge : OpR X (compareOp .GtE) rGeI := op_ge
def rIsN : R2 := fun x y H Q => y = .non ∧ Q (.bl (decide (x = .non))) H
theorem o_isN : OpR X (compareOp .Is) rIsN := op_isN
def rNotN : R2 := fun x y H Q => y = .non ∧ Q (.bl (!decide (x = .non))) H
theorem o_notN : OpR X (compareOp .IsNot) rNotN := op_notN
def rCatL : R2 := rCat
theorem o_cat : OpR X (binaryOp .Add) rCatL := op_cat
def rNegI : V → Hp → VK → Prop := rU fun i => .int (-i)
theorem u_neg : UnR X (unaryOp .USub) rNegI := un_neg
def rInt1 : List V → Hp → VK → Prop := fun xs H Q => (∃ i, xs = [.int i] ∧ Q (.int i) H) ∨ ∃ k, xs = [.bl k] ∧ Q (.int (if k then 1 else 0)) H
theorem c_int1 : CallR X (.type "int") rInt1 := call_int1
def rAbs : List V → Hp → VK → Prop := fun xs H Q => ∃ i, xs = [.int i] ∧ Q (.int (if i < 0 then -i else i)) H
theorem c_abs : CallR X (.builtin "abs") rAbs := call_abs
def rMax2 : List V → Hp → VK → Prop := fun xs H Q => ∃ i j, xs = [.int i, .int j] ∧ Q (.int (if j > i then j else i)) H
theorem c_max2 (hc : X.calm = true) : CallR X (.builtin "max") rMax2 := call_max2 hc
def rMin2 : List V → Hp → VK → Prop := fun xs H Q => ∃ i j, xs = [.int i, .int j] ∧ Q (.int (if j < i then j else i)) H
theorem c_min2 (hc : X.calm = true) : CallR X (.builtin "min") rMin2 := call_min2 hc
def rDivmod : List V → Hp → VK → Prop := fun xs H Q => ∃ i j, xs = [.int i, .int j] ∧ CDivP i j ∧ ∀ p, H p = none → Q (.ref p) (upd H p (.tup [.int (i / j), .int (i % j)]))
theorem c_divmod : CallR X (.builtin "divmod") rDivmod := call_divmodW
end
/-! ### steps of readings -/
def NewT (xs : List V) (H : Hp) (Q : VK) : Prop := xs.length ≤ sizeLine ∧ ∀ p, H p = none → Q (.ref p) (upd H p (.tup xs))
def NewR (a b : Int) (H : Hp) (Q : VK) : Prop := RgOk a b ∧ ∀ q, H q = none → Q (.ref q) (upd H q (.lst (rgV a b)))
def NewL (xs : List V) (H : Hp) (Q : VK) : Prop := xs.length ≤ sizeLine ∧ ∀ p, H p = none → Q (.ref p) (upd H p (.lst xs))
section
variable {σ : L2.St} {H : Hp} {Q : VK} {D : Ends} {ta tb tc te : TE} {tt tu : TT} {t1 t2 : TS} {i j : Int} {v x y : V} {K : PySem.W.Frag} {n : Nat} {p : Addr} {xs : List V}
theorem w_seq (h : t1 { D with nx := t2 D } σ H) : tSeq t1 t2 D σ H := h
theorem w_next (h : D.nx σ H) : tNext D σ H := h
theorem w_set {k : Nat} (h : te σ H fun x H1 => D.nx (σ.set k (some x)) H1) : tAsg te (gName k) D σ H := h
theorem w_asgS {ti to : TE} {s : TSet} (h : te σ H fun x H1 => to σ H1 fun o H2 => ti σ H2 fun i H3 => s o i x H3 fun H4 => D.nx σ H4) : tAsg te (gSub to ti s) D σ H := h
theorem w_ret (h : te σ H D.rt) : tRet te D σ H := h
theorem w_drop (h : te σ H fun _ H1 => D.nx σ H1) : tDrop te D σ H := h
theorem w_ifS (h : tt σ H fun b H1 => if b = true then t1 D σ H1 else t2 D σ H1) : tIfS tt t1 t2 D σ H := h
theorem w_op {r : R2} (h : ta σ H fun x H1 => tb σ H1 fun y H2 => r x y H2 Q) : tOp r ta tb σ H Q := h
theorem w_un {r : V → Hp → VK → Prop} (h : ta σ H fun x H1 => r x H1 Q) : tUn r ta σ H Q := h
theorem w_var (h : σ[n]? = some (some v)) (q : Q v H) : tVar n σ H Q := ⟨v, h, q⟩
theorem w_c (q : Q v H) : tC v σ H Q := q
theorem w_I0 {g : Int → Int → V} (q : Q (g i j) H) : rI0 g (.int i) (.int j) H Q := ⟨i, j, rfl, rfl, q⟩
theorem w_I {C : Int → Int → Prop} {g : Int → Int → V} (c : C i j) (q : Q (g i j) H) : rI C g (.int i) (.int j) H Q := ⟨i, j, rfl, rfl, c, q⟩
theorem w_U {g : Int → V} (q : Q (g i) H) : rU g (.int i) H Q := ⟨i, rfl, q⟩
theorem w_add (q : Q (.int (i + j)) H) : rAddI (.int i) (.int j) H Q := ⟨i, j, rfl, rfl, q⟩
theorem w_sub (q : Q (.int (i - j)) H) : rSubI (.int i) (.int j) H Q := ⟨i, j, rfl, rfl, q⟩
theorem w_mulL (h1 : -18446744073709551616 < i) (h2 : i < 18446744073709551616) (q : Q (.int (i * j)) H) : rMulI (.int i) (.int j) H Q := ⟨i, j, rfl, rfl, CMul.ok (.inl ⟨h1, h2⟩), q⟩
theorem w_mulR (h1 : -18446744073709551616 < j) (h2 : j < 18446744073709551616) (q : Q (.int (i * j)) H) : rMulI (.int i) (.int j) H Q := ⟨i, j, rfl, rfl, CMul.ok (.inr ⟨h1, h2⟩), q⟩
theorem w_mulW (h : CMulW i j) (q : Q (.int (i * j)) H) : rMulI (.int i) (.int j) H Q := ⟨i, j, rfl, rfl, h.ok, q⟩
theorem log_small {i : Int} (h0 : 0 ≤ i) (h : i < 1073741824) : i.natAbs.log2 < 1920 := PySem.Flt.log2_lt_of (by decide) (Nat.lt_of_lt_of_le (show i.natAbs < 2 ^ 30 by omega) (Nat.pow_le_pow_right (i := 30) (j := 1920) (by decide) (by decide)))
theorem w_fdiv (h1 : 0 < j) (h2 : j < 1073741824) (q : Q (.int (i / j)) H) : rFdivI (.int i) (.int j) H Q := ⟨i, j, rfl, rfl, ⟨h1, Nat.lt_trans (log_small (Int.le_of_lt h1) h2) (by decide)⟩, q⟩
theorem w_fdivW (h : CDivW i j) (q : Q (.int (i / j)) H) : rFdivI (.int i) (.int j) H Q := ⟨i, j, rfl, rfl, h, q⟩
theorem w_mod (h1 : 0 < j) (q : Q (.int (i % j)) H) : rModI (.int i) (.int j) H Q := ⟨i, j, rfl, rfl, h1, q⟩
theorem w_modG (h1 : 0 < j) (q : ∀ r, 0 ≤ r → r < j → Q (.int r) H) : rModI (.int i) (.int j) H Q := ⟨i, j, rfl, rfl, h1, q _ (Int.emod_nonneg i (by omega)) (Int.emod_lt_of_pos i h1)⟩
theorem w_pow (h1 : CPowW i j) (q : Q (.int (i ^ j.toNat)) H) : rPowI (.int i) (.int j) H Q := ⟨i, j, rfl, rfl, h1, q⟩
theorem w_lt (q : Q (.bl (decide (i < j))) H) : rLtI (.int i) (.int j) H Q := ⟨i, j, rfl, rfl, q⟩
theorem w_le (q : Q (.bl (decide (i ≤ j))) H) : rLeI (.int i) (.int j) H Q := ⟨i, j, rfl, rfl, q⟩
theorem w_gt (q : Q (.bl (decide (j < i))) H) : rGtI (.int i) (.int j) H Q := ⟨i, j, rfl, rfl, q⟩
theorem w_ge (q : Q (.bl (decide (j ≤ i))) H) : rGeI (.int i) (.int j) H Q := ⟨i, j, rfl, rfl, q⟩
theorem w_isN (q : Q (.bl (decide (x = .non))) H) : rIsN x .non H Q := ⟨rfl, q⟩
theorem w_notN (q : Q (.bl (!decide (x = .non))) H) : rNotN x .non H Q := ⟨rfl, q⟩
theorem w_neg (q : Q (.int (-i)) H) : rNegI (.int i) H Q := ⟨i, rfl, q⟩
theorem w_bl {b : Bool} {R : Bool → Prop} (q : R b) : ∃ k, V.bl b = V.bl k ∧ R k := ⟨b, rfl, q⟩
theorem same_new {q : Addr} {o : HO} (hq : H q = none) : Same H (upd H q o) := fun b u e => by
  rw [upd_ne (ne_of_none e hq)]
  exact e
theorem w_divmod (h1 : 0 < j) (h2 : j < 1073741824) (q : ∀ p H', H p = none → H' p = some (.tup [.int (i / j), .int (i % j)]) → Same H H' → Q (.ref p) H') : rDivmod [.int i, .int j] H Q := ⟨i, j, rfl, ⟨h1, PyProof.noPylong_small (by omega)⟩, fun p hp => q p _ hp upd_same (same_new hp)⟩
theorem w_eq (h : scal x y = true) (q : Q (.bl (decide (x = y))) H) : rEq x y H Q := ⟨h, q⟩
theorem w_ne (h : scal x y = true) (q : Q (.bl (!decide (x = y))) H) : rNe x y H Q := ⟨h, q⟩
theorem w_test {R : Bool → Hp → Prop} (h : te σ H fun x H' => ∃ k, x = .bl k ∧ R k H') : tTest te σ H R := h
theorem w_B {R : Bool → Hp → Prop} (h : te σ H fun x H' => ∃ k, x = .bl k ∧ R k H') : tB te σ H R := h
theorem w_or {R : Bool → Hp → Prop} (h : tt σ H fun c H1 => if c = true then R true H1 else tu σ H1 R) : tOr tt tu σ H R := h
theorem w_and {R : Bool → Hp → Prop} (h : tt σ H fun c H1 => if c = true then tu σ H1 R else R false H1) : tAnd tt tu σ H R := h
theorem w_not {R : Bool → Hp → Prop} (h : tt σ H fun c H1 => R (!c) H1) : tNot tt σ H R := h
theorem w_andV (h : ta σ H fun x H1 => ∃ c, x = .bl c ∧ if c = true then tb σ H1 Q else Q (.bl false) H1) : tAndV ta tb σ H Q := h
theorem w_orV (h : ta σ H fun x H1 => ∃ c, x = .bl c ∧ if c = true then Q (.bl true) H1 else tb σ H1 Q) : tOrV ta tb σ H Q := h
theorem w_notV (h : ta σ H fun x H1 => ∃ c, x = .bl c ∧ Q (.bl (!c)) H1) : tNotV ta σ H Q := h
theorem w_ifE (h : tt σ H fun c H1 => if c = true then ta σ H1 Q else tb σ H1 Q) : tIf tt ta tb σ H Q := h
theorem w_chain {r r' : R2} (h : ta σ H fun x H1 => tb σ H1 fun y H2 => r x y H2 fun z H3 => ∃ k, z = .bl k ∧ (if k = true then tc σ H3 fun w H4 => r' y w H4 Q else Q (.bl false) H3)) : tChain r r' ta tb tc σ H Q := h
theorem w_cb {r : List V → Hp → VK → Prop} {tA : TA} (h : tA σ H fun vs H1 => r vs H1 Q) : tCB r tA σ H Q := h
theorem w_nil {R : List V → Hp → Prop} (h : R [] H) : tNil σ H R := h
theorem w_cons {tA : TA} {R : List V → Hp → Prop} (h : ta σ H fun x H1 => tA σ H1 fun xs H2 => R (x :: xs) H2) : tCons ta tA σ H R := h
theorem w_tup {tA : TA} (h : tA σ H fun xs H1 => NewT xs H1 Q) : tTup tA σ H Q := h
theorem w_lst {tA : TA} (h : tA σ H fun xs H1 => NewL xs H1 Q) : tLst tA σ H Q := h
theorem w_call {sp : Sp} {E : XK} {tA : TA} (h : tA σ H fun vs H1 => sp (vs ++ []) H1 Q E) : tCall sp [] E tA σ H Q := h
theorem w_int1 (q : Q (.int i) H) : rInt1 [.int i] H Q := .inl ⟨i, rfl, q⟩
theorem w_int1b {b : Bool} (q : Q (.int (if b then 1 else 0)) H) : rInt1 [.bl b] H Q := .inr ⟨b, rfl, q⟩
theorem w_int1G {b : Bool} (q : ∀ k, 0 ≤ k → k ≤ 1 → Q (.int k) H) : rInt1 [.bl b] H Q := .inr ⟨b, rfl, q _ (by cases b <;> decide) (by cases b <;> decide)⟩
theorem w_abs (q : Q (.int (if i < 0 then -i else i)) H) : rAbs [.int i] H Q := ⟨i, rfl, q⟩
theorem w_max2 (q : Q (.int (if j > i then j else i)) H) : rMax2 [.int i, .int j] H Q := ⟨i, j, rfl, q⟩
theorem w_min2 (q : Q (.int (if j < i then j else i)) H) : rMin2 [.int i, .int j] H Q := ⟨i, j, rfl, q⟩
theorem w_lenL (h : SqL K H p xs) (q : Q (.int xs.length) H) : rLenS K [.ref p] H Q := ⟨p, xs, rfl, .inl h, q⟩
theorem w_lenT (h : SqT K H p xs) (q : Q (.int xs.length) H) : rLenS K [.ref p] H Q := ⟨p, xs, rfl, .inr h, q⟩
theorem w_reprD {d : PyData} (h : Shw K H x d) (q : Q (.str d.shown) H) : rReprD K [x] H Q := ⟨x, d, rfl, h, q⟩
theorem shw_int (h : i.natAbs.log2 < 1920) : Shw K H (.int i) (.int i) := ⟨.int i, by simp only [PyData.showable]; exact decide_eq_true h, by simp only [PyData.shown]; exact PySem.int_text_fits h, by simp only [PyData.depth]; omega⟩
theorem w_repr (h : i.natAbs.log2 < 1920) (q : Q (.str (toString i)) H) : rReprD K [.int i] H Q := w_reprD (shw_int h) (by simpa only [PyData.shown] using q)
theorem w_ixL (h : SqL K H p xs) (e : atI xs i = some v) (q : Q v H) : rIx K (.ref p) (.int i) H Q := .inl ⟨p, xs, i, v, rfl, rfl, h, e, q⟩
theorem w_ixT (h : SqT K H p xs) (e : atI xs i = some v) (q : Q v H) : rIx K (.ref p) (.int i) H Q := .inr (.inl ⟨p, xs, i, v, rfl, rfl, h, e, q⟩)
theorem w_setL {k : Nat} {R : Hp → Prop} (h : H p = some (.lst xs)) (e : ixN xs.length i = some k) (q : R (upd H p (.lst (xs.set k v)))) : rSetL (.ref p) (.int i) v H R := ⟨p, xs, i, k, rfl, rfl, h, e, q⟩
theorem w_asgT {K : PySem.W.Frag} {m : Nat} {t : TGs} (h : te σ H fun v H1 => ∃ a xs, v = .ref a ∧ SqT K H1 a xs ∧ xs.length = m ∧ t xs σ H1 D.nx) : tAsg te (gTup K m t) D σ H := h
theorem w_gcons {k : Nat} {t : TGs} {r : List V} {R : L2.St → Hp → Prop} (h : t r (σ.set k (some v)) H R) : gCons (gName k) t (v :: r) σ H R := ⟨v, r, rfl, h⟩
theorem w_gnil {R : L2.St → Hp → Prop} (h : R σ H) : gNil [] σ H R := ⟨rfl, h⟩
theorem w_par {a b : Nat} {tA : TA} (h : tA σ H fun vs H1 => ∃ v w, vs = [v, w] ∧ D.nx ((σ.set a (some v)).set b (some w)) H1) : tPar a b tA D σ H := h
theorem w_pair {R : V → V → Prop} (q : R x y) : ∃ v w, [x, y] = [v, w] ∧ R v w := ⟨x, y, rfl, q⟩
theorem w_mknx {a bb cc : L2.St → Hp → Prop} {b : VK} (h : a σ H) : (Ends.mk a b bb cc).nx σ H := h
theorem w_mkrt {a bb cc : L2.St → Hp → Prop} {b : VK} (h : b v H) : (Ends.mk a b bb cc).rt v H := h
theorem w_mkbk {a bb cc : L2.St → Hp → Prop} {b : VK} (h : bb σ H) : (Ends.mk a b bb cc).bk σ H := h
theorem w_mkct {a bb cc : L2.St → Hp → Prop} {b : VK} (h : cc σ H) : (Ends.mk a b bb cc).ct σ H := h
theorem w_if {c : Prop} [Decidable c] {A B : Prop} (h1 : c → A) (h2 : ¬ c → B) : if decide c = true then A else B := by
  by_cases h : c
  · rw [if_pos (decide_eq_true h)]
    exact h1 h
  · rw [if_neg (by simpa using h)]
    exact h2 h
theorem w_ifT {A B : Prop} (h : A) : if true = true then A else B := by
  rw [if_pos rfl]
  exact h
theorem w_ifF {A B : Prop} (h : B) : if false = true then A else B := by
  rw [if_neg Bool.false_ne_true]
  exact h
theorem w_ifNT {A B : Prop} (h : B) : if (!true) = true then A else B := w_ifF h
theorem w_ifNF {A B : Prop} (h : A) : if (!false) = true then A else B := w_ifT h
theorem ne_IS {s : Str} : ¬ V.int i = V.str s := by intro e; cases e
theorem ne_SI {s : Str} : ¬ V.str s = V.int i := by intro e; cases e
theorem ne_IN : ¬ V.int i = V.non := by intro e; cases e
theorem ne_SN {s : Str} : ¬ V.str s = V.non := by intro e; cases e
theorem ne_RN : ¬ V.ref p = V.non := by intro e; cases e
theorem w_ifDT {c : Prop} [Decidable c] {A B : Prop} (h : c) (a : A) : if decide c = true then A else B := w_if (fun _ => a) (fun n => absurd h n)
theorem w_ifDF {c : Prop} [Decidable c] {A B : Prop} (h : ¬ c) (b : B) : if decide c = true then A else B := w_if (fun z => absurd z h) (fun _ => b)
theorem w_ifI {A B : Prop} (h1 : i = j → A) (h2 : i ≠ j → B) : if decide (V.int i = V.int j) = true then A else B := w_if (fun e => h1 (V.int.inj e)) (fun e => h2 fun z => e (by rw [z]))
theorem w_ifNI {A B : Prop} (h1 : i ≠ j → A) (h2 : i = j → B) : if (!decide (V.int i = V.int j)) = true then A else B := by
  by_cases h : i = j
  · rw [if_neg (by simp [h])]
    exact h2 h
  · rw [if_pos (by simp [h])]
    exact h1 h
theorem w_ifN {c : Prop} [Decidable c] {A B : Prop} (h1 : ¬ c → A) (h2 : c → B) : if (!decide c) = true then A else B := by
  by_cases h : c
  · rw [if_neg (by simp [h])]
    exact h2 h
  · rw [if_pos (by simp [h])]
    exact h1 h
theorem w_newT (hl : Nat.ble xs.length 1000 = true) (h : ∀ p H', H p = none → H' p = some (.tup xs) → Same H H' → Q (.ref p) H') : NewT xs H Q := ⟨Nat.le_of_lt (small1000 (Nat.le_of_ble_eq_true hl)), fun p hp => h p _ hp upd_same (same_new hp)⟩
theorem w_newL (hl : Nat.ble xs.length 1000 = true) (h : ∀ p H', H p = none → H' p = some (.lst xs) → Same H H' → Q (.ref p) H') : NewL xs H Q := ⟨Nat.le_of_lt (small1000 (Nat.le_of_ble_eq_true hl)), fun p hp => h p _ hp upd_same (same_new hp)⟩
theorem w_lrg {te : L2.St → Hp → (Int → Int → Hp → Prop) → Prop} (h : te σ H fun a b H1 => NewR a b H1 Q) : tLstRg te σ H Q := h
theorem w_rg1 {R : Int → Int → Hp → Prop} (h : ta σ H fun x H1 => ∃ n, x = .int n ∧ R 0 n H1) : tRg1 ta σ H R := h
theorem w_rg2 {R : Int → Int → Hp → Prop} (h : ta σ H fun x H1 => tb σ H1 fun y H2 => ∃ i j, x = .int i ∧ y = .int j ∧ R i j H2) : tRg2 ta tb σ H R := h
theorem w_exI {R : Int → Prop} (q : R i) : ∃ n, V.int i = .int n ∧ R n := ⟨i, rfl, q⟩
theorem w_exI2 {R : Int → Int → Prop} (q : R i j) : ∃ n m, V.int i = .int n ∧ V.int j = .int m ∧ R n m := ⟨i, j, rfl, rfl, q⟩
theorem w_newR {a b : Int} (h0 : 0 ≤ a) (h1 : a ≤ 10000) (h2 : b ≤ 10000) (h3 : 0 ≤ b) (h : ∀ p H', H p = none → H' p = some (.lst (rgV a b)) → Same H H' → Q (.ref p) H') : NewR a b H Q := ⟨RgOk.of_le h0 (by omega) (by omega) h3, fun p hp => h p _ hp upd_same (same_new hp)⟩
theorem w_cat {p1 p2 : Addr} {ys : List V} (h1 : H p1 = some (.lst xs)) (h2 : H p2 = some (.lst ys)) (hl : xs.length + ys.length ≤ 100000) (h : ∀ p H', H p = none → H' p = some (.lst (xs ++ ys)) → Same H H' → Q (.ref p) H') : rCatL (.ref p1) (.ref p2) H Q :=
  ⟨p1, p2, xs, ys, rfl, rfl, h1, h2, Nat.le_trans hl (by decide), fun p hp => h p _ hp upd_same (same_new hp)⟩
theorem w_setG {k : Nat} {R : Hp → Prop} (h : H p = some (.lst xs)) (e : ixN xs.length i = some k) (q : ∀ H', H' p = some (.lst (xs.set k v)) → (∀ b o, b ≠ p → H b = some o → H' b = some o) → R H') : rSetL (.ref p) (.int i) v H R :=
  ⟨p, xs, i, k, rfl, rfl, h, e, q _ upd_same fun b o n hb => by rw [upd_ne n]; exact hb⟩
theorem atI_ex {m : Int} (h0 : 0 ≤ m) (h1 : m < xs.length) : ∃ v, atI xs m = some v ∧ v ∈ xs := by
  have hl : m.toNat < xs.length := by omega
  refine ⟨xs[m.toNat], ?_, List.getElem_mem hl⟩
  unfold atI ixN
  rw [if_pos h0, if_pos h1]
  simp [hl]
theorem sqL (h : H p = some (.lst xs)) : SqL K H p xs := .inl (.inl h)
theorem sqT (h : H p = some (.tup xs)) : SqT K H p xs := .inl (.inl h)
end


/-! ### loops and comprehensions -/
section
variable {σ : L2.St} {H : Hp} {Q : VK} {D : Ends} {K : PySem.W.Frag}
theorem w_forR {n j : Nat} {tb : TS} {tA : TA} (Pv : Nat → L2.St → Hp → Prop) (hA : ∀ R : List V → Hp → Prop, R [.int n] H → tA σ H R) (hn : n ≤ 1000000) (h0 : Pv 0 σ H)
    (hs : ∀ i σ' H', i < n → Pv i σ' H' → tb { D with nx := Pv (i + 1), ct := Pv (i + 1), bk := D.nx } (σ'.set j (some (.int (i : Int)))) H') (hd : ∀ σ' H', Pv n σ' H' → D.nx σ' H') : tFor (iRng1 tA) (gName j) tb D σ H := by
  refine hA _ ⟨(n : Int), rfl, by omega, by omega, ?_⟩
  have e : ((n : Int)).toNat = n := by omega
  rw [e]
  refine for_range (lo := 0) (n := n) Pv h0 (fun i σ' H' hi p => ?_) hd
  show tb { D with nx := Pv (i + 1), ct := Pv (i + 1), bk := D.nx } (σ'.set j (some (.int ((0 : Int) + (i : Int))))) H'
  rw [Int.zero_add]
  exact hs i σ' H' hi p
def LcAt (K : PySem.W.Frag) (x : V) (g : TG) (tt : TT) (te : TE) (vs : List Nat) (σ : L2.St) (H : Hp) (Q : VK) : Prop := tLc (iList K (tC x)) g tt te vs σ H Q
theorem w_lc {tl te : TE} {g : TG} {tt : TT} {vs : List Nat} (h : tl σ H fun x H1 => LcAt K x g tt te vs σ H1 Q) : tLc (iList K tl) g tt te vs σ H Q := h
/-- a comprehension without a test over a list that stands still; what it makes leaves the heap as it was, but for new things -/
theorem w_lcL {a : Addr} {xs : List V} {g : TG} {te : TE} {vs : List Nat} (f : Nat → V → Prop) (ha : SqL K H a xs) (hz : xs.length ≤ 1000000)
    (step : ∀ i x H' (Nx : VK), xs[i]? = some x → Same H H' → (∀ y H3, Same H' H3 → f i y → Nx y H3) → g x (wipe σ vs) H' fun σ2 H2 => wipe σ2 vs = wipe σ vs ∧ te σ2 H2 Nx)
    (q : ∀ D H' ys, H D = none → Same H H' → H' D = some (.lst ys) → ys.length = xs.length → (∀ i y, ys[i]? = some y → f i y) → Q (.ref D) H') : LcAt K (.ref a) g tYes te vs σ H Q := by
  refine ⟨a, rfl, ⟨xs, ha⟩, fun D hD => ?_⟩
  refine lc_list (K := K) (a := a) (xs := xs) (fun i H' => Same H H' ∧ ∃ acc, H' D = some (.lst acc) ∧ acc.length = i ∧ ∀ j y, acc[j]? = some y → f j y) ⟨same_new hD, [], upd_same, rfl, fun j y e => by simp at e⟩ (fun i H' _ h => h.1.seq ha) (fun i x H' hx h => ?_) (fun H' h => ?_)
  · obtain ⟨s1, acc, hacc, hlen, hf⟩ := h
    refine step i x H' _ hx s1 (fun y H3 s3 fy => ?_)
    have hi : i < xs.length := (List.getElem?_eq_some_iff.mp hx).1
    refine ⟨acc, s3 _ _ hacc, Nat.lt_of_le_of_lt (show acc.length ≤ 1000000 by omega) (by decide), fun b o hb => ?_, acc ++ [y], upd_same, by simp [hlen], fun j z e => ?_⟩
    · rw [upd_ne (ne_of_none hb hD)]
      exact s3 _ _ (s1 _ _ hb)
    · by_cases hj : j < acc.length
      · rw [List.getElem?_append_left hj] at e
        exact hf j z e
      · rw [List.getElem?_append_right (by omega)] at e
        have hj2 : j - acc.length = 0 := by
          rcases Nat.eq_zero_or_pos (j - acc.length) with h | h
          · exact h
          · rw [List.getElem?_eq_none (show [y].length ≤ j - acc.length from h)] at e
            cases e
        rw [hj2] at e
        have ez : y = z := Option.some.inj e
        have : j = i := by omega
        rw [this, ← ez]
        exact fy
  · obtain ⟨s1, acc, hacc, hlen, hf⟩ := h
    exact q D H' acc hD s1 hacc hlen hf
theorem w_allT {a : Addr} {ys : List V} (h : SqL K H a ys) (ht : ∀ (i : Nat) (y : V), ys[i]? = some y → y = .bl true) (q : Q (.bl true) H) : rAll K [.ref a] H Q := by
  have e : ys = (List.replicate ys.length true).map V.bl := by
    apply List.ext_getElem?
    intro i
    cases hy : ys[i]? with
    | none =>
      have := List.getElem?_eq_none_iff.mp hy
      rw [List.getElem?_eq_none (by simpa using this)]
    | some y =>
      have hlt := (List.getElem?_eq_some_iff.mp hy).1
      rw [ht i y hy, List.getElem?_map, List.getElem?_replicate, if_pos hlt]
      rfl
  rw [e] at h
  refine ⟨a, _, rfl, h, ?_⟩
  have e2 : (List.replicate ys.length true).all id = true := by simp
  rw [e2]
  exact q
end
/-! ### comprehensions over any walk, slices, == of data -/
section
variable {X : Cx} {K : PySem.W.Frag}
theorem x_eqD (e : X.K = K) (hu : X.A.units + 64 < cLine) : OpR X (compareOp .Eq) (rEqD K) := by subst e; exact op_eqD hu
theorem x_neD (e : X.K = K) (hu : X.A.units + 64 < cLine) : OpR X (compareOp .NotEq) (rNeD K) := by subst e; exact op_neD hu
theorem x_slL (e : X.K = K) : SlR X (rSlL K) := by subst e; exact sl_list
theorem x_slT (e : X.K = K) : SlR X (rSlA K) := by subst e; exact sl_tupA
theorem xi_enum {e : Expr} {ta : TA} {p pos tpos : Pos} {elts : List Expr} {kk : Nat} (ek : X.K = K) (hg : Gl X "enumerate") (hm : X.mg "enumerate" = none) (ha : PA X [e] ta) (hs : starEach [e] X.env = [(false, eval e X.env)] := by rfl) : PI X (.Tuple elts kk tpos) (.Call (.Name "enumerate" p) [e] [] pos) (iEnum K ta) := by subst ek; exact pi_enum hg hm ha hs
theorem xi_zip {e e2 : Expr} {ta : TA} {p pos tpos : Pos} {elts : List Expr} {kk : Nat} (ek : X.K = K) (hg : Gl X "zip") (hm : X.mg "zip" = none) (ha : PA X [e, e2] ta) (hs : starEach [e, e2] X.env = (false, eval e X.env) :: starEach [e2] X.env := by rfl) (hpl : (backTo pos (starEach [e2] X.env)).any (·.1) = false := by rfl) : PI X (.Tuple elts kk tpos) (.Call (.Name "zip" p) [e, e2] [] pos) (iZip K ta) := by subst ek; exact pi_zip hg hm ha hs hpl
end
section
variable {σ : L2.St} {H : Hp} {Q : VK} {D : Ends} {K : PySem.W.Frag}
theorem w_sl {r : V → Option Int → Option Int → Hp → VK → Prop} {te : TE} {tl th : TO} (h : te σ H fun x H1 => tl σ H1 fun l H2 => th σ H2 fun u H3 => r x l u H3 Q) : tSl r te tl th σ H Q := h
theorem w_part {te : TE} {R : Option Int → Hp → Prop} (h : te σ H fun x H1 => ∃ i, x = .int i ∧ R (some i) H1) : tPart te σ H R := h
theorem w_noPart {R : Option Int → Hp → Prop} (h : R none H) : tNoPart σ H R := h
theorem w_slL {a : Addr} {xs : List V} {lo hi : Option Int} (h : SqL K H a xs) (q : ∀ p H', H p = none → H' p = some (.lst (cutV xs lo hi)) → Same H H' → Q (.ref p) H') : rSlL K (.ref a) lo hi H Q := ⟨a, xs, rfl, h, fun p hp => q p _ hp upd_same (same_new hp)⟩
theorem w_slT {a : Addr} {xs : List V} {lo hi : Option Int} (h : SqT K H a xs) (n : ¬ (HT.sIx xs.length 0 lo = 0 ∧ HT.sIx xs.length xs.length hi = xs.length)) (q : ∀ p H', H p = none → H' p = some (.tup (cutV xs lo hi)) → Same H H' → Q (.ref p) H') : rSlA K (.ref a) lo hi H Q := ⟨a, xs, rfl, h, fun z => absurd z n, fun _ p hp => q p _ hp upd_same (same_new hp)⟩
theorem w_eqD {x y : V} {d e : PyData} (hx : Dp K H x d) (hy : Dp K H y e) (s1 : SeqAt.shaped d = true) (s2 : SeqAt.shaped e = true) (q : Q (.bl (PyData.eqv d e)) H) : rEqD K x y H Q := ⟨d, e, hx, hy, s1, s2, q⟩
theorem w_neD {x y : V} {d e : PyData} (hx : Dp K H x d) (hy : Dp K H y e) (s1 : SeqAt.shaped d = true) (s2 : SeqAt.shaped e = true) (q : Q (.bl (!PyData.eqv d e)) H) : rNeD K x y H Q := ⟨d, e, hx, hy, s1, s2, q⟩
/-- both sides the same data -/
theorem w_eqS {x y : V} {d : PyData} (hx : Dp K H x d) (hy : Dp K H y d) (s1 : SeqAt.shaped d = true) (q : Q (.bl true) H) : rEqD K x y H Q := ⟨d, d, hx, hy, s1, s1, by rw [SeqAt.eqv_refl d (SeqAt.canLay_of_shaped s1)]; exact q⟩
theorem w_neS {x y : V} {d : PyData} (hx : Dp K H x d) (hy : Dp K H y d) (s1 : SeqAt.shaped d = true) (q : Q (.bl false) H) : rNeD K x y H Q := ⟨d, d, hx, hy, s1, s1, by rw [SeqAt.eqv_refl d (SeqAt.canLay_of_shaped s1)]; exact q⟩
/-- what is left of a comprehension when it has been said over what it walks -/
def LcJ (J : It) (g : TG) (tt : TT) (te : TE) (vs : List Nat) (σ : L2.St) (H : Hp) (Q : VK) : Prop := tLc (fun _ H R => R J H) g tt te vs σ H Q
theorem w_lcE {tA : TA} {g : TG} {tt : TT} {te : TE} {vs : List Nat} (h : tA σ H fun ws H1 => ∃ a xs, ws = [.ref a] ∧ SqL K H1 a xs ∧ LcJ (Ite K a) g tt te vs σ H1 Q) : tLc (iEnum K tA) g tt te vs σ H Q := h
theorem w_lcZ {tA : TA} {g : TG} {tt : TT} {te : TE} {vs : List Nat} (h : tA σ H fun ws H1 => ∃ a b xs ys, ws = [.ref a, .ref b] ∧ SqL K H1 a xs ∧ SqL K H1 b ys ∧ LcJ (Itz K a b) g tt te vs σ H1 Q) : tLc (iZip K tA) g tt te vs σ H Q := h
theorem w_lcI {a : Addr} {xs : List V} {g : TG} {tt : TT} {te : TE} {vs : List Nat} (h : SqL K H a xs) (q : LcJ (Itl K a) g tt te vs σ H Q) : LcAt K (.ref a) g tt te vs σ H Q := ⟨a, rfl, ⟨xs, h⟩, q⟩
theorem w_lcRg {n : Nat} {tA : TA} {g : TG} {tt : TT} {te : TE} {vs : List Nat} (hA : ∀ R : List V → Hp → Prop, R [.int n] H → tA σ H R) (hn : n ≤ 1000000) (q : LcJ (Itr 0 n) g tt te vs σ H Q) : tLc (iRng1 tA) g tt te vs σ H Q := by
  refine hA _ ⟨(n : Int), rfl, by omega, by omega, ?_⟩
  have e : ((n : Int)).toNat = n := by omega
  rw [e]
  exact q
/-- I i l: behind i turns l has been made; the new list itself may be anything -/
theorem w_lcW {J : It} {n : Nat} {G : Hp → Prop} {Y : Nat → Hp → V → Hp → Prop} (w : Walk J n G Y) {g : TG} {tt : TT} {te : TE} {vs : List Nat} (I : Nat → List V → Hp → Prop) (hn : n ≤ 1000000)
    (i0 : ∀ A, H A = none → I 0 [] (upd H A (.lst []))) (keep : ∀ A i l H' ys zs, H A = none → H' A = some (.lst ys) → I i l H' → I i l (upd H' A (.lst zs))) (hG : ∀ i l H', I i l H' → G H') (hlen : ∀ i l H', I i l H' → l.length ≤ i)
    (step : ∀ A i x H1 H2 acc (Nx : V → Hp → Prop) (Sk : Hp → Prop), H A = none → i < n → I i acc H1 → H1 A = some (.lst acc) → Y i H1 x H2 → (∀ y H3, H3 A = some (.lst acc) → I (i + 1) (acc ++ [y]) H3 → Nx y H3) → (∀ H3, H3 A = some (.lst acc) → I (i + 1) acc H3 → Sk H3) →
      g x (wipe σ vs) H2 fun σ2 H3 => wipe σ2 vs = wipe σ vs ∧ tt σ2 H3 fun b H4 => if b = true then te σ2 H4 Nx else Sk H4)
    (q : ∀ A H' l, H A = none → H' A = some (.lst l) → I n l H' → Q (.ref A) H') : LcJ J g tt te vs σ H Q := by
  intro A hA
  refine lc_it w (fun i H' => ∃ l, H' A = some (.lst l) ∧ I i l H') ⟨[], upd_same, i0 A hA⟩ (fun i H' _ h => ?_) (fun i x H1 H2 hi h y => ?_) (fun H' h => ?_)
  · obtain ⟨l, _, h⟩ := h
    exact hG _ _ _ h
  · obtain ⟨acc, hacc, h⟩ := h
    refine step A i x H1 H2 acc _ _ hA hi h hacc y (fun v H3 e3 h3 => ?_) (fun H3 e3 h3 => ⟨acc, e3, h3⟩)
    have hl := hlen _ _ _ h
    exact ⟨acc, e3, Nat.lt_of_le_of_lt (show acc.length ≤ 1000000 by omega) (by decide), acc ++ [v], upd_same, keep A _ _ H3 _ _ hA e3 h3⟩
  · obtain ⟨l, h1, h2⟩ := h
    exact q A H' l hA h1 h2
theorem w_yes {R : Bool → Hp → Prop} (h : R true H) : tYes σ H R := h
theorem acc_snoc {Pr : Nat → V → Prop} {acc : List V} {i : Nat} {y : V} (hl : acc.length = i) (h : ∀ j z, acc[j]? = some z → Pr j z) (hy : Pr i y) : ∀ j z, (acc ++ [y])[j]? = some z → Pr j z := fun j z e => by
  by_cases hj : j < acc.length
  · rw [List.getElem?_append_left hj] at e
    exact h j z e
  · rw [List.getElem?_append_right (by omega)] at e
    have hj2 : j - acc.length = 0 := by
      rcases Nat.eq_zero_or_pos (j - acc.length) with h | h
      · exact h
      · rw [List.getElem?_eq_none (show [y].length ≤ j - acc.length from h)] at e
        cases e
    rw [hj2] at e
    have ez : y = z := Option.some.inj e
    have : j = i := by omega
    rw [this, ← ez]
    exact hy
theorem same_upd {H H' : Hp} {A : Addr} {zs : List V} (h : H A = none) (s : Same H H') : Same H (upd H' A (.lst zs)) := fun b o e => by
  rw [upd_ne (ne_of_none e h)]
  exact s _ _ e
theorem same_pair {H H' : Hp} {T : Addr} {o : HO} (h : H T = none) (e : H' = upd H T o) : Same H H' := by
  rw [e]
  exact same_new h
end


/-! ### the end: a law's def over such promises -/
theorem law_G {P : Program} {w : World} {K : PySem.W.Frag} {mg mb : Str → Option Value} {k : Nat} {fa a : Addr} {fd : FuncData} {x : Str} {sp : Sp} {s₁ : Shared} {vs : List Value} {ns : List Int}
    (KX : K.In s₁.heap) (hns : s₁.heap.Ns mainGlobals mg) (hb : s₁.heap.Ns builtinsNs mb) (hbb : ∀ x : Str, x ≠ "__name__" → mb x = bootBuiltins x) (nolim : s₁.heap.NoLimit) (gens : s₁.gens = #[])
    (obj : s₁.heap.get? a = some { cls := .type "list", data := .seq vs.toArray }) (nums : IntsAre vs ns) (len : ns.length ≤ sizeLine) (room : Room k callerA)
    (F : ∀ base : Heap, K.In base → base.Ns mainGlobals mg → FnG P w K mg base k fa fd [x] sp) (bind : ∀ (s : Shared) (u : Value), BindsTo s fd ⟨[u], []⟩ [(x, u)])
    (want : ∀ H : Hp, SqL K H a (ns.map V.int) → sp [.ref a] H (fun v _ => v = .bl true) fun _ _ _ => False) :
    codeAny (model P w) callerA (.call (.ref fa) ⟨[.ref a], []⟩) (fun r s' => r = .ok (.ret (.bool true)) ∧ OldK s₁.heap s'.heap ∧ s'.os = s₁.os ∧ AllBare s'.gens) s₁ := by
  have rel := vals_ints nums
  -- what is tracked: the script, as it stands, or nothing (it is one of the module's own)
  obtain ⟨H, only, script, ok, own⟩ : ∃ H : Hp, (∀ b u, H b = some u → b = a ∧ ∃ o zs, u = .frz o (.lst zs)) ∧ SqL K H a (ns.map V.int) ∧ HOk P w H s₁.heap ∧ ∀ b, H b ≠ none → K.lookup b = none := by
    cases known : K.lookup a with
    | some o =>
      have z := KX a o known
      rw [obj] at z
      cases z
      exact ⟨fun _ => none, (fun b u z => nomatch (show (none : Option HO) = some u from z)), .inr ⟨_, vs.toArray, _, known, rfl, rfl, rfl, by rw [List.size_toArray, nums.length]; exact len, by simpa using rel⟩, (fun b u z => nomatch (show (none : Option HO) = some u from z)), fun b z => absurd rfl z⟩
    | none =>
      let ob : Obj := { cls := .type "list", data := .seq vs.toArray }
      have one : ∀ b u, (if b = a then some (HO.frz ob (.lst (ns.map V.int))) else none) = some u → b = a ∧ u = .frz ob (.lst (ns.map V.int)) := fun b u z => by
        by_cases q : b = a
        · rw [if_pos q] at z
          exact ⟨q, (Option.some.inj z).symm⟩
        · rw [if_neg q] at z
          cases z
      refine ⟨fun b => if b = a then some (.frz ob (.lst (ns.map V.int))) else none, fun b u z => ?_, .inl (.inr ⟨ob, if_pos rfl⟩), fun b u z => ?_, fun b z => ?_⟩
      · obtain ⟨q1, q2⟩ := one b u z
        exact ⟨q1, _, _, q2⟩
      · obtain ⟨q1, q2⟩ := one b u z
        subst q1 q2
        exact ⟨obj, by rw [List.length_map]; exact len, vs, _, rel, obj⟩
      · have z2 : (if b = a then some (HO.frz ob (.lst (ns.map V.int))) else none) ≠ none := z
        by_cases q : b = a
        · rw [q]
          exact known
        · rw [if_neg q] at z2
          exact absurd rfl z2
  have untold : ∀ {b : Addr} {o : Obj} {es : Array DictEntry} {n : Nat}, s₁.heap.get? b = some o → o.data = .dict es n → H b = none := fun {b o es n} z d => by
    cases q : H b with
    | none => rfl
    | some u =>
      obtain ⟨q1, _⟩ := only b u q
      rw [q1, obj] at z
      cases z
      have d2 : Data.seq vs.toArray _ = Data.dict es n := d
      cases d2
  have names : ∀ {b : Addr} {m : Str → Option Value}, s₁.heap.Ns b m → (hidT s₁.heap H).Ns b m := fun {b m} ⟨o, es, n, z, d, r⟩ => ⟨o, es, n, hidT_get z (untold z d), d, r⟩
  have KB : K.In (hidT s₁.heap H) := fun b o z => hidT_get (KX b o z) (by
    cases q : H b with
    | none => rfl
    | some u =>
      rw [own b (by rw [q]; simp)] at z
      cases z)
  obtain ⟨mc, l1, l2⟩ := nolim
  have M : Mod K mg (hidT s₁.heap H) := ⟨KB, names hns, ⟨mb, names hb, hbb⟩, ⟨mc, names l1, l2⟩⟩
  have e0 : Env0 P w K mg (hidT s₁.heap H) callerA [] s₁ H := ⟨rfl, M, fun _ _ z => of_hidT z, Nat.le_of_eq (hidT_size _ _), trivial, (fun b z => nomatch (show b ∈ ([] : List Addr) from z)), ok, .of_eq gens⟩
  refine codeAny_mono ((F _ KB (names hns)).goes callerA [] s₁ H ⟨[.ref a], []⟩ [.ref a] [.ref a] _ _ room rfl e0 (bind s₁ (.ref a)) (.cons rfl .nil) (want H script)) fun out s2 z => ?_
  match out, z with
  | .error e, z =>
    obtain ⟨_, _, _, _, _, _, _, _, _, _, _, _, no⟩ := z
    exact no.elim
  | .ok .next, z => exact z.elim
  | .ok .brk, z => exact z.elim
  | .ok .cont, z => exact z.elim
  | .ok (.ret u), z =>
    obtain ⟨v, H2, os, bare, un, ok2, r2, q⟩ := z
    have q2 : v = .bl true := q
    subst q2
    obtain rfl : u = Value.bool true := r2
    refine ⟨rfl, OldK.of_keep fun b o there => ?_, os, bare⟩
    cases q : H b with
    | none => exact un.keep b o there q (fun z => nomatch (show b ∈ ([] : List Addr) from z)) (by simp)
    | some u =>
      obtain ⟨_, ob, zs, rfl⟩ := only b u q
      obtain ⟨e1, _⟩ := ok b _ q
      obtain ⟨e2, _⟩ := ok2 b _ (un.frzs b ob _ q)
      rw [there] at e1
      cases e1
      exact e2
theorem walk_G {l : PySem.W.OpenLaw} {n k : Nat} {q : Program} {loose : List Str} {XP : (Str → Option Value) → Heap → Prop} {YP : World → Heap → Prop} {d : DefRec} {x : Str}
    (hn : l.most = some n) (hn2 : n ≤ sizeLine) (hdf : d.params.defaults = []) (room : Room k callerA)
    (F : ∀ (w : World) (mg : Str → Option Value) (fa : Addr) (h : Heap), YP w h → h.Ns mainGlobals mg → mg d.name = some (.ref fa) →
      ∃ (K : PySem.W.Frag) (fd : FuncData) (sp : Sp), K.In h ∧ (∀ (s : Shared) (u : Value), BindsTo s fd ⟨[u], []⟩ [(x, u)]) ∧
        (∀ (H : Hp) (a : Addr) (ns : List Int), ns.length ≤ n → SqL K H a (ns.map V.int) → sp [.ref a] H (fun v _ => v = .bl true) fun _ _ _ => False) ∧
        ∀ base : Heap, K.In base → base.Ns mainGlobals mg → FnG l.prog w K mg base k fa fd [x] sp) :
    PySem.W.WalkO q loose XP YP l.row.toRowW d [] (fun f vs => PySem.call f vs) := by
  refine Att.attach_call hn hdf fun w s0 s1 mg mb fa o pm cd doc a vs ns G Y _ _ _ at_ obj nums len gens => ?_
  obtain ⟨K, fd, sp, KX, bind, want, hF⟩ := F w mg fa _ Y G.T.g at_
  exact law_G KX G.T.g G.T.b G.T.builtins G.T.nolimit gens obj nums (Nat.le_trans len hn2) room hF bind fun H z => want H a ns len z

def topS (i : Nat) : Stmt := PySem.Challenge.pw_anyasked_k03_whole_each_fraction_by_one.main.body.getD i (.Pass ⟨0, 0, 0, 0⟩)
abbrev s_AskedError___init__ : Stmt := inClass (topS 1) 0
abbrev s_is_integer : Stmt := topS 7
abbrev s_is_between : Stmt := topS 8
abbrev s_is_tuple : Stmt := topS 9
abbrev s_is_word : Stmt := topS 10
abbrev s_divisor_of : Stmt := topS 11
abbrev s_fraction : Stmt := topS 12
abbrev s_is_units : Stmt := topS 23
abbrev s_check_units : Stmt := topS 24
abbrev s_is_share : Stmt := topS 25
abbrev s_check_share : Stmt := topS 26
abbrev s_rounded : Stmt := topS 27
abbrev s_shown : Stmt := topS 28
abbrev s_halves : Stmt := topS 29
abbrev s_stretch : Stmt := topS 30
abbrev s_l_pot : Stmt := topS 32
abbrev s_l_take : Stmt := topS 33
abbrev s_l_of : Stmt := topS 34
abbrev s_l_cells : Stmt := topS 35
abbrev s_l_is_within : Stmt := topS 36
abbrev s_l_is_one_right : Stmt := topS 37
abbrev s_l_do_go_on : Stmt := topS 38
abbrev s_l_right : Stmt := topS 39
abbrev s_law : Stmt := topS 40
theorem sc_is_integer : FnScope ["value"] ["value"] (defScope s_is_integer) := ⟨rfl, rfl, rfl, by decide +kernel, rfl, by decide +kernel, by decide +kernel⟩
theorem sc_is_between : FnScope ["value", "low", "high"] ["value", "low", "high"] (defScope s_is_between) := ⟨rfl, rfl, rfl, by decide +kernel, rfl, by decide +kernel, by decide +kernel⟩
theorem sc_is_tuple : FnScope ["value", "least", "most"] ["value", "least", "most"] (defScope s_is_tuple) := ⟨rfl, rfl, rfl, by decide +kernel, rfl, by decide +kernel, by decide +kernel⟩
theorem sc_is_word : FnScope ["value", "words"] ["value", "words"] (defScope s_is_word) := ⟨rfl, rfl, rfl, by decide +kernel, rfl, by decide +kernel, by decide +kernel⟩
theorem sc_divisor_of : FnScope ["numbers", "found", "number", "rest"] ["numbers"] (defScope s_divisor_of) := ⟨rfl, rfl, rfl, by decide +kernel, rfl, by decide +kernel, by decide +kernel⟩
theorem sc_fraction : FnScope ["above", "under", "by"] ["above", "under"] (defScope s_fraction) := ⟨rfl, rfl, rfl, by decide +kernel, rfl, by decide +kernel, by decide +kernel⟩
theorem sc_is_units : FnScope ["value"] ["value"] (defScope s_is_units) := ⟨rfl, rfl, rfl, by decide +kernel, rfl, by decide +kernel, by decide +kernel⟩
theorem sc_check_units : FnScope ["value"] ["value"] (defScope s_check_units) := ⟨rfl, rfl, rfl, by decide +kernel, rfl, by decide +kernel, by decide +kernel⟩
theorem sc_is_share : FnScope ["units", "value"] ["units", "value"] (defScope s_is_share) := ⟨rfl, rfl, rfl, by decide +kernel, rfl, by decide +kernel, by decide +kernel⟩
theorem sc_check_share : FnScope ["units", "value"] ["units", "value"] (defScope s_check_share) := ⟨rfl, rfl, rfl, by decide +kernel, rfl, by decide +kernel, by decide +kernel⟩
theorem sc_rounded : FnScope ["how", "above", "under", "low", "rest"] ["how", "above", "under"] (defScope s_rounded) := ⟨rfl, rfl, rfl, by decide +kernel, rfl, by decide +kernel, by decide +kernel⟩
theorem sc_shown : FnScope ["units", "many", "whole"] ["units", "many", "whole"] (defScope s_shown) := ⟨rfl, rfl, rfl, by decide +kernel, rfl, by decide +kernel, by decide +kernel⟩
theorem sc_halves : FnScope ["how", "share", "is_even"] ["how", "share"] (defScope s_halves) := ⟨rfl, rfl, rfl, by decide +kernel, rfl, by decide +kernel, by decide +kernel⟩
theorem sc_stretch : FnScope ["units", "share", "parts", "how", "low", "is_low", "high", "is_high"] ["units", "share"] (defScope s_stretch) := ⟨rfl, rfl, rfl, by decide +kernel, rfl, by decide +kernel, by decide +kernel⟩
theorem sc_l_pot : FnScope ["_law_script", "_law_place", "_law_cell", "_law_own", "_law_small"] ["_law_script", "_law_place"] (defScope s_l_pot) := ⟨rfl, rfl, rfl, by decide +kernel, rfl, by decide +kernel, by decide +kernel⟩
theorem sc_l_take : FnScope ["_law_pot_here", "_law_upto", "_law_digit", "_law_prime", "_law_stir"] ["_law_pot_here", "_law_upto"] (defScope s_l_take) := ⟨rfl, rfl, rfl, by decide +kernel, rfl, by decide +kernel, by decide +kernel⟩
theorem sc_l_of : FnScope ["_law_pot_here", "_law_some"] ["_law_pot_here", "_law_some"] (defScope s_l_of) := ⟨rfl, rfl, rfl, by decide +kernel, rfl, by decide +kernel, by decide +kernel⟩
theorem sc_l_cells : FnScope ["_law_script", "_law_most"] ["_law_script", "_law_most"] (defScope s_l_cells) := ⟨rfl, rfl, rfl, by decide +kernel, rfl, by decide +kernel, by decide +kernel⟩
theorem sc_l_is_within : FnScope ["_law_told", "_law_many", "_law_whole", "_law_low", "_law_is_low", "_law_high", "_law_is_high", "_law_left", "_law_right_here"] ["_law_told", "_law_many", "_law_whole"] (defScope s_l_is_within) := ⟨rfl, rfl, rfl, by decide +kernel, rfl, by decide +kernel, by decide +kernel⟩
theorem sc_l_is_one_right : FnScope ["_law_units", "_law_told", "_law_many", "_law_whole", "_law_marks", "_law_one", "_law_number", "_law_mark"] ["_law_units", "_law_told", "_law_many", "_law_whole"] (defScope s_l_is_one_right) := ⟨rfl, rfl, rfl, by decide +kernel, rfl, by decide +kernel, by decide +kernel⟩
theorem sc_l_do_go_on : FnScope ["_law_told", "_law_one", "_law_other"] ["_law_told"] (defScope s_l_do_go_on) := ⟨rfl, rfl, rfl, by decide +kernel, rfl, by decide +kernel, by decide +kernel⟩
theorem sc_l_right : FnScope ["_law_pot_here", "_law_how", "_law_units", "_law_told", "_law_some", "_law_whole", "_law_spots", "_law_share", "_law_lap", "_law_many"] ["_law_pot_here"] (defScope s_l_right) := ⟨rfl, rfl, rfl, by decide +kernel, rfl, by decide +kernel, by decide +kernel⟩
theorem sc_law : FnScope ["_law_script", "_law_place"] ["_law_script"] (defScope s_law) := ⟨rfl, rfl, rfl, by decide +kernel, rfl, by decide +kernel, by decide +kernel⟩
theorem st_AskedError___init__ (a0 a1 : V) : L2.start ["self", "value"] [a0, a1] = [some a0, some a1] := rfl
theorem st_is_integer (a0 : V) : L2.start ["value"] [a0] = [some a0] := rfl
theorem st_is_between (a0 a1 a2 : V) : L2.start ["value", "low", "high"] [a0, a1, a2] = [some a0, some a1, some a2] := rfl
theorem st_is_tuple (a0 a1 a2 : V) : L2.start ["value", "least", "most"] [a0, a1, a2] = [some a0, some a1, some a2] := rfl
theorem st_is_word (a0 a1 : V) : L2.start ["value", "words"] [a0, a1] = [some a0, some a1] := rfl
theorem st_divisor_of (a0 : V) : L2.start ["numbers", "found", "number", "rest"] [a0] = [some a0, none, none, none] := rfl
theorem st_fraction (a0 a1 : V) : L2.start ["above", "under", "by"] [a0, a1] = [some a0, some a1, none] := rfl
theorem st_is_units (a0 : V) : L2.start ["value"] [a0] = [some a0] := rfl
theorem st_check_units (a0 : V) : L2.start ["value"] [a0] = [some a0] := rfl
theorem st_is_share (a0 a1 : V) : L2.start ["units", "value"] [a0, a1] = [some a0, some a1] := rfl
theorem st_check_share (a0 a1 : V) : L2.start ["units", "value"] [a0, a1] = [some a0, some a1] := rfl
theorem st_rounded (a0 a1 a2 : V) : L2.start ["how", "above", "under", "low", "rest"] [a0, a1, a2] = [some a0, some a1, some a2, none, none] := rfl
theorem st_shown (a0 a1 a2 : V) : L2.start ["units", "many", "whole"] [a0, a1, a2] = [some a0, some a1, some a2] := rfl
theorem st_halves (a0 a1 : V) : L2.start ["how", "share", "is_even"] [a0, a1] = [some a0, some a1, none] := rfl
theorem st_stretch (a0 a1 : V) : L2.start ["units", "share", "parts", "how", "low", "is_low", "high", "is_high"] [a0, a1] = [some a0, some a1, none, none, none, none, none, none] := rfl
theorem st_l_pot (a0 a1 : V) : L2.start ["_law_script", "_law_place", "_law_cell", "_law_own", "_law_small"] [a0, a1] = [some a0, some a1, none, none, none] := rfl
theorem st_l_take (a0 a1 : V) : L2.start ["_law_pot_here", "_law_upto", "_law_digit", "_law_prime", "_law_stir"] [a0, a1] = [some a0, some a1, none, none, none] := rfl
theorem st_l_of (a0 a1 : V) : L2.start ["_law_pot_here", "_law_some"] [a0, a1] = [some a0, some a1] := rfl
theorem st_l_cells (a0 a1 : V) : L2.start ["_law_script", "_law_most"] [a0, a1] = [some a0, some a1] := rfl
theorem st_l_is_within (a0 a1 a2 : V) : L2.start ["_law_told", "_law_many", "_law_whole", "_law_low", "_law_is_low", "_law_high", "_law_is_high", "_law_left", "_law_right_here"] [a0, a1, a2] = [some a0, some a1, some a2, none, none, none, none, none, none] := rfl
theorem st_l_is_one_right (a0 a1 a2 a3 : V) : L2.start ["_law_units", "_law_told", "_law_many", "_law_whole", "_law_marks", "_law_one", "_law_number", "_law_mark"] [a0, a1, a2, a3] = [some a0, some a1, some a2, some a3, none, none, none, none] := rfl
theorem st_l_do_go_on (a0 : V) : L2.start ["_law_told", "_law_one", "_law_other"] [a0] = [some a0, none, none] := rfl
theorem st_l_right (a0 : V) : L2.start ["_law_pot_here", "_law_how", "_law_units", "_law_told", "_law_some", "_law_whole", "_law_spots", "_law_share", "_law_lap", "_law_many"] [a0] = [some a0, none, none, none, none, none, none, none, none, none] := rfl
theorem st_law (a0 : V) : L2.start ["_law_script", "_law_place"] [a0] = [some a0, none] := rfl
abbrev FnP (K : PySem.W.Frag) (x : Str) (st : Stmt) (f : Addr) (fd : FuncData) : Prop := FunD K x x (defArgs st) (defBody st) (defScope st) [] [] f fd
structure Txt (K : PySem.W.Frag) (mg : Str → Option Value) : Prop where
  d_is_integer : ∃ fd, FnP K "is_integer" s_is_integer (He.ga K "is_integer") fd
  g_is_integer : mg "is_integer" = some (.ref (He.ga K "is_integer"))
  d_is_between : ∃ fd, FnP K "is_between" s_is_between (He.ga K "is_between") fd
  g_is_between : mg "is_between" = some (.ref (He.ga K "is_between"))
  d_is_tuple : ∃ fd, FnP K "is_tuple" s_is_tuple (He.ga K "is_tuple") fd
  g_is_tuple : mg "is_tuple" = some (.ref (He.ga K "is_tuple"))
  d_is_word : ∃ fd, FnP K "is_word" s_is_word (He.ga K "is_word") fd
  g_is_word : mg "is_word" = some (.ref (He.ga K "is_word"))
  d_divisor_of : ∃ fd, FnP K "divisor_of" s_divisor_of (He.ga K "divisor_of") fd
  g_divisor_of : mg "divisor_of" = some (.ref (He.ga K "divisor_of"))
  d_fraction : ∃ fd, FnP K "fraction" s_fraction (He.ga K "fraction") fd
  g_fraction : mg "fraction" = some (.ref (He.ga K "fraction"))
  d_is_units : ∃ fd, FnP K "is_units" s_is_units (He.ga K "is_units") fd
  g_is_units : mg "is_units" = some (.ref (He.ga K "is_units"))
  d_check_units : ∃ fd, FnP K "check_units" s_check_units (He.ga K "check_units") fd
  g_check_units : mg "check_units" = some (.ref (He.ga K "check_units"))
  d_is_share : ∃ fd, FnP K "is_share" s_is_share (He.ga K "is_share") fd
  g_is_share : mg "is_share" = some (.ref (He.ga K "is_share"))
  d_check_share : ∃ fd, FnP K "check_share" s_check_share (He.ga K "check_share") fd
  g_check_share : mg "check_share" = some (.ref (He.ga K "check_share"))
  d_rounded : ∃ fd, FnP K "rounded" s_rounded (He.ga K "rounded") fd
  g_rounded : mg "rounded" = some (.ref (He.ga K "rounded"))
  d_shown : ∃ fd, FnP K "shown" s_shown (He.ga K "shown") fd
  g_shown : mg "shown" = some (.ref (He.ga K "shown"))
  d_halves : ∃ fd, FnP K "halves" s_halves (He.ga K "halves") fd
  g_halves : mg "halves" = some (.ref (He.ga K "halves"))
  d_stretch : ∃ fd, FnP K "stretch" s_stretch (He.ga K "stretch") fd
  g_stretch : mg "stretch" = some (.ref (He.ga K "stretch"))
  d_l_pot : ∃ fd, FnP K "_law_pot" s_l_pot (He.ga K "_law_pot") fd
  g_l_pot : mg "_law_pot" = some (.ref (He.ga K "_law_pot"))
  d_l_take : ∃ fd, FnP K "_law_take" s_l_take (He.ga K "_law_take") fd
  g_l_take : mg "_law_take" = some (.ref (He.ga K "_law_take"))
  d_l_of : ∃ fd, FnP K "_law_of" s_l_of (He.ga K "_law_of") fd
  g_l_of : mg "_law_of" = some (.ref (He.ga K "_law_of"))
  d_l_cells : ∃ fd, FnP K "_law_cells" s_l_cells (He.ga K "_law_cells") fd
  g_l_cells : mg "_law_cells" = some (.ref (He.ga K "_law_cells"))
  d_l_is_within : ∃ fd, FnP K "_law_is_within" s_l_is_within (He.ga K "_law_is_within") fd
  g_l_is_within : mg "_law_is_within" = some (.ref (He.ga K "_law_is_within"))
  d_l_is_one_right : ∃ fd, FnP K "_law_is_one_right" s_l_is_one_right (He.ga K "_law_is_one_right") fd
  g_l_is_one_right : mg "_law_is_one_right" = some (.ref (He.ga K "_law_is_one_right"))
  d_l_do_go_on : ∃ fd, FnP K "_law_do_go_on" s_l_do_go_on (He.ga K "_law_do_go_on") fd
  g_l_do_go_on : mg "_law_do_go_on" = some (.ref (He.ga K "_law_do_go_on"))
  d_l_right : ∃ fd, FnP K "_law_right" s_l_right (He.ga K "_law_right") fd
  g_l_right : mg "_law_right" = some (.ref (He.ga K "_law_right"))
  d_law : ∃ fd, FnP K "law" s_law (He.ga K "law") fd
  g_law : mg "law" = some (.ref (He.ga K "law"))
  c_PAIR : ∃ t, mg "PAIR" = some (.int 2 t)
  c_NEAR : ∃ t, mg "NEAR" = some (.str "near" t)
  c_EVEN : ∃ t, mg "EVEN" = some (.str "even" t)
  c_DOWN : ∃ t, mg "DOWN" = some (.str "down" t)
  c_UP : ∃ t, mg "UP" = some (.str "up" t)
  c_HOWS : mg "HOWS" = some (.ref (He.ga K "HOWS"))
  t_HOWS : ∀ H, SqT K H (He.ga K "HOWS") [(.str "near"), (.str "even"), (.str "down"), (.str "up")]
  c_NONE : ∃ t, mg "NONE" = some (.str "none" t)
  c_SOME : ∃ t, mg "SOME" = some (.str "some" t)
  c_LEAST_UNITS : ∃ t, mg "LEAST_UNITS" = some (.int 2 t)
  c_MOST_UNITS : ∃ t, mg "MOST_UNITS" = some (.int 100 t)
  z_abs : mg "abs" = none
  z_all : mg "all" = none
  z_bool : mg "bool" = none
  z_divmod : mg "divmod" = none
  z_enumerate : mg "enumerate" = none
  z_int : mg "int" = none
  z_isinstance : mg "isinstance" = none
  z_len : mg "len" = none
  z_list : mg "list" = none
  z_max : mg "max" = none
  z_min : mg "min" = none
  z_range : mg "range" = none
  z_repr : mg "repr" = none
  z_str : mg "str" = none
  z_tuple : mg "tuple" = none
  z_zip : mg "zip" = none
end Ak
namespace Ak
open PySem PySem.Spec PyProof.Rows L2
/-! ### the walk of readings -/
local macro_rules | `(tactic| walk_at "go1") => `(tactic| (first
  | with_reducible refine w_seq ?_ | with_reducible refine w_next ?_ | with_reducible refine w_set ?_ | with_reducible refine w_asgS ?_ | with_reducible refine w_ret ?_ | with_reducible refine w_drop ?_ | with_reducible refine w_ifS ?_
  | with_reducible refine w_op ?_ | with_reducible refine w_un ?_ | ((with_reducible apply w_var); (· exact rfl)) | with_reducible refine w_c ?_
  | with_reducible refine w_add ?_ | with_reducible refine w_sub ?_ | with_reducible refine w_lt ?_ | with_reducible refine w_le ?_ | with_reducible refine w_gt ?_ | with_reducible refine w_ge ?_ | with_reducible refine w_neg ?_ | with_reducible refine w_isN ?_ | with_reducible refine w_notN ?_
  | ((with_reducible refine w_eq ?_ ?_); (· exact rfl)) | ((with_reducible refine w_ne ?_ ?_); (· exact rfl))
  | with_reducible refine w_test ?_ | with_reducible refine w_B ?_ | with_reducible refine w_or ?_ | with_reducible refine w_and ?_ | with_reducible refine w_not ?_ | with_reducible refine w_andV ?_ | with_reducible refine w_orV ?_ | with_reducible refine w_notV ?_
  | with_reducible refine w_ifE ?_ | with_reducible refine w_chain ?_ | with_reducible refine w_cb ?_ | with_reducible refine w_nil ?_ | with_reducible refine w_cons ?_ | with_reducible refine w_tup ?_ | with_reducible refine w_lst ?_ | with_reducible refine w_call ?_
  | with_reducible refine w_int1 ?_ | with_reducible refine w_abs ?_ | with_reducible refine w_max2 ?_ | with_reducible refine w_min2 ?_
  | with_reducible refine w_mknx ?_ | with_reducible refine w_mkrt ?_ | with_reducible refine w_mkbk ?_ | with_reducible refine w_mkct ?_ | with_reducible refine w_ifT ?_ | with_reducible refine w_ifF ?_ | with_reducible refine w_ifNT ?_ | with_reducible refine w_ifNF ?_
  | with_reducible refine w_lc ?_ | with_reducible refine w_lrg ?_ | with_reducible refine w_rg1 ?_ | with_reducible refine w_rg2 ?_ | with_reducible refine w_exI ?_ | with_reducible refine w_exI2 ?_
  | with_reducible refine w_sl ?_ | with_reducible refine w_part ?_ | with_reducible refine w_noPart ?_ | with_reducible refine w_lcE ?_ | with_reducible refine w_lcZ ?_ | with_reducible refine w_yes ?_
  | with_reducible refine w_bl ?_ | with_reducible refine w_asgT ?_ | with_reducible refine w_gcons ?_ | with_reducible refine w_gnil ?_ | with_reducible refine w_par ?_ | with_reducible refine w_pair ?_
  | ((with_reducible refine w_ixL (v := ?vv) (sqL (by assumption)) ?ee ?_); (case ee => exact rfl)) | ((with_reducible refine w_ixT (v := ?vv) (sqT (by assumption)) ?ee ?_); (case ee => exact rfl))
  | ((with_reducible refine w_ixL (v := ?vv) (by assumption) ?ee ?_); (case ee => exact rfl)) | ((with_reducible refine w_ixT (v := ?vv) (by assumption) ?ee ?_); (case ee => exact rfl))
  | ((with_reducible refine w_ifDT ?_ ?_); (· first | omega | decide +kernel)) | ((with_reducible refine w_ifDF ?_ ?_); (· first | omega | decide +kernel | exact ne_IS | exact ne_SI | exact ne_IN | exact ne_SN | exact ne_RN))
  | ((with_reducible refine w_mod ?_ ?_); (· omega)) | ((with_reducible refine w_fdiv ?_ ?_ ?_); (· omega); (· omega))
  | ((with_reducible refine w_mulL ?_ ?_ ?_); (· omega); (· omega)) | ((with_reducible refine w_mulR ?_ ?_ ?_); (· omega); (· omega))
  | with_reducible refine w_lenL (sqL (by assumption)) ?_ | with_reducible refine w_lenL (by assumption) ?_ | with_reducible refine w_lenT (sqT (by assumption)) ?_ | with_reducible refine w_lenT (by assumption) ?_))
local macro_rules | `(tactic| walk_at "go") => `(tactic| repeat walk_at "go1")
/-! ### draws: the law's own pot -/
def PotL (n : Nat) (xs : List V) : Prop := ∃ a b c : Int, xs = [.int a, .int b, .int c] ∧ 0 ≤ a ∧ 0 ≤ b ∧ b < 2305843009213693952 ∧ 0 ≤ c ∧ c ≤ n
/-- all but what stands at p is as it was -/
def But (p : Addr) (H H' : Hp) : Prop := ∀ b o, b ≠ p → H b = some o → H' b = some o
theorem But.refl {p : Addr} {H : Hp} : But p H H := fun _ _ _ h => h
theorem But.trans {p : Addr} {H H1 H2 : Hp} (a : But p H H1) (b : But p H1 H2) : But p H H2 := fun c o n h => b c o n (a c o n h)
theorem But.upd {p : Addr} {H H' : Hp} {o : HO} (a : But p H H') : But p H (upd H' p o) := fun c u n h => by
  rw [upd_ne n]
  exact a c u n h
theorem But.new {p q : Addr} {H H' : Hp} {o : HO} (a : But p H H') (hq : H' q = none) : But p H (L2.upd H' q o) := fun c u n h => by
  rw [upd_ne (ne_of_none (a c u n h) hq)]
  exact a c u n h
theorem upd_old {H : Hp} {q b : Addr} {o u : HO} (hq : H q = none) (h : H b = some u) : upd H q o b = some u := by
  rw [upd_ne (ne_of_none h hq)]
  exact h
theorem But.tups {p : Addr} {H H' : Hp} {xs : List V} (b : But p H H') (hp : H p = some (.lst xs)) : ∀ a ys, H a = some (.tup ys) → H' a = some (.tup ys) := fun a ys h => b a _ (fun z => by
  rw [z, hp] at h
  cases h) h
/-- what a draw promises -/
def Draw (ok : V → Hp → Prop) (p : Addr) (m : Nat) (H : Hp) (Q : VK) : Prop := ∀ v H' ys, But p H H' → H' p = some (.lst ys) → PotL m ys → ok v H' → Q v H'
def spTake : Sp := fun vs H Q _ => ∃ p n u xs, vs = [.ref p, .int u] ∧ H p = some (.lst xs) ∧ PotL n xs ∧ n < 100000 ∧ 0 < u ∧ u < 1073741824 ∧ Draw (fun v _ => ∃ r, v = .int r ∧ 0 ≤ r ∧ r < u) p (n + 1) H Q
theorem cpow_of {i j : Int} (h0 : 0 ≤ i) (h : i < 340282366920938463463374607431768211456) (h1 : 0 ≤ j) (h2 : j ≤ 100) : CPowW i j := by
  refine ⟨h1, h2, Nat.lt_of_lt_of_le (m := 340282366920938463463374607431768211456) (by omega) ?_⟩
  exact Nat.pow_le_pow_right (i := 128) (j := 4096) (n := 2) (by decide) (by decide)
theorem cpow_gen {b k c m : Int} (hb : 0 ≤ b) (hb2 : b < 2305843009213693952) (hc : 0 ≤ c) (hc2 : c ≤ 100001) (hk : 0 ≤ k) (hk2 : k ≤ 1000000) (hm : 0 ≤ m) (hm2 : m ≤ 1000000) : CPowW (b + k * c * c + m) 3 := by
  have h1 : 0 ≤ k * c := Int.mul_nonneg hk hc
  have h2 : 0 ≤ k * c * c := Int.mul_nonneg h1 hc
  have h3 : k * c ≤ 1000000 * 100001 := Int.mul_le_mul hk2 hc2 hc (by decide)
  have h4 : k * c * c ≤ 1000000 * 100001 * 100001 := Int.mul_le_mul h3 hc2 hc (by decide)
  exact cpow_of (by omega) (by omega) (by decide) (by decide)
theorem _root_.L2.Same.but {p : Addr} {H H' : Hp} (s : Same H H') : But p H H' := fun b o _ h => s b o h
section
variable {P : Program} {w : World} {K : PySem.W.Frag} {mg : Str → Option Value} {base : Heap}
theorem C_l_take (T : Txt K mg) : Cal P w K mg base 1 "_law_take" ["_law_pot_here", "_law_upto"] spTake := by
  obtain ⟨fd, F⟩ := T.d_l_take
  refine ⟨_, fd, okG F sc_l_take (fun vs H Q E h => ?_) (fun cdv A outer s H vs Q E hr hgd h => ?_), T.g_l_take, F.kp, (F.bindsN fun _ _ _ _ _ _ us hl => match us, hl with | [_, _], _ => rfl)⟩
  · obtain ⟨p, n, u, xs, rfl, _⟩ := h
    rfl
  · obtain ⟨p, n, u, xs, rfl, hp, ⟨a, b, c, rfl, ha, hb, hb2, hc, hc2⟩, hn, hu, hu2, q⟩ := h
    refine ⟨_, PSs.nox (pss_cons (ps_if (pt_cmpR o_gt (pe_ix (x_ix (K := K) rfl) (pv 0) pe_int (fun _ _ => rfl)) pe_int (nomark _)) (pss_cons (ps_set (i := 2) sc_l_take.nd rfl (.inl rfl) (pe_op o_mod (pe_callTy c_int1 (by rfl) T.z_int (by decide +kernel) (pa_cons (pe_ix (x_ix (K := K) rfl) (pv 0) pe_int (fun _ _ => rfl)) pa_nil)) (pv 1)))
    (pss_cons (ps_asg (pe_op o_fdiv (pe_ix (x_ix (K := K) rfl) (pv 0) pe_int (fun _ _ => rfl)) (pv 1)) (pg_sub (pv 0) pe_int set_list))
    (pss_one (ps_ret (pv 2))))) pss_nil)
    (pss_cons (ps_asg (pe_op o_add (pe_ix (x_ix (K := K) rfl) (pv 0) pe_int (fun _ _ => rfl)) pe_int) (pg_sub (pv 0) pe_int set_list))
    (pss_cons (ps_set (i := 3) sc_l_take.nd rfl (.inl rfl) (pe_ix (x_ix (K := K) rfl) (pe_lst (pa_cons pe_int (pa_cons pe_int (pa_cons pe_int (pa_cons pe_int (pa_cons pe_int pa_nil)))))) (pe_op o_mod (pe_callTy c_int1 (by rfl) T.z_int (by decide +kernel) (pa_cons (pe_ix (x_ix (K := K) rfl) (pv 0) pe_int (fun _ _ => rfl)) pa_nil)) pe_int) (fun _ _ => rfl)))
    (pss_cons (ps_set (i := 4) sc_l_take.nd rfl (.inl rfl) (pe_op o_mod (pe_callTy c_int1 (by rfl) T.z_int (by decide +kernel) (pa_cons (pe_op o_pow (pe_callTy c_int1 (by rfl) T.z_int (by decide +kernel) (pa_cons (pe_op o_add (pe_op o_add (pe_ix (x_ix (K := K) rfl) (pv 0) pe_int (fun _ _ => rfl)) (pe_op o_mul (pe_op o_mul pe_int (pe_ix (x_ix (K := K) rfl) (pv 0) pe_int (fun _ _ => rfl))) (pe_ix (x_ix (K := K) rfl) (pv 0) pe_int (fun _ _ => rfl)))) pe_int) pa_nil)) pe_int) pa_nil)) (pv 3)))
    (pss_cons (ps_set (i := 4) sc_l_take.nd rfl (.inl rfl) (pe_op o_mod (pe_callTy c_int1 (by rfl) T.z_int (by decide +kernel) (pa_cons (pe_op o_mul (pv 4) (pe_op o_add (pe_op o_mod (pe_callTy c_int1 (by rfl) T.z_int (by decide +kernel) (pa_cons (pv 4) pa_nil)) pe_int) (pe_op o_mul pe_int (pe_ix (x_ix (K := K) rfl) (pv 0) pe_int (fun _ _ => rfl))))) pa_nil)) pe_int))
    (pss_one (ps_ret (pe_op o_mod (pe_callTy c_int1 (by rfl) T.z_int (by decide +kernel) (pa_cons (pe_op o_fdiv (pv 4) pe_int) pa_nil)) (pv 1))))))))), ?_⟩
    try dsimp only [cxOf, Cx.nox, Cx.wish]
    rw [st_l_take]; walk_at "go"
    refine w_if (fun e => ?_) (fun e => ?_)
    · walk_at "go"
      refine w_setG hp rfl (fun H1 hp1 b1 => ?_)
      walk_at "go"
      exact q _ _ _ b1 hp1 ⟨a / u, b, c, rfl, Int.ediv_nonneg ha (by omega), hb, hb2, hc, by omega⟩ ⟨_, rfl, Int.emod_nonneg a (by omega), Int.emod_lt_of_pos a hu⟩
    · walk_at "go"
      refine w_setG hp rfl (fun H1 hp1' b1 => ?_)
      have hp1 : H1 p = some (.lst [.int a, .int b, .int (c + 1)]) := hp1'
      walk_at "go"
      refine w_newL rfl (fun l H2 nl hl s2 => ?_)
      have hp2 := s2 _ _ hp1
      walk_at "go"
      obtain ⟨v, ev, mv⟩ := atI_ex (xs := [V.int 2147483647, .int 2147483629, .int 2147483587, .int 2147483579, .int 2147483563]) (m := (c + 1) % 5) (by omega) (by show (c + 1) % 5 < 5; omega)
      obtain ⟨pr, rfl, h1, h2⟩ : ∃ pr, v = .int pr ∧ 0 < pr ∧ pr < 2147483648 := by
        simp only [List.mem_cons, List.not_mem_nil, or_false] at mv
        rcases mv with e | e | e | e | e <;> exact ⟨_, e, by decide, by decide⟩
      refine w_ixL (sqL hl) ev ?_
      walk_at "go"
      refine w_pow (cpow_gen hb hb2 (by omega) (by omega) (by decide) (by decide) (by decide) (by decide)) ?_
      iterate 3 walk_at "go1"
      refine w_modG h1 (fun st s0 s1 => ?_)
      walk_at "go"
      exact q _ _ _ (But.trans b1 s2.but) hp2 ⟨a, b, c + 1, rfl, ha, hb, hb2, by omega, by omega⟩ ⟨_, rfl, Int.emod_nonneg _ (by omega), Int.emod_lt_of_pos _ hu⟩
def spPot (K : PySem.W.Frag) : Sp := fun vs H Q _ => ∃ a k ns, vs = [.ref a, .int k] ∧ SqL K H a ((ns : List Int).map V.int) ∧ 0 ≤ k ∧ k ≤ 100 ∧ ∀ p H' ys, H p = none → Same H H' → H' p = some (.lst ys) → PotL 0 ys → Q (.ref p) H'
theorem C_l_pot (T : Txt K mg) : Cal P w K mg base 1 "_law_pot" ["_law_script", "_law_place"] (spPot K) := by
  obtain ⟨fd, F⟩ := T.d_l_pot
  refine ⟨_, fd, okG F sc_l_pot (fun vs H Q E h => ?_) (fun cdv A outer s H vs Q E hr hgd h => ?_), T.g_l_pot, F.kp, (F.bindsN fun _ _ _ _ _ _ us hl => match us, hl with | [_, _], _ => rfl)⟩
  · obtain ⟨p, n, u, rfl, _⟩ := h
    rfl
  · obtain ⟨a, k, ns, rfl, hS, hk, hk2, q⟩ := h
    refine ⟨_, PSs.nox (pss_cons (ps_set (i := 2) sc_l_pot.nd rfl (.inl rfl) (pe_ifExp (pt_cmpR o_lt (pv 1) (pe_callB (x_len (K := K) rfl) (by rfl) T.z_len (by decide +kernel) (pa_cons (pv 0) pa_nil)) (nomark _)) (pe_ix (x_ix (K := K) rfl) (pv 0) (pv 1) (fun _ _ => rfl)) (pe_op o_add (pe_op o_mul pe_int (pv 1)) pe_int)))
    (pss_cons (ps_set (i := 3) sc_l_pot.nd rfl (.inl rfl) (pe_op o_mul (pe_op o_mod (pe_callTy c_int1 (by rfl) T.z_int (by decide +kernel) (pa_cons (pe_callB c_abs (by rfl) T.z_abs (by decide +kernel) (pa_cons (pv 2) pa_nil)) pa_nil)) (pe_op o_pow (pe_op o_pow pe_int pe_int) pe_int)) (pe_callTy c_int1 (by rfl) T.z_int (by decide +kernel) (pa_cons (pe_cmpR o_ge (pe_callB c_abs (by rfl) T.z_abs (by decide +kernel) (pa_cons (pv 2) pa_nil)) (pe_op o_pow pe_int pe_int) (nomark _)) pa_nil))))
    (pss_cons (ps_set (i := 4) sc_l_pot.nd rfl (.inl rfl) (pe_op o_mod (pe_callTy c_int1 (by rfl) T.z_int (by decide +kernel) (pa_cons (pv 2) pa_nil)) pe_int))
    (pss_one (ps_ret (pe_lst (pa_cons (pv 3) (pa_cons (pe_op o_mod (pe_callTy c_int1 (by rfl) T.z_int (by decide +kernel) (pa_cons (pe_op o_add (pe_op o_add (pe_op o_mul (pv 4) pe_int) (pe_op o_mul (pe_op o_mul pe_int (pv 1)) (pv 1))) pe_int) pa_nil)) pe_int) (pa_cons pe_int pa_nil))))))))), ?_⟩
    try dsimp only [cxOf, Cx.nox, Cx.wish]
    rw [st_l_pot]; walk_at "go"
    refine w_if (fun e => ?g1) (fun e => ?_)
    case' g1 =>
      walk_at "go"
      obtain ⟨v, ev, mv⟩ := atI_ex (xs := ns.map V.int) hk e
      obtain ⟨z, _, rfl⟩ := List.mem_map.mp mv
      refine w_ixL hS ev ?_
    all_goals
      walk_at "go"
      refine w_pow (cpow_of (by decide) (by decide) (by decide) (by decide)) ?_
      walk_at "go"
      refine w_pow ⟨by decide, by decide, by decide +kernel⟩ ?_
      refine w_modG (Int.pow_pos (Int.pow_pos (by decide))) (fun r r0 _ => ?_)
      walk_at "go"
      refine w_pow (cpow_of (by decide) (by decide) (by decide) (by decide)) ?_
      walk_at "go"
      refine w_int1G (fun f f0 f1 => ?_)
      walk_at "go"
      refine w_newL rfl (fun p H1 np hp s1 => ?_)
      exact q _ _ _ np s1 hp ⟨_, _, 0, rfl, Int.mul_nonneg r0 f0, by omega, by omega, by omega, by omega⟩
def spOf (K : PySem.W.Frag) : Sp := fun vs H Q _ => ∃ p n xs l ys, vs = [.ref p, .ref l] ∧ H p = some (.lst xs) ∧ PotL n xs ∧ n < 100000 ∧ p ≠ l ∧ SqL K H l ys ∧ 0 < ys.length ∧ ys.length ≤ 1000 ∧ Draw (fun v _ => v ∈ ys) p (n + 1) H Q
theorem sq_but {p l : Addr} {H H' : Hp} {xs : List V} (b : But p H H') (n : p ≠ l) (h : SqL K H l xs) : SqL K H' l xs := by
  rcases h with (h | ⟨o, h⟩) | h
  · exact .inl (.inl (b _ _ (Ne.symm n) h))
  · exact .inl (.inr ⟨o, b _ _ (Ne.symm n) h⟩)
  · exact .inr h
theorem C_l_of (T : Txt K mg) : Cal P w K mg base 2 "_law_of" ["_law_pot_here", "_law_some"] (spOf K) := by
  have C_l_take := C_l_take (P := P) (w := w) (base := base) T
  obtain ⟨fd, F⟩ := T.d_l_of
  refine ⟨_, fd, okG F sc_l_of (fun vs H Q E h => ?_) (fun cdv A outer s H vs Q E hr hgd h => ?_), T.g_l_of, F.kp, (F.bindsN fun _ _ _ _ _ _ us hl => match us, hl with | [_, _], _ => rfl)⟩
  · obtain ⟨p, n, xs, l, ys, rfl, _⟩ := h
    rfl
  · obtain ⟨p, n, xs, l, ys, rfl, hp, hP, hn, hne, hl, h0, h1, q⟩ := h
    refine ⟨_, PSs.nox (pss_one (ps_ret (pe_ix (x_ix (K := K) rfl) (pv 1) (pe_cal C_l_take (hr.mono (by decide)) hgd (by rfl) (pa_cons (pv 0) (pa_cons (pe_callB (x_len (K := K) rfl) (by rfl) T.z_len (by decide +kernel) (pa_cons (pv 1) pa_nil)) pa_nil))) (fun _ _ => rfl)))), ?_⟩
    try dsimp only [cxOf, Cx.nox, Cx.wish]
    rw [st_l_of]; walk_at "go"
    refine ⟨p, n, _, xs, rfl, hp, hP, hn, by omega, by omega, ?_⟩
    rintro v H1 zs b1 hp1 hP1 ⟨r, rfl, r0, r1⟩
    obtain ⟨v, ev, mv⟩ := atI_ex r0 r1
    exact w_ixL (sq_but b1 hne hl) ev (q _ _ _ b1 hp1 hP1 mv)
def spCells (K : PySem.W.Frag) : Sp := fun vs H Q _ => ∃ a k ns, vs = [.ref a, .int k] ∧ SqL K H a ((ns : List Int).map V.int) ∧ 1 ≤ k ∧ k ≤ 100 ∧ ∀ p H' n, H p = none → Same H H' → n ≤ 100 → H' p = some (.lst (rgV 0 n)) → Q (.ref p) H'
theorem C_l_cells (T : Txt K mg) : Cal P w K mg base 1 "_law_cells" ["_law_script", "_law_most"] (spCells K) := by
  obtain ⟨fd, F⟩ := T.d_l_cells
  refine ⟨_, fd, okG F sc_l_cells (fun vs H Q E h => ?_) (fun cdv A outer s H vs Q E hr hgd h => ?_), T.g_l_cells, F.kp, (F.bindsN fun _ _ _ _ _ _ us hl => match us, hl with | [_, _], _ => rfl)⟩
  · obtain ⟨p, n, u, rfl, _⟩ := h
    rfl
  · obtain ⟨a, k, ns, rfl, hS, hk, hk2, q⟩ := h
    refine ⟨_, PSs.nox (pss_one (ps_ret (pe_listRg rfl (by rfl) T.z_list (prg_1 (by rfl) T.z_range (pe_callB (c_max2 rfl) (by rfl) T.z_max (by decide +kernel) (pa_cons pe_int (pa_cons (pe_callB (c_min2 rfl) (by rfl) T.z_min (by decide +kernel) (pa_cons (pv 1) (pa_cons (pe_callB (x_len (K := K) rfl) (by rfl) T.z_len (by decide +kernel) (pa_cons (pv 0) pa_nil)) pa_nil))) pa_nil))))))), ?_⟩
    try dsimp only [cxOf, Cx.nox, Cx.wish]
    rw [st_l_cells]; walk_at "go"
    refine w_newR (by decide) (by decide) ?_ ?_ (fun p H1 np hp s1 => ?_)
    · split <;> split <;> omega
    · split <;> split <;> omega
    · exact q _ _ _ np s1 (by split <;> split <;> omega) hp
end

end Ak
namespace Ak
open PySem PySem.Spec PyProof.Rows L2
/-! ### the walk of readings -/
local macro_rules | `(tactic| walk_at "go1") => `(tactic| (first
  | with_reducible refine w_seq ?_ | with_reducible refine w_next ?_ | with_reducible refine w_set ?_ | with_reducible refine w_asgS ?_ | with_reducible refine w_ret ?_ | with_reducible refine w_drop ?_ | with_reducible refine w_ifS ?_
  | with_reducible refine w_op ?_ | with_reducible refine w_un ?_ | ((with_reducible apply w_var); (· exact rfl)) | with_reducible refine w_c ?_
  | with_reducible refine w_add ?_ | with_reducible refine w_sub ?_ | with_reducible refine w_lt ?_ | with_reducible refine w_le ?_ | with_reducible refine w_gt ?_ | with_reducible refine w_ge ?_ | with_reducible refine w_neg ?_ | with_reducible refine w_isN ?_ | with_reducible refine w_notN ?_
  | ((with_reducible refine w_eq ?_ ?_); (· exact rfl)) | ((with_reducible refine w_ne ?_ ?_); (· exact rfl))
  | with_reducible refine w_test ?_ | with_reducible refine w_B ?_ | with_reducible refine w_or ?_ | with_reducible refine w_and ?_ | with_reducible refine w_not ?_ | with_reducible refine w_andV ?_ | with_reducible refine w_orV ?_ | with_reducible refine w_notV ?_
  | with_reducible refine w_ifE ?_ | with_reducible refine w_chain ?_ | with_reducible refine w_cb ?_ | with_reducible refine w_nil ?_ | with_reducible refine w_cons ?_ | with_reducible refine w_tup ?_ | with_reducible refine w_lst ?_ | with_reducible refine w_call ?_
  | with_reducible refine w_int1 ?_ | with_reducible refine w_abs ?_ | with_reducible refine w_max2 ?_ | with_reducible refine w_min2 ?_
  | with_reducible refine w_mknx ?_ | with_reducible refine w_mkrt ?_ | with_reducible refine w_mkbk ?_ | with_reducible refine w_mkct ?_ | with_reducible refine w_ifT ?_ | with_reducible refine w_ifF ?_ | with_reducible refine w_ifNT ?_ | with_reducible refine w_ifNF ?_
  | with_reducible refine w_lc ?_ | with_reducible refine w_lrg ?_ | with_reducible refine w_rg1 ?_ | with_reducible refine w_rg2 ?_ | with_reducible refine w_exI ?_ | with_reducible refine w_exI2 ?_
  | with_reducible refine w_sl ?_ | with_reducible refine w_part ?_ | with_reducible refine w_noPart ?_ | with_reducible refine w_lcE ?_ | with_reducible refine w_lcZ ?_ | with_reducible refine w_yes ?_
  | with_reducible refine w_bl ?_ | with_reducible refine w_asgT ?_ | with_reducible refine w_gcons ?_ | with_reducible refine w_gnil ?_ | with_reducible refine w_par ?_ | with_reducible refine w_pair ?_
  | ((with_reducible refine w_ixL (v := ?vv) (sqL (by assumption)) ?ee ?_); (case ee => exact rfl)) | ((with_reducible refine w_ixT (v := ?vv) (sqT (by assumption)) ?ee ?_); (case ee => exact rfl))
  | ((with_reducible refine w_ixL (v := ?vv) (by assumption) ?ee ?_); (case ee => exact rfl)) | ((with_reducible refine w_ixT (v := ?vv) (by assumption) ?ee ?_); (case ee => exact rfl))
  | ((with_reducible refine w_ifDT ?_ ?_); (· first | omega | decide +kernel)) | ((with_reducible refine w_ifDF ?_ ?_); (· first | omega | decide +kernel | exact ne_IS | exact ne_SI | exact ne_IN | exact ne_SN | exact ne_RN))
  | ((with_reducible refine w_mod ?_ ?_); (· omega)) | ((with_reducible refine w_fdiv ?_ ?_ ?_); (· omega); (· omega))
  | ((with_reducible refine w_mulL ?_ ?_ ?_); (· omega); (· omega)) | ((with_reducible refine w_mulR ?_ ?_ ?_); (· omega); (· omega))
  | with_reducible refine w_lenL (sqL (by assumption)) ?_ | with_reducible refine w_lenL (by assumption) ?_ | with_reducible refine w_lenT (sqT (by assumption)) ?_ | with_reducible refine w_lenT (by assumption) ?_))
local macro_rules | `(tactic| walk_at "go") => `(tactic| repeat walk_at "go1")
/-! ### kinds of values -/
inductive Kd where
  | int | bool | str | none | tup | lst | dic | own
  deriving DecidableEq
def Kd.isa : Kd → String → Bool
  | .int, s => s == "int"
  | .bool, s => s == "bool" || s == "int"
  | .str, s => s == "str"
  | .tup, s => s == "tuple"
  | .lst, s => s == "list"
  | .dic, s => s == "dict"
  | _, _ => false
/-- an instance of a class of the program's own -/
structure OwnC (K : PySem.W.Frag) (C : Addr) : Prop where
  cl : Cls K C
  ha : PySem.W.findIn K (.ref C) "__class__" = some (some (.builtin "object.__class__"))
  hn : PySem.W.specialIn K (.builtin "object.__class__") "__get__" = some (some (.builtin "getset_descriptor.__get__"))
  htk : PySem.W.takesIn K (.builtin "object.__class__") = some true
  hm : PySem.W.mroIn K C (.type "object") = some true
  no : ∀ T ∈ ["int", "bool", "str", "tuple", "list", "dict"], PySem.W.kitOne K (.ref C) (.type T) = some false
def IsK (K : PySem.W.Frag) (H : Hp) (x : V) : Kd → Prop
  | .int => ∃ i, x = .int i
  | .bool => ∃ b, x = .bl b
  | .str => ∃ s, x = .str s
  | .none => x = .non
  | .tup => ∃ a xs, x = .ref a ∧ SqT K H a xs
  | .lst => ∃ a xs, x = .ref a ∧ SqL K H a xs
  | .dic => ∃ a kvs, x = .ref a ∧ H a = some (.dK kvs)
  | .own => ∃ a C dx fs, x = .ref a ∧ H a = some (.ins C dx fs) ∧ OwnC K C
section
variable {K : PySem.W.Frag} {H : Hp} {x : V} {Q : VK}
theorem IsK.ty {k : Kd} (h : IsK K H x k) {T : String} (hT : T ∈ ["int", "bool", "str", "tuple", "list", "dict"]) : ∃ t, TyX K H x t ∧ PySem.W.kitOne K t (.type T) = some (k.isa T) := by
  have six : T = "int" ∨ T = "bool" ∨ T = "str" ∨ T = "tuple" ∨ T = "list" ∨ T = "dict" := by simpa using hT
  cases k with
  | int =>
    obtain ⟨i, rfl⟩ := h
    refine ⟨_, .base (.int i), kit_ty ?_⟩
    rcases six with rfl | rfl | rfl | rfl | rfl | rfl <;> decide +kernel
  | bool =>
    obtain ⟨i, rfl⟩ := h
    refine ⟨_, .base (.bl i), kit_ty ?_⟩
    rcases six with rfl | rfl | rfl | rfl | rfl | rfl <;> decide +kernel
  | str =>
    obtain ⟨i, rfl⟩ := h
    refine ⟨_, .base (.str i), kit_ty ?_⟩
    rcases six with rfl | rfl | rfl | rfl | rfl | rfl <;> decide +kernel
  | none =>
    obtain rfl : x = .non := h
    refine ⟨_, .base .non, kit_ty ?_⟩
    rcases six with rfl | rfl | rfl | rfl | rfl | rfl <;> decide +kernel
  | tup =>
    obtain ⟨a, xs, rfl, h⟩ := h
    have e : TyX K H (.ref a) (.type "tuple") := by
      rcases h with (h | ⟨o, h⟩) | ⟨o, its, n, h1, h2, _⟩
      · exact .base (.tup h)
      · exact .fTuple h
      · exact .kTuple h1 h2
    refine ⟨_, e, kit_ty ?_⟩
    rcases six with rfl | rfl | rfl | rfl | rfl | rfl <;> decide +kernel
  | lst =>
    obtain ⟨a, xs, rfl, h⟩ := h
    have e : TyX K H (.ref a) (.type "list") := by
      rcases h with (h | ⟨o, h⟩) | ⟨o, its, n, h1, h2, _⟩
      · exact .base (.lst h)
      · exact .base (.frz h)
      · exact .kList h1 h2
    refine ⟨_, e, kit_ty ?_⟩
    rcases six with rfl | rfl | rfl | rfl | rfl | rfl <;> decide +kernel
  | dic =>
    obtain ⟨a, kvs, rfl, h⟩ := h
    refine ⟨_, .base (.dK h), kit_ty ?_⟩
    rcases six with rfl | rfl | rfl | rfl | rfl | rfl <;> decide +kernel
  | own =>
    obtain ⟨a, C, dx, fs, rfl, h, c⟩ := h
    exact ⟨_, .base (.ins h c.cl c.ha c.hn c.htk c.hm), c.no T hT⟩
theorem w_isi {k : Kd} {T : String} (h : IsK K H x k) (hT : T ∈ ["int", "bool", "str", "tuple", "list", "dict"]) (q : Q (.bl (k.isa T)) H) : rIsi K [x, .ty T] H Q := by
  obtain ⟨t, h1, h2⟩ := h.ty hT
  exact ⟨x, .ty T, t, .type T, _, rfl, .ty T, h1, h2, q⟩
theorem isI {i : Int} : IsK K H (.int i) .int := ⟨i, rfl⟩
theorem isB {b : Bool} : IsK K H (.bl b) .bool := ⟨b, rfl⟩
theorem isS {s : Str} : IsK K H (.str s) .str := ⟨s, rfl⟩
theorem isN : IsK K H .non .none := rfl
theorem isT {a : Addr} {xs : List V} (h : SqT K H a xs) : IsK K H (.ref a) .tup := ⟨a, xs, rfl, h⟩
theorem isL {a : Addr} {xs : List V} (h : SqL K H a xs) : IsK K H (.ref a) .lst := ⟨a, xs, rfl, h⟩
theorem inV_str (s : Str) : ∀ ws : List Str, inV (.str s) (ws.map V.str) = decide (s ∈ ws)
  | [] => rfl
  | a :: r => by
    have ih := inV_str s r
    show ((a == s) || inV (.str s) (r.map V.str)) = decide (s ∈ a :: r)
    rw [ih]
    by_cases h : s = a
    · subst h
      simp
    · have h2 : (a == s) = false := by simpa using fun e => h e.symm
      rw [h2, Bool.false_or]
      simp [h]
theorem w_inT {p : Addr} {ws : List Str} {s : Str} (h : SqT K H p (ws.map V.str)) (q : Q (.bl (decide (s ∈ ws))) H) : rIn K false (.str s) (.ref p) H Q := by
  refine ⟨p, ws.map V.str, rfl, .inr h, rfl, ?_, ?_⟩
  · rw [List.all_eq_true]
    intro y hy
    obtain ⟨z, _, rfl⟩ := List.mem_map.mp hy
    rfl
  · have e : inV (.str s) (ws.map V.str) = decide (s ∈ ws) := inV_str s ws
    show Q (.bl (if false = true then !inV (.str s) (ws.map V.str) else inV (.str s) (ws.map V.str))) H
    rw [if_neg Bool.false_ne_true, e]
    exact q
end

/-! ### words.py -/
def betw : V → Int → Int → Bool
  | .int i, lo, hi => decide (lo ≤ i) && decide (i ≤ hi)
  | _, _, _ => false
def spIsInt (K : PySem.W.Frag) : Sp := fun vs H Q _ => ∃ x k, vs = [x] ∧ IsK K H x k ∧ Q (.bl (decide (k = .int))) H
def spBetw (K : PySem.W.Frag) : Sp := fun vs H Q _ => ∃ x k lo hi, vs = [x, .int lo, .int hi] ∧ IsK K H x k ∧ Q (.bl (betw x lo hi)) H
def spIsTup (K : PySem.W.Frag) : Sp := fun vs H Q _ => ∃ x lo hi, vs = [x, .int lo, .int hi] ∧
  ((∃ a xs, x = .ref a ∧ SqT K H a xs ∧ Q (.bl (decide (lo ≤ xs.length) && decide ((xs.length : Int) ≤ hi))) H) ∨ ∃ k, IsK K H x k ∧ k ≠ .tup ∧ Q (.bl false) H)
def spIsWord (K : PySem.W.Frag) : Sp := fun vs H Q _ => ∃ x y, vs = [x, y] ∧
  ((∃ s a ws, x = .str s ∧ y = .ref a ∧ SqT K H a ((ws : List Str).map V.str) ∧ Q (.bl (decide (s ∈ ws))) H) ∨ ∃ k, IsK K H x k ∧ k ≠ .str ∧ Q (.bl false) H)
section
variable {P : Program} {w : World} {K : PySem.W.Frag} {mg : Str → Option Value} {base : Heap}
theorem C_is_integer (T : Txt K mg) : Cal P w K mg base 1 "is_integer" ["value"] (spIsInt K) := by
  obtain ⟨fd, F⟩ := T.d_is_integer
  refine ⟨_, fd, okG F sc_is_integer (fun vs H Q E h => ?_) (fun cdv A outer s H vs Q E hr hgd h => ?_), T.g_is_integer, F.kp, (F.bindsN fun _ _ _ _ _ _ us hl => match us, hl with | [_], _ => rfl)⟩
  · obtain ⟨x, k, rfl, _⟩ := h
    rfl
  · obtain ⟨x, k, rfl, hk, q⟩ := h
    refine ⟨_, PSs.nox (pss_one (ps_ret (pe_and (pe_callB (x_isi (K := K) rfl) (by rfl) T.z_isinstance (by decide +kernel) (pa_cons (pv 0) (pa_cons (pe_bltn (v := .ty "int") (u := .type "int") (by rfl) T.z_int (by decide +kernel) rfl) pa_nil))) (pe_one (pe_not (pe_callB (x_isi (K := K) rfl) (by rfl) T.z_isinstance (by decide +kernel) (pa_cons (pv 0) (pa_cons (pe_bltn (v := .ty "bool") (u := .type "bool") (by rfl) T.z_bool (by decide +kernel) rfl) pa_nil)))))))), ?_⟩
    try dsimp only [cxOf, Cx.nox, Cx.wish]
    rw [st_is_integer]; walk_at "go"
    refine w_isi hk (by simp) ?_
    walk_at "go"
    cases k with
    | int =>
      refine w_ifT ?_
      walk_at "go"
      refine w_isi hk (by simp) ?_
      walk_at "go"
      exact q
    | bool =>
      refine w_ifT ?_
      walk_at "go"
      refine w_isi hk (by simp) ?_
      walk_at "go"
      exact q
    | _ =>
      refine w_ifF ?_
      exact q
theorem C_is_between (T : Txt K mg) : Cal P w K mg base 2 "is_between" ["value", "low", "high"] (spBetw K) := by
  have C_is_integer := C_is_integer (P := P) (w := w) (base := base) T
  obtain ⟨fd, F⟩ := T.d_is_between
  refine ⟨_, fd, okG F sc_is_between (fun vs H Q E h => ?_) (fun cdv A outer s H vs Q E hr hgd h => ?_), T.g_is_between, F.kp, (F.bindsN fun _ _ _ _ _ _ us hl => match us, hl with | [_, _, _], _ => rfl)⟩
  · obtain ⟨x, k, lo, hi, rfl, _⟩ := h
    rfl
  · obtain ⟨x, k, lo, hi, rfl, hk, q⟩ := h
    refine ⟨_, PSs.nox (pss_one (ps_ret (pe_and (pe_cal C_is_integer (hr.mono (by decide)) hgd (by rfl) (pa_cons (pv 0) pa_nil)) (pe_one (pe_chain o_le o_le (pv 1) (pv 0) (pv 2)))))), ?_⟩
    try dsimp only [cxOf, Cx.nox, Cx.wish]
    rw [st_is_between]; walk_at "go"
    refine ⟨x, k, rfl, hk, ?_⟩
    walk_at "go"
    cases k with
    | int =>
      obtain ⟨i, rfl⟩ := hk
      refine w_ifT ?_
      walk_at "go"
      refine w_if (fun e => ?_) (fun e => ?_)
      · walk_at "go"
        have e2 : betw (.int i) lo hi = decide (i ≤ hi) := by
          show (decide (lo ≤ i) && decide (i ≤ hi)) = _
          rw [decide_eq_true e, Bool.true_and]
        rw [e2] at q
        exact q
      · have e2 : betw (.int i) lo hi = false := by
          show (decide (lo ≤ i) && decide (i ≤ hi)) = _
          rw [decide_eq_false e, Bool.false_and]
        rw [e2] at q
        exact q
    | bool =>
      obtain ⟨i, rfl⟩ := hk
      exact w_ifF q
    | str =>
      obtain ⟨i, rfl⟩ := hk
      exact w_ifF q
    | none =>
      obtain rfl : x = .non := hk
      exact w_ifF q
    | tup =>
      obtain ⟨i, _, rfl, _⟩ := hk
      exact w_ifF q
    | lst =>
      obtain ⟨i, _, rfl, _⟩ := hk
      exact w_ifF q
    | dic =>
      obtain ⟨i, _, rfl, _⟩ := hk
      exact w_ifF q
    | own =>
      obtain ⟨i, _, _, _, rfl, _⟩ := hk
      exact w_ifF q
theorem C_is_tuple (T : Txt K mg) : Cal P w K mg base 1 "is_tuple" ["value", "least", "most"] (spIsTup K) := by
  obtain ⟨fd, F⟩ := T.d_is_tuple
  refine ⟨_, fd, okG F sc_is_tuple (fun vs H Q E h => ?_) (fun cdv A outer s H vs Q E hr hgd h => ?_), T.g_is_tuple, F.kp, (F.bindsN fun _ _ _ _ _ _ us hl => match us, hl with | [_, _, _], _ => rfl)⟩
  · obtain ⟨x, lo, hi, rfl, _⟩ := h
    rfl
  · obtain ⟨x, lo, hi, rfl, h⟩ := h
    refine ⟨_, PSs.nox (pss_one (ps_ret (pe_and (pe_callB (x_isi (K := K) rfl) (by rfl) T.z_isinstance (by decide +kernel) (pa_cons (pv 0) (pa_cons (pe_bltn (v := .ty "tuple") (u := .type "tuple") (by rfl) T.z_tuple (by decide +kernel) rfl) pa_nil))) (pe_one (pe_chain o_le o_le (pv 1) (pe_callB (x_len (K := K) rfl) (by rfl) T.z_len (by decide +kernel) (pa_cons (pv 0) pa_nil)) (pv 2)))))), ?_⟩
    try dsimp only [cxOf, Cx.nox, Cx.wish]
    rw [st_is_tuple]; walk_at "go"
    rcases h with ⟨a, xs, rfl, hx, q⟩ | ⟨k, hk, nk, q⟩
    · refine w_isi (isT hx) (by simp) ?_
      walk_at "go"
      refine w_ifT ?_
      walk_at "go"
      refine w_if (fun e => ?_) (fun e => ?_)
      · walk_at "go"
        rw [decide_eq_true e, Bool.true_and] at q
        exact q
      · rw [decide_eq_false e, Bool.false_and] at q
        exact q
    · refine w_isi hk (by simp) ?_
      walk_at "go"
      cases k with
      | tup => exact absurd rfl nk
      | _ => exact w_ifF q
theorem C_is_word (T : Txt K mg) : Cal P w K mg base 1 "is_word" ["value", "words"] (spIsWord K) := by
  obtain ⟨fd, F⟩ := T.d_is_word
  refine ⟨_, fd, okG F sc_is_word (fun vs H Q E h => ?_) (fun cdv A outer s H vs Q E hr hgd h => ?_), T.g_is_word, F.kp, (F.bindsN fun _ _ _ _ _ _ us hl => match us, hl with | [_, _], _ => rfl)⟩
  · obtain ⟨x, y, rfl, _⟩ := h
    rfl
  · obtain ⟨x, y, rfl, h⟩ := h
    refine ⟨_, PSs.nox (pss_one (ps_ret (pe_and (pe_callB (x_isi (K := K) rfl) (by rfl) T.z_isinstance (by decide +kernel) (pa_cons (pv 0) (pa_cons (pe_bltn (v := .ty "str") (u := .type "str") (by rfl) T.z_str (by decide +kernel) rfl) pa_nil))) (pe_one (pe_cmpR (x_in (K := K) rfl) (pv 0) (pv 1) (by rfl)))))), ?_⟩
    try dsimp only [cxOf, Cx.nox, Cx.wish]
    rw [st_is_word]; walk_at "go"
    rcases h with ⟨s, a, ws, rfl, rfl, hx, q⟩ | ⟨k, hk, nk, q⟩
    · refine w_isi isS (by simp) ?_
      walk_at "go"
      refine w_ifT ?_
      walk_at "go"
      exact w_inT hx q
    · refine w_isi hk (by simp) ?_
      walk_at "go"
      cases k with
      | str => exact absurd rfl nk
      | _ => exact w_ifF q
end

end Ak
namespace Ak
open PySem PySem.Spec PyProof.Rows L2
/-! ### the walk of readings -/
local macro_rules | `(tactic| walk_at "go1") => `(tactic| (first
  | with_reducible refine w_seq ?_ | with_reducible refine w_next ?_ | with_reducible refine w_set ?_ | with_reducible refine w_asgS ?_ | with_reducible refine w_ret ?_ | with_reducible refine w_drop ?_ | with_reducible refine w_ifS ?_
  | with_reducible refine w_op ?_ | with_reducible refine w_un ?_ | ((with_reducible apply w_var); (· exact rfl)) | with_reducible refine w_c ?_
  | with_reducible refine w_add ?_ | with_reducible refine w_sub ?_ | with_reducible refine w_lt ?_ | with_reducible refine w_le ?_ | with_reducible refine w_gt ?_ | with_reducible refine w_ge ?_ | with_reducible refine w_neg ?_ | with_reducible refine w_isN ?_ | with_reducible refine w_notN ?_
  | ((with_reducible refine w_eq ?_ ?_); (· exact rfl)) | ((with_reducible refine w_ne ?_ ?_); (· exact rfl))
  | with_reducible refine w_test ?_ | with_reducible refine w_B ?_ | with_reducible refine w_or ?_ | with_reducible refine w_and ?_ | with_reducible refine w_not ?_ | with_reducible refine w_andV ?_ | with_reducible refine w_orV ?_ | with_reducible refine w_notV ?_
  | with_reducible refine w_ifE ?_ | with_reducible refine w_chain ?_ | with_reducible refine w_cb ?_ | with_reducible refine w_nil ?_ | with_reducible refine w_cons ?_ | with_reducible refine w_tup ?_ | with_reducible refine w_lst ?_ | with_reducible refine w_call ?_
  | with_reducible refine w_int1 ?_ | with_reducible refine w_abs ?_ | with_reducible refine w_max2 ?_ | with_reducible refine w_min2 ?_
  | with_reducible refine w_mknx ?_ | with_reducible refine w_mkrt ?_ | with_reducible refine w_mkbk ?_ | with_reducible refine w_mkct ?_ | with_reducible refine w_ifT ?_ | with_reducible refine w_ifF ?_ | with_reducible refine w_ifNT ?_ | with_reducible refine w_ifNF ?_
  | with_reducible refine w_lc ?_ | with_reducible refine w_lrg ?_ | with_reducible refine w_rg1 ?_ | with_reducible refine w_rg2 ?_ | with_reducible refine w_exI ?_ | with_reducible refine w_exI2 ?_
  | with_reducible refine w_sl ?_ | with_reducible refine w_part ?_ | with_reducible refine w_noPart ?_ | with_reducible refine w_lcE ?_ | with_reducible refine w_lcZ ?_ | with_reducible refine w_yes ?_
  | with_reducible refine w_bl ?_ | with_reducible refine w_asgT ?_ | with_reducible refine w_gcons ?_ | with_reducible refine w_gnil ?_ | with_reducible refine w_par ?_ | with_reducible refine w_pair ?_
  | ((with_reducible refine w_ixL (v := ?vv) (sqL (by assumption)) ?ee ?_); (case ee => exact rfl)) | ((with_reducible refine w_ixT (v := ?vv) (sqT (by assumption)) ?ee ?_); (case ee => exact rfl))
  | ((with_reducible refine w_ixL (v := ?vv) (by assumption) ?ee ?_); (case ee => exact rfl)) | ((with_reducible refine w_ixT (v := ?vv) (by assumption) ?ee ?_); (case ee => exact rfl))
  | ((with_reducible refine w_ifDT ?_ ?_); (· first | omega | decide +kernel)) | ((with_reducible refine w_ifDF ?_ ?_); (· first | omega | decide +kernel | exact ne_IS | exact ne_SI | exact ne_IN | exact ne_SN | exact ne_RN))
  | ((with_reducible refine w_mod ?_ ?_); (· omega)) | ((with_reducible refine w_fdiv ?_ ?_ ?_); (· omega); (· omega))
  | ((with_reducible refine w_mulL ?_ ?_ ?_); (· omega); (· omega)) | ((with_reducible refine w_mulR ?_ ?_ ?_); (· omega); (· omega))
  | with_reducible refine w_lenL (sqL (by assumption)) ?_ | with_reducible refine w_lenL (by assumption) ?_ | with_reducible refine w_lenT (sqT (by assumption)) ?_ | with_reducible refine w_lenT (by assumption) ?_))
local macro_rules | `(tactic| walk_at "go") => `(tactic| repeat walk_at "go1")
/-! ### shares.py: units, rounding -/
def hows : List Str := ["near", "even", "down", "up"]
/-- what a value's units are -/
def Units (K : PySem.W.Frag) (H : Hp) (x : V) (b : Int) (how : Str) : Prop := ∃ a, x = .ref a ∧ SqT K H a [.int b, .str how] ∧ 2 ≤ b ∧ b ≤ 100 ∧ how ∈ hows
def spIsUnits (K : PySem.W.Frag) : Sp := fun vs H Q _ => ∃ x, vs = [x] ∧ ((∃ b how, Units K H x b how ∧ Q (.bl true) H))
def spChkUnits (K : PySem.W.Frag) : Sp := fun vs H Q _ => ∃ x, vs = [x] ∧ ((∃ b how, Units K H x b how ∧ Q .non H))
/-- the integer to which a / u is rounded -/
def roundZ (how : Str) (a u : Int) : Int :=
  if how = "down" ∨ a % u = 0 then a / u else if how = "up" then a / u + 1 else if 2 * (a % u) ≠ u then a / u + (if u < 2 * (a % u) then 1 else 0) else if how = "near" then a / u + 1 else a / u + a / u % 2
section
variable {P : Program} {w : World} {K : PySem.W.Frag} {mg : Str → Option Value} {base : Heap}
theorem C_is_units (T : Txt K mg) : Cal P w K mg base 3 "is_units" ["value"] (spIsUnits K) := by
  have C_is_tuple := C_is_tuple (P := P) (w := w) (base := base) T
  have C_is_between := C_is_between (P := P) (w := w) (base := base) T
  have C_is_word := C_is_word (P := P) (w := w) (base := base) T
  obtain ⟨fd, F⟩ := T.d_is_units
  refine ⟨_, fd, okG F sc_is_units (fun vs H Q E h => ?_) (fun cdv A outer s H vs Q E hr hgd h => ?_), T.g_is_units, F.kp, (F.bindsN fun _ _ _ _ _ _ us hl => match us, hl with | [_], _ => rfl)⟩
  · obtain ⟨x, rfl, _⟩ := h
    rfl
  · obtain ⟨x, rfl, b, how, ⟨a, rfl, hu, h2, h100, hh⟩, q⟩ := h
    refine ⟨_, PSs.nox (pss_one (ps_ret (pe_and (pe_cal C_is_tuple (hr.mono (by decide)) hgd (by rfl) (pa_cons (pv 0) (pa_cons (pe_ci T.c_PAIR rfl) (pa_cons (pe_ci T.c_PAIR rfl) pa_nil)))) (pe_and (pe_cal C_is_between (hr.mono (by decide)) hgd (by rfl) (pa_cons (pe_ix (x_ix (K := K) rfl) (pv 0) pe_int (fun _ _ => rfl)) (pa_cons (pe_ci T.c_LEAST_UNITS rfl) (pa_cons (pe_ci T.c_MOST_UNITS rfl) pa_nil)))) (pe_one (pe_cal C_is_word (hr.mono (by decide)) hgd (by rfl) (pa_cons (pe_ix (x_ix (K := K) rfl) (pv 0) pe_int (fun _ _ => rfl)) (pa_cons (pe_glob (v := .ref (He.ga K "HOWS")) rfl T.c_HOWS rfl) pa_nil)))))))), ?_⟩
    try dsimp only [cxOf, Cx.nox, Cx.wish]
    rw [st_is_units]; walk_at "go"
    refine ⟨_, 2, 2, rfl, .inl ⟨a, _, rfl, hu, ?_⟩⟩
    walk_at "go"
    refine w_ifT ?_
    walk_at "go"
    refine ⟨_, .int, 2, 100, rfl, isI, ?_⟩
    have e : betw (.int b) 2 100 = true := by
      show (decide (2 ≤ b) && decide (b ≤ 100)) = true
      simp [h2, h100]
    rw [e]
    walk_at "go"
    refine ⟨_, _, rfl, .inl ⟨how, _, hows, rfl, rfl, T.t_HOWS H, ?_⟩⟩
    rw [decide_eq_true hh]
    exact q
theorem C_check_units (T : Txt K mg) : Cal P w K mg base 4 "check_units" ["value"] (spChkUnits K) := by
  have C_is_units := C_is_units (P := P) (w := w) (base := base) T
  obtain ⟨fd, F⟩ := T.d_check_units
  refine ⟨_, fd, okG F sc_check_units (fun vs H Q E h => ?_) (fun cdv A outer s H vs Q E hr hgd h => ?_), T.g_check_units, F.kp, (F.bindsN fun _ _ _ _ _ _ us hl => match us, hl with | [_], _ => rfl)⟩
  · obtain ⟨x, rfl, _⟩ := h
    rfl
  · obtain ⟨x, rfl, b, how, hu, q⟩ := h
    refine ⟨_, PSs.nox (pss_one (ps_if (pt_not (pt_val (pe_cal C_is_units (hr.mono (by decide)) hgd (by rfl) (pa_cons (pv 0) pa_nil)))) (pss_one ps_never) pss_nil)), ?_⟩
    try dsimp only [cxOf, Cx.nox, Cx.wish]
    rw [st_check_units]; walk_at "go"
    refine ⟨_, rfl, b, how, hu, ?_⟩
    walk_at "go"
    exact q
end

def spRounded : Sp := fun vs H Q _ => ∃ how a u, vs = [.str how, .int a, .int u] ∧ 0 < u ∧ u < 1073741824 ∧ ∀ H', Same H H' → Q (.int (roundZ how a u)) H'
def spShown (K : PySem.W.Frag) : Sp := fun vs H Q _ => ∃ x b how m n, vs = [x, .int m, .int n] ∧ Units K H x b how ∧ 0 ≤ m ∧ m ≤ n ∧ 1 ≤ n ∧ n < 1073741824 ∧ ∀ H', Same H H' → Q (.int (roundZ how (b * m) n)) H'
section
variable {P : Program} {w : World} {K : PySem.W.Frag} {mg : Str → Option Value} {base : Heap}
theorem C_rounded (T : Txt K mg) : Cal P w K mg base 1 "rounded" ["how", "above", "under"] spRounded := by
  obtain ⟨fd, F⟩ := T.d_rounded
  refine ⟨_, fd, okG F sc_rounded (fun vs H Q E h => ?_) (fun cdv A outer s H vs Q E hr hgd h => ?_), T.g_rounded, F.kp, (F.bindsN fun _ _ _ _ _ _ us hl => match us, hl with | [_, _, _], _ => rfl)⟩
  · obtain ⟨x, k, u, rfl, _⟩ := h
    rfl
  · obtain ⟨how, a, u, rfl, h0, h1, q⟩ := h
    refine ⟨_, PSs.nox (pss_cons (ps_asg (pe_callB c_divmod (by rfl) T.z_divmod (by decide +kernel) (pa_cons (pv 1) (pa_cons (pv 2) pa_nil))) (xg_tup (K := K) (n := 2) rfl rfl (pgs_cons (pg_name (i := 3) sc_rounded.nd rfl (.inl rfl)) (pgs_cons (pg_name (i := 4) sc_rounded.nd rfl (.inl rfl)) pgs_nil))))
    (pss_cons (ps_if (PW.pt (pw_or (pt_cmpR op_eq (pv 0) (pe_cs T.c_DOWN rfl) (nomark _)) (pw_or1 (pt_cmpR op_eq (pv 4) pe_int (nomark _))))) (pss_one (ps_ret (pv 3))) pss_nil)
    (pss_cons (ps_if (pt_cmpR op_eq (pv 0) (pe_cs T.c_UP rfl) (nomark _)) (pss_one (ps_ret (pe_op o_add (pv 3) pe_int))) pss_nil)
    (pss_cons (ps_if (pt_cmpR op_ne (pe_op o_mul pe_int (pv 4)) (pv 2) (nomark _)) (pss_one (ps_ret (pe_op o_add (pv 3) (pe_callTy c_int1 (by rfl) T.z_int (by decide +kernel) (pa_cons (pe_cmpR o_gt (pe_op o_mul pe_int (pv 4)) (pv 2) (nomark _)) pa_nil))))) pss_nil)
    (pss_one (ps_ret (pe_ifExp (pt_cmpR op_eq (pv 0) (pe_cs T.c_NEAR rfl) (nomark _)) (pe_op o_add (pv 3) pe_int) (pe_op o_add (pv 3) (pe_op o_mod (pv 3) pe_int))))))))), ?_⟩
    try dsimp only [cxOf, Cx.nox, Cx.wish]
    rw [st_rounded]; walk_at "go"
    refine w_divmod h0 h1 (fun p H1 np hp s1 => ?_)
    walk_at "go"
    refine ⟨p, _, rfl, sqT hp, rfl, ?_⟩
    walk_at "go"
    have q1 := q H1 s1
    unfold roundZ at q1
    refine w_if (fun e => ?_) (fun e => ?_)
    · walk_at "go"
      rw [if_pos (.inl (V.str.inj e))] at q1
      exact q1
    · have e1 : how ≠ "down" := fun z => e (by rw [z])
      walk_at "go"
      refine w_ifI (fun e2 => ?_) (fun e2 => ?_)
      · walk_at "go"
        rw [if_pos (.inr e2)] at q1
        exact q1
      · rw [if_neg (by rintro (z | z); exact e1 z; exact e2 z)] at q1
        walk_at "go"
        refine w_if (fun e => ?_) (fun e => ?_)
        · walk_at "go"
          rw [if_pos (V.str.inj e)] at q1
          exact q1
        · rw [if_neg (fun z => e (by rw [z]))] at q1
          walk_at "go"
          have m0 := Int.emod_nonneg a (show u ≠ 0 by omega)
          have m1 := Int.emod_lt_of_pos a h0
          refine w_ifNI (fun e3 => ?_) (fun e3 => ?_)
          · rw [if_pos e3] at q1
            walk_at "go"
            refine w_int1b ?_
            walk_at "go"
            simpa using q1
          · rw [if_neg (by simpa using e3)] at q1
            walk_at "go"
            refine w_if (fun e => ?_) (fun e => ?_)
            · walk_at "go"
              rw [if_pos (V.str.inj e)] at q1
              exact q1
            · walk_at "go"
              rw [if_neg (fun z => e (by rw [z]))] at q1
              exact q1
theorem C_shown (T : Txt K mg) : Cal P w K mg base 5 "shown" ["units", "many", "whole"] (spShown K) := by
  have C_is_integer := C_is_integer (P := P) (w := w) (base := base) T
  have C_is_between := C_is_between (P := P) (w := w) (base := base) T
  have C_check_units := C_check_units (P := P) (w := w) (base := base) T
  have C_rounded := C_rounded (P := P) (w := w) (base := base) T
  obtain ⟨fd, F⟩ := T.d_shown
  refine ⟨_, fd, okG F sc_shown (fun vs H Q E h => ?_) (fun cdv A outer s H vs Q E hr hgd h => ?_), T.g_shown, F.kp, (F.bindsN fun _ _ _ _ _ _ us hl => match us, hl with | [_, _, _], _ => rfl)⟩
  · obtain ⟨x, k, u, m, n, rfl, _⟩ := h
    rfl
  · obtain ⟨x, b, how, m, n, rfl, hU, h0, h1, h2, h3, q⟩ := h
    refine ⟨_, PSs.nox (pss_cons (ps_expr (pe_cal C_check_units (hr.mono (by decide)) hgd (by rfl) (pa_cons (pv 0) pa_nil)))
    (pss_cons (ps_if (PW.pt (pw_or (pt_not (pt_val (pe_cal C_is_integer (hr.mono (by decide)) hgd (by rfl) (pa_cons (pv 2) pa_nil)))) (pw_or1 (pt_cmpR o_lt (pv 2) pe_int (nomark _))))) (pss_one ps_never) pss_nil)
    (pss_cons (ps_if (pt_not (pt_val (pe_cal C_is_between (hr.mono (by decide)) hgd (by rfl) (pa_cons (pv 1) (pa_cons pe_int (pa_cons (pv 2) pa_nil)))))) (pss_one ps_never) pss_nil)
    (pss_one (ps_ret (pe_cal C_rounded (hr.mono (by decide)) hgd (by rfl) (pa_cons (pe_ix (x_ix (K := K) rfl) (pv 0) pe_int (fun _ _ => rfl)) (pa_cons (pe_op o_mul (pe_ix (x_ix (K := K) rfl) (pv 0) pe_int (fun _ _ => rfl)) (pv 1)) (pa_cons (pv 2) pa_nil))))))))), ?_⟩
    try dsimp only [cxOf, Cx.nox, Cx.wish]
    rw [st_shown]; walk_at "go"
    refine ⟨_, rfl, b, how, hU, ?_⟩
    walk_at "go"
    refine ⟨_, .int, rfl, isI, ?_⟩
    walk_at "go"
    refine w_ifF ?_
    walk_at "go"
    refine ⟨_, .int, 0, n, rfl, isI, ?_⟩
    have e : betw (.int m) 0 n = true := by
      show (decide (0 ≤ m) && decide (m ≤ n)) = true
      simp [h0, h1]
    rw [e]
    walk_at "go"
    obtain ⟨a, rfl, hu, b2, b100, hh⟩ := hU
    walk_at "go"
    refine ⟨how, b * m, n, rfl, by omega, h3, fun H' s' => ?_⟩
    exact q _ s'
end


/-! ### the stretch of a share: plain reckoning -/
inductive Sh where
  | none | some | n (i : Int)
def Sh.v : Sh → V
  | .none => .str "none"
  | .some => .str "some"
  | .n i => .int i
def Sh.ok (b : Int) : Sh → Prop
  | .n i => 0 ≤ i ∧ i ≤ b
  | _ => True
def halvesZ (how : Str) (s : Int) : Int × Bool × Int × Bool :=
  if how = "down" then (2 * s, true, 2 * s + 2, false) else if how = "up" then (2 * s - 2, false, 2 * s, true) else (2 * s - 1, decide (how = "near") || decide (s % 2 = 0), 2 * s + 1, decide (how = "even") && decide (s % 2 = 0))
def lowZ (how : Str) (s : Int) : Int × Bool := if (halvesZ how s).1 < 0 then (0, true) else ((halvesZ how s).1, (halvesZ how s).2.1)
def highZ (b : Int) (how : Str) (s : Int) : Int × Bool := if 2 * b < (halvesZ how s).2.2.1 then (2 * b, true) else ((halvesZ how s).2.2.1, (halvesZ how s).2.2.2)
def gz (a u : Int) : Int := (Int.gcd a u : Int)
/-- (l0, l1, il, h0, h1, ih) of a share's stretch -/
def strZ (b : Int) (how : Str) : Sh → Int × Int × Bool × Int × Int × Bool
  | .none => (0, 1, true, 0, 1, true)
  | .some => (0, 1, false, 1, b, false)
  | .n s => ((lowZ how s).1 / gz (lowZ how s).1 (2 * b), 2 * b / gz (lowZ how s).1 (2 * b), (lowZ how s).2, (highZ b how s).1 / gz (highZ b how s).1 (2 * b), 2 * b / gz (highZ b how s).1 (2 * b), (highZ b how s).2)
def strD (t : Int × Int × Bool × Int × Int × Bool) : PyData := .tuple [.tuple [.int t.1, .int t.2.1], .bool t.2.2.1, .tuple [.int t.2.2.2.1, .int t.2.2.2.2.1], .bool t.2.2.2.2.2]
def withinB (t : Int × Int × Bool × Int × Int × Bool) (m n : Int) : Bool :=
  (decide (0 < m * t.2.1 - t.1 * n) || (decide (m * t.2.1 - t.1 * n = 0) && t.2.2.1)) && (decide (0 < t.2.2.2.1 * n - m * t.2.2.2.2.1) || (decide (t.2.2.2.1 * n - m * t.2.2.2.2.1 = 0) && t.2.2.2.2.2))
def rightB (b : Int) (how : Str) : Sh → Int → Int → Bool
  | .none, m, _ => decide (m = 0)
  | .some, m, n => decide (0 < b * m) && decide (b * m < n)
  | .n s, m, n => decide (roundZ how (b * m) n = s)
theorem gz_pos {a u : Int} (h : 0 < u) : 0 < gz a u := by
  have : 0 < Int.gcd a u := Int.gcd_pos_of_ne_zero_right a (by omega)
  unfold gz
  omega
theorem gz_l (a u : Int) : a / gz a u * gz a u = a := Int.ediv_mul_cancel (Int.gcd_dvd_left a u)
theorem gz_r (a u : Int) : u / gz a u * gz a u = u := Int.ediv_mul_cancel (Int.gcd_dvd_right a u)
/-- the sign of a difference by least terms -/
theorem sign_low {l u m n g : Int} (hg : 0 < g) : (0 < m * u - l * n ↔ 0 < m * (u * g) - (l * g) * n) ∧ (m * u - l * n = 0 ↔ m * (u * g) - (l * g) * n = 0) := by
  have e : m * (u * g) - (l * g) * n = (m * u - l * n) * g := by
    rw [Int.sub_mul, Int.mul_assoc, Int.mul_assoc, Int.mul_assoc, Int.mul_comm g n]
  rw [e]
  constructor
  · constructor
    · intro h
      exact Int.mul_pos h hg
    · intro h
      exact Int.pos_of_mul_pos_left h hg
  · constructor
    · intro h
      rw [h, Int.zero_mul]
    · intro h
      rcases Int.mul_eq_zero.mp h with z | z
      · exact z
      · omega
theorem sign_high {l u m n g : Int} (hg : 0 < g) : (0 < l * n - m * u ↔ 0 < (l * g) * n - m * (u * g)) ∧ (l * n - m * u = 0 ↔ (l * g) * n - m * (u * g) = 0) := by
  have e : (l * g) * n - m * (u * g) = (l * n - m * u) * g := by
    rw [Int.sub_mul, Int.mul_assoc, Int.mul_assoc, Int.mul_assoc, Int.mul_comm g n]
  rw [e]
  constructor
  · constructor
    · intro h
      exact Int.mul_pos h hg
    · intro h
      exact Int.pos_of_mul_pos_left h hg
  · constructor
    · intro h
      rw [h, Int.zero_mul]
    · intro h
      rcases Int.mul_eq_zero.mp h with z | z
      · exact z
      · omega

/-- the facts that omega wants of s * n beside a = q * n + r -/
theorem within_round {b m n s : Int} {how : Str} (hh : how = "near" ∨ how = "even" ∨ how = "down" ∨ how = "up") (hb : 2 ≤ b) (h0 : 0 ≤ m) (h1 : m ≤ n) (h2 : 1 ≤ n) (hs : 0 ≤ s) (hs2 : s ≤ b) :
    ((0 < 2 * (b * m) - (lowZ how s).1 * n ∨ 2 * (b * m) - (lowZ how s).1 * n = 0 ∧ (lowZ how s).2 = true) ∧ (0 < (highZ b how s).1 * n - 2 * (b * m) ∨ (highZ b how s).1 * n - 2 * (b * m) = 0 ∧ (highZ b how s).2 = true)) ↔ roundZ how (b * m) n = s := by
  generalize ha : b * m = a
  have a0 : 0 ≤ a := ha ▸ Int.mul_nonneg (by omega) h0
  have a1 : a ≤ b * n := ha ▸ Int.mul_le_mul_of_nonneg_left h1 (by omega)
  have e := Int.mul_ediv_add_emod a n
  have r0 := Int.emod_nonneg a (show n ≠ 0 by omega)
  have r1 := Int.emod_lt_of_pos a (show 0 < n by omega)
  unfold roundZ
  generalize a / n = q at *
  generalize a % n = r at *
  have eb : b * n = n * b := Int.mul_comm _ _
  have es : s * n = n * q + n * (s - q) := by rw [← Int.mul_add, Int.mul_comm]; congr 1; omega
  have ebq : n * b = n * q + n * (b - q) := by rw [← Int.mul_add]; congr 1; omega
  have tc : (s - q ≤ -2 ∧ n * (s - q) ≤ -(2 * n)) ∨ (s - q = -1 ∧ n * (s - q) = -n) ∨ (s - q = 0 ∧ n * (s - q) = 0) ∨ (s - q = 1 ∧ n * (s - q) = n) ∨ (2 ≤ s - q ∧ 2 * n ≤ n * (s - q)) := by
    have cs : s - q ≤ -2 ∨ s - q = -1 ∨ s - q = 0 ∨ s - q = 1 ∨ 2 ≤ s - q := by omega
    rcases cs with z | z | z | z | z
    · have := Int.mul_le_mul_of_nonneg_left z (show 0 ≤ n by omega)
      exact .inl ⟨z, by omega⟩
    · exact .inr (.inl ⟨z, by rw [z, Int.mul_neg, Int.mul_one]⟩)
    · exact .inr (.inr (.inl ⟨z, by rw [z, Int.mul_zero]⟩))
    · exact .inr (.inr (.inr (.inl ⟨z, by rw [z, Int.mul_one]⟩)))
    · have := Int.mul_le_mul_of_nonneg_left z (show 0 ≤ n by omega)
      exact .inr (.inr (.inr (.inr ⟨z, by omega⟩)))
  have sb : s = b → n * (s - q) = n * (b - q) := fun z => by rw [z]
  have q0 : 0 ≤ q := by
    rcases Int.lt_or_le q 0 with z | z
    · have := Int.mul_le_mul_of_nonneg_left (show q ≤ -1 by omega) (show 0 ≤ n by omega)
      omega
    · exact z
  generalize n * (s - q) = P at *
  generalize n * (b - q) = R at *
  generalize n * q = X at *
  have d1 : ((2 * s) * n) = 2 * (s * n) := Int.mul_assoc _ _ _
  have d2 : ((2 * s + 2) * n) = 2 * (s * n) + 2 * n := by rw [Int.add_mul, d1]
  have d3 : ((2 * s - 2) * n) = 2 * (s * n) - 2 * n := by rw [Int.sub_mul, d1]
  have d4 : ((2 * s + 1) * n) = 2 * (s * n) + n := by rw [Int.add_mul, d1, Int.one_mul]
  have d5 : ((2 * s - 1) * n) = 2 * (s * n) - n := by rw [Int.sub_mul, d1, Int.one_mul]
  have d6 : ((2 * b) * n) = 2 * (b * n) := Int.mul_assoc _ _ _
  have n1 : ("near" : Str) ≠ "down" := by decide
  have n2 : ("near" : Str) ≠ "up" := by decide
  have n3 : ("near" : Str) ≠ "even" := by decide
  have n4 : ("even" : Str) ≠ "down" := by decide
  have n5 : ("even" : Str) ≠ "up" := by decide
  have n6 : ("even" : Str) ≠ "near" := by decide
  have n7 : ("up" : Str) ≠ "down" := by decide
  have big : s = b ∧ P = R ∨ s < b := by
    rcases Int.lt_or_le s b with z | z
    · exact .inr z
    · have z2 : s = b := by omega
      exact .inl ⟨z2, sb z2⟩
  clear sb
  rw [eb, ebq] at d6
  rw [es] at d1 d2 d3 d4 d5
  rcases hh with rfl | rfl | rfl | rfl
  · simp only [lowZ, highZ, halvesZ, decide_true, Bool.true_or, decide_eq_false n3, Bool.false_and, n1, false_or, n2, if_true, if_false]
    rcases tc with ⟨t1, t2⟩ | ⟨t1, t2⟩ | ⟨t1, t2⟩ | ⟨t1, t2⟩ | ⟨t1, t2⟩ <;> (split <;> split <;> (simp only [d4, d5, d6, Int.zero_mul] ; simp only [and_true, and_false, or_false, Bool.false_eq_true] ; split <;> (try split) <;> (try split) <;> omega))
  · simp only [lowZ, highZ, halvesZ, decide_true, Bool.true_and, decide_eq_false n6, Bool.false_or, n4, false_or, n5, n6, if_true, if_false]
    rcases tc with ⟨t1, t2⟩ | ⟨t1, t2⟩ | ⟨t1, t2⟩ | ⟨t1, t2⟩ | ⟨t1, t2⟩ <;> (split <;> split <;> ((try simp only [d4, d5, d6, Int.zero_mul, decide_false, Bool.false_or, decide_eq_true_eq]) ; (try simp only [and_true]) ; split <;> (try split) <;> (try split) <;> omega))
  · simp only [lowZ, highZ, halvesZ, true_or, if_true]
    rcases tc with ⟨t1, t2⟩ | ⟨t1, t2⟩ | ⟨t1, t2⟩ | ⟨t1, t2⟩ | ⟨t1, t2⟩ <;> (split <;> split <;> (simp only [d1, d2, d6, Int.zero_mul] ; simp only [and_true, and_false, or_false, Bool.false_eq_true] ; omega))
  · simp only [lowZ, highZ, halvesZ, if_true, n7, false_or, if_false]
    rcases tc with ⟨t1, t2⟩ | ⟨t1, t2⟩ | ⟨t1, t2⟩ | ⟨t1, t2⟩ | ⟨t1, t2⟩ <;> (split <;> split <;> (simp only [d1, d3, d6, Int.zero_mul] ; simp only [and_true, and_false, or_false, Bool.false_eq_true] ; split <;> omega))
theorem withinB_eq {b m n : Int} {how : Str} {sh : Sh} (hh : how = "near" ∨ how = "even" ∨ how = "down" ∨ how = "up") (hb : 2 ≤ b) (h0 : 0 ≤ m) (h1 : m ≤ n) (h2 : 1 ≤ n) (hs : sh.ok b) : withinB (strZ b how sh) m n = rightB b how sh m n := by
  rw [Bool.eq_iff_iff]
  cases sh with
  | none =>
    simp only [withinB, strZ, rightB, Bool.and_eq_true, Bool.or_eq_true, decide_eq_true_eq, and_true, Int.mul_one, Int.zero_mul]
    omega
  | some =>
    simp only [withinB, strZ, rightB, Bool.and_eq_true, Bool.or_eq_true, decide_eq_true_eq, and_false, or_false, Bool.false_eq_true, Int.mul_one, Int.zero_mul, Int.one_mul]
    have e : m * b = b * m := Int.mul_comm _ _
    rw [e]
    constructor
    · rintro ⟨x, y⟩
      exact ⟨Int.mul_pos (by omega) (by omega), by omega⟩
    · rintro ⟨x, y⟩
      refine ⟨?_, by omega⟩
      rcases Int.lt_or_le 0 m with z | z
      · omega
      · have : m = 0 := by omega
        rw [this, Int.mul_zero] at x
        omega
  | n s =>
    have gl := gz_pos (a := (lowZ how s).1) (u := 2 * b) (by omega)
    have gh := gz_pos (a := (highZ b how s).1) (u := 2 * b) (by omega)
    have em : m * (2 * b) = 2 * (b * m) := by rw [Int.mul_comm, Int.mul_assoc]
    have sl := sign_low (l := (lowZ how s).1 / gz (lowZ how s).1 (2 * b)) (u := 2 * b / gz (lowZ how s).1 (2 * b)) (m := m) (n := n) gl
    have shh := sign_high (l := (highZ b how s).1 / gz (highZ b how s).1 (2 * b)) (u := 2 * b / gz (highZ b how s).1 (2 * b)) (m := m) (n := n) gh
    rw [gz_l, gz_r, em] at sl shh
    have key := within_round (s := s) hh hb h0 h1 h2 hs.1 hs.2
    rw [← sl.1, ← sl.2, ← shh.1, ← shh.2] at key
    unfold withinB rightB
    rw [Bool.and_eq_true, Bool.or_eq_true, Bool.or_eq_true, Bool.and_eq_true, Bool.and_eq_true, decide_eq_true_iff, decide_eq_true_iff, decide_eq_true_iff, decide_eq_true_iff, decide_eq_true_iff]
    exact key

end Ak
namespace Ak
open PySem PySem.Spec PyProof.Rows L2
/-! ### the walk of readings -/
local macro_rules | `(tactic| walk_at "go1") => `(tactic| (first
  | with_reducible refine w_seq ?_ | with_reducible refine w_next ?_ | with_reducible refine w_set ?_ | with_reducible refine w_asgS ?_ | with_reducible refine w_ret ?_ | with_reducible refine w_drop ?_ | with_reducible refine w_ifS ?_
  | with_reducible refine w_op ?_ | with_reducible refine w_un ?_ | ((with_reducible apply w_var); (· exact rfl)) | with_reducible refine w_c ?_
  | with_reducible refine w_add ?_ | with_reducible refine w_sub ?_ | with_reducible refine w_lt ?_ | with_reducible refine w_le ?_ | with_reducible refine w_gt ?_ | with_reducible refine w_ge ?_ | with_reducible refine w_neg ?_ | with_reducible refine w_isN ?_ | with_reducible refine w_notN ?_
  | ((with_reducible refine w_eq ?_ ?_); (· exact rfl)) | ((with_reducible refine w_ne ?_ ?_); (· exact rfl))
  | with_reducible refine w_test ?_ | with_reducible refine w_B ?_ | with_reducible refine w_or ?_ | with_reducible refine w_and ?_ | with_reducible refine w_not ?_ | with_reducible refine w_andV ?_ | with_reducible refine w_orV ?_ | with_reducible refine w_notV ?_
  | with_reducible refine w_ifE ?_ | with_reducible refine w_chain ?_ | with_reducible refine w_cb ?_ | with_reducible refine w_nil ?_ | with_reducible refine w_cons ?_ | with_reducible refine w_tup ?_ | with_reducible refine w_lst ?_ | with_reducible refine w_call ?_
  | with_reducible refine w_int1 ?_ | with_reducible refine w_abs ?_ | with_reducible refine w_max2 ?_ | with_reducible refine w_min2 ?_
  | with_reducible refine w_mknx ?_ | with_reducible refine w_mkrt ?_ | with_reducible refine w_mkbk ?_ | with_reducible refine w_mkct ?_ | with_reducible refine w_ifT ?_ | with_reducible refine w_ifF ?_ | with_reducible refine w_ifNT ?_ | with_reducible refine w_ifNF ?_
  | with_reducible refine w_lc ?_ | with_reducible refine w_lrg ?_ | with_reducible refine w_rg1 ?_ | with_reducible refine w_rg2 ?_ | with_reducible refine w_exI ?_ | with_reducible refine w_exI2 ?_
  | with_reducible refine w_sl ?_ | with_reducible refine w_part ?_ | with_reducible refine w_noPart ?_ | with_reducible refine w_lcE ?_ | with_reducible refine w_lcZ ?_ | with_reducible refine w_yes ?_
  | with_reducible refine w_bl ?_ | with_reducible refine w_asgT ?_ | with_reducible refine w_gcons ?_ | with_reducible refine w_gnil ?_ | with_reducible refine w_par ?_ | with_reducible refine w_pair ?_
  | ((with_reducible refine w_ixL (v := ?vv) (sqL (by assumption)) ?ee ?_); (case ee => exact rfl)) | ((with_reducible refine w_ixT (v := ?vv) (sqT (by assumption)) ?ee ?_); (case ee => exact rfl))
  | ((with_reducible refine w_ixL (v := ?vv) (by assumption) ?ee ?_); (case ee => exact rfl)) | ((with_reducible refine w_ixT (v := ?vv) (by assumption) ?ee ?_); (case ee => exact rfl))
  | ((with_reducible refine w_ifDT ?_ ?_); (· first | omega | decide +kernel)) | ((with_reducible refine w_ifDF ?_ ?_); (· first | omega | decide +kernel | exact ne_IS | exact ne_SI | exact ne_IN | exact ne_SN | exact ne_RN))
  | ((with_reducible refine w_mod ?_ ?_); (· omega)) | ((with_reducible refine w_fdiv ?_ ?_ ?_); (· omega); (· omega))
  | ((with_reducible refine w_mulL ?_ ?_ ?_); (· omega); (· omega)) | ((with_reducible refine w_mulR ?_ ?_ ?_); (· omega); (· omega))
  | with_reducible refine w_lenL (sqL (by assumption)) ?_ | with_reducible refine w_lenL (by assumption) ?_ | with_reducible refine w_lenT (sqT (by assumption)) ?_ | with_reducible refine w_lenT (by assumption) ?_))
local macro_rules | `(tactic| walk_at "go") => `(tactic| repeat walk_at "go1")
/-! ### words.py: divisors and fractions; shares.py: stretches -/
theorem sameT {K : PySem.W.Frag} {H H' : Hp} {a : Addr} {xs : List V} (e : Same H H') (h : SqT K H a xs) : SqT K H' a xs := by
  rcases h with (h | ⟨o, h⟩) | h
  · exact .inl (.inl (e _ _ h))
  · exact .inl (.inr ⟨o, e _ _ h⟩)
  · exact .inr h
def Sq (K : PySem.W.Frag) (H : Hp) (a : Addr) (xs : List V) : Prop := SqL K H a xs ∨ SqT K H a xs
theorem Sq.same {K : PySem.W.Frag} {H H' : Hp} {a : Addr} {xs : List V} (e : Same H H') (h : Sq K H a xs) : Sq K H' a xs := h.imp e.seq (sameT e)
theorem w_forSq {K : PySem.W.Frag} {σ : L2.St} {H : Hp} {D : Ends} {a : Addr} {xs : List V} {tl : TE} {g : TG} {tb : TS} (hx : Sq K H a xs) (hl : ∀ R : VK, R (.ref a) H → tl σ H R) (Pv : Nat → L2.St → Hp → Prop) (h0 : Pv 0 σ H) (hk : ∀ i σ' H', Pv i σ' H' → Same H H')
    (hs : ∀ i x σ' H', xs[i]? = some x → Pv i σ' H' → g x σ' H' fun σ2 H2 => tb { D with nx := Pv (i + 1), ct := Pv (i + 1), bk := D.nx } σ2 H2) (hd : ∀ σ' H', Pv xs.length σ' H' → D.nx σ' H') : tFor (iSeq K tl) g tb D σ H := by
  rcases hx with hx | hx
  · exact .inl (hl _ ⟨a, rfl, ⟨xs, hx⟩, for_list Pv h0 (fun i σ' H' _ p => (hk i σ' H' p).seq hx) hs hd⟩)
  · exact .inr (hl _ ⟨a, rfl, ⟨xs, hx⟩, for_tup Pv h0 (fun i σ' H' _ p => sameT (hk i σ' H' p) hx) hs hd⟩)
theorem IsK.same {K : PySem.W.Frag} {H H' : Hp} {x : V} {k : Kd} (e : Same H H') (h : IsK K H x k) : IsK K H' x k := by
  cases k with
  | tup => obtain ⟨a, xs, r, h⟩ := h; exact ⟨a, xs, r, sameT e h⟩
  | lst => obtain ⟨a, xs, r, h⟩ := h; exact ⟨a, xs, r, e.seq h⟩
  | dic => obtain ⟨a, kvs, r, h⟩ := h; exact ⟨a, kvs, r, e _ _ h⟩
  | own => obtain ⟨a, C, dx, fs, r, h, c⟩ := h; exact ⟨a, C, dx, fs, r, e _ _ h, c⟩
  | _ => exact h
mutual
theorem dp_same {K : PySem.W.Frag} {H H' : Hp} (e : Same H H') : ∀ (d : PyData) (v : V), Dp K H v d → Dp K H' v d
  | _, _, .non => .non
  | _, _, .bl b => .bl b
  | _, _, .int i => .int i
  | _, _, .str s => .str s
  | _, _, .lst h r => .lst (e.seq h) (dpAll_same e _ _ r)
  | _, _, .tup h r => .tup (sameT e h) (dpAll_same e _ _ r)
theorem dpAll_same {K : PySem.W.Frag} {H H' : Hp} (e : Same H H') : ∀ (ds : List PyData) (vs : List V), DpAll K H vs ds → DpAll K H' vs ds
  | _, _, .nil => .nil
  | _, _, .cons h r => .cons (dp_same e _ _ h) (dpAll_same e _ _ r)
end
def gcdL (ns : List Int) : Int := ns.foldl gz 0
theorem gz_nonneg (a u : Int) : 0 ≤ gz a u := Int.natCast_nonneg _
theorem gcdL_more {ns : List Int} {i : Nat} {x : Int} (h : ns[i]? = some x) : gcdL (ns.take (i + 1)) = gz (gcdL (ns.take i)) x := by
  unfold gcdL
  rw [List.take_add_one, h, List.foldl_append]
  rfl
theorem gcdL_nonneg (ns : List Int) : 0 ≤ gcdL ns := by
  unfold gcdL
  have : ∀ (l : List Int) (g : Int), 0 ≤ g → 0 ≤ l.foldl gz g := fun l => by
    induction l with
    | nil => intro g h; exact h
    | cons x l ih => intro g _; exact ih _ (gz_nonneg _ _)
  exact this ns 0 (Int.le_refl _)
theorem gcdL_two (a u : Int) : gcdL [a, u] = gz a u := by
  show gz (gz 0 a) u = gz a u
  unfold gz
  rw [Int.gcd_zero_left]
  simp [Int.gcd]
theorem gz_le {a u : Int} (h : 0 < u) : gz a u ≤ u := Int.le_of_dvd h (Int.gcd_dvd_right a u)
def spDiv (K : PySem.W.Frag) : Sp := fun vs H Q _ => ∃ a ns, vs = [.ref a] ∧ Sq K H a ((ns : List Int).map V.int) ∧ Q (.int (gcdL ns)) H
def spFrac : Sp := fun vs H Q _ => ∃ a u, vs = [.int a, .int u] ∧ 0 ≤ a ∧ 0 < u ∧ u.natAbs < 2 ^ 8000 ∧ ∀ p H', H p = none → Same H H' → H' p = some (.tup [.int (a / gz a u), .int (u / gz a u)]) → Q (.ref p) H'
def shareB (b : Int) : V → Bool
  | .str s => decide (s = "none") || decide (s = "some")
  | .int i => decide (0 ≤ i) && decide (i ≤ b)
  | _ => false
def spIsShare (K : PySem.W.Frag) : Sp := fun vs H Q _ => ∃ x y b how k, vs = [x, y] ∧ Units K H x b how ∧ IsK K H y k ∧ ∀ H', Same H H' → Q (.bl (shareB b y)) H'
def spChkShare (K : PySem.W.Frag) : Sp := fun vs H Q _ => ∃ x y b how k, vs = [x, y] ∧ Units K H x b how ∧ IsK K H y k ∧ shareB b y = true ∧ ∀ H', Same H H' → Q .non H'
def spHalves : Sp := fun vs H Q _ => ∃ how s, vs = [.str how, .int s] ∧ ∀ p H', H p = none → Same H H' → H' p = some (.tup [.int (halvesZ how s).1, .bl (halvesZ how s).2.1, .int (halvesZ how s).2.2.1, .bl (halvesZ how s).2.2.2]) → Q (.ref p) H'
def spStretch (K : PySem.W.Frag) : Sp := fun vs H Q _ => ∃ x sh b how, vs = [x, Sh.v sh] ∧ Units K H x b how ∧ sh.ok b ∧ ∀ v H', Same H H' → Dp K H' v (strD (strZ b how sh)) → Q v H'
theorem log8000 {j : Int} (h : j.natAbs < 2 ^ 8000) : j.natAbs.log2 < 9000 := Nat.lt_trans (PySem.Flt.log2_lt_of (by decide) h) (by decide)
theorem Sh.kind (sh : Sh) {K : PySem.W.Frag} {H : Hp} : ∃ k, IsK K H sh.v k := by
  cases sh with
  | none => exact ⟨.str, isS⟩
  | some => exact ⟨.str, isS⟩
  | n i => exact ⟨.int, isI⟩
theorem Sh.good {sh : Sh} {b : Int} (h : sh.ok b) : shareB b sh.v = true := by
  cases sh with
  | none => exact (by decide : (decide (("none" : Str) = "none") || decide (("none" : Str) = "some")) = true)
  | some => exact (by decide : (decide (("some" : Str) = "none") || decide (("some" : Str) = "some")) = true)
  | n i =>
    show (decide (0 ≤ i) && decide (i ≤ b)) = true
    rw [decide_eq_true h.1, decide_eq_true h.2] <;> rfl
theorem Units.same {K : PySem.W.Frag} {H H' : Hp} {x : V} {b : Int} {how : Str} (e : Same H H') (h : Units K H x b how) : Units K H' x b how := by
  obtain ⟨a, r, h, g⟩ := h
  exact ⟨a, r, sameT e h, g⟩
section
variable {P : Program} {w : World} {K : PySem.W.Frag} {mg : Str → Option Value} {base : Heap}
theorem C_divisor_of (T : Txt K mg) : Cal P w K mg base 1 "divisor_of" ["numbers"] (spDiv K) := by
  obtain ⟨fd, F⟩ := T.d_divisor_of
  refine ⟨_, fd, okG F sc_divisor_of (fun vs H Q E h => ?_) (fun cdv A outer s H vs Q E hr hgd h => ?_), T.g_divisor_of, F.kp, (F.bindsN fun _ _ _ _ _ _ us hl => match us, hl with | [_], _ => rfl)⟩
  · obtain ⟨x, k, rfl, _⟩ := h
    rfl
  · obtain ⟨a, ns, rfl, hS, q⟩ := h
    refine ⟨_, PSs.nox (pss_cons (ps_set (i := 1) sc_divisor_of.nd rfl (.inl rfl) pe_int)
    (pss_cons (ps_for PassesOwn.never rfl (xi_seq (K := K) rfl (pv 0)) (pg_name (i := 2) sc_divisor_of.nd rfl (.inl rfl))
    (pss_cons (ps_set (i := 3) sc_divisor_of.nd rfl (.inl rfl) (pe_callB c_abs (by rfl) T.z_abs (by decide +kernel) (pa_cons (pv 2) pa_nil)))
    (pss_one (ps_while PassesOwn.never (pt_cmpR o_gt (pv 3) pe_int (nomark _)) (pss_one (ps_par (i := 1) (j := 3) (by rfl) sc_divisor_of.nd rfl rfl (by decide) rfl rfl (pa_cons (pv 3) (pa_cons (pe_op o_mod (pv 1) (pv 3)) pa_nil)) (by rfl)))))))
    (pss_one (ps_ret (pv 1))))), ?_⟩
    try dsimp only [cxOf, Cx.nox, Cx.wish]
    rw [st_divisor_of]; walk_at "go"
    refine w_forSq hS (fun R h => ⟨_, rfl, h⟩) (fun i σ' H' => ∃ y2 y3, σ' = [some (.ref a), some (.int (gcdL (ns.take i))), y2, y3] ∧ H' = H) ⟨none, none, rfl, rfl⟩ (fun i σ' H' h => by obtain ⟨_, _, _, rfl⟩ := h; exact Same.refl _) ?_ ?_
    · rintro i x σ' H' hx ⟨y2, y3, rfl, rfl⟩
      obtain ⟨z, hz, rfl⟩ : ∃ z, ns[i]? = some z ∧ x = V.int z := by
        rw [List.getElem?_map] at hx
        cases e : ns[i]? with
        | none => rw [e] at hx; cases hx
        | some z => rw [e] at hx; exact ⟨z, rfl, (Option.some.inj hx).symm⟩
      show tSeq _ _ _ _ _
      walk_at "go"
      have g0 := gcdL_nonneg (ns.take i)
      refine ⟨fun m σ2 H2 => ∃ f r : Nat, σ2 = [some (.ref a), some (.int f), some (.int z), some (.int r)] ∧ Nat.gcd f r = Int.gcd (gcdL (ns.take i)) z ∧ m = r ∧ H2 = H', ⟨z.natAbs, (gcdL (ns.take i)).toNat, z.natAbs, ?_, ?_, rfl, rfl⟩, ?_⟩
      · show [some (V.ref a), some (V.int (gcdL (ns.take i))), some (V.int z), some (V.int (if z < 0 then -z else z))] = _
        have e1 : ((gcdL (ns.take i)).toNat : Int) = gcdL (ns.take i) := by omega
        have e2 : (z.natAbs : Int) = if z < 0 then -z else z := by split <;> omega
        rw [e1, e2]
      · unfold Int.gcd
        congr 1
        omega
      · rintro m σ2 H2 ⟨f, r, rfl, hg, rfl, rfl⟩
        walk_at "go"
        refine w_if (fun e => ?_) (fun e => ?_)
        · refine ⟨fun σ3 H3 => ∃ f2 r2 : Nat, σ3 = [some (.ref a), some (.int f2), some (.int z), some (.int r2)] ∧ Nat.gcd f2 r2 = Int.gcd (gcdL (ns.take i)) z ∧ r2 < m ∧ H3 = H2, fun σ3 H3 h => ?_, ?_⟩
          · obtain ⟨f2, r2, h1, h2, h3, h4⟩ := h
            exact ⟨r2, h3, f2, r2, h1, h2, rfl, h4⟩
          · walk_at "go"
            refine ⟨m, f % m, ?_, ?_, Nat.mod_lt _ (by omega), rfl⟩
            · show [some (V.ref a), some (V.int m), some (V.int z), some (V.int ((f : Int) % (m : Int)))] = _
              rw [← Int.natCast_emod]
            · rw [← hg, Nat.gcd_comm m, ← Nat.gcd_rec, Nat.gcd_comm]
        · have r0 : m = 0 := by omega
          subst r0
          refine ⟨some (.int z), some (.int 0), ?_, rfl⟩
          rw [gcdL_more hz]
          unfold gz
          rw [← hg, Nat.gcd_zero_right]
          rfl
    · rintro σ' H' ⟨y2, y3, rfl, rfl⟩
      rw [List.length_map, List.take_length]
      walk_at "go"
      exact q
theorem C_fraction (T : Txt K mg) : Cal P w K mg base 2 "fraction" ["above", "under"] spFrac := by
  have C_divisor_of := C_divisor_of (P := P) (w := w) (base := base) T
  obtain ⟨fd, F⟩ := T.d_fraction
  refine ⟨_, fd, okG F sc_fraction (fun vs H Q E h => ?_) (fun cdv A outer s H vs Q E hr hgd h => ?_), T.g_fraction, F.kp, (F.bindsN fun _ _ _ _ _ _ us hl => match us, hl with | [_, _], _ => rfl)⟩
  · obtain ⟨x, k, rfl, _⟩ := h
    rfl
  · obtain ⟨a, u, rfl, h0, h1, h2, q⟩ := h
    refine ⟨_, PSs.nox (pss_cons (ps_set (i := 2) sc_fraction.nd rfl (.inl rfl) (pe_cal C_divisor_of (hr.mono (by decide)) hgd (by rfl) (pa_cons (pe_lst (pa_cons (pv 0) (pa_cons (pv 1) pa_nil))) pa_nil)))
    (pss_one (ps_ret (pe_tup (pa_cons (pe_op o_fdiv (pv 0) (pv 2)) (pa_cons (pe_op o_fdiv (pv 1) (pv 2)) pa_nil)))))), ?_⟩
    try dsimp only [cxOf, Cx.nox, Cx.wish]
    rw [st_fraction]; walk_at "go"
    refine w_newL rfl (fun l H1 nl hl s1 => ?_)
    walk_at "go"
    refine ⟨l, [a, u], rfl, .inl (sqL hl), ?_⟩
    rw [gcdL_two]
    walk_at "go"
    have gp := gz_pos (a := a) h1
    have gle := gz_le (a := a) h1
    have cd : ∀ z : Int, CDivW z (gz a u) := fun z => ⟨gp, log8000 (Nat.lt_of_le_of_lt (by omega) h2)⟩
    refine w_fdivW (cd _) ?_
    walk_at "go"
    refine w_fdivW (cd _) ?_
    walk_at "go"
    refine w_newT rfl (fun p H2 np hp s2 => ?_)
    walk_at "go"
    exact q p H2 (s1.free np) (s1.trans s2) hp
theorem C_is_share (T : Txt K mg) : Cal P w K mg base 3 "is_share" ["units", "value"] (spIsShare K) := by
  have C_is_between := C_is_between (P := P) (w := w) (base := base) T
  have C_is_word := C_is_word (P := P) (w := w) (base := base) T
  obtain ⟨fd, F⟩ := T.d_is_share
  refine ⟨_, fd, okG F sc_is_share (fun vs H Q E h => ?_) (fun cdv A outer s H vs Q E hr hgd h => ?_), T.g_is_share, F.kp, (F.bindsN fun _ _ _ _ _ _ us hl => match us, hl with | [_, _], _ => rfl)⟩
  · obtain ⟨x, y, b, how, k, rfl, _⟩ := h
    rfl
  · obtain ⟨x, y, b, how, k, rfl, ⟨a, rfl, hu, h2, h100, hh⟩, hk, q⟩ := h
    refine ⟨_, PSs.nox (pss_one (ps_ret (pe_or (pe_cal C_is_word (hr.mono (by decide)) hgd (by rfl) (pa_cons (pv 1) (pa_cons (pe_tup (pa_cons (pe_cs T.c_NONE rfl) (pa_cons (pe_cs T.c_SOME rfl) pa_nil))) pa_nil))) (pe_one (pe_cal C_is_between (hr.mono (by decide)) hgd (by rfl) (pa_cons (pv 1) (pa_cons pe_int (pa_cons (pe_ix (x_ix (K := K) rfl) (pv 0) pe_int (fun _ _ => rfl)) pa_nil)))))))), ?_⟩
    try dsimp only [cxOf, Cx.nox, Cx.wish]
    rw [st_is_share]; walk_at "go"
    refine w_newT rfl (fun p H1 np hp s1 => ?_)
    walk_at "go"
    have hu1 := sameT s1 hu
    by_cases ks : k = .str
    · subst ks
      obtain ⟨z, rfl⟩ := hk
      refine ⟨_, _, rfl, .inl ⟨z, p, ["none", "some"], rfl, rfl, sqT hp, ?_⟩⟩
      have e : shareB b (.str z) = decide (z ∈ (["none", "some"] : List Str)) := by
        show (decide (z = "none") || decide (z = "some")) = _
        simp only [List.mem_cons, List.not_mem_nil, or_false, Bool.decide_or]
      rw [← e]
      walk_at "go"
      cases e2 : shareB b (.str z) with
      | true =>
        refine w_ifT ?_
        rw [e2] at q
        exact q _ s1
      | false =>
        refine w_ifF ?_
        walk_at "go"
        refine ⟨_, .str, 0, b, rfl, isS, ?_⟩
        rw [e2] at q
        exact q _ s1
    · refine ⟨_, _, rfl, .inr ⟨k, hk.same s1, ks, ?_⟩⟩
      walk_at "go"
      refine ⟨_, k, 0, b, rfl, hk.same s1, ?_⟩
      have e : betw y 0 b = shareB b y := by
        cases k with
        | str => exact absurd rfl ks
        | int => obtain ⟨i, rfl⟩ := hk; rfl
        | bool => obtain ⟨i, rfl⟩ := hk; rfl
        | none => obtain rfl : y = .non := hk; rfl
        | tup => obtain ⟨i, _, rfl, _⟩ := hk; rfl
        | lst => obtain ⟨i, _, rfl, _⟩ := hk; rfl
        | dic => obtain ⟨i, _, rfl, _⟩ := hk; rfl
        | own => obtain ⟨i, _, _, _, rfl, _⟩ := hk; rfl
      rw [e]
      exact q _ s1
theorem C_check_share (T : Txt K mg) : Cal P w K mg base 4 "check_share" ["units", "value"] (spChkShare K) := by
  have C_is_share := C_is_share (P := P) (w := w) (base := base) T
  obtain ⟨fd, F⟩ := T.d_check_share
  refine ⟨_, fd, okG F sc_check_share (fun vs H Q E h => ?_) (fun cdv A outer s H vs Q E hr hgd h => ?_), T.g_check_share, F.kp, (F.bindsN fun _ _ _ _ _ _ us hl => match us, hl with | [_, _], _ => rfl)⟩
  · obtain ⟨x, y, b, how, k, rfl, _⟩ := h
    rfl
  · obtain ⟨x, y, b, how, k, rfl, hu, hk, ok, q⟩ := h
    refine ⟨_, PSs.nox (pss_one (ps_if (pt_not (pt_val (pe_cal C_is_share (hr.mono (by decide)) hgd (by rfl) (pa_cons (pv 0) (pa_cons (pv 1) pa_nil))))) (pss_one ps_never) pss_nil)), ?_⟩
    try dsimp only [cxOf, Cx.nox, Cx.wish]
    rw [st_check_share]; walk_at "go"
    refine ⟨x, y, b, how, k, rfl, hu, hk, fun H1 s1 => ?_⟩
    rw [ok]
    walk_at "go"
    exact q _ s1
theorem C_halves (T : Txt K mg) : Cal P w K mg base 1 "halves" ["how", "share"] spHalves := by
  obtain ⟨fd, F⟩ := T.d_halves
  refine ⟨_, fd, okG F sc_halves (fun vs H Q E h => ?_) (fun cdv A outer s H vs Q E hr hgd h => ?_), T.g_halves, F.kp, (F.bindsN fun _ _ _ _ _ _ us hl => match us, hl with | [_, _], _ => rfl)⟩
  · obtain ⟨x, k, rfl, _⟩ := h
    rfl
  · obtain ⟨how, s, rfl, q⟩ := h
    refine ⟨_, PSs.nox (pss_cons (ps_if (pt_cmpR op_eq (pv 0) (pe_cs T.c_DOWN rfl) (nomark _)) (pss_one (ps_ret (pe_tup (pa_cons (pe_op o_mul pe_int (pv 1)) (pa_cons pe_bl (pa_cons (pe_op o_add (pe_op o_mul pe_int (pv 1)) pe_int) (pa_cons pe_bl pa_nil))))))) pss_nil)
    (pss_cons (ps_if (pt_cmpR op_eq (pv 0) (pe_cs T.c_UP rfl) (nomark _)) (pss_one (ps_ret (pe_tup (pa_cons (pe_op o_sub (pe_op o_mul pe_int (pv 1)) pe_int) (pa_cons pe_bl (pa_cons (pe_op o_mul pe_int (pv 1)) (pa_cons pe_bl pa_nil))))))) pss_nil)
    (pss_cons (ps_set (i := 2) sc_halves.nd rfl (.inl rfl) (pe_cmpR op_eq (pe_op o_mod (pv 1) pe_int) pe_int (nomark _)))
    (pss_one (ps_ret (pe_tup (pa_cons (pe_op o_sub (pe_op o_mul pe_int (pv 1)) pe_int) (pa_cons (pe_or (pe_cmpR op_eq (pv 0) (pe_cs T.c_NEAR rfl) (nomark _)) (pe_one (pv 2))) (pa_cons (pe_op o_add (pe_op o_mul pe_int (pv 1)) pe_int) (pa_cons (pe_and (pe_cmpR op_eq (pv 0) (pe_cs T.c_EVEN rfl) (nomark _)) (pe_one (pv 2))) pa_nil)))))))))), ?_⟩
    try dsimp only [cxOf, Cx.nox, Cx.wish]
    rw [st_halves]; walk_at "go"
    unfold halvesZ at q
    refine w_if (fun e => ?_) (fun e => ?_)
    · walk_at "go"
      refine w_newT rfl (fun p H2 np hp s2 => ?_)
      walk_at "go"
      rw [if_pos (V.str.inj e)] at q
      exact q p H2 np s2 hp
    · have n1 : how ≠ "down" := fun z => e (by rw [z])
      rw [if_neg n1] at q
      walk_at "go"
      refine w_if (fun e => ?_) (fun e => ?_)
      · walk_at "go"
        refine w_newT rfl (fun p H2 np hp s2 => ?_)
        walk_at "go"
        rw [if_pos (V.str.inj e)] at q
        exact q p H2 np s2 hp
      · have n2 : how ≠ "up" := fun z => e (by rw [z])
        rw [if_neg n2] at q
        walk_at "go"
        have ev : decide (V.int (s % 2) = V.int 0) = decide (s % 2 = 0) := by simp
        have en : ∀ z : Str, decide (V.str how = V.str z) = decide (how = z) := fun z => by simp
        rw [ev]
        refine w_if (fun e => ?_) (fun e => ?_)
        · walk_at "go"
          have e2 : how = "near" := V.str.inj e
          subst e2
          refine w_newT rfl (fun p H2 np hp s2 => ?_)
          walk_at "go"
          exact q p H2 np s2 hp
        · have n3 : how ≠ "near" := fun z => e (by rw [z])
          walk_at "go"
          refine w_if (fun e => ?_) (fun e => ?_)
          · have e2 : how = "even" := V.str.inj e
            walk_at "go"
            refine w_newT rfl (fun p H2 np hp s2 => ?_)
            walk_at "go"
            rw [decide_eq_false n3, decide_eq_true e2, Bool.false_or, Bool.true_and] at q
            exact q p H2 np s2 hp
          · have n4 : how ≠ "even" := fun z => e (by rw [z])
            walk_at "go"
            refine w_newT rfl (fun p H2 np hp s2 => ?_)
            walk_at "go"
            rw [decide_eq_false n3, decide_eq_false n4, Bool.false_or, Bool.false_and] at q
            exact q p H2 np s2 hp
theorem C_stretch (T : Txt K mg) : Cal P w K mg base 5 "stretch" ["units", "share"] (spStretch K) := by
  have C_check_units := C_check_units (P := P) (w := w) (base := base) T
  have C_check_share := C_check_share (P := P) (w := w) (base := base) T
  have C_halves := C_halves (P := P) (w := w) (base := base) T
  have C_fraction := C_fraction (P := P) (w := w) (base := base) T
  obtain ⟨fd, F⟩ := T.d_stretch
  refine ⟨_, fd, okG F sc_stretch (fun vs H Q E h => ?_) (fun cdv A outer s H vs Q E hr hgd h => ?_), T.g_stretch, F.kp, (F.bindsN fun _ _ _ _ _ _ us hl => match us, hl with | [_, _], _ => rfl)⟩
  · obtain ⟨x, y, b, how, rfl, _⟩ := h
    rfl
  · obtain ⟨x, sh, b, how, rfl, hU, hok, q⟩ := h
    refine ⟨_, PSs.nox (pss_cons (ps_expr (pe_cal C_check_units (hr.mono (by decide)) hgd (by rfl) (pa_cons (pv 0) pa_nil)))
    (pss_cons (ps_expr (pe_cal C_check_share (hr.mono (by decide)) hgd (by rfl) (pa_cons (pv 0) (pa_cons (pv 1) pa_nil))))
    (pss_cons (ps_asg (pv 0) (xg_tup (K := K) (n := 2) rfl rfl (pgs_cons (pg_name (i := 2) sc_stretch.nd rfl (.inl rfl)) (pgs_cons (pg_name (i := 3) sc_stretch.nd rfl (.inl rfl)) pgs_nil))))
    (pss_cons (ps_if (pt_cmpR op_eq (pv 1) (pe_cs T.c_NONE rfl) (nomark _)) (pss_one (ps_ret (pe_tup (pa_cons (pe_tup (pa_cons pe_int (pa_cons pe_int pa_nil))) (pa_cons pe_bl (pa_cons (pe_tup (pa_cons pe_int (pa_cons pe_int pa_nil))) (pa_cons pe_bl pa_nil))))))) pss_nil)
    (pss_cons (ps_if (pt_cmpR op_eq (pv 1) (pe_cs T.c_SOME rfl) (nomark _)) (pss_one (ps_ret (pe_tup (pa_cons (pe_tup (pa_cons pe_int (pa_cons pe_int pa_nil))) (pa_cons pe_bl (pa_cons (pe_tup (pa_cons pe_int (pa_cons (pv 2) pa_nil))) (pa_cons pe_bl pa_nil))))))) pss_nil)
    (pss_cons (ps_asg (pe_cal C_halves (hr.mono (by decide)) hgd (by rfl) (pa_cons (pv 3) (pa_cons (pv 1) pa_nil))) (xg_tup (K := K) (n := 4) rfl rfl (pgs_cons (pg_name (i := 4) sc_stretch.nd rfl (.inl rfl)) (pgs_cons (pg_name (i := 5) sc_stretch.nd rfl (.inl rfl)) (pgs_cons (pg_name (i := 6) sc_stretch.nd rfl (.inl rfl)) (pgs_cons (pg_name (i := 7) sc_stretch.nd rfl (.inl rfl)) pgs_nil))))))
    (pss_cons (ps_if (pt_cmpR o_lt (pv 4) pe_int (nomark _)) (pss_one (ps_asg (pe_tup (pa_cons pe_int (pa_cons pe_bl pa_nil))) (xg_tup (K := K) (n := 2) rfl rfl (pgs_cons (pg_name (i := 4) sc_stretch.nd rfl (.inl rfl)) (pgs_cons (pg_name (i := 5) sc_stretch.nd rfl (.inl rfl)) pgs_nil))))) pss_nil)
    (pss_cons (ps_if (pt_cmpR o_gt (pv 6) (pe_op o_mul pe_int (pv 2)) (nomark _)) (pss_one (ps_par (i := 6) (j := 7) (by rfl) sc_stretch.nd rfl rfl (by decide) rfl rfl (pa_cons (pe_op o_mul pe_int (pv 2)) (pa_cons pe_bl pa_nil)) (by rfl))) pss_nil)
    (pss_one (ps_ret (pe_tup (pa_cons (pe_cal C_fraction (hr.mono (by decide)) hgd (by rfl) (pa_cons (pv 4) (pa_cons (pe_op o_mul pe_int (pv 2)) pa_nil))) (pa_cons (pv 5) (pa_cons (pe_cal C_fraction (hr.mono (by decide)) hgd (by rfl) (pa_cons (pv 6) (pa_cons (pe_op o_mul pe_int (pv 2)) pa_nil))) (pa_cons (pv 7) pa_nil))))))))))))))), ?_⟩
    try dsimp only [cxOf, Cx.nox, Cx.wish]
    rw [st_stretch]; walk_at "go"
    refine ⟨_, rfl, b, how, hU, ?_⟩
    walk_at "go"
    obtain ⟨k, hk⟩ := sh.kind (K := K) (H := H)
    refine ⟨_, _, b, how, k, rfl, hU, hk, Sh.good hok, fun H1 s1 => ?_⟩
    walk_at "go"
    obtain ⟨a, rfl, hu, h2, h100, hh⟩ := hU.same s1
    refine ⟨a, _, rfl, hu, rfl, ?_⟩
    walk_at "go"
    cases sh with
    | none =>
      walk_at "go"
      refine w_newT rfl (fun p H2 np hp s2 => ?_)
      walk_at "go"
      refine w_newT rfl (fun p2 H3 np2 hp2 s3 => ?_)
      walk_at "go"
      refine w_newT rfl (fun p3 H4 np3 hp3 s4 => ?_)
      walk_at "go"
      exact q _ _ (s1.trans (s2.trans (s3.trans s4))) (.tup (sqT hp3) (.cons (.tup (sqT (s4 _ _ (s3 _ _ hp))) (.cons (.int _) (.cons (.int _) .nil))) (.cons (.bl _) (.cons (.tup (sqT (s4 _ _ hp2)) (.cons (.int _) (.cons (.int _) .nil))) (.cons (.bl _) .nil)))))
    | some =>
      walk_at "go"
      walk_at "go"
      refine w_newT rfl (fun p H2 np hp s2 => ?_)
      walk_at "go"
      refine w_newT rfl (fun p2 H3 np2 hp2 s3 => ?_)
      walk_at "go"
      refine w_newT rfl (fun p3 H4 np3 hp3 s4 => ?_)
      walk_at "go"
      exact q _ _ (s1.trans (s2.trans (s3.trans s4))) (.tup (sqT hp3) (.cons (.tup (sqT (s4 _ _ (s3 _ _ hp))) (.cons (.int _) (.cons (.int _) .nil))) (.cons (.bl _) (.cons (.tup (sqT (s4 _ _ hp2)) (.cons (.int _) (.cons (.int _) .nil))) (.cons (.bl _) .nil)))))
    | n sn =>
      dsimp only [Sh.v]
      walk_at "go"
      walk_at "go"
      refine ⟨how, sn, rfl, fun p H2 np s2 hp => ?_⟩
      walk_at "go"
      refine ⟨p, _, rfl, sqT hp, rfl, ?_⟩
      walk_at "go"
      have cl : (2 * b).natAbs < 2 ^ 8000 := Nat.lt_of_le_of_lt (show (2 * b).natAbs ≤ 2 ^ 8 by omega) (Nat.pow_lt_pow_right (by decide) (by decide))
      have lo0 : 0 ≤ (lowZ how sn).1 := by
        unfold lowZ
        split
        · exact Int.le_refl _
        · show 0 ≤ (halvesZ how sn).1
          omega
      have hi0 : 0 ≤ (highZ b how sn).1 := by
        have hk := hok.1
        have h3 : 0 ≤ (halvesZ how sn).2.2.1 := by
          unfold halvesZ
          split
          · show 0 ≤ 2 * sn + 2
            omega
          · split
            · show 0 ≤ 2 * sn
              omega
            · show 0 ≤ 2 * sn + 1
              omega
        unfold highZ
        split
        · show 0 ≤ 2 * b
          omega
        · exact h3
      refine w_if (fun e1 => ?_) (fun e1 => ?_)
      · walk_at "go"
        refine w_newT rfl (fun p3 H3 np3 hp3 s3 => ?_)
        walk_at "go"
        refine ⟨p3, _, rfl, sqT hp3, rfl, ?_⟩
        walk_at "go"
        have el : lowZ how sn = (0, true) := by unfold lowZ; rw [if_pos e1]
        refine w_if (fun e2 => ?_) (fun e2 => ?_)
        · have eh : highZ b how sn = (2 * b, true) := by unfold highZ; rw [if_pos e2]
          walk_at "go"
          refine ⟨_, _, rfl, Int.le_refl _, by omega, cl, fun p5 H5 np5 s5 hp5 => ?_⟩
          walk_at "go"
          refine ⟨_, _, rfl, by omega, by omega, cl, fun p6 H6 np6 s6 hp6 => ?_⟩
          walk_at "go"
          refine w_newT rfl (fun p7 H7 np7 hp7 s7 => ?_)
          walk_at "go"
          refine q _ _ ((s1.trans (s2.trans s3)).trans (s5.trans (s6.trans s7))) ?_
          simp only [strD, strZ, el, eh]
          exact .tup (sqT hp7) (.cons (.tup (sqT (s7 _ _ (s6 _ _ hp5))) (.cons (.int _) (.cons (.int _) .nil))) (.cons (.bl _) (.cons (.tup (sqT (s7 _ _ hp6)) (.cons (.int _) (.cons (.int _) .nil))) (.cons (.bl _) .nil))))
        · have eh : highZ b how sn = ((halvesZ how sn).2.2.1, (halvesZ how sn).2.2.2) := by unfold highZ; rw [if_neg e2]
          rw [eh] at hi0
          walk_at "go"
          refine ⟨_, _, rfl, Int.le_refl _, by omega, cl, fun p5 H5 np5 s5 hp5 => ?_⟩
          walk_at "go"
          refine ⟨_, _, rfl, hi0, by omega, cl, fun p6 H6 np6 s6 hp6 => ?_⟩
          walk_at "go"
          refine w_newT rfl (fun p7 H7 np7 hp7 s7 => ?_)
          walk_at "go"
          refine q _ _ ((s1.trans (s2.trans s3)).trans (s5.trans (s6.trans s7))) ?_
          simp only [strD, strZ, el, eh]
          exact .tup (sqT hp7) (.cons (.tup (sqT (s7 _ _ (s6 _ _ hp5))) (.cons (.int _) (.cons (.int _) .nil))) (.cons (.bl _) (.cons (.tup (sqT (s7 _ _ hp6)) (.cons (.int _) (.cons (.int _) .nil))) (.cons (.bl _) .nil))))
      · walk_at "go"
        have el : lowZ how sn = ((halvesZ how sn).1, (halvesZ how sn).2.1) := by unfold lowZ; rw [if_neg e1]
        rw [el] at lo0
        refine w_if (fun e2 => ?_) (fun e2 => ?_)
        · have eh : highZ b how sn = (2 * b, true) := by unfold highZ; rw [if_pos e2]
          walk_at "go"
          refine ⟨_, _, rfl, lo0, by omega, cl, fun p5 H5 np5 s5 hp5 => ?_⟩
          walk_at "go"
          refine ⟨_, _, rfl, by omega, by omega, cl, fun p6 H6 np6 s6 hp6 => ?_⟩
          walk_at "go"
          refine w_newT rfl (fun p7 H7 np7 hp7 s7 => ?_)
          walk_at "go"
          refine q _ _ ((s1.trans s2).trans (s5.trans (s6.trans s7))) ?_
          simp only [strD, strZ, el, eh]
          exact .tup (sqT hp7) (.cons (.tup (sqT (s7 _ _ (s6 _ _ hp5))) (.cons (.int _) (.cons (.int _) .nil))) (.cons (.bl _) (.cons (.tup (sqT (s7 _ _ hp6)) (.cons (.int _) (.cons (.int _) .nil))) (.cons (.bl _) .nil))))
        · have eh : highZ b how sn = ((halvesZ how sn).2.2.1, (halvesZ how sn).2.2.2) := by unfold highZ; rw [if_neg e2]
          rw [eh] at hi0
          walk_at "go"
          refine ⟨_, _, rfl, lo0, by omega, cl, fun p5 H5 np5 s5 hp5 => ?_⟩
          walk_at "go"
          refine ⟨_, _, rfl, hi0, by omega, cl, fun p6 H6 np6 s6 hp6 => ?_⟩
          walk_at "go"
          refine w_newT rfl (fun p7 H7 np7 hp7 s7 => ?_)
          walk_at "go"
          refine q _ _ ((s1.trans s2).trans (s5.trans (s6.trans s7))) ?_
          simp only [strD, strZ, el, eh]
          exact .tup (sqT hp7) (.cons (.tup (sqT (s7 _ _ (s6 _ _ hp5))) (.cons (.int _) (.cons (.int _) .nil))) (.cons (.bl _) (.cons (.tup (sqT (s7 _ _ hp6)) (.cons (.int _) (.cons (.int _) .nil))) (.cons (.bl _) .nil))))
end

end Ak
namespace Ak
open PySem PySem.Spec PyProof.Rows L2
/-! ### the walk of readings -/
local macro_rules | `(tactic| walk_at "go1") => `(tactic| (first
  | with_reducible refine w_seq ?_ | with_reducible refine w_next ?_ | with_reducible refine w_set ?_ | with_reducible refine w_asgS ?_ | with_reducible refine w_ret ?_ | with_reducible refine w_drop ?_ | with_reducible refine w_ifS ?_
  | with_reducible refine w_op ?_ | with_reducible refine w_un ?_ | ((with_reducible apply w_var); (· exact rfl)) | with_reducible refine w_c ?_
  | with_reducible refine w_add ?_ | with_reducible refine w_sub ?_ | with_reducible refine w_lt ?_ | with_reducible refine w_le ?_ | with_reducible refine w_gt ?_ | with_reducible refine w_ge ?_ | with_reducible refine w_neg ?_ | with_reducible refine w_isN ?_ | with_reducible refine w_notN ?_
  | ((with_reducible refine w_eq ?_ ?_); (· exact rfl)) | ((with_reducible refine w_ne ?_ ?_); (· exact rfl))
  | with_reducible refine w_test ?_ | with_reducible refine w_B ?_ | with_reducible refine w_or ?_ | with_reducible refine w_and ?_ | with_reducible refine w_not ?_ | with_reducible refine w_andV ?_ | with_reducible refine w_orV ?_ | with_reducible refine w_notV ?_
  | with_reducible refine w_ifE ?_ | with_reducible refine w_chain ?_ | with_reducible refine w_cb ?_ | with_reducible refine w_nil ?_ | with_reducible refine w_cons ?_ | with_reducible refine w_tup ?_ | with_reducible refine w_lst ?_ | with_reducible refine w_call ?_
  | with_reducible refine w_int1 ?_ | with_reducible refine w_abs ?_ | with_reducible refine w_max2 ?_ | with_reducible refine w_min2 ?_
  | with_reducible refine w_mknx ?_ | with_reducible refine w_mkrt ?_ | with_reducible refine w_mkbk ?_ | with_reducible refine w_mkct ?_ | with_reducible refine w_ifT ?_ | with_reducible refine w_ifF ?_ | with_reducible refine w_ifNT ?_ | with_reducible refine w_ifNF ?_
  | with_reducible refine w_lc ?_ | with_reducible refine w_lrg ?_ | with_reducible refine w_rg1 ?_ | with_reducible refine w_rg2 ?_ | with_reducible refine w_exI ?_ | with_reducible refine w_exI2 ?_
  | with_reducible refine w_sl ?_ | with_reducible refine w_part ?_ | with_reducible refine w_noPart ?_ | with_reducible refine w_lcE ?_ | with_reducible refine w_lcZ ?_ | with_reducible refine w_yes ?_
  | with_reducible refine w_bl ?_ | with_reducible refine w_asgT ?_ | with_reducible refine w_gcons ?_ | with_reducible refine w_gnil ?_ | with_reducible refine w_par ?_ | with_reducible refine w_pair ?_
  | ((with_reducible refine w_ixL (v := ?vv) (sqL (by assumption)) ?ee ?_); (case ee => exact rfl)) | ((with_reducible refine w_ixT (v := ?vv) (sqT (by assumption)) ?ee ?_); (case ee => exact rfl))
  | ((with_reducible refine w_ixL (v := ?vv) (by assumption) ?ee ?_); (case ee => exact rfl)) | ((with_reducible refine w_ixT (v := ?vv) (by assumption) ?ee ?_); (case ee => exact rfl))
  | ((with_reducible refine w_ifDT ?_ ?_); (· first | omega | decide +kernel)) | ((with_reducible refine w_ifDF ?_ ?_); (· first | omega | decide +kernel | exact ne_IS | exact ne_SI | exact ne_IN | exact ne_SN | exact ne_RN))
  | ((with_reducible refine w_mod ?_ ?_); (· omega)) | ((with_reducible refine w_fdiv ?_ ?_ ?_); (· omega); (· omega))
  | ((with_reducible refine w_mulL ?_ ?_ ?_); (· omega); (· omega)) | ((with_reducible refine w_mulR ?_ ?_ ?_); (· omega); (· omega))
  | with_reducible refine w_lenL (sqL (by assumption)) ?_ | with_reducible refine w_lenL (by assumption) ?_ | with_reducible refine w_lenT (sqT (by assumption)) ?_ | with_reducible refine w_lenT (by assumption) ?_))
local macro_rules | `(tactic| walk_at "go") => `(tactic| repeat walk_at "go1")
/-! ### small things of laws -/
theorem hows_mem {how : Str} (h : how ∈ hows) : how = "near" ∨ how = "even" ∨ how = "down" ∨ how = "up" := by
  simpa [hows] using h
theorem PotL.mono {n m : Nat} {xs : List V} (h : PotL n xs) (le : n ≤ m) : PotL m xs := by
  obtain ⟨a, b, c, e, h1, h2, h3, h4, h5⟩ := h
  exact ⟨a, b, c, e, h1, h2, h3, h4, by omega⟩
theorem rg_share {b : Int} {x : V} (h : x ∈ rgV 0 (b + 1)) : ∃ sh : Sh, x = sh.v ∧ sh.ok b := by
  unfold rgV at h
  obtain ⟨i, hi, rfl⟩ := List.mem_map.mp h
  have := List.mem_range.mp hi
  exact ⟨.n (0 + (i : Int)), rfl, by show 0 ≤ 0 + (i : Int) ∧ 0 + (i : Int) ≤ b; omega⟩
theorem fresh_but {p : Addr} {H H1 : Hp} {a : Addr} {o : HO} (b : But p H H1) (hp1 : H1 p = some o) (na : H1 a = none) : H a = none := by
  cases e : H a with
  | none => rfl
  | some u =>
    have hap : a ≠ p := fun z => by
      rw [z, hp1] at na
      cases na
    rw [b _ _ hap e] at na
    cases na
theorem But.tupT {K : PySem.W.Frag} {p : Addr} {H H' : Hp} {xs : List V} {a : Addr} {ys : List V} (b : But p H H') (hp : H p = some (.lst xs)) (h : SqT K H a ys) : SqT K H' a ys := by
  have ne : ∀ o, H a = some o → (∀ zs, o ≠ .lst zs) → a ≠ p := fun o e n z => by
    rw [z, hp] at e
    exact n xs (Option.some.inj e).symm
  rcases h with (h | ⟨o, h⟩) | h
  · exact .inl (.inl (b _ _ (ne _ h fun _ z => by cases z) h))
  · exact .inl (.inr ⟨o, b _ _ (ne _ h fun _ z => by cases z) h⟩)
  · exact .inr h
/-- a comprehension over a range whose turns change what stands at p -/
theorem w_lcRp {σ : L2.St} {H : Hp} {Q : VK} {p : Addr} {k n : Nat} {te : TE} {tA : TA} (Pt : Nat → Hp → Prop) (hA : ∀ R : List V → Hp → Prop, R [.int n] H → tA σ H R) (hn : n ≤ 1000) (hp : ∃ o, H p = some o) (h0 : ∀ D H', H D = none → Same H H' → Pt 0 H')
    (step : ∀ i H' (Nx : VK), i < n → Pt i H' → (∀ H3, But p H' H3 → Pt (i + 1) H3 → Nx (.bl true) H3) → te ((wipe σ [k]).set k (some (.int (i : Int)))) H' Nx)
    (keep : ∀ i H' D acc, H' D ≠ none → D ≠ p → Pt i H' → Pt i (upd H' D acc))
    (hw : ∀ i : Int, wipe ((wipe σ [k]).set k (some (.int i))) [k] = wipe σ [k])
    (q : ∀ D H' ys, H D = none → But p H H' → Pt n H' → H' D = some (.lst ys) → (∀ (i : Nat) (y : V), ys[i]? = some y → y = .bl true) → Q (.ref D) H') : tLc (iRng1 tA) (gName k) tYes te [k] σ H Q := by
  refine hA _ ⟨(n : Int), rfl, by omega, by omega, fun D hD => ?_⟩
  have e : ((n : Int)).toNat = n := by omega
  rw [e]
  obtain ⟨o, hpo⟩ := hp
  have hDp : D ≠ p := fun z => by
    rw [z, hpo] at hD
    cases hD
  refine lc_range (lo := 0) (n := n) (fun i H' => But p H H' ∧ Pt i H' ∧ ∃ acc, H' D = some (.lst acc) ∧ acc.length = i ∧ ∀ y ∈ acc, y = V.bl true) ⟨(same_new hD).but, h0 D _ hD (same_new hD), [], upd_same, rfl, fun y hy => by cases hy⟩ (fun i H' hi h => ?_) (fun H' h => ?_)
  · obtain ⟨b1, pt, acc, hacc, hlen, hall⟩ := h
    rw [Int.zero_add]
    refine ⟨hw _, step i H' _ hi pt (fun H3 b3 pt3 => ?_)⟩
    · have hacc3 := b3 _ _ hDp hacc
      refine ⟨acc, hacc3, Nat.lt_of_le_of_lt (show acc.length ≤ 1000 by omega) (small1000 (Nat.le_refl _)), ?_, keep _ _ _ _ (by rw [hacc3]; simp) hDp pt3, acc ++ [.bl true], upd_same, by simp [hlen], fun y hy => ?_⟩
      · intro c u nc hc
        by_cases hcD : c = D
        · rw [hcD, hD] at hc
          cases hc
        · rw [upd_ne hcD]
          exact b3 _ _ nc (b1 _ _ nc hc)
      · rcases List.mem_append.mp hy with hy | hy
        · exact hall y hy
        · simpa using hy
  · obtain ⟨b1, pt, acc, hacc, hlen, hall⟩ := h
    exact q D H' acc hD b1 pt hacc (fun i y hy => hall y (List.mem_of_getElem? hy))
def ForT (K : PySem.W.Frag) (x : V) (g : TG) (tb : TS) (D : Ends) (σ : L2.St) (H : Hp) : Prop := tFor (iTup K (tC x)) g tb D σ H
theorem w_forT {K : PySem.W.Frag} {σ : L2.St} {H : Hp} {D : Ends} {tl : TE} {g : TG} {tb : TS} (h : tl σ H fun x H1 => ForT K x g tb D σ H1) : tFor (iTup K tl) g tb D σ H := h

/-! ### whether so many of so many lie in a stretch -/
def spLWithin (K : PySem.W.Frag) : Sp := fun vs H Q _ => ∃ v t m n, vs = [v, .int m, .int n] ∧ Dp K H v (strD t) ∧ 0 ≤ m ∧ m < 1073741824 ∧ 0 ≤ n ∧ n < 1073741824 ∧ Q (.bl (withinB t m n)) H
theorem dpI {K : PySem.W.Frag} {H : Hp} {v : V} {i : Int} (h : Dp K H v (.int i)) : v = .int i := by cases h; rfl
theorem dpB {K : PySem.W.Frag} {H : Hp} {v : V} {b : Bool} (h : Dp K H v (.bool b)) : v = .bl b := by cases h; rfl
theorem dpT {K : PySem.W.Frag} {H : Hp} {v : V} {ds : List PyData} (h : Dp K H v (.tuple ds)) : ∃ a xs, v = .ref a ∧ SqT K H a xs ∧ DpAll K H xs ds := by
  cases h with
  | tup h r => exact ⟨_, _, rfl, h, r⟩
theorem dp2 {K : PySem.W.Frag} {H : Hp} {v : V} {i j : Int} (h : Dp K H v (.tuple [.int i, .int j])) : ∃ a, v = .ref a ∧ SqT K H a [.int i, .int j] := by
  obtain ⟨a, xs, rfl, h, r⟩ := dpT h
  cases r with
  | cons h1 r => cases r with
    | cons h2 r =>
      cases r
      rw [dpI h1, dpI h2] at h
      exact ⟨a, rfl, h⟩
theorem dpStr {K : PySem.W.Frag} {H : Hp} {v : V} {t : Int × Int × Bool × Int × Int × Bool} (h : Dp K H v (strD t)) : ∃ a c d, v = .ref a ∧ SqT K H a [.ref c, .bl t.2.2.1, .ref d, .bl t.2.2.2.2.2] ∧ SqT K H c [.int t.1, .int t.2.1] ∧ SqT K H d [.int t.2.2.2.1, .int t.2.2.2.2.1] := by
  obtain ⟨a, xs, rfl, h, r⟩ := dpT h
  cases r with
  | cons h1 r => cases r with
    | cons h2 r => cases r with
      | cons h3 r => cases r with
        | cons h4 r =>
          cases r
          obtain ⟨c, rfl, hc⟩ := dp2 h1
          obtain ⟨d, rfl, hd⟩ := dp2 h3
          rw [dpB h2, dpB h4] at h
          exact ⟨a, c, d, rfl, h, hc, hd⟩
section
variable {P : Program} {w : World} {K : PySem.W.Frag} {mg : Str → Option Value} {base : Heap}
theorem C_l_is_within (T : Txt K mg) : Cal P w K mg base 1 "_law_is_within" ["_law_told", "_law_many", "_law_whole"] (spLWithin K) := by
  obtain ⟨fd, F⟩ := T.d_l_is_within
  refine ⟨_, fd, okG F sc_l_is_within (fun vs H Q E h => ?_) (fun cdv A outer s H vs Q E hr hgd h => ?_), T.g_l_is_within, F.kp, (F.bindsN fun _ _ _ _ _ _ us hl => match us, hl with | [_, _, _], _ => rfl)⟩
  · obtain ⟨x, y, b, how, rfl, _⟩ := h
    rfl
  · obtain ⟨v, t, m, n, rfl, hd, m0, m1, n0, n1, q⟩ := h
    refine ⟨_, PSs.nox (pss_cons (ps_asg (pv 0) (xg_tup (K := K) (n := 4) rfl rfl (pgs_cons (pg_name (i := 3) sc_l_is_within.nd rfl (.inl rfl)) (pgs_cons (pg_name (i := 4) sc_l_is_within.nd rfl (.inl rfl)) (pgs_cons (pg_name (i := 5) sc_l_is_within.nd rfl (.inl rfl)) (pgs_cons (pg_name (i := 6) sc_l_is_within.nd rfl (.inl rfl)) pgs_nil))))))
    (pss_cons (ps_set (i := 7) sc_l_is_within.nd rfl (.inl rfl) (pe_op o_sub (pe_op o_mul (pv 1) (pe_ix (x_ix (K := K) rfl) (pv 3) pe_int (fun _ _ => rfl))) (pe_op o_mul (pe_ix (x_ix (K := K) rfl) (pv 3) pe_int (fun _ _ => rfl)) (pv 2))))
    (pss_cons (ps_set (i := 8) sc_l_is_within.nd rfl (.inl rfl) (pe_op o_sub (pe_op o_mul (pe_ix (x_ix (K := K) rfl) (pv 5) pe_int (fun _ _ => rfl)) (pv 2)) (pe_op o_mul (pv 1) (pe_ix (x_ix (K := K) rfl) (pv 5) pe_int (fun _ _ => rfl)))))
    (pss_one (ps_ret (pe_and (pe_or (pe_cmpR o_gt (pv 7) pe_int (nomark _)) (pe_one (pe_and (pe_cmpR op_eq (pv 7) pe_int (nomark _)) (pe_one (pv 4))))) (pe_one (pe_or (pe_cmpR o_gt (pv 8) pe_int (nomark _)) (pe_one (pe_and (pe_cmpR op_eq (pv 8) pe_int (nomark _)) (pe_one (pv 6)))))))))))), ?_⟩
    try dsimp only [cxOf, Cx.nox, Cx.wish]
    rw [st_l_is_within]; walk_at "go"
    obtain ⟨a, c, d, rfl, ha, hc, hd⟩ := dpStr hd
    refine ⟨a, _, rfl, ha, rfl, ?_⟩
    obtain ⟨l0, l1, il, h0, h1, ih⟩ := t
    walk_at "go"
    unfold withinB at q
    dsimp only at q ⊢
    generalize m * l1 - l0 * n = L at *
    generalize h0 * n - m * h1 = R at *
    refine w_if (fun e => ?_) (fun e => ?_)
    · rw [decide_eq_true e, Bool.true_or, Bool.true_and] at q
      walk_at "go"
      refine w_if (fun e2 => ?_) (fun e2 => ?_)
      · rw [decide_eq_true e2, Bool.true_or] at q
        exact q
      · rw [decide_eq_false e2, Bool.false_or] at q
        walk_at "go"
        refine w_ifI (fun e3 => ?_) (fun e3 => ?_)
        · walk_at "go"
          rw [decide_eq_true e3, Bool.true_and] at q
          exact q
        · rw [decide_eq_false e3, Bool.false_and] at q
          exact q
    · rw [decide_eq_false e, Bool.false_or] at q
      walk_at "go"
      refine w_ifI (fun e4 => ?_) (fun e4 => ?_)
      · rw [decide_eq_true e4, Bool.true_and] at q
        walk_at "go"
        cases il with
        | false =>
          walk_at "go"
          exact q
        | true =>
          rw [Bool.true_and] at q
          walk_at "go"
          refine w_if (fun e2 => ?_) (fun e2 => ?_)
          · rw [decide_eq_true e2, Bool.true_or] at q
            exact q
          · rw [decide_eq_false e2, Bool.false_or] at q
            walk_at "go"
            refine w_ifI (fun e3 => ?_) (fun e3 => ?_)
            · walk_at "go"
              rw [decide_eq_true e3, Bool.true_and] at q
              exact q
            · rw [decide_eq_false e3, Bool.false_and] at q
              exact q
      · rw [decide_eq_false e4, Bool.false_and, Bool.false_and] at q
        walk_at "go"
        exact q
end

/-! ### the stretches of all integers: plain reckoning -/
def shAt : Nat → Sh
  | 0 => .none
  | 1 => .some
  | i + 2 => .n (i : Nat)
theorem round_in {b m n : Int} {how : Str} (hb : 2 ≤ b) (h0 : 0 ≤ m) (h1 : m ≤ n) (h2 : 1 ≤ n) : 0 ≤ roundZ how (b * m) n ∧ roundZ how (b * m) n ≤ b := by
  generalize ha : b * m = a
  have a0 : 0 ≤ a := ha ▸ Int.mul_nonneg (by omega) h0
  have a1 : a ≤ b * n := ha ▸ Int.mul_le_mul_of_nonneg_left h1 (by omega)
  have e := Int.mul_ediv_add_emod a n
  have r0 := Int.emod_nonneg a (show n ≠ 0 by omega)
  have r1 := Int.emod_lt_of_pos a (show 0 < n by omega)
  have q0 : 0 ≤ a / n := Int.ediv_nonneg a0 (by omega)
  unfold roundZ
  generalize a / n = q at *
  generalize a % n = r at *
  have eb : b * n = n * q + n * (b - q) := by rw [← Int.mul_add, Int.mul_comm]; congr 1; omega
  have c : 0 < b - q ∨ (b - q = 0 ∧ n * (b - q) = 0) ∨ (b - q < 0 ∧ n * (b - q) ≤ -n) := by
    rcases Int.lt_trichotomy 0 (b - q) with z | z | z
    · exact .inl z
    · exact .inr (.inl ⟨z.symm, by rw [← z, Int.mul_zero]⟩)
    · have := Int.mul_le_mul_of_nonneg_left (show b - q ≤ -1 by omega) (show 0 ≤ n by omega)
      exact .inr (.inr ⟨z, by omega⟩)
  generalize n * (b - q) = R at *
  generalize n * q = Z at *
  have c2 : q < b ∨ (q = b ∧ r = 0) := by omega
  split
  · omega
  · rename_i z
    have zr : r ≠ 0 := fun y => z (.inr y)
    split
    · omega
    · split
      · split <;> omega
      · split <;> omega
theorem halves_go {how : Str} (hh : how = "near" ∨ how = "even" ∨ how = "down" ∨ how = "up") (s : Int) : (halvesZ how s).2.2.1 = (halvesZ how (s + 1)).1 ∧ (halvesZ how s).2.2.2 = !(halvesZ how (s + 1)).2.1 := by
  have n1 : ("near" : Str) ≠ "down" := by decide
  have n2 : ("near" : Str) ≠ "up" := by decide
  have n3 : ("near" : Str) ≠ "even" := by decide
  have n4 : ("even" : Str) ≠ "down" := by decide
  have n5 : ("even" : Str) ≠ "up" := by decide
  have n6 : ("even" : Str) ≠ "near" := by decide
  have n7 : ("up" : Str) ≠ "down" := by decide
  rcases hh with rfl | rfl | rfl | rfl
  · simp only [halvesZ, n1, n2, if_false, decide_true, Bool.true_or, decide_eq_false n3, Bool.false_and, Bool.not_true, and_true]
    omega
  · simp only [halvesZ, n4, n5, if_false, decide_true, Bool.true_and, decide_eq_false n6, Bool.false_or]
    refine ⟨by omega, ?_⟩
    by_cases z : s % 2 = 0
    · rw [decide_eq_true z, decide_eq_false (show ¬ (s + 1) % 2 = 0 by omega)]
      rfl
    · rw [decide_eq_false z, decide_eq_true (show (s + 1) % 2 = 0 by omega)]
      rfl
  · simp only [halvesZ, if_true, Bool.not_true, and_true]
    omega
  · simp only [halvesZ, n7, if_false, if_true, Bool.not_false, and_true]
    omega
theorem halves_at {how : Str} (s : Int) : 2 * s ≤ (halvesZ how s).2.2.1 ∧ (halvesZ how s).2.2.1 ≤ 2 * s + 2 ∧ 2 * s - 2 ≤ (halvesZ how s).1 ∧ (halvesZ how s).1 ≤ 2 * s := by
  unfold halvesZ
  split
  · show 2 * s ≤ 2 * s + 2 ∧ 2 * s + 2 ≤ 2 * s + 2 ∧ 2 * s - 2 ≤ 2 * s ∧ 2 * s ≤ 2 * s
    omega
  · split
    · show 2 * s ≤ 2 * s ∧ 2 * s ≤ 2 * s + 2 ∧ 2 * s - 2 ≤ 2 * s - 2 ∧ 2 * s - 2 ≤ 2 * s
      omega
    · show 2 * s ≤ 2 * s + 1 ∧ 2 * s + 1 ≤ 2 * s + 2 ∧ 2 * s - 2 ≤ 2 * s - 1 ∧ 2 * s - 1 ≤ 2 * s
      omega
theorem ends_go {b s : Int} {how : Str} (hh : how = "near" ∨ how = "even" ∨ how = "down" ∨ how = "up") (h0 : 0 ≤ s) (h1 : s < b) : (highZ b how s).1 = (lowZ how (s + 1)).1 ∧ (highZ b how s).2 = !(lowZ how (s + 1)).2 := by
  have g := halves_go hh s
  have a := halves_at (how := how) s
  have e1 : lowZ how (s + 1) = ((halvesZ how (s + 1)).1, (halvesZ how (s + 1)).2.1) := by
    unfold lowZ
    rw [if_neg (by omega)]
  have e2 : highZ b how s = ((halvesZ how s).2.2.1, (halvesZ how s).2.2.2) := by
    unfold highZ
    rw [if_neg (by omega)]
  rw [e1, e2]
  exact g
theorem str_go {b s : Int} {how : Str} (hh : how = "near" ∨ how = "even" ∨ how = "down" ∨ how = "up") (h0 : 0 ≤ s) (h1 : s < b) :
    (strZ b how (.n s)).2.2.2.1 = (strZ b how (.n (s + 1))).1 ∧ (strZ b how (.n s)).2.2.2.2.1 = (strZ b how (.n (s + 1))).2.1 ∧ (strZ b how (.n s)).2.2.2.2.2 = !(strZ b how (.n (s + 1))).2.2.1 := by
  obtain ⟨e1, e2⟩ := ends_go hh h0 h1
  simp only [strZ, e1, e2, and_self]
theorem str_first {b : Int} {how : Str} (hh : how = "near" ∨ how = "even" ∨ how = "down" ∨ how = "up") (hb : 2 ≤ b) : (strZ b how (.n 0)).1 = 0 ∧ (strZ b how (.n 0)).2.1 = 1 ∧ (strZ b how (.n 0)).2.2.1 = true := by
  have e : lowZ how 0 = (0, true) := by
    rcases hh with rfl | rfl | rfl | rfl <;> decide +kernel
  have g : gz 0 (2 * b) = 2 * b := by
    unfold gz
    rw [Int.gcd_zero_left]
    omega
  simp only [strZ, e, g]
  exact ⟨by rw [Int.zero_ediv], Int.ediv_self (by omega), trivial⟩
theorem str_last {b : Int} {how : Str} (hh : how = "near" ∨ how = "even" ∨ how = "down" ∨ how = "up") (hb : 2 ≤ b) : (strZ b how (.n b)).2.2.2.1 = 1 ∧ (strZ b how (.n b)).2.2.2.2.1 = 1 ∧ (strZ b how (.n b)).2.2.2.2.2 = true := by
  have e : highZ b how b = (2 * b, true) := by
    unfold highZ
    split
    · rfl
    · rename_i z
      have a := halves_at (how := how) b
      have e1 : (halvesZ how b).2.2.1 = 2 * b := by omega
      rw [e1]
      rcases hh with rfl | rfl | rfl | rfl
      · have : (halvesZ "near" b).2.2.1 = 2 * b + 1 := rfl
        omega
      · have : (halvesZ "even" b).2.2.1 = 2 * b + 1 := rfl
        omega
      · have : (halvesZ "down" b).2.2.1 = 2 * b + 2 := rfl
        omega
      · rfl
  have g : gz (2 * b) (2 * b) = 2 * b := by
    unfold gz
    rw [Int.gcd_self]
    omega
  simp only [strZ, e, g]
  exact ⟨Int.ediv_self (by omega), Int.ediv_self (by omega), trivial⟩
/-- the value v is the stretch t -/
def StrAt (K : PySem.W.Frag) (H : Hp) (v : V) (t : Int × Int × Bool × Int × Int × Bool) : Prop := ∃ a c d, v = .ref a ∧ SqT K H a [.ref c, .bl t.2.2.1, .ref d, .bl t.2.2.2.2.2] ∧ SqT K H c [.int t.1, .int t.2.1] ∧ SqT K H d [.int t.2.2.2.1, .int t.2.2.2.2.1]
section
variable {K : PySem.W.Frag} {H H' : Hp} {v : V} {t : Int × Int × Bool × Int × Int × Bool}
theorem StrAt.dp (h : StrAt K H v t) : Dp K H v (strD t) := by
  obtain ⟨a, c, d, rfl, h1, h2, h3⟩ := h
  exact .tup h1 (.cons (.tup h2 (.cons (.int _) (.cons (.int _) .nil))) (.cons (.bl _) (.cons (.tup h3 (.cons (.int _) (.cons (.int _) .nil))) (.cons (.bl _) .nil))))
theorem StrAt.same (h : StrAt K H v t) (s : Same H H') : StrAt K H' v t := by
  obtain ⟨a, c, d, rfl, h1, h2, h3⟩ := h
  exact ⟨a, c, d, rfl, sameT s h1, sameT s h2, sameT s h3⟩
theorem StrAt.but {p : Addr} {xs : List V} (h : StrAt K H v t) (s : But p H H') (hp : H p = some (.lst xs)) : StrAt K H' v t := by
  obtain ⟨a, c, d, rfl, h1, h2, h3⟩ := h
  exact ⟨a, c, d, rfl, s.tupT hp h1, s.tupT hp h2, s.tupT hp h3⟩
theorem StrAt.set {A : Addr} {ys zs : List V} (h : StrAt K H v t) (hA : H A = some (.lst ys)) : StrAt K (upd H A (.lst zs)) v t := h.but (fun b o n e => by rw [upd_ne n]; exact e) hA
end
theorem sIx_two {n d : Nat} (h : 2 ≤ n) : HT.sIx n d (some 2) = 2 := by
  show (if (2 : Int) < 0 then ((2 : Int) + (n : Int)).toNat else min (2 : Int).toNat n) = 2
  rw [if_neg (by decide)]
  show min 2 n = 2
  omega
theorem sIx_one {n d : Nat} (h : 1 ≤ n) : HT.sIx n d (some 1) = 1 := by
  show (if (1 : Int) < 0 then ((1 : Int) + (n : Int)).toNat else min (1 : Int).toNat n) = 1
  rw [if_neg (by decide)]
  show min 1 n = 1
  omega
theorem cut_from2 {xs : List V} (h : 2 ≤ xs.length) : cutV xs (some 2) none = xs.drop 2 := by
  unfold cutV
  rw [sIx_two h]
  show List.take (xs.length - 2) (xs.drop 2) = _
  rw [← List.length_drop, List.take_length]
theorem cut_from1 {xs : List V} (h : 1 ≤ xs.length) : cutV xs (some 1) none = xs.drop 1 := by
  unfold cutV
  rw [sIx_one h]
  show List.take (xs.length - 1) (xs.drop 1) = _
  rw [← List.length_drop, List.take_length]
theorem cut_to2 {x y : V} {r : List V} : cutV (x :: y :: r) none (some 2) = [x, y] := by
  unfold cutV
  rw [sIx_two (by simp)]
  rfl
theorem atI_last {xs : List V} {k : Nat} {v : V} (h : xs.length = k + 1) (e : xs[k]? = some v) : atI xs (-1) = some v := by
  unfold atI ixN
  rw [if_neg (by decide), if_pos (by omega)]
  show xs[((-1 : Int) + (xs.length : Int)).toNat]? = some v
  have : ((-1 : Int) + (xs.length : Int)).toNat = k := by omega
  rw [this]
  exact e
theorem shAt_ok {b : Int} {i : Nat} (h : i < b.toNat + 3) (hb : 2 ≤ b) : (shAt i).ok b := by
  match i, h with
  | 0, _ => exact trivial
  | 1, _ => exact trivial
  | k + 2, h =>
    show 0 ≤ (k : Int) ∧ (k : Int) ≤ b
    omega
theorem shares_at {b : Int} {i : Nat} {x : V} (hb : 2 ≤ b) (h : ([V.str "none", V.str "some"] ++ rgV 0 (b + 1))[i]? = some x) : x = (shAt i).v := by
  match i, h with
  | 0, h => exact (Option.some.inj h).symm
  | 1, h => exact (Option.some.inj h).symm
  | k + 2, h =>
    have h2 : (rgV 0 (b + 1))[k]? = some x := h
    unfold rgV at h2
    rw [List.getElem?_map] at h2
    cases e : (List.range (b + 1 - 0).toNat)[k]? with
    | none =>
      rw [e] at h2
      cases h2
    | some j =>
      rw [e] at h2
      obtain ⟨hk, ej⟩ := List.getElem?_eq_some_iff.mp e
      rw [List.getElem_range] at ej
      have h3 := (Option.some.inj h2).symm
      rw [h3, ← ej]
      show V.int (0 + (k : Int)) = V.int (k : Int)
      rw [Int.zero_add]
theorem atI_of {xs : List V} {k : Nat} {i : Int} {v : V} (hi : i = k) (h : xs[k]? = some v) : atI xs i = some v := by
  have hk := (List.getElem?_eq_some_iff.mp h).1
  unfold atI ixN
  rw [if_pos (by omega), if_pos (by omega)]
  show xs[i.toNat]? = some v
  have : i.toNat = k := by omega
  rw [this]
  exact h
theorem shp_l1 {i : Int} : SeqAt.shaped (.list [.int i]) = true := by
  simp only [SeqAt.shaped, PyData.canLay0, PyData.canLayAll0, PyData.depth, PyData.depthAll]
  rfl
theorem shp_l2 {x y : Bool} : SeqAt.shaped (.list [.bool x, .bool y]) = true := by
  simp only [SeqAt.shaped, PyData.canLay0, PyData.canLayAll0, PyData.depth, PyData.depthAll]
  rfl
theorem shp_t2 {i j : Int} : SeqAt.shaped (.tuple [.int i, .int j]) = true := by
  simp only [SeqAt.shaped, PyData.canLay0, PyData.canLayAll0, PyData.depth, PyData.depthAll]
  rfl
theorem shp_tb {i j : Int} {x : Bool} : SeqAt.shaped (.tuple [.tuple [.int i, .int j], .bool x]) = true := by
  simp only [SeqAt.shaped, PyData.canLay0, PyData.canLayAll0, PyData.depth, PyData.depthAll]
  rfl

end Ak
namespace Ak
open PySem PySem.Spec PyProof.Rows L2
/-! ### the walk of readings -/
local macro_rules | `(tactic| walk_at "go1") => `(tactic| (first
  | with_reducible refine w_seq ?_ | with_reducible refine w_next ?_ | with_reducible refine w_set ?_ | with_reducible refine w_asgS ?_ | with_reducible refine w_ret ?_ | with_reducible refine w_drop ?_ | with_reducible refine w_ifS ?_
  | with_reducible refine w_op ?_ | with_reducible refine w_un ?_ | ((with_reducible apply w_var); (· exact rfl)) | with_reducible refine w_c ?_
  | with_reducible refine w_add ?_ | with_reducible refine w_sub ?_ | with_reducible refine w_lt ?_ | with_reducible refine w_le ?_ | with_reducible refine w_gt ?_ | with_reducible refine w_ge ?_ | with_reducible refine w_neg ?_ | with_reducible refine w_isN ?_ | with_reducible refine w_notN ?_
  | ((with_reducible refine w_eq ?_ ?_); (· exact rfl)) | ((with_reducible refine w_ne ?_ ?_); (· exact rfl))
  | with_reducible refine w_test ?_ | with_reducible refine w_B ?_ | with_reducible refine w_or ?_ | with_reducible refine w_and ?_ | with_reducible refine w_not ?_ | with_reducible refine w_andV ?_ | with_reducible refine w_orV ?_ | with_reducible refine w_notV ?_
  | with_reducible refine w_ifE ?_ | with_reducible refine w_chain ?_ | with_reducible refine w_cb ?_ | with_reducible refine w_nil ?_ | with_reducible refine w_cons ?_ | with_reducible refine w_tup ?_ | with_reducible refine w_lst ?_ | with_reducible refine w_call ?_
  | with_reducible refine w_int1 ?_ | with_reducible refine w_abs ?_ | with_reducible refine w_max2 ?_ | with_reducible refine w_min2 ?_
  | with_reducible refine w_mknx ?_ | with_reducible refine w_mkrt ?_ | with_reducible refine w_mkbk ?_ | with_reducible refine w_mkct ?_ | with_reducible refine w_ifT ?_ | with_reducible refine w_ifF ?_ | with_reducible refine w_ifNT ?_ | with_reducible refine w_ifNF ?_
  | with_reducible refine w_lc ?_ | with_reducible refine w_lrg ?_ | with_reducible refine w_rg1 ?_ | with_reducible refine w_rg2 ?_ | with_reducible refine w_exI ?_ | with_reducible refine w_exI2 ?_
  | with_reducible refine w_sl ?_ | with_reducible refine w_part ?_ | with_reducible refine w_noPart ?_ | with_reducible refine w_lcE ?_ | with_reducible refine w_lcZ ?_ | with_reducible refine w_yes ?_
  | with_reducible refine w_bl ?_ | with_reducible refine w_asgT ?_ | with_reducible refine w_gcons ?_ | with_reducible refine w_gnil ?_ | with_reducible refine w_par ?_ | with_reducible refine w_pair ?_
  | ((with_reducible refine w_ixL (v := ?vv) (sqL (by assumption)) ?ee ?_); (case ee => exact rfl)) | ((with_reducible refine w_ixT (v := ?vv) (sqT (by assumption)) ?ee ?_); (case ee => exact rfl))
  | ((with_reducible refine w_ixL (v := ?vv) (by assumption) ?ee ?_); (case ee => exact rfl)) | ((with_reducible refine w_ixT (v := ?vv) (by assumption) ?ee ?_); (case ee => exact rfl))
  | ((with_reducible refine w_ifDT ?_ ?_); (· first | omega | decide +kernel)) | ((with_reducible refine w_ifDF ?_ ?_); (· first | omega | decide +kernel | exact ne_IS | exact ne_SI | exact ne_IN | exact ne_SN | exact ne_RN))
  | ((with_reducible refine w_mod ?_ ?_); (· omega)) | ((with_reducible refine w_fdiv ?_ ?_ ?_); (· omega); (· omega))
  | ((with_reducible refine w_mulL ?_ ?_ ?_); (· omega); (· omega)) | ((with_reducible refine w_mulR ?_ ?_ ?_); (· omega); (· omega))
  | with_reducible refine w_lenL (sqL (by assumption)) ?_ | with_reducible refine w_lenL (by assumption) ?_ | with_reducible refine w_lenT (sqT (by assumption)) ?_ | with_reducible refine w_lenT (by assumption) ?_))
local macro_rules | `(tactic| walk_at "go") => `(tactic| repeat walk_at "go1")
/-! ### the law's own defs -/
def ToldAt (K : PySem.W.Frag) (H : Hp) (l : Addr) (vs : List V) (b : Int) (how : Str) (f : Nat → Sh) : Prop := H l = some (.lst vs) ∧ ∀ i v, vs[i]? = some v → StrAt K H v (strZ b how (f i))
def spOneR (K : PySem.W.Frag) : Sp := fun ws H Q _ => ∃ u l vs b how m n, ws = [.ref u, .ref l, .int m, .int n] ∧ SqT K H u [.int b, .str how] ∧ how ∈ hows ∧ 2 ≤ b ∧ b ≤ 100 ∧ ToldAt K H l vs b how shAt ∧ vs.length = b.toNat + 3 ∧ 0 ≤ m ∧ m ≤ n ∧ 1 ≤ n ∧ n < 1073741824 ∧ ∀ H', Same H H' → Q (.bl true) H'
def spGoOn (K : PySem.W.Frag) : Sp := fun ws H Q _ => ∃ l vs b how, ws = [.ref l] ∧ how ∈ hows ∧ 2 ≤ b ∧ b ≤ 100 ∧ ToldAt K H l vs b how (fun i => .n (i : Nat)) ∧ vs.length = b.toNat + 1 ∧ ∀ H', Same H H' → Q (.bl true) H'
def spLR : Sp := fun vs H Q _ => ∃ p xs, vs = [.ref p] ∧ H p = some (.lst xs) ∧ PotL 0 xs ∧ ∀ H', But p H H' → Q (.bl true) H'
theorem one_round {b m n R : Int} {how : Str} {i : Nat} (hR : roundZ how (b * m) n = R) (h0 : 0 ≤ R) : rightB b how (shAt (i + 2)) m n = decide ((i : Int) = R) := by
  show decide (roundZ how (b * m) n = (i : Int)) = _
  rw [hR]
  by_cases h : (i : Int) = R
  · rw [decide_eq_true h, decide_eq_true h.symm]
  · rw [decide_eq_false h, decide_eq_false (fun z => h z.symm)]
section
variable {P : Program} {w : World} {K : PySem.W.Frag} {mg : Str → Option Value} {base : Heap}
theorem C_l_is_one_right (T : Txt K mg) : Cal P w K mg base 6 "_law_is_one_right" ["_law_units", "_law_told", "_law_many", "_law_whole"] (spOneR K) := by
  have C_l_is_within := C_l_is_within (P := P) (w := w) (base := base) T
  have C_shown := C_shown (P := P) (w := w) (base := base) T
  obtain ⟨fd, F⟩ := T.d_l_is_one_right
  refine ⟨_, fd, okG F sc_l_is_one_right (fun vs H Q E h => ?_) (fun cdv A outer s H vs Q E hr hgd h => ?_), T.g_l_is_one_right, F.kp, (F.bindsN fun _ _ _ _ _ _ us hl => match us, hl with | [_, _, _, _], _ => rfl)⟩
  · obtain ⟨u, l, vs, b, how, m, n, rfl, _⟩ := h
    rfl
  · obtain ⟨u, l, vs, b, how, m, n, rfl, hu, hh, hb, hb2, ⟨hl, hst⟩, hlen, m0, m1, n0, n1, q⟩ := h
    have hm := hows_mem hh
    refine ⟨_, PSs.nox (pss_cons (ps_setLc (i := 4) (own := [("_law_one", 5)]) (g := gName 5) rfl sc_l_is_one_right.nd rfl rfl (sw_true rfl rfl rfl (by decide +kernel)) (xi_list (K := K) rfl (pv 1)) (blkOk_by (own := [("_law_one", 5)]) (N := ["_law_units", "_law_told", "_law_many", "_law_whole", "_law_marks", "_law_one", "_law_number", "_law_mark"]) (sc := defScope s_l_is_one_right) (by decide +kernel)) (fun _ _ _ _ _ => (pg_name (i := 5) sc_l_is_one_right.nd rfl (.inl rfl))) (fun _ _ _ _ _ => pts_nil) (fun _ _ _ _ _ => (pe_cal C_l_is_within (hr.mono (by decide)) hgd (by rfl) (pa_cons (pv 5) (pa_cons (pv 2) (pa_cons (pv 3) pa_nil))))))
    (pss_cons (ps_if (pt_cmpR (x_neD (K := K) rfl hr.units) (pe_lc (own := [("_law_number", 6), ("_law_mark", 7)]) (g := gTup K 2 (gCons (gName 6) (gCons (gName 7) gNil))) rfl sc_l_is_one_right.nd (xi_enum (K := K) rfl (by rfl) T.z_enumerate (pa_cons (pe_slice (x_slL (K := K) rfl) (pv 4) (po_some pe_int) po_none) pa_nil)) (blkOk_by (own := [("_law_number", 6), ("_law_mark", 7)]) (N := ["_law_units", "_law_told", "_law_many", "_law_whole", "_law_marks", "_law_one", "_law_number", "_law_mark"]) (sc := defScope s_l_is_one_right) (by decide +kernel)) (fun _ _ _ _ _ => (xg_tup (K := K) (n := 2) rfl rfl (pgs_cons (pg_name (i := 6) sc_l_is_one_right.nd rfl (.inl rfl)) (pgs_cons (pg_name (i := 7) sc_l_is_one_right.nd rfl (.inl rfl)) pgs_nil)))) (fun _ _ _ _ _ => pts_one (pt_val (pv 7))) (fun _ _ _ _ _ => (pv 6))) (pe_lst (pa_cons (pe_cal C_shown (hr.mono (by decide)) hgd (by rfl) (pa_cons (pv 0) (pa_cons (pv 2) (pa_cons (pv 3) pa_nil)))) pa_nil)) (nomark _)) (pss_one (ps_ret pe_bl)) pss_nil)
    (pss_one (ps_ret (pe_cmpR (x_eqD (K := K) rfl hr.units) (pe_slice (x_slL (K := K) rfl) (pv 4) po_none (po_some pe_int)) (pe_lst (pa_cons (pe_cmpR op_eq (pv 2) pe_int (nomark _)) (pa_cons (pe_chain o_lt o_lt pe_int (pe_op o_mul (pe_ix (x_ix (K := K) rfl) (pv 0) pe_int (fun _ _ => rfl)) (pv 2)) (pv 3)) pa_nil))) (nomark _)))))), ?_⟩
    try dsimp only [cxOf, Cx.nox, Cx.wish]
    rw [st_l_is_one_right]; walk_at "go"
    refine w_lcI (sqL hl) (w_lcW (walk_list (xs := vs)) (fun i acc H' => Same H H' ∧ acc.length = i ∧ ∀ (j : Nat) (y : V), acc[j]? = some y → y = V.bl (rightB b how (shAt j) m n)) (by omega) (fun A hA => ⟨same_new hA, rfl, fun j y e => by simp at e⟩) (fun A i acc H' ys zs hA _ h => ⟨same_upd hA h.1, h.2⟩) (fun i acc H' h => h.1.seq (sqL hl)) (fun i acc H' h => Nat.le_of_eq h.2.1) ?_ ?_)
    · rintro A i x H1 H2 acc Nx Sk hA hi ⟨s1, l1, f1⟩ hacc ⟨rfl, hx⟩ nx sk
      refine ⟨rfl, ?_⟩
      walk_at "go"
      refine ⟨_, strZ b how (shAt i), m, n, rfl, ((hst i x hx).same s1).dp, m0, by omega, by omega, by omega, ?_⟩
      rw [withinB_eq hm hb m0 m1 n0 (shAt_ok (by omega) hb)]
      exact nx _ _ hacc ⟨s1, by simp [l1], acc_snoc l1 f1 rfl⟩
    · rintro A H1 acc nA hA ⟨s1, l1, f1⟩
      have hR := round_in (how := how) hb m0 m1 n0
      generalize eR : roundZ how (b * m) n = R at hR
      walk_at "go"
      refine w_slL (sqL hA) (fun l2 H2 n2 hl2 s2 => ?_)
      rw [cut_from2 (by omega)] at hl2
      walk_at "go"
      refine ⟨l2, _, rfl, sqL hl2, ?_⟩
      refine w_lcW (walk_enum (xs := acc.drop 2)) (fun i r H' => Same H2 H' ∧ r = if R < (i : Int) then [V.int R] else []) (by rw [List.length_drop]; omega) (fun A2 hA2 => ⟨same_new hA2, by rw [if_neg (by omega)]⟩) (fun A2 i r H' ys zs hA2 _ h => ⟨same_upd hA2 h.1, h.2⟩) (fun i r H' h => h.1.seq (sqL hl2)) (fun i r H' h => ?_) ?_ ?_
      · rw [h.2]
        split
        · show 1 ≤ i
          omega
        · exact Nat.zero_le _
      · rintro A2 i x H3 H4 r Nx Sk nA2 hi ⟨s3, rr⟩ hr3 ⟨T3, x1, y1, rfl, nT, rfl, e1, e2⟩ nx sk
        have e3 : acc[i + 2]? = some y1 := by
          have e5 : (acc.drop 2)[i]? = some y1 := e2
          rw [← e5, List.getElem?_drop, Nat.add_comm]
        have e4 := f1 _ _ e3
        rw [one_round eR hR.1] at e4
        cases e1
        subst e4
        refine ⟨T3, _, rfl, sqT upd_same, rfl, ?_⟩
        walk_at "go"
        refine ⟨rfl, ?_⟩
        walk_at "go"
        refine w_if (fun e => ?_) (fun e => ?_)
        · walk_at "go"
          refine nx _ _ (upd_old nT hr3) ⟨s3.trans (same_new nT), ?_⟩
          rw [rr, if_neg (by omega), if_pos (by omega), ← e]
          rfl
        · refine sk _ (upd_old nT hr3) ⟨s3.trans (same_new nT), ?_⟩
          rw [rr]
          by_cases z : R < (i : Int)
          · rw [if_pos z, if_pos (by omega)]
          · rw [if_neg z, if_neg (by omega)]
      · rintro A2 H3 r nA2 hA2 ⟨s3, rr⟩
        rw [if_pos (by rw [List.length_drop]; omega)] at rr
        subst rr
        have sA := s1.trans (s2.trans s3)
        walk_at "go"
        refine ⟨_, b, how, m, n, rfl, ⟨u, rfl, sameT sA hu, hb, hb2, hh⟩, m0, m1, n0, n1, fun H4 s4 => ?_⟩
        rw [eR]
        walk_at "go"
        refine w_newL rfl (fun l3 H5 n3 hl3 s5 => ?_)
        refine w_neS (d := .list [.int R]) (.lst (sqL (s5 _ _ (s4 _ _ hA2))) (.cons (.int _) .nil)) (.lst (sqL hl3) (.cons (.int _) .nil)) shp_l1 ?_
        rcases acc with _ | ⟨a0, _ | ⟨a1, rest⟩⟩
        · simp at l1
          omega
        · simp at l1
          omega
        have f10 : a0 = .bl (decide (m = 0)) := f1 0 a0 rfl
        have f11 : a1 = .bl (decide (0 < b * m) && decide (b * m < n)) := f1 1 a1 rfl
        subst f10 f11
        have sB := s2.trans (s3.trans (s4.trans s5))
        have hu5 := sameT (s1.trans sB) hu
        walk_at "go"
        refine w_slL (sqL (sB _ _ hA)) (fun l6 H6 n6 hl6 s6 => ?_)
        rw [cut_to2] at hl6
        have hu6 := sameT s6 hu5
        walk_at "go"
        have e0 : decide (V.int m = V.int 0) = decide (m = 0) := by simp
        rw [e0]
        refine w_if (fun e => ?_) (fun e => ?_)
        · walk_at "go"
          refine w_newL rfl (fun l7 H7 n7 hl7 s7 => ?_)
          rw [decide_eq_true e, Bool.true_and] at hl6
          exact w_eqS (d := .list [.bool (decide (m = 0)), .bool (decide (b * m < n))]) (.lst (sqL (s7 _ _ hl6)) (.cons (.bl _) (.cons (.bl _) .nil))) (.lst (sqL hl7) (.cons (.bl _) (.cons (.bl _) .nil))) shp_l2 (q _ (s1.trans (sB.trans (s6.trans s7))))
        · walk_at "go"
          refine w_newL rfl (fun l7 H7 n7 hl7 s7 => ?_)
          rw [decide_eq_false e, Bool.false_and] at hl6
          exact w_eqS (d := .list [.bool (decide (m = 0)), .bool false]) (.lst (sqL (s7 _ _ hl6)) (.cons (.bl _) (.cons (.bl _) .nil))) (.lst (sqL hl7) (.cons (.bl _) (.cons (.bl _) .nil))) shp_l2 (q _ (s1.trans (sB.trans (s6.trans s7))))
theorem C_l_do_go_on (T : Txt K mg) : Cal P w K mg base 1 "_law_do_go_on" ["_law_told"] (spGoOn K) := by
  obtain ⟨fd, F⟩ := T.d_l_do_go_on
  refine ⟨_, fd, okG F sc_l_do_go_on (fun vs H Q E h => ?_) (fun cdv A outer s H vs Q E hr hgd h => ?_), T.g_l_do_go_on, F.kp, (F.bindsN fun _ _ _ _ _ _ us hl => match us, hl with | [_], _ => rfl)⟩
  · obtain ⟨l, vs, b, how, rfl, _⟩ := h
    rfl
  · obtain ⟨l, vs, b, how, rfl, hh, hb, hb2, ⟨hl, hst⟩, hlen, q⟩ := h
    have hm := hows_mem hh
    refine ⟨_, PSs.nox (pss_cons (ps_if (PW.pt (pw_or (pt_cmpR (x_neD (K := K) rfl hr.units) (pe_slice (x_slT (K := K) rfl) (pe_ix (x_ix (K := K) rfl) (pv 0) pe_int (fun _ _ => rfl)) po_none (po_some pe_int)) (pe_tup (pa_cons (pe_tup (pa_cons pe_int (pa_cons pe_int pa_nil))) (pa_cons pe_bl pa_nil))) (nomark _)) (pw_or1 (pt_cmpR (x_neD (K := K) rfl hr.units) (pe_slice (x_slT (K := K) rfl) (pe_ix (x_ix (K := K) rfl) (pv 0) (pe_un u_neg pe_int) (fun _ _ => rfl)) (po_some pe_int) po_none) (pe_tup (pa_cons (pe_tup (pa_cons pe_int (pa_cons pe_int pa_nil))) (pa_cons pe_bl pa_nil))) (nomark _))))) (pss_one (ps_ret pe_bl)) pss_nil)
    (pss_one (ps_ret (pe_callB (x_all (K := K) rfl rfl) (by rfl) T.z_all (by decide +kernel) (pa_cons (pe_lc (own := [("_law_one", 1), ("_law_other", 2)]) (g := gTup K 2 (gCons (gName 1) (gCons (gName 2) gNil))) rfl sc_l_do_go_on.nd (xi_zip (K := K) rfl (by rfl) T.z_zip (pa_cons (pv 0) (pa_cons (pe_slice (x_slL (K := K) rfl) (pv 0) (po_some pe_int) po_none) pa_nil))) (blkOk_by (own := [("_law_one", 1), ("_law_other", 2)]) (N := ["_law_told", "_law_one", "_law_other"]) (sc := defScope s_l_do_go_on) (by decide +kernel)) (fun _ _ _ _ _ => (xg_tup (K := K) (n := 2) rfl rfl (pgs_cons (pg_name (i := 1) sc_l_do_go_on.nd rfl (.inl rfl)) (pgs_cons (pg_name (i := 2) sc_l_do_go_on.nd rfl (.inl rfl)) pgs_nil)))) (fun _ _ _ _ _ => pts_nil) (fun _ _ _ _ _ => (pe_and (pe_cmpR (x_eqD (K := K) rfl hr.units) (pe_ix (x_ix (K := K) rfl) (pv 1) pe_int (fun _ _ => rfl)) (pe_ix (x_ix (K := K) rfl) (pv 2) pe_int (fun _ _ => rfl)) (nomark _)) (pe_one (pe_cmpR op_ne (pe_ix (x_ix (K := K) rfl) (pv 1) pe_int (fun _ _ => rfl)) (pe_ix (x_ix (K := K) rfl) (pv 2) pe_int (fun _ _ => rfl)) (nomark _)))))) pa_nil))))), ?_⟩
    try dsimp only [cxOf, Cx.nox, Cx.wish]
    rw [st_l_do_go_on]; walk_at "go"
    have hk : b.toNat < vs.length := by omega
    have h0k : 0 < vs.length := by omega
    have e0 : vs[0]? = some vs[0] := List.getElem?_eq_getElem h0k
    have eL : vs[b.toNat]? = some vs[b.toNat] := List.getElem?_eq_getElem hk
    generalize vs[0] = v0 at e0
    generalize vs[b.toNat] = vL at eL
    have st0 : StrAt K H v0 (strZ b how (.n 0)) := hst 0 v0 e0
    have stL : StrAt K H vL (strZ b how (.n b)) := by
      have z : StrAt K H vL (strZ b how (.n ((b.toNat : Nat) : Int))) := hst b.toNat vL eL
      have z2 : ((b.toNat : Nat) : Int) = b := by omega
      rw [z2] at z
      exact z
    obtain ⟨a, c, d, rfl, h1, h2, h3⟩ := st0
    obtain ⟨aL, cL, dL, rfl, g1, g2, g3⟩ := stL
    obtain ⟨z1, z2, z3⟩ := str_first hm hb
    obtain ⟨y1, y2, y3⟩ := str_last hm hb
    rw [z1, z2] at h2
    rw [z3] at h1
    rw [y1, y2] at g3
    rw [y3] at g1
    refine w_ixL (sqL hl) (atI_of (k := 0) rfl e0) ?_
    walk_at "go"
    refine w_slT h1 (by show ¬ (HT.sIx 4 0 none = 0 ∧ HT.sIx 4 4 (some 2) = 4); decide) (fun p1 H1 n1 hp1 s1 => ?_)
    have hp1' : H1 p1 = some (.tup [.ref c, .bl true]) := hp1
    walk_at "go"
    refine w_newT rfl (fun p2 H2 n2 hp2 s2 => ?_)
    walk_at "go"
    refine w_newT rfl (fun p3 H3 n3 hp3 s3 => ?_)
    have sA := s1.trans (s2.trans s3)
    refine w_neS (d := .tuple [.tuple [.int 0, .int 1], .bool true]) (.tup (sqT (s3 _ _ (s2 _ _ hp1'))) (.cons (.tup (sameT sA h2) (.cons (.int _) (.cons (.int _) .nil))) (.cons (.bl _) .nil))) (.tup (sqT hp3) (.cons (.tup (sqT (s3 _ _ hp2)) (.cons (.int _) (.cons (.int _) .nil))) (.cons (.bl _) .nil))) shp_tb ?_
    walk_at "go"
    refine w_ixL (sqL (sA _ _ hl)) (atI_last hlen eL) ?_
    walk_at "go"
    refine w_slT (sameT sA g1) (by show ¬ (HT.sIx 4 0 (some 2) = 0 ∧ HT.sIx 4 4 none = 4); decide) (fun p4 H4 n4 hp4 s4 => ?_)
    have hp4' : H4 p4 = some (.tup [.ref dL, .bl true]) := hp4
    walk_at "go"
    refine w_newT rfl (fun p5 H5 n5 hp5 s5 => ?_)
    walk_at "go"
    refine w_newT rfl (fun p6 H6 n6 hp6 s6 => ?_)
    have sB := sA.trans (s4.trans (s5.trans s6))
    refine w_neS (d := .tuple [.tuple [.int 1, .int 1], .bool true]) (.tup (sqT (s6 _ _ (s5 _ _ hp4'))) (.cons (.tup (sameT sB g3) (.cons (.int _) (.cons (.int _) .nil))) (.cons (.bl _) .nil))) (.tup (sqT hp6) (.cons (.tup (sqT (s6 _ _ hp5)) (.cons (.int _) (.cons (.int _) .nil))) (.cons (.bl _) .nil))) shp_tb ?_
    walk_at "go"
    refine w_slL (sqL (sB _ _ hl)) (fun l7 H7 n7 hl7 s7 => ?_)
    rw [cut_from1 (by omega)] at hl7
    have sC := sB.trans s7
    walk_at "go"
    refine ⟨l, l7, vs, vs.drop 1, rfl, sqL (sC _ _ hl), sqL hl7, ?_⟩
    refine w_lcW (walk_zip (xs := vs) (ys := vs.drop 1) (n := b.toNat) (by rw [List.length_drop]; omega)) (fun i acc H' => Same H7 H' ∧ acc.length = i ∧ ∀ (j : Nat) (y : V), acc[j]? = some y → y = V.bl true) (by omega) (fun A hA => ⟨same_new hA, rfl, fun j y e => by simp at e⟩) (fun A i acc H' ys zs hA _ h => ⟨same_upd hA h.1, h.2⟩) (fun i acc H' h => ⟨h.1.seq (sqL (sC _ _ hl)), h.1.seq (sqL hl7)⟩) (fun i acc H' h => Nat.le_of_eq h.2.1) ?_ ?_
    · rintro A i x H8 H9 acc Nx Sk hA hi ⟨s8, l8, f8⟩ hacc ⟨T3, x1, x2, rfl, nT, rfl, e1, e2⟩ nx sk
      have e2 : (vs.drop 1)[i]? = some x2 := e2
      rw [List.getElem?_drop, Nat.add_comm] at e2
      have s9 := s8.trans (same_new (o := .tup [x1, x2]) nT)
      have u1 : StrAt K _ x1 (strZ b how (.n (i : Int))) := (hst i x1 e1).same (sC.trans s9)
      have u2 : StrAt K _ x2 (strZ b how (.n ((i : Int) + 1))) := (hst (i + 1) x2 e2).same (sC.trans s9)
      obtain ⟨q1, q2, q3⟩ := str_go hm (show (0 : Int) ≤ (i : Int) by omega) (show (i : Int) < b by omega)
      obtain ⟨a1, c1, d1, rfl, h11, h12, h13⟩ := u1
      obtain ⟨a2, c2, d2, rfl, h21, h22, h23⟩ := u2
      rw [q1, q2] at h13
      rw [q3] at h11
      refine ⟨T3, _, rfl, sqT upd_same, rfl, ?_⟩
      walk_at "go"
      refine ⟨rfl, ?_⟩
      walk_at "go"
      refine w_eqS (d := .tuple [.int _, .int _]) (.tup h13 (.cons (.int _) (.cons (.int _) .nil))) (.tup h22 (.cons (.int _) (.cons (.int _) .nil))) shp_t2 ?_
      walk_at "go"
      refine nx _ _ (upd_old nT hacc) ⟨s9, by simp [l8], acc_snoc l8 f8 ?_⟩
      cases (strZ b how (.n ((i : Int) + 1))).2.2.1 <;> rfl
    · rintro A H8 acc nA hA ⟨s8, l8, f8⟩
      walk_at "go"
      exact w_allT (sqL hA) f8 (q _ (sC.trans s8))
theorem C_l_right (T : Txt K mg) : Cal P w K mg base 7 "_law_right" ["_law_pot_here"] spLR := by
  have C_l_take := C_l_take (P := P) (w := w) (base := base) T
  have C_l_of := C_l_of (P := P) (w := w) (base := base) T
  have C_stretch := C_stretch (P := P) (w := w) (base := base) T
  have C_l_is_one_right := C_l_is_one_right (P := P) (w := w) (base := base) T
  have C_l_do_go_on := C_l_do_go_on (P := P) (w := w) (base := base) T
  obtain ⟨fd, F⟩ := T.d_l_right
  refine ⟨_, fd, okG F sc_l_right (fun vs H Q E h => ?_) (fun cdv A outer s H vs Q E hr hgd h => ?_), T.g_l_right, F.kp, (F.bindsN fun _ _ _ _ _ _ us hl => match us, hl with | [_], _ => rfl)⟩
  · obtain ⟨p, xs, rfl, _⟩ := h
    rfl
  · obtain ⟨p, xs, rfl, hp, hP, q⟩ := h
    refine ⟨_, PSs.nox (pss_cons (ps_for PassesOwn.never rfl (xi_tup (K := K) rfl (pe_tup (pa_cons pe_str (pa_cons pe_str (pa_cons pe_str (pa_cons pe_str pa_nil)))))) (pg_name (i := 1) sc_l_right.nd rfl (.inl rfl))
    (pss_cons (ps_set (i := 2) sc_l_right.nd rfl (.inr rfl) (pe_tup (pa_cons (pe_op o_add pe_int (pe_cal C_l_take (hr.mono (by decide)) hgd (by rfl) (pa_cons (pv 0) (pa_cons (pe_cal C_l_of (hr.mono (by decide)) hgd (by rfl) (pa_cons (pv 0) (pa_cons (pe_lst (pa_cons pe_int (pa_cons pe_int pa_nil))) pa_nil))) pa_nil)))) (pa_cons (pv 1) pa_nil))))
    (pss_cons (ps_set (i := 3) sc_l_right.nd rfl (.inr rfl) (pe_lc (own := [("_law_share", 7)]) (g := gName 7) rfl sc_l_right.nd (xi_list (K := K) rfl (pe_op o_cat (pe_lst (pa_cons pe_str (pa_cons pe_str pa_nil))) (pe_listRg rfl (by rfl) T.z_list (prg_1 (by rfl) T.z_range (pe_op o_add (pe_ix (x_ix (K := K) rfl) (pv 2) pe_int (fun _ _ => rfl)) pe_int))))) (blkOk_by (own := [("_law_share", 7)]) (N := ["_law_pot_here", "_law_how", "_law_units", "_law_told", "_law_some", "_law_whole", "_law_spots", "_law_share", "_law_lap", "_law_many"]) (sc := defScope s_l_right) (by decide +kernel)) (fun _ _ _ _ _ => (pg_name (i := 7) sc_l_right.nd rfl (.inl rfl))) (fun _ _ _ _ _ => pts_nil) (fun _ _ _ _ _ => (pe_cal C_stretch (hr.mono (by decide)) hgd (by rfl) (pa_cons (pv 2) (pa_cons (pv 7) pa_nil))))))
    (pss_cons (ps_if (pt_not (pt_val (pe_cal C_l_do_go_on (hr.mono (by decide)) hgd (by rfl) (pa_cons (pe_slice (x_slL (K := K) rfl) (pv 3) (po_some pe_int) po_none) pa_nil)))) (pss_one (ps_ret pe_bl)) pss_nil)
    (pss_cons (ps_set (i := 4) sc_l_right.nd rfl (.inl rfl) (pe_lst (pa_cons (pe_op o_add pe_int (pe_cal C_l_take (hr.mono (by decide)) hgd (by rfl) (pa_cons (pv 0) (pa_cons pe_int pa_nil)))) (pa_cons (pe_op o_mul pe_int (pe_ix (x_ix (K := K) rfl) (pv 2) pe_int (fun _ _ => rfl))) (pa_cons (pe_op o_add pe_int (pe_cal C_l_take (hr.mono (by decide)) hgd (by rfl) (pa_cons (pv 0) (pa_cons (pe_op o_sub (pe_op o_pow pe_int pe_int) pe_int) pa_nil)))) pa_nil)))))
    (pss_one (ps_for PassesOwn.never rfl (xi_list (K := K) rfl (pv 4)) (pg_name (i := 5) sc_l_right.nd rfl (.inr rfl))
    (pss_cons (ps_set (i := 6) sc_l_right.nd rfl (.inl rfl) (pe_ifExp (pt_cmpR o_lt (pv 5) pe_int (nomark _)) (pe_listRg rfl (by rfl) T.z_list (prg_1 (by rfl) T.z_range (pe_op o_add (pv 5) pe_int))) (pe_lc (own := [("_law_lap", 8)]) (g := gName 8) rfl sc_l_right.nd (pi_range1 (by rfl) T.z_range (pa_cons pe_int pa_nil)) (blkOk_by (own := [("_law_lap", 8)]) (N := ["_law_pot_here", "_law_how", "_law_units", "_law_told", "_law_some", "_law_whole", "_law_spots", "_law_share", "_law_lap", "_law_many"]) (sc := defScope s_l_right) (by decide +kernel)) (fun _ _ _ _ _ => (pg_name (i := 8) sc_l_right.nd rfl (.inl rfl))) (fun _ _ _ _ _ => pts_nil) (fun _ _ _ _ _ => (pe_cal C_l_take (hr.mono (by decide)) hgd (by rfl) (pa_cons (pv 0) (pa_cons (pe_op o_add (pv 5) pe_int) pa_nil)))))))
    (pss_one (ps_if (pt_not (pt_val (pe_callB (x_all (K := K) rfl rfl) (by rfl) T.z_all (by decide +kernel) (pa_cons (pe_lc (own := [("_law_many", 9)]) (g := gName 9) rfl sc_l_right.nd (xi_list (K := K) rfl (pv 6)) (blkOk_by (own := [("_law_many", 9)]) (N := ["_law_pot_here", "_law_how", "_law_units", "_law_told", "_law_some", "_law_whole", "_law_spots", "_law_share", "_law_lap", "_law_many"]) (sc := defScope s_l_right) (by decide +kernel)) (fun _ _ _ _ _ => (pg_name (i := 9) sc_l_right.nd rfl (.inl rfl))) (fun _ _ _ _ _ => pts_nil) (fun _ _ _ _ _ => (pe_cal C_l_is_one_right (hr.mono (by decide)) hgd (by rfl) (pa_cons (pv 2) (pa_cons (pv 3) (pa_cons (pv 9) (pa_cons (pv 5) pa_nil))))))) pa_nil)))) (pss_one (ps_ret pe_bl)) pss_nil))))))))))
    (pss_one (ps_ret pe_bl))), ?_⟩
    try dsimp only [cxOf, Cx.nox, Cx.wish]
    rw [st_l_right]; walk_at "go"
    refine w_forT ?_
    walk_at "go"
    refine w_newT rfl (fun tw H0 nt htw s0 => ?_)
    refine ⟨tw, rfl, ⟨_, sqT htw⟩, for_tup (K := K) (a := tw) (xs := [V.str "near", V.str "even", V.str "down", V.str "up"]) (fun i σ' H' => ∃ y1 y2 y3 y4 y5 y6 y7 y8 y9 ys, σ' = [some (.ref p), y1, y2, y3, y4, y5, y6, y7, y8, y9] ∧ But p H0 H' ∧ H' p = some (.lst ys) ∧ PotL (100 * i) ys) ⟨_, _, _, _, _, _, _, _, _, xs, rfl, But.refl, s0 _ _ hp, hP⟩ (fun i σ' H' _ h => ?_) ?_ ?_⟩
    · obtain ⟨_, _, _, _, _, _, _, _, _, _, _, b1, _⟩ := h
      exact b1.tupT (s0 _ _ hp) (sqT htw)
    · rintro i x σ' H1 hx ⟨y1, y2, y3, y4, y5, y6, y7, y8, y9, ys, rfl, b1, hp1, hP1⟩
      have hi : i < 4 := (List.getElem?_eq_some_iff.mp hx).1
      obtain ⟨how, rfl, hh⟩ : ∃ how : Str, x = .str how ∧ how ∈ hows := by
        have mx := List.mem_of_getElem? hx
        simp only [List.mem_cons, List.not_mem_nil, or_false] at mx
        rcases mx with rfl | rfl | rfl | rfl
        · exact ⟨_, rfl, .head _⟩
        · exact ⟨_, rfl, .tail _ (.head _)⟩
        · exact ⟨_, rfl, .tail _ (.tail _ (.head _))⟩
        · exact ⟨_, rfl, .tail _ (.tail _ (.tail _ (.head _)))⟩
      show tSeq _ _ _ _ _
      try dsimp only [List.set]
      walk_at "go"
      refine w_newL rfl (fun l1 H2 nl1 hl1 s2 => ?_)
      have hpl1 : p ≠ l1 := ne_of_none hp1 nl1
      walk_at "go"
      refine ⟨p, _, ys, l1, _, rfl, s2 _ _ hp1, hP1, by omega, hpl1, sqL hl1, by show 0 < 2; decide, by show 2 ≤ 1000; decide, ?_⟩
      intro v H3 zs b3 hp3 hP3 mv
      obtain ⟨t, rfl, t0, t1⟩ : ∃ t : Int, v = .int t ∧ 11 ≤ t ∧ t ≤ 99 := by
        simp only [List.mem_cons, List.not_mem_nil, or_false] at mv
        rcases mv with rfl | rfl
        · exact ⟨_, rfl, by decide, by decide⟩
        · exact ⟨_, rfl, by decide, by decide⟩
      walk_at "go"
      refine ⟨p, _, t, zs, rfl, hp3, hP3, by omega, by omega, by omega, ?_⟩
      rintro v H4 ws b4 hp4 hP4 ⟨r, rfl, r0, r1⟩
      walk_at "go"
      refine w_newT rfl (fun u H5 nu hu s5 => ?_)
      have hb : 2 ≤ 2 + r := by omega
      have hb2 : 2 + r ≤ 100 := by omega
      generalize 2 + r = b at *
      have B5 : But p H0 H5 := b1.trans (s2.but.trans (b3.trans (b4.trans s5.but)))
      have hp5 := s5 _ _ hp4
      try dsimp only [List.set]
      walk_at "go"
      refine w_newL rfl (fun l2 H6 nl2 hl2 s6 => ?_)
      have hu6 := s6 _ _ hu
      walk_at "go"
      refine w_newR (by decide) (by decide) (by omega) (by omega) (fun l3 H7 nl3 hl3 s7 => ?_)
      walk_at "go"
      have hrl : (rgV 0 (b + 1)).length = b.toNat + 1 := by
        rw [rgV_length]
        omega
      refine w_cat (s7 _ _ hl2) hl3 (by show 2 + (rgV 0 (b + 1)).length ≤ 100000; omega) (fun l4 H8 nl4 hl4 s8 => ?_)
      have sx : ∀ (i : Nat) (x : V), ([V.str "none", V.str "some"] ++ rgV 0 (b + 1))[i]? = some x → x = (shAt i).v := fun i x h => shares_at hb h
      have slen : ([V.str "none", V.str "some"] ++ rgV 0 (b + 1)).length = b.toNat + 3 := by
        rw [List.length_append, hrl]
        show 2 + (b.toNat + 1) = _
        omega
      generalize [V.str "none", V.str "some"] ++ rgV 0 (b + 1) = shares at *
      have hu8 := s8 _ _ (s7 _ _ hu6)
      have hp8 := s8 _ _ (s7 _ _ (s6 _ _ hp5))
      have B8 : But p H0 H8 := B5.trans (s6.but.trans (s7.but.trans s8.but))
      refine w_lcI (sqL hl4) (w_lcW (walk_list (xs := shares)) (fun i acc H' => Same H8 H' ∧ acc.length = i ∧ ∀ (j : Nat) (y : V), acc[j]? = some y → StrAt K H' y (strZ b how (shAt j))) (by omega) (fun A hA => ⟨same_new hA, rfl, fun j y e => by simp at e⟩) (fun A i acc H' ys zs hA hA2 h => ⟨same_upd hA h.1, h.2.1, fun j y e => (h.2.2 j y e).set hA2⟩) (fun i acc H' h => h.1.seq (sqL hl4)) (fun i acc H' h => Nat.le_of_eq h.2.1) ?_ ?_)
      · rintro A j x H9 H10 acc Nx Sk hA hj ⟨s9, l9, f9⟩ hacc ⟨rfl, hx9⟩ nx sk
        obtain rfl := sx j x hx9
        refine ⟨rfl, ?_⟩
        walk_at "go"
        refine ⟨_, shAt j, b, how, rfl, ⟨u, rfl, sqT (s9 _ _ hu8), hb, hb2, hh⟩, shAt_ok (by omega) hb, fun v H11 s11 hd11 => ?_⟩
        exact nx _ _ (s11 _ _ hacc) ⟨s9.trans s11, by simp [l9], acc_snoc l9 (fun j y e => (f9 j y e).same s11) (dpStr hd11)⟩
      · rintro A H9 vs nA hA ⟨s9, l9, f9⟩
        have hu9 := s9 _ _ hu8
        have hp9 := s9 _ _ hp8
        have B9 : But p H0 H9 := B8.trans s9.but
        have hpA : p ≠ A := ne_of_none hp8 nA
        try dsimp only [List.set]
        walk_at "go"
        refine w_slL (sqL hA) (fun l5 H10 nl5 hl5 s10 => ?_)
        rw [cut_from2 (by omega)] at hl5
        walk_at "go"
        refine ⟨l5, _, b, how, rfl, hh, hb, hb2, ⟨hl5, fun j v e => ?_⟩, by rw [List.length_drop]; omega, fun H11 s11 => ?_⟩
        · rw [List.getElem?_drop, Nat.add_comm] at e
          exact (f9 _ _ e).same s10
        have s12 := s10.trans s11
        have hu11 := s12 _ _ hu9
        have hp11 := s12 _ _ hp9
        have B11 : But p H0 H11 := B9.trans s12.but
        have hA11 := s12 _ _ hA
        have f11 := fun j y e => (f9 j y e).same s12
        clear f9
        walk_at "go"
        refine ⟨p, _, _, ws, rfl, hp11, hP4, by omega, by decide, by decide, ?_⟩
        rintro v H12 ws12 b12 hp12 hP12 ⟨t2, rfl, t20, t21⟩
        have hu12 : H12 u = some (.tup [.int b, .str how]) := b12.tups hp11 _ _ hu11
        walk_at "go"
        refine w_pow (cpow_of (by decide) (by decide) (by decide) (by decide)) ?_
        walk_at "go"
        refine ⟨p, _, _, ws12, rfl, hp12, hP12, by omega, by decide, by decide, ?_⟩
        rintro v H13 ws13 b13 hp13 hP13 ⟨t3, rfl, t30, t31⟩
        walk_at "go"
        refine w_newL rfl (fun l6 H14 nl6 hl6 s14 => ?_)
        have b14 : But p H11 H14 := b12.trans (b13.trans s14.but)
        have hp14 := s14 _ _ hp13
        have hu14 : H14 u = some (.tup [.int b, .str how]) := b14.tups hp11 _ _ hu11
        have hA14 : H14 A = some (.lst vs) := b14 _ _ hpA.symm hA11
        have f14 := fun j y e => (f11 j y e).but b14 hp11
        clear f11
        have B14 : But p H0 H14 := B11.trans b14
        have hpl6 : p ≠ l6 := ne_of_none hp13 nl6
        obtain ⟨some3, es⟩ : ∃ l : List V, l = [.int (1 + t2), .int (2 * b), .int (1 + t3)] := ⟨_, rfl⟩
        have hw : ∀ x ∈ some3, ∃ wh : Int, x = .int wh ∧ 1 ≤ wh ∧ wh < 1073741823 := by
          intro x mx
          rw [es] at mx
          simp only [List.mem_cons, List.not_mem_nil, or_false] at mx
          have t32 : t3 < 999999999 := t31
          rcases mx with rfl | rfl | rfl
          · exact ⟨_, rfl, by omega, by omega⟩
          · exact ⟨_, rfl, by omega, by omega⟩
          · exact ⟨_, rfl, by omega, by omega⟩
        have hl3 : some3.length = 3 := by rw [es]; rfl
        have hl6' : H14 l6 = some (.lst some3) := by rw [es]; exact hl6
        clear hl6 es
        try dsimp only [List.set]
        walk_at "go"
        refine ⟨_, rfl, l6, rfl, ⟨_, sqL hl6'⟩, for_list (K := K) (a := l6) (xs := some3) (fun k σ' H' => ∃ y5 y6 y7 y8 y9 ys, σ' = [some (.ref p), some (.str how), some (.ref u), some (.ref A), some (.ref l6), y5, y6, y7, y8, y9] ∧ But p H14 H' ∧ H' p = some (.lst ys) ∧ PotL (100 * i + 10 + 20 * k) ys) ⟨_, _, _, _, _, ws13, rfl, But.refl, hp14, hP13.mono (by omega)⟩ (fun k σ' H' _ h => ?_) ?_ ?_⟩
        · obtain ⟨_, _, _, _, _, _, _, b15, _⟩ := h
          exact sqL (b15 _ _ hpl6.symm hl6')
        · rintro k x σ' H15 hx ⟨y5, y6, y7, y8, y9, ys15, rfl, b15, hp15, hP15⟩
          have hk : k < 3 := by
            have := (List.getElem?_eq_some_iff.mp hx).1
            omega
          obtain ⟨wh, rfl, w0, w1⟩ := hw x (List.mem_of_getElem? hx)
          show tSeq _ _ _ _ _
          try dsimp only [List.set]
          walk_at "go"
          refine w_if (fun e => ?g1) (fun e => ?g2)
          case' g1 =>
            walk_at "go"
            refine w_newR (by decide) (by decide) (by omega) (by omega) (fun sp H16 nsp hsp s16 => ?_)
            have b16 : But p H15 H16 := s16.but
            have hp16 : ∃ zs, H16 p = some (.lst zs) ∧ PotL (100 * i + 10 + 20 * (k + 1)) zs := ⟨_, s16 _ _ hp15, hP15.mono (by omega)⟩
            have hms : ∀ y ∈ rgV 0 (wh + 1), ∃ m : Int, y = .int m ∧ 0 ≤ m ∧ m ≤ wh := fun y my => by
              unfold rgV at my
              obtain ⟨j, hj, rfl⟩ := List.mem_map.mp my
              have := List.mem_range.mp hj
              exact ⟨_, rfl, by omega, by omega⟩
            have hsl : (rgV 0 (wh + 1)).length ≤ 1000 := by
              rw [rgV_length]
              omega
            generalize rgV 0 (wh + 1) = ms at *
          case' g2 =>
            refine w_lcRg (n := 20) (fun R h => h) (by decide) (w_lcW walk_range (fun j acc H' => But p H15 H' ∧ (∃ zs, H' p = some (.lst zs) ∧ PotL (100 * i + 10 + 20 * k + j) zs) ∧ acc.length = j ∧ ∀ y ∈ acc, ∃ m : Int, y = .int m ∧ 0 ≤ m ∧ m ≤ wh) (by decide) (fun D hD => ⟨(same_new hD).but, ⟨_, same_new hD _ _ hp15, hP15⟩, rfl, fun y my => by cases my⟩) ?_ (fun _ _ _ _ => trivial) (fun j acc H' h => Nat.le_of_eq h.2.2.1) ?_ ?_)
            · rintro D j acc H' us zs hD _ ⟨c1, ⟨z1, c2, c3⟩, c4⟩
              have hDp : D ≠ p := (ne_of_none hp15 hD).symm
              refine ⟨fun c o nc hc => ?_, ⟨z1, ?_, c3⟩, c4⟩
              · rw [upd_ne (ne_of_none hc hD)]
                exact c1 _ _ nc hc
              · rw [upd_ne hDp.symm]
                exact c2
            · rintro D j x H1 H2 acc Nx Sk hD hj ⟨c1, ⟨z1, c2, c3⟩, c4, c5⟩ hacc ⟨rfl, rfl⟩ nx sk
              have hDp : D ≠ p := (ne_of_none hp15 hD).symm
              refine ⟨rfl, ?_⟩
              walk_at "go"
              refine ⟨p, _, _, z1, rfl, c2, c3, by omega, by omega, by omega, ?_⟩
              rintro v H3 z3 b3 hp3 hP3 ⟨t4, rfl, t40, t41⟩
              refine nx _ _ (b3 _ _ hDp hacc) ⟨c1.trans b3, ⟨z3, hp3, hP3.mono (by omega)⟩, by simp [c4], fun y my => ?_⟩
              rcases List.mem_append.mp my with my | my
              · exact c5 y my
              · obtain rfl : y = V.int t4 := by simpa using my
                exact ⟨_, rfl, t40, by omega⟩
            rintro sp H16 ms nsp hsp ⟨b16, hp16, hsl, hms⟩
            have hp16 : ∃ zs, H16 p = some (.lst zs) ∧ PotL (100 * i + 10 + 20 * (k + 1)) zs := hp16
            have hsl : ms.length ≤ 1000 := by omega
          all_goals
            obtain ⟨zs16, hp16, hP16⟩ := hp16
            have c16 : But p H14 H16 := b15.trans b16
            have hu16 : H16 u = some (.tup [.int b, .str how]) := c16.tups hp14 _ _ hu14
            have hA16 : H16 A = some (.lst vs) := c16 _ _ hpA.symm hA14
            have f16 := fun j y e => (f14 j y e).but c16 hp14
            try dsimp only [List.set]
            walk_at "go"
            refine w_lcL (xs := ms) (fun _ y => y = .bl true) (sqL hsp) (by omega) ?_ ?_
            · intro j x H17 Nx hx s17 nx
              obtain ⟨m, rfl, m0, m1⟩ := hms x (List.mem_of_getElem? hx)
              refine ⟨rfl, ?_⟩
              walk_at "go"
              refine ⟨u, A, vs, b, how, m, wh, rfl, sqT (s17 _ _ hu16), hh, hb, hb2, ⟨s17 _ _ hA16, fun j y e => (f16 j y e).same s17⟩, by omega, m0, m1, w0, by omega, fun H18 s18 => ?_⟩
              exact nx _ _ s18 rfl
            · intro D H17 bs nD s17 hD hlen hy
              walk_at "go"
              refine w_allT (sqL hD) hy ?_
              walk_at "go"
              exact ⟨_, _, _, _, _, zs16, rfl, c16.trans s17.but, s17 _ _ hp16, hP16⟩
        · rintro σ' H15 ⟨y5, y6, y7, y8, y9, ys15, rfl, b15, hp15, hP15⟩
          walk_at "go"
          exact ⟨_, _, _, _, _, _, _, _, _, ys15, rfl, B14.trans b15, hp15, hP15.mono (by omega)⟩
    · rintro σ' H1 ⟨y1, y2, y3, y4, y5, y6, y7, y8, y9, ys, rfl, b1, hp1, hP1⟩
      walk_at "go"
      exact q _ (s0.but.trans b1)
end

def spLaw (K : PySem.W.Frag) : Sp := fun vs H Q _ => ∃ (a : Addr) (ns : List Int), vs = [.ref a] ∧ SqL K H a (ns.map V.int) ∧ ∀ H', Q (.bl true) H'
section
variable {P : Program} {w : World} {K : PySem.W.Frag} {mg : Str → Option Value} {base : Heap}
theorem ok_law (T : Txt K mg) {fd : FuncData} (F : FnP K "law" s_law (He.ga K "law") fd) : FnG P w K mg base 8 (He.ga K "law") fd ["_law_script"] (spLaw K) := by
  have C_l_cells := C_l_cells (P := P) (w := w) (base := base) T
  have C_l_pot := C_l_pot (P := P) (w := w) (base := base) T
  have C_l_right := C_l_right (P := P) (w := w) (base := base) T
  refine okG F sc_law (fun vs H Q E h => ?_) (fun cdv A outer s H vs Q E hr hgd h => ?_)
  · obtain ⟨p, xs, rfl, _⟩ := h
    rfl
  · obtain ⟨a, ns, rfl, hS, q⟩ := h
    refine ⟨_, PSs.nox (pss_one (ps_ret (pe_callB (x_all (K := K) rfl rfl) (by rfl) T.z_all (by decide +kernel) (pa_cons (pe_lc (own := [("_law_place", 1)]) (g := gName 1) rfl sc_law.nd (xi_list (K := K) rfl (pe_cal C_l_cells (hr.mono (by decide)) hgd (by rfl) (pa_cons (pv 0) (pa_cons pe_int pa_nil)))) (blkOk_by (own := [("_law_place", 1)]) (N := ["_law_script", "_law_place"]) (sc := defScope s_law) (by decide +kernel)) (fun _ _ _ _ _ => (pg_name (i := 1) sc_law.nd rfl (.inl rfl))) (fun _ _ _ _ _ => pts_nil) (fun _ _ _ _ _ => (pe_cal C_l_right (hr.mono (by decide)) hgd (by rfl) (pa_cons (pe_cal C_l_pot (hr.mono (by decide)) hgd (by rfl) (pa_cons (pv 0) (pa_cons (pv 1) pa_nil))) pa_nil)))) pa_nil)))), ?_⟩
    try dsimp only [cxOf, Cx.nox, Cx.wish]
    rw [st_law]; walk_at "go"
    refine ⟨a, _, ns, rfl, hS, by decide, by decide, fun l H1 n nl s1 hn hl => ?_⟩
    have hz : (rgV 0 n).length ≤ 1000 := by
      rw [rgV_length]
      omega
    refine w_lcL (xs := rgV 0 n) (fun _ y => y = .bl true) (sqL hl) (by omega) ?_ ?_
    · intro i x H2 Nx hx s2 nx
      obtain ⟨k, rfl, k0, k1⟩ : ∃ k : Int, x = .int k ∧ 0 ≤ k ∧ k ≤ 100 := by
        have hx2 : ((List.range (n - 0).toNat).map fun i => V.int (0 + (i : Nat)))[i]? = some x := hx
        rw [List.getElem?_map] at hx2
        cases e : (List.range (n - 0).toNat)[i]? with
        | none =>
          rw [e] at hx2
          cases hx2
        | some j =>
          rw [e] at hx2
          have hj := List.mem_range.mp (List.mem_of_getElem? e)
          exact ⟨_, (Option.some.inj hx2).symm, by omega, by omega⟩
      refine ⟨rfl, ?_⟩
      walk_at "go"
      refine ⟨a, k, ns, rfl, s2.seq (s1.seq hS), k0, k1, fun p H3 ys np s3 hp hP => ?_⟩
      refine ⟨p, ys, rfl, hp, hP, fun H4 b4 => ?_⟩
      refine nx _ _ (fun c o hc => b4 _ _ (fun z => ?_) (s3 _ _ hc)) rfl
      rw [z, np] at hc
      cases hc
    · intro D H3 ys nD s3 hD hlen hy
      walk_at "go"
      exact w_allT (sqL hD) hy (q _)
end

end Ak
namespace Ak
open PySem PySem.Spec PyProof.Rows L2
set_option maxHeartbeats 0
def names0 : List PySem.Str := ["AskedError", "BadUnits", "BadCount", "BadShare", "PAIR", "is_integer", "is_between", "is_tuple", "is_word", "divisor_of", "fraction", "NEAR", "EVEN", "DOWN", "UP"]
def names1 : List PySem.Str := ["HOWS", "NONE", "SOME", "LEAST_UNITS", "MOST_UNITS", "is_units", "check_units", "is_share", "check_share", "rounded", "shown", "halves", "stretch", "_law_pot", "_law_take"]
def names2 : List PySem.Str := ["_law_of", "_law_cells", "_law_is_within", "_law_is_one_right", "_law_do_go_on", "_law_right"]
def names : List PySem.Str := names0 ++ names1 ++ names2
def fa0 : List He.Fa := [.glo "is_integer", .glo "is_between", .glo "is_tuple", .glo "is_word", .glo "divisor_of", .glo "fraction", .glo "is_units", .glo "check_units", .glo "is_share", .glo "check_share", .glo "rounded", .glo "shown", .glo "halves", .glo "stretch", .glo "_law_pot"]
def fa1 : List He.Fa := [.glo "_law_take", .glo "_law_of", .glo "_law_cells", .glo "_law_is_within", .glo "_law_is_one_right", .glo "_law_do_go_on", .glo "_law_right", .glo "law", .int "PAIR" 2, .str "NEAR" "near", .str "EVEN" "even", .str "DOWN" "down", .str "UP" "up", .glo "HOWS", .str "NONE" "none"]
def fa2 : List He.Fa := [.str "SOME" "some", .int "LEAST_UNITS" 2, .int "MOST_UNITS" 100, .free "abs", .free "all", .free "bool", .free "divmod", .free "enumerate", .free "int", .free "isinstance", .free "len", .free "list", .free "max", .free "min", .free "range"]
def fa3 : List He.Fa := [.free "repr", .free "str", .free "tuple", .free "zip"]
def fa : List He.Fa := fa0 ++ fa1 ++ fa2 ++ fa3
def fn0 : List He.DefD := [⟨("is_integer", none), "is_integer", "is_integer", defArgs s_is_integer, defBody s_is_integer, defScope s_is_integer, [], []⟩,
  ⟨("is_between", none), "is_between", "is_between", defArgs s_is_between, defBody s_is_between, defScope s_is_between, [], []⟩,
  ⟨("is_tuple", none), "is_tuple", "is_tuple", defArgs s_is_tuple, defBody s_is_tuple, defScope s_is_tuple, [], []⟩,
  ⟨("is_word", none), "is_word", "is_word", defArgs s_is_word, defBody s_is_word, defScope s_is_word, [], []⟩,
  ⟨("divisor_of", none), "divisor_of", "divisor_of", defArgs s_divisor_of, defBody s_divisor_of, defScope s_divisor_of, [], []⟩,
  ⟨("fraction", none), "fraction", "fraction", defArgs s_fraction, defBody s_fraction, defScope s_fraction, [], []⟩,
  ⟨("is_units", none), "is_units", "is_units", defArgs s_is_units, defBody s_is_units, defScope s_is_units, [], []⟩,
  ⟨("check_units", none), "check_units", "check_units", defArgs s_check_units, defBody s_check_units, defScope s_check_units, [], []⟩,
  ⟨("is_share", none), "is_share", "is_share", defArgs s_is_share, defBody s_is_share, defScope s_is_share, [], []⟩,
  ⟨("check_share", none), "check_share", "check_share", defArgs s_check_share, defBody s_check_share, defScope s_check_share, [], []⟩]
def fn1 : List He.DefD := [⟨("rounded", none), "rounded", "rounded", defArgs s_rounded, defBody s_rounded, defScope s_rounded, [], []⟩,
  ⟨("shown", none), "shown", "shown", defArgs s_shown, defBody s_shown, defScope s_shown, [], []⟩,
  ⟨("halves", none), "halves", "halves", defArgs s_halves, defBody s_halves, defScope s_halves, [], []⟩,
  ⟨("stretch", none), "stretch", "stretch", defArgs s_stretch, defBody s_stretch, defScope s_stretch, [], []⟩,
  ⟨("_law_pot", none), "_law_pot", "_law_pot", defArgs s_l_pot, defBody s_l_pot, defScope s_l_pot, [], []⟩,
  ⟨("_law_take", none), "_law_take", "_law_take", defArgs s_l_take, defBody s_l_take, defScope s_l_take, [], []⟩,
  ⟨("_law_of", none), "_law_of", "_law_of", defArgs s_l_of, defBody s_l_of, defScope s_l_of, [], []⟩,
  ⟨("_law_cells", none), "_law_cells", "_law_cells", defArgs s_l_cells, defBody s_l_cells, defScope s_l_cells, [], []⟩,
  ⟨("_law_is_within", none), "_law_is_within", "_law_is_within", defArgs s_l_is_within, defBody s_l_is_within, defScope s_l_is_within, [], []⟩,
  ⟨("_law_is_one_right", none), "_law_is_one_right", "_law_is_one_right", defArgs s_l_is_one_right, defBody s_l_is_one_right, defScope s_l_is_one_right, [], []⟩]
def fn2 : List He.DefD := [⟨("_law_do_go_on", none), "_law_do_go_on", "_law_do_go_on", defArgs s_l_do_go_on, defBody s_l_do_go_on, defScope s_l_do_go_on, [], []⟩,
  ⟨("_law_right", none), "_law_right", "_law_right", defArgs s_l_right, defBody s_l_right, defScope s_l_right, [], []⟩,
  ⟨("law", none), "law", "law", defArgs s_law, defBody s_law, defScope s_law, [], []⟩]
def fn : List He.DefD := fn0 ++ fn1 ++ fn2
def ex (K : PySem.W.Frag) : Bool := (He.tupB K "HOWS" [(.str "near"), (.str "even"), (.str "down"), (.str "up")])
abbrev R : PySem.W.OpenRow := PySem.W.OpenLaw.row PySem.Challenge.rw_anyasked_k03_whole_each_fraction_by_one
abbrev hk : PySem.W.Hook := He.hookX 5 fa fn [] [] ex
def ob (s : PySem.W.SharedT) : He.AlX := He.obsX 5 fa fn [] [] ex (HandSHeadRun.getT s)
theorem ob_eq (s : PySem.W.SharedT) : ob s = hk.obs s.abs := He.obsX_eq (HandSHeadRun.getT_eq s)
theorem run (w : World) : HandSHeadRun.RunEq R (PySem.W.view R.prog [40]) hk ob 40000 names w := by
  intro os
  kernel_rfl
theorem txt_of {K : PySem.W.Frag} {h : Heap} {mg : Str → Option Value} {w : World} {h2 : Heap} (X : K.In h) (G : h.Ns mainGlobals mg) (cx : He.SaysX fa fn [] [] ex w h2 K) : Txt K mg := by
  have c := cx.t.d
  have m : ex K = true := cx.more
  unfold ex at m
  exact { d_is_integer := c.def_ 0, g_is_integer := He.glo_ok X G (c.fact 0), d_is_between := c.def_ 1, g_is_between := He.glo_ok X G (c.fact 1), d_is_tuple := c.def_ 2, g_is_tuple := He.glo_ok X G (c.fact 2), d_is_word := c.def_ 3, g_is_word := He.glo_ok X G (c.fact 3), d_divisor_of := c.def_ 4, g_divisor_of := He.glo_ok X G (c.fact 4), d_fraction := c.def_ 5, g_fraction := He.glo_ok X G (c.fact 5), d_is_units := c.def_ 6, g_is_units := He.glo_ok X G (c.fact 6), d_check_units := c.def_ 7, g_check_units := He.glo_ok X G (c.fact 7), d_is_share := c.def_ 8, g_is_share := He.glo_ok X G (c.fact 8), d_check_share := c.def_ 9, g_check_share := He.glo_ok X G (c.fact 9), d_rounded := c.def_ 10, g_rounded := He.glo_ok X G (c.fact 10), d_shown := c.def_ 11, g_shown := He.glo_ok X G (c.fact 11), d_halves := c.def_ 12, g_halves := He.glo_ok X G (c.fact 12), d_stretch := c.def_ 13, g_stretch := He.glo_ok X G (c.fact 13), d_l_pot := c.def_ 14, g_l_pot := He.glo_ok X G (c.fact 14), d_l_take := c.def_ 15, g_l_take := He.glo_ok X G (c.fact 15), d_l_of := c.def_ 16, g_l_of := He.glo_ok X G (c.fact 16), d_l_cells := c.def_ 17, g_l_cells := He.glo_ok X G (c.fact 17), d_l_is_within := c.def_ 18, g_l_is_within := He.glo_ok X G (c.fact 18), d_l_is_one_right := c.def_ 19, g_l_is_one_right := He.glo_ok X G (c.fact 19), d_l_do_go_on := c.def_ 20, g_l_do_go_on := He.glo_ok X G (c.fact 20), d_l_right := c.def_ 21, g_l_right := He.glo_ok X G (c.fact 21), d_law := c.def_ 22, g_law := He.glo_ok X G (c.fact 22), c_PAIR := He.int_ok X G (c.fact 23), c_NEAR := He.str_ok X G (c.fact 24), c_EVEN := He.str_ok X G (c.fact 25), c_DOWN := He.str_ok X G (c.fact 26), c_UP := He.str_ok X G (c.fact 27), c_HOWS := He.glo_ok X G (c.fact 28), c_NONE := He.str_ok X G (c.fact 29), c_SOME := He.str_ok X G (c.fact 30), c_LEAST_UNITS := He.int_ok X G (c.fact 31), c_MOST_UNITS := He.int_ok X G (c.fact 32), z_abs := He.free_ok X G (c.fact 33), z_all := He.free_ok X G (c.fact 34), z_bool := He.free_ok X G (c.fact 35), z_divmod := He.free_ok X G (c.fact 36), z_enumerate := He.free_ok X G (c.fact 37), z_int := He.free_ok X G (c.fact 38), z_isinstance := He.free_ok X G (c.fact 39), z_len := He.free_ok X G (c.fact 40), z_list := He.free_ok X G (c.fact 41), z_max := He.free_ok X G (c.fact 42), z_min := He.free_ok X G (c.fact 43), z_range := He.free_ok X G (c.fact 44), z_repr := He.free_ok X G (c.fact 45), z_str := He.free_ok X G (c.fact 46), z_tuple := He.free_ok X G (c.fact 47), z_zip := He.free_ok X G (c.fact 48), t_HOWS := fun H => He.tupB_ok m H }
end Ak
open PySem PySem.W PySem.Calls PyProof.Rows
theorem PySem.Challenge.cw_anyasked_k03_whole_each_fraction_by_one_holds : PySem.Challenge.rw_anyasked_k03_whole_each_fraction_by_one.Holds := by
  w_on; o_law
  refine HandSHeadRun.head_any (r := OpenLaw.row PySem.Challenge.rw_anyasked_k03_whole_each_fraction_by_one) (q := view (OpenLaw.row PySem.Challenge.rw_anyasked_k03_whole_each_fraction_by_one).prog [40]) (H := Ak.hk) (ob := Ak.ob) (M := 40000) (loose := Ak.names) (d := HandSHeadRun.topDef (OpenLaw.row PySem.Challenge.rw_anyasked_k03_whole_each_fraction_by_one).prog 40) (kwd := []) Ak.ob_eq
    (by kernel_rfl) (fun s => by kernel_rfl) Ak.run (by kernel_rfl) (by kernel_rfl) (by kernel_rfl) (by rfl) (by first | assumption | decide +kernel) (by decide +kernel) ⟨rfl, rfl, rfl, rfl, rfl, by decide +kernel⟩ ?hw ?hc
  case hw => w_witness2
  case hc =>
    refine Ak.walk_G (l := PySem.Challenge.rw_anyasked_k03_whole_each_fraction_by_one) (n := 63) (k := 8) (x := "_law_script") rfl (by decide) (by kernel_rfl) ⟨rfl, by decide, by decide⟩ ?F
    intro w mg fa h Y G hmg0
    obtain ⟨K, KX, c⟩ := Y
    have hmg : mg ("law" : PySem.Str) = some (.ref fa) := by
      have e : (HandSHeadRun.topDef (OpenLaw.row PySem.Challenge.rw_anyasked_k03_whole_each_fraction_by_one).prog 40).name = ("law" : PySem.Str) := by kernel_rfl
      rw [← e]
      exact hmg0
    have T := Ak.txt_of KX G c
    have e := hmg.symm.trans T.g_law
    cases e
    obtain ⟨fd, F⟩ := T.d_law
    have b := L2.FunD.bindsA (ps := ["_law_script"]) F fun _ _ _ _ _ _ us hl => match us, hl with | [_], _ => rfl
    exact ⟨K, fd, Ak.spLaw K, KX, fun s v => b s [v] rfl, fun H a ns hl hS => ⟨a, ns, rfl, hS, fun _ => rfl⟩, fun base _ _ => Ak.ok_law T F⟩

