import PyProof.Rows.All
import Wide.All
import OpenK.AllK
import Wide.FinOn
import HandS.Conv
import HandS.Flow
import HandS.Replace
import HandS.ReplaceLit
import HandS.Defaults
import KE.GoesEnum
import HandS.Iter
import HandS.Walk
import PyProof.CompMap
import HandS.List
import HandS.Text
import KE.KStateDown
import KE.KMathG
import HandS.ForMost
import HandS.Ends
import HandS.Exc
import HandS.ExcOwn
import HandS.ExcIs
import HandS.TryOnly
import HandS.Lambda
import HandS.EndBits
import HandS.EndTab
import HandS.IsInst
import HandS.Gcd
import HandS.Wide
import HandS.WideMore
import HandS.WordsExc
import KE.KExcSuper
import KE.KSuper
import HandS.HeadHook1
import HandS.ExcField
import HandS.HeadHook4
import KE.IntTextLaws
import HandS.Steps
import HandS.Dict
import HandS.Style
import HandS.More
import HandS.DeepEq
import HandS.ReplaceList
import Lean
import KE.KNestM
import HandS.Head0
import HandS.Head1
import HandS.Head2
import HandS.Head3
import HandS.HeadWalk
import PySem.Challenge.RW_rulerchest_k65_texts_of_reckonings
set_option Elab.async false
set_option linter.all false
set_option maxRecDepth 100000
set_option maxHeartbeats 4000000
namespace Own
open PySem PySem.Spec PyProof.Rows L2
/-! ### rules for code that runs when a token is out -/
/-- a def's promise, kept where a token is out at its call -/
structure FnOkT (P : Program) (w : World) (K : PySem.W.Frag) (mg : Str → Option Value) (base : Heap) (CX : CXT) (k : Nat) (f : Addr) (fd : FuncData) (ps : List Str) (sp : Sp) : Prop where
  len : ∀ vs H Q E, sp vs H Q E → vs.length = ps.length
  run : ∀ (A : Around) (outer : List Env) (s : Shared) (H : Hp) (args : Args) (us : List Value) (vs : List V) (Q : VK) (E : XK), 1 ≤ s.toks → Room k A → Env0 P w K mg base A outer s H → BindsTo s fd args (ps.zip us) → Vals vs us → sp vs H Q E →
    codeAny (model P w) A (.call (.ref f) args) (CR CX outer P w H s Q E) s
/-- the step into the body -/
theorem run_bodyT {CX : CXT} {P : Program} {w : World} {K : PySem.W.Frag} {mg : Str → Option Value} {base : Heap} {k : Nat} {f : Addr} {qual : Str} {body : List Stmt} {scope : Scope} {cdv : Value} {N ps : List Str} (S : FnScope N ps scope)
    {A : Around} {outer : List Env} {s s1 : Shared} {H : Hp} {us : List Value} {vs : List V} {Q : VK} {E : XK} (hr : Room (k + 1) A) (e0 : Env0 P w K mg base A outer s H) (hl : vs.length = ps.length) (r : Vals vs us)
    (x : InCallC s (envOfC qual scope s.heap.objs.size f cdv).locals (bindL (envOfC qual scope s.heap.objs.size f cdv).kindOf (ps.zip us) fun _ => none) (envOfC qual scope s.heap.objs.size f cdv).cells (bindC (envOfC qual scope s.heap.objs.size f cdv).kindOf (ps.zip us) fun _ => none) s1)
    (ht : 1 ≤ s1.toks) (hb : ∃ t, PSsT (cxOf CX P w K mg base N qual scope f cdv A outer s H E) body t ∧ t { nx := fun _ H' => Q .non H', rt := Q } (start N vs) H) :
    codeAny (model P w) A (.func body (envOfC qual scope s.heap.objs.size f cdv)) (CR CX outer P w H s Q E) s1 := by
  obtain ⟨t, hbt, hq⟩ := hb
  have J0 : Inv (cxOf CX P w K mg base N qual scope f cdv A outer s H E) [] (start N vs) H s1 := inv_start S hr.hd e0 hl r x
  refine codeAny_func (wpAny_mono (hbt [] s1 (start N vs) H _ ht J0 hq) (fun fl s2 h2 => ?_) fun _ _ z => z)
  cases fl with
  | ret u => obtain ⟨v, σ2, H2, J, rv, q⟩ := h2; exact ⟨v, H2, J.os, J.bare, J.base, J.hok, rv, q⟩
  | next => obtain ⟨σ2, H2, J, q⟩ := h2; exact ⟨.non, H2, J.os, J.bare, J.base, J.hok, rfl, q⟩
  | brk => obtain ⟨_, _, _, q⟩ := h2; exact False.elim q
  | cont => obtain ⟨_, _, _, q⟩ := h2; exact False.elim q
theorem kinds_of {N ps : List Str} {scope : Scope} (S : FnScope N ps scope) (n : Nat) (us : List Value) : ∀ y ∈ ps.zip us, scope.names.lookup y.1 = some .local ∨ (scope.names.lookup y.1 = some .cell ∧ ((cellsFrom n scope.names []).lookup y.1).isSome = true) := fun y hy => by
  cases S.par y.1 (List.of_mem_zip (a := y.1) (b := y.2) hy).1 with
  | inl q => exact .inl q
  | inr q => exact .inr ⟨q, PySem.W.cellsFrom_some _ _ _ (.inl q)⟩
/-- a def that wants a token at its call -/
theorem FunD.okT {CX : CXT} {P : Program} {w : World} {K : PySem.W.Frag} {mg : Str → Option Value} {base : Heap} {x qual : Str} {params : Arguments} {body : List Stmt} {scope : Scope} {dvs : List V} {kws : List (Str × V)} {f : Addr} {fd : FuncData} {N ps : List Str} {k : Nat} {sp : Sp}
    (F : FunD K x qual params body scope dvs kws f fd) (S : FnScope N ps scope) (len : ∀ vs H Q E, sp vs H Q E → vs.length = ps.length)
    (hbody : ∀ (cdv : Value) (A : Around) (outer : List Env) (s : Shared) (H : Hp) (vs : List V) (Q : VK) (E : XK), (∃ (oc : Value) (od : Option Addr) (dV kV doc pm : Value) (an : Option Addr) (ct : Value) (osl : Array (Option Value)), K.lookup f = some ⟨oc, od, .func (PySem.W.fnOf x qual params body scope dV kV doc pm an cdv ct), osl⟩) → PySem.W.codeIn K cdv qual = true → Room k (A.deeper (envOfC qual scope s.heap.objs.size f cdv)) → sp vs H Q E →
      ∃ t, PSsT (cxOf CX P w K mg base N qual scope f cdv A outer s H E) body t ∧ t { nx := fun _ H' => Q .non H', rt := Q } (start N vs) H) : FnOkT P w K mg base CX (k + 1) f fd ps sp := by
  obtain ⟨oc, od, dV, kV, doc, pm, an, cdv, ct, osl, rfl, lk, hcd, _, _⟩ := F.ex
  refine ⟨len, fun A outer s H args us vs Q E ht hr e0 hb r hsp => ?_⟩
  have inH : K.In s.heap := e0.mod.kin.keeps fun b o e => (e0.bs b o e).1
  have nl : s.heap.NoLimit := e0.mod.nolimit.keeps fun b o e => (e0.bs b o e).1
  refine codeAny_call_function hr.depth (inH _ _ lk) rfl S.co S.gen rfl (PySem.W.codeRec_of inH hcd) (hb _ _ _ _ ?_)
  refine wpAny_mono (PySem.wpAny_toks (wpAny_newFunctionEnv_cells (Q := fun env s1 => env = envOfC qual scope s.heap.objs.size f cdv ∧ InCallC s (envOfC qual scope s.heap.objs.size f cdv).locals (bindL (envOfC qual scope s.heap.objs.size f cdv).kindOf (ps.zip us) fun _ => none) (envOfC qual scope s.heap.objs.size f cdv).cells (bindC (envOfC qual scope s.heap.objs.size f cdv).kindOf (ps.zip us) fun _ => none) s1) S.kind (kinds_of S _ _) fun env he s1 xx => ?_)) (fun env s1 h1 => ?_) fun _ _ z => z.2
  · subst he
    exact ⟨rfl, xx⟩
  · obtain ⟨hk, rfl, xx⟩ := h1
    exact ⟨nl.keeps xx.toInCall.keep, run_bodyT S hr e0 (len _ _ _ _ hsp) r xx (Nat.le_trans ht hk) (hbody _ _ _ _ _ _ _ _ ⟨_, _, _, _, _, _, _, _, _, lk⟩ hcd (hr.deeper _) hsp)⟩
/-- the parameters bound, the first one a plain local name: a token is out -/
theorem bind_tok {M : Model} {A : Around} {E : Value → Shared → Prop} {env : Env} {s0 : Shared} (g : Str × Value → PUnit → Sem (ForInStep PUnit)) (hg : ∀ n v u, g (n, v) u = (do storeName env n v; pure (.yield ⟨⟩))) (hk : env.scope.kind = .function)
    {n : Str} {v : Value} {r : List (Str × Value)} {s : Shared} {Q : PUnit → Shared → Prop} (x : InCallC s0 env.locals (fun _ => none) env.cells (fun _ => none) s) (hn : env.kindOf n = some .local)
    (hr : ∀ y ∈ r, env.kindOf y.1 = some .local ∨ (env.kindOf y.1 = some .cell ∧ (env.cells.lookup y.1).isSome = true))
    (h : ∀ s', 1 ≤ s'.toks → InCallC s0 env.locals (bindL env.kindOf ((n, v) :: r) fun _ => none) env.cells (bindC env.kindOf ((n, v) :: r) fun _ => none) s' → Q ⟨⟩ s') : wpAny M A (forIn ((n, v) :: r) ⟨⟩ g) Q E s := by
  rw [List.forIn_cons, hg]
  refine wpAny_bind (wpAny_bind (wpAny_storeName_local hn x.toInCall.ns (fun h1 hn1 sb => wpAny_pure ?_) (by rw [hk]; rfl)))
  have x1 : InCallC s0 env.locals (fun y => if y = n then some v else none) env.cells (fun _ => none) ({ s with heap := h1, toks := s.toks + 1 } : Shared) := by
    refine ⟨⟨?_, hn1, fun b o e => ?_, x.toInCall.fresh⟩, fun m c hc => ?_, x.apart, x.above⟩
    · obtain ⟨hh, tk, rfl⟩ := x.toInCall.same
      exact ⟨h1, _, rfl⟩
    · exact sb.extBut b o (Nat.ne_of_lt (Nat.lt_of_lt_of_le (Heap.lt_size e) x.toInCall.fresh)) (x.toInCall.keep b o e)
    · exact (x.cell m c hc).sameBut sb (Nat.ne_of_gt (x.above m c (mem_of_lookup hc)))
  refine wpAny_mono (PySem.wpAny_toks_of (n := 1) (show 1 ≤ s.toks + 1 by omega) (wpAny_bindParams (Q := fun _ s' => InCallC s0 env.locals (bindL env.kindOf ((n, v) :: r) fun _ => none) env.cells (bindC env.kindOf ((n, v) :: r) fun _ => none) s') g hg hk r _ _ _ x1 hr fun s' x2 => ?_)) (fun u s' q => h s' q.1 q.2) fun _ _ z => z.2
  unfold bindL bindC
  rw [if_pos hn, if_pos hn]
  exact x2
theorem newEnv_tok {M : Model} {A : Around} {E : Value → Shared → Prop} {s : Shared} {scope : Scope} {globals : Addr} {n : Str} {v : Value} {r : List (Str × Value)} {qual : Str} {func : Option Addr} {code : Value} {builtins : Addr} {Q : Env → Shared → Prop}
    (hk : scope.kind = .function) (h1 : scope.names.lookup n = some .local)
    (hkind : ∀ x ∈ r, scope.names.lookup x.1 = some .local ∨ (scope.names.lookup x.1 = some .cell ∧ ((cellsFrom (s.heap.objs.size + 1) scope.names []).lookup x.1).isSome = true))
    (hQ : ∀ env, env = newEnv scope s.heap.objs.size globals (cellsFrom (s.heap.objs.size + 1) scope.names []) qual func code none builtins →
      ∀ s', 1 ≤ s'.toks → InCallC s env.locals (bindL env.kindOf ((n, v) :: r) fun _ => none) env.cells (bindC env.kindOf ((n, v) :: r) fun _ => none) s' → Q env s') :
    wpAny M A (newFunctionEnv scope globals [] ((n, v) :: r) qual func code none builtins) Q E s := by
  simp only [newFunctionEnv, Option.isSome_none, Bool.false_eq_true, if_false]
  refine wpAny_bind (wpAny_alloc (wpAny_bind (wpAny_layCells _ (fun name kind cells => by cases e : kind == NameKind.cell <;> simp [e]) _ _ _ _ ?_)))
  have lay := cellsFrom_ok scope.names (s.heap.push { cls := .type "frame", data := .dict #[] }) (s.heap.objs.size + 1) [] ⟨fun _ _ hm => (nomatch hm), List.Pairwise.nil⟩ (by rw [Heap.size_push]; exact Nat.le_refl _)
  rw [Heap.size_push] at lay
  have ez : ({ s with heap := s.heap.push { cls := .type "frame", data := .dict #[] } } : Shared).heap.objs.size = s.heap.objs.size + 1 := Heap.size_push ..
  rw [ez]
  refine wpAny_bind (bind_tok (s0 := s) (env := newEnv scope s.heap.objs.size globals (cellsFrom (s.heap.objs.size + 1) scope.names []) qual func code none builtins) _ (fun _ _ _ => rfl) hk ?_ h1 hkind fun s' ht x => wpAny_pure (hQ _ rfl s' ht x))
  exact ⟨⟨⟨_, _, rfl⟩, (Heap.Ns.new s.heap (.type "frame")).keeps (pushCells_keeps _ _), fun b o e => pushCells_keeps _ _ b o (Heap.get?_push_of_some _ e), Nat.le_refl _⟩, fun m c hc => (lay.empty m c (mem_of_lookup hc)).1, lay.apart, fun m c hm => (lay.empty m c hm).2⟩
/-- a def whose first parameter is a plain local name: a token is out in its body -/
theorem FunD.okL {CX : CXT} {P : Program} {w : World} {K : PySem.W.Frag} {mg : Str → Option Value} {base : Heap} {x qual p : Str} {params : Arguments} {body : List Stmt} {scope : Scope} {dvs : List V} {kws : List (Str × V)} {f : Addr} {fd : FuncData} {N ps : List Str} {k : Nat} {sp : Sp}
    (F : FunD K x qual params body scope dvs kws f fd) (S : FnScope N (p :: ps) scope) (hp : scope.names.lookup p = some .local) (len : ∀ vs H Q E, sp vs H Q E → vs.length = (p :: ps).length)
    (hbody : ∀ (cdv : Value) (A : Around) (outer : List Env) (s : Shared) (H : Hp) (vs : List V) (Q : VK) (E : XK), (∃ (oc : Value) (od : Option Addr) (dV kV doc pm : Value) (an : Option Addr) (ct : Value) (osl : Array (Option Value)), K.lookup f = some ⟨oc, od, .func (PySem.W.fnOf x qual params body scope dV kV doc pm an cdv ct), osl⟩) → PySem.W.codeIn K cdv qual = true → Room k (A.deeper (envOfC qual scope s.heap.objs.size f cdv)) → sp vs H Q E →
      ∃ t, PSsT (cxOf CX P w K mg base N qual scope f cdv A outer s H E) body t ∧ t { nx := fun _ H' => Q .non H', rt := Q } (start N vs) H) : FnOk P w K mg base CX (k + 1) f fd (p :: ps) sp := by
  obtain ⟨oc, od, dV, kV, doc, pm, an, cdv, ct, osl, rfl, lk, hcd, _, _⟩ := F.ex
  refine ⟨len, fun A outer s H args us vs Q E hr e0 hb r hsp => ?_⟩
  have inH : K.In s.heap := e0.mod.kin.keeps fun b o e => (e0.bs b o e).1
  have nl : s.heap.NoLimit := e0.mod.nolimit.keeps fun b o e => (e0.bs b o e).1
  refine codeAny_call_function hr.depth (inH _ _ lk) rfl S.co S.gen rfl (PySem.W.codeRec_of inH hcd) (hb _ _ _ _ ?_)
  have hl := len _ _ _ _ hsp
  cases us with
  | nil =>
    rw [r.length] at hl
    cases hl
  | cons u us =>
    refine newEnv_tok (n := p) (v := u) (r := ps.zip us) S.kind hp (fun y hy => kinds_of S _ (u :: us) y (List.mem_cons_of_mem _ hy)) fun env he s1 ht xx => ?_
    subst he
    exact ⟨nl.keeps xx.toInCall.keep, run_bodyT S hr e0 hl r xx ht (hbody _ _ _ _ _ _ _ _ ⟨_, _, _, _, _, _, _, _, _, lk⟩ hcd (hr.deeper _) hsp)⟩
/-! ### tests and statements, a token out -/
def PTT (X : Cx) (e : Expr) (t : TT) : Prop :=
  ∀ (pins : List (Addr × Obj)) (s : Shared) (σ : L2.St) (H : Hp) (Q : Bool → Hp → Prop), 1 ≤ s.toks → Inv X pins σ H s → t σ H Q → wpAny (model X.prog X.w) X.A (isTrue e X.env (eval e X.env)) (TP X pins σ Q) X.xe s
def PWT (X : Cx) (e : Expr) (t : TT) : Prop :=
  ∀ (whole : Sem Value) (pins : List (Addr × Obj)) (s : Shared) (σ : L2.St) (H : Hp) (Q : Bool → Hp → Prop), 1 ≤ s.toks → Inv X pins σ H s → t σ H Q → wpAny (model X.prog X.w) X.A (isTrue e X.env whole) (TP X pins σ Q) X.xe s
/-- the state grows its tokens -/
theorem thnT {α : Type} {t : Sem α} {Q Q' : α → Shared → Prop} {M : Model} {A : Around} {E : Value → Shared → Prop} {s : Shared} (h0 : 1 ≤ s.toks) (h : wpAny M A t Q E s) (hQ : ∀ a s', 1 ≤ s'.toks → Q a s' → Q' a s') : wpAny M A t Q' E s :=
  wpAny_mono (PySem.wpAny_toks_of h0 h) (fun a s' q => hQ a s' q.1 q.2) fun _ _ z => z.2
section
variable {X : Cx} {a b e : Expr} {rest : List Expr} {te : TE} {tA tB2 : TT} {t u : TS} {pos p : Pos}
theorem PTT.of (h : PT X e tA) : PTT X e tA := fun pins s σ H Q _ I q => h.run pins s σ H Q I q
theorem PWT.ptt (h : PWT X e tA) : PTT X e tA := h _
theorem ptt_val (h : PET X e te) (he : ∀ whole, isTrue e X.env whole = (do let v ← whole; standAt e.pos; holding [v] (truthy v)) := by intro _; rfl) : PTT X e (tB te) := by
  intro pins s σ H Q h0 I hw
  refine isTrue_plain (thn (h pins s σ H _ h0 I hw) fun v s1 q => ?_) (he _)
  obtain ⟨y, H1, I1, r1, d, rfl, q⟩ := q
  cases r1
  exact wpAny_truthy_bool ⟨H1, I1, q⟩
theorem ptt_not (ha : PTT X a tA) : PTT X (.UnaryOp .Not a pos) (tNot tA) := fun pins s σ H Q h0 I h => isTrue_not (ha pins s σ H (fun c H1 => Q (!c) H1) h0 I h)
theorem pwt_or1 (ha : PTT X a tA) : PWT X (.BoolOp .Or [a] pos) tA := by
  intro wh pins s σ H Q h0 I h
  refine isTrue_or (thn (ha pins s σ H Q h0 I h) fun c s1 q => ?_)
  cases c with
  | false => exact isTrue_or_nil q
  | true => exact q
theorem pwt_or (ha : PTT X a tA) (hb : PWT X (.BoolOp .Or (b :: rest) pos) tB2) : PWT X (.BoolOp .Or (a :: b :: rest) pos) (tOr tA tB2) := by
  intro wh pins s σ H Q h0 I h
  refine isTrue_or (thnT h0 (ha pins s σ H _ h0 I h) fun c s1 h1 q => ?_)
  obtain ⟨H1, I1, q1⟩ := q
  cases c with
  | true => exact ⟨H1, I1, q1⟩
  | false => exact hb wh pins s1 σ H1 Q h1 I1 q1
theorem pst_ifT {c : Expr} {sa sb : List Stmt} {tc : TT} (hc : PTT X c tc) (ha : PSsT X sa t) (hb : PSsT X sb u) : PST X (.If c sa sb pos) (tIfS tc t u) := by
  intro pins s σ H D h0 I h
  refine wpAny_If (thnT h0 (hc pins s σ H _ h0 I h) fun d s1 h1 q => ?_)
  obtain ⟨H1, I1, q1⟩ := q
  cases d with
  | true => exact ha pins s1 σ H1 D h1 I1 q1
  | false => exact hb pins s1 σ H1 D h1 I1 q1
theorem psstT_nil : PSsT X [] tNext := PSsT.of pss_nil
theorem psstT_one {st : Stmt} (h : PST X st t) : PSsT X [st] t := psst_cons h psstT_nil
/-- f(e, ..), f wanting a token -/
theorem pet_callT {CX : CXT} {k : Nat} {f : Addr} {fd : FuncData} {ps : List Str} {sp : Sp} {dvs : List V} {ds : List Value} {E : XK} {x : Str} {es : List Expr} {ta : TA} (F : FnOkT X.prog X.w X.K X.mg X.base CX k f fd ps sp) (hr : Room k X.A) (hg : Gl X x) (hm : X.mg x = some (.ref f))
    (hk : PySem.W.keepIn X.K (.ref f) = true) (hb : Binds X.K fd ps ds) (hd : Vals dvs ds) (hx : Passes CX X E) (ha : PA X (e :: es) ta) (hdb : (x == ("__debug__" : Str)) = false := by decide)
    (he : starEach (e :: es) X.env = (false, eval e X.env) :: starEach es X.env := by rfl) (hpl : (backTo pos (starEach es X.env)).any (·.1) = false := by rfl) : PET X (.Call (.Name x p) (e :: es) [] pos) (tCall sp dvs E ta) := by
  intro pins s σ H Q h0 I h
  refine wpAny_Call_Name_kw (ld_glob I hg hm ?_ hdb)
  refine PySem.W.callWith_K (h₀ := X.base) I.ok.mod.kin hk (thnT h0 (ha.run pos pins s σ H _ I h) fun us s1 h1 ⟨vs, H1, I1, r, q⟩ => ⟨I1.kIn, ?_⟩) he hpl
  have r2 : Vals (vs ++ dvs) (us ++ ds) := r.append hd
  have hl : (us ++ ds).length = ps.length := r2.length ▸ F.len _ _ _ _ q
  refine wpAny_call (codeAny_mono (F.run X.A X.stack s1 H1 ⟨us, []⟩ (us ++ ds) (vs ++ dvs) Q E h1 hr I1.env0 (hb s1 us I1.kIn hl) r2 q) fun res s2 hq => ?_)
  cases res with
  | error er => exact hx pins σ H1 s1 er s2 I1 hq
  | ok fl =>
    cases fl with
    | ret v => exact I1.after hq
    | next => exact False.elim hq
    | brk => exact False.elim hq
    | cont => exact False.elim hq
/-- for, its body wanting a token -/
theorem pst_forT {tg iter : Expr} {body : List Stmt} {wi : TI} {g : TG} {tb : TS} (hp : PassesOwn (model X.prog X.w) X.A X.env X.xe) (hc : X.calm = true) (hi : PI X tg iter wi) (hg : PG X tg g) (hb : PSsT X body tb)
    (hs : ∀ x, foldedSetIterable iter X.env x = pure x := by intro _; rfl) : PST X (.For tg iter body [] pos) (tFor wi g tb) := by
  intro pins s σ H D h0 I h
  refine wpAny_For (thnT h0 (hi.run pins s σ H _ I h) fun v sa ha h1 => thnT ha h1 fun itv sb hb2 h2 => ?_) hs
  obtain ⟨it, fp, tn, Jf, Hb, e, Ib, T, stb, fb, W, ⟨n0, wn0⟩, turn⟩ := h2
  subst e
  have fix : ∀ {G : Hp}, (∀ c ∈ fp, G c = none) → ∀ c ∈ fp, FpOk X pins G c := fun hn c hcm => ⟨hn c hcm, (fb c hcm).2⟩
  refine codeAny_forLoop_any (fun n s' => 1 ≤ s'.toks ∧ ∃ i τ G, Inv X pins τ G s' ∧ tn i s'.heap ∧ (∀ c ∈ fp, G c = none) ∧ W i n τ G) ?_ n0 ⟨hb2, 0, σ, Hb, Ib, stb, fun c hcm => (fb c hcm).1, wn0⟩
  rintro n sc ⟨hto, i, τ, G, Ic, stc, frc, wc⟩
  rcases turn i n τ G wc with ⟨stop, qn⟩ | ⟨go, N, hN, step⟩
  · refine wpAny_passesOwn hp (thn (T.done X rfl rfl rfl hc i pins sc τ G X.xe Ic (fix frc) stc stop) fun r sd hd => ?_)
    obtain ⟨rfl, Id⟩ := hd
    exact wpAny_execs_nil ⟨τ, G, Id, qn⟩
  · refine wpAny_passesOwn hp (thnT hto (T.item X rfl rfl rfl hc i pins sc τ G X.xe Ic (fix frc) stc go) fun r sd td hd => ?_)
    obtain ⟨w, rfl, hd⟩ := hd
    refine wpAny_passesOwn hp (thnT td hd fun _ se te he => ?_)
    obtain ⟨y, Ge, Ie, re, ye, ste, fre⟩ := he
    have Ip := Ie.pinned (fix fre) (T.obj _ _ ste)
    refine wpAny_passesOwn hp (thnT te (hg.run _ se τ Ge y w _ Ip re (step y Ge ye)) fun _ sf tf hf => ?_)
    obtain ⟨τf, Gf, If, qf⟩ := hf
    refine wpAny_passesOwn hp (thnT tf (hb _ sf τf Gf _ tf If qf) fun fl sg tg2 qg => ?_)
    have back : ∀ {τg : L2.St} {Gg : Hp}, Inv X (pins ++ pinsAt fp se.heap) τg Gg sg → N τg Gg → ∃ m, m < n ∧ (1 ≤ sg.toks ∧ ∃ i τ' G', Inv X pins τ' G' sg ∧ tn i sg.heap ∧ (∀ c ∈ fp, G' c = none) ∧ W i m τ' G') := fun {τg Gg} Ig ng => by
      obtain ⟨m, hm, wm⟩ := hN τg Gg ng
      have pinned : ∀ c ∈ fp, ∀ o, se.heap.get? c = some o → sg.heap.get? c = some o ∧ Gg c = none := fun c hcm o eo => by
        have z := Ig.pin (c, o) (List.mem_append_right _ (List.mem_append_right _ (mem_pinsAt hcm eo)))
        exact ⟨z.1, z.2.1⟩
      refine ⟨m, hm, tg2, i + 1, τg, Gg, Ig.unpinned, T.keep _ _ _ ste fun c hcm o eo => (pinned c hcm o eo).1, fun c hcm => ?_, wm⟩
      obtain ⟨o, eo, _⟩ := T.obj _ _ ste c hcm
      exact (pinned c hcm o eo).2
    cases fl with
    | next =>
      obtain ⟨τg, Gg, Ig, ng⟩ := qg
      exact back Ig ng
    | cont =>
      obtain ⟨τg, Gg, Ig, ng⟩ := qg
      exact back Ig ng
    | brk =>
      obtain ⟨τg, Gg, Ig, qz⟩ := qg
      exact ⟨τg, Gg, Ig.unpinned, qz⟩
    | ret v =>
      obtain ⟨xv, τg, Gg, Ig, rv, qz⟩ := qg
      exact ⟨xv, τg, Gg, Ig.unpinned, rv, qz⟩
end
end Own
set_option Elab.async false
set_option linter.all false
set_option maxRecDepth 100000
set_option maxHeartbeats 4000000
namespace Own
open PySem PySem.Spec PyProof.Rows L2
/-! ### enumerate over a tuple, and over what is a list or a tuple -/
section
open PySem (wpAny_stack_any)
theorem meets_enum1 {v : Value} {o : Obj} {G : Heap → Prop} (B : Begins v o G) :
    Meets (Builtin.«enumerate.__new__» ⟨[.type "enumerate", v], []⟩) (fun _ R s => G s.heap ∧
      R (.ok (.ret (.ref (s.heap.push o).objs.size))) { s with heap := (s.heap.push o).push { cls := .type "enumerate", data := .fields #[.none, .bool false, .ref s.heap.objs.size, rawInt 0, .none, .none] } }) := by
  refine Meets.of_wp fun prog w A R s h => ?_
  obtain ⟨hp, gg, dd, tk, os⟩ := s
  obtain ⟨hG, hR⟩ := h
  have hsub := sub_enumerate
  have q1 : ∀ {A2 : Around} {E : Value → Shared → Prop} {Q : Value → Shared → Prop}, Q (.ref hp.objs.size) ⟨hp.push o, gg, dd, tk, os⟩ → wpAny (model prog w) A2 (pyIter v) Q E ⟨hp, gg, dd, tk, os⟩ := fun q => B.iter prog w _ _ ⟨hp, gg, dd, tk, os⟩ _ hG q
  wp_walk using q1
  refine wpAny_stack_any fun st => wpAny_pure ?_
  split
  · rename_i c _ _ _ _ _
    cases (c == Value.type "enumerate") with
    | false => wp_walk using q1; exact ⟨_, rfl, hR⟩
    | true => wp_walk using q1; exact ⟨_, rfl, hR⟩
  · wp_walk using q1
    exact ⟨_, rfl, hR⟩
theorem call_enum_tuple {prog : Program} {w : World} {A : Around} {E : Value → Shared → Prop} {s : Shared} {l : Addr} {items : Array Value} {Q : Value → Shared → Prop} (hT : s.heap.IsTuple l items)
    (h : ∀ h', IsEnum h' (s.heap.objs.size + 1) s.heap.objs.size 0 .none → h'.IsTupleIter s.heap.objs.size l 0 → (∀ b o, s.heap.get? b = some o → h'.get? b = some o) → Q (.ref (s.heap.objs.size + 1)) { s with heap := h' }) :
    wpAny (model prog w) A (call (.type "enumerate") [.ref l]) Q E s := by
  refine callType_new F.called_enumerate (by decide) (F.typeCall_enumerate_1 _) (F.newCall_enumerate_1 _) (fun obj => F.args_object_init_2 obj _) F.entry_enumerate_new (meets_enum1 (begins_tuple l items)) ⟨hT, ?_⟩
  have hz : (s.heap.push { cls := .type "tuple_iterator", data := .fields #[.ref l, .int 0 0] }).objs.size = s.heap.objs.size + 1 := Heap.size_push ..
  show _ ∧ _
  rw [hz]
  have atE := Heap.get?_push_size (s.heap.push { cls := .type "tuple_iterator", data := .fields #[.ref l, .int 0 0] }) (o := { cls := .type "enumerate", data := .fields #[.none, .bool false, .ref s.heap.objs.size, rawInt 0, .none, .none] }) rfl
  rw [hz] at atE
  exact ⟨⟨_, atE, rfl⟩, h _ atE ⟨_, Heap.get?_push_of_some _ (Heap.get?_push_size _ rfl), rfl, rfl⟩ fun b o x => Heap.get?_push_of_some _ (Heap.get?_push_of_some _ x)⟩
end
theorem next_enum_tupEnd {prog : Program} {w : World} {A : Around} {E : Value → Shared → Prop} {s : Shared} {e it l : Addr} {i : Nat} {items : Array Value} {old : Value} {Q : Option Value → Shared → Prop} (hh : A.handled = none)
    (he : IsEnum s.heap e it i old) (hit : s.heap.IsTupleIter it l i) (hl : s.heap.IsTuple l items) (hx : items[i]? = none) (hQ : ∀ h', Heap.ExtBut it s.heap h' → Q none { s with heap := h' }) : wpAny (model prog w) A (pyNext (.ref e)) Q E s := by
  have ty : s.TypeIs (.ref e) "enumerate" := ⟨_, he, rfl⟩
  unfold pyNext
  refine wpAny_bind (wpAny_attempt (wpAny_callSpecial?_slot (name := Str.ofString "__next__") ty F.slot_enumerate_next (wpAny_call_entry F.slot_enumerate_next ty F.entry_enumerate_next ?_ (F.args_enumerate_next_1 _))))
  show wpAny _ _ (field (.ref e) 2 >>= _) _ _ s
  refine wpAny_bind (wpAny_field he rfl (x := .ref it) rfl (wpAny_bind (wpAny_nextOf_tuple_end (show A.in1.handled = none from hh) hit hl hx fun h1 x he1 hx1 => ?_)))
  obtain ⟨o, ho, hc⟩ := hx1
  exact wpAny_bind (wpAny_isInstance (T := "StopIteration") (b := true) ⟨o, ho, hc⟩ isSubtype_stop (wpAny_pure (hQ _ he1)))
def IteT (K : PySem.W.Frag) (a : Addr) : It :=
  ⟨fun i H => ∃ (xs : List V) (x : V), SqT K H a xs ∧ xs[i]? = some x, fun i H v H' => ∃ T x, v = .ref T ∧ H T = none ∧ H' = L2.upd H T (.tup [.int (i : Nat), x]) ∧ ∀ xs, SqT K H a xs → xs[i]? = some x, fun i H => ∃ xs : List V, SqT K H a xs ∧ xs.length ≤ i⟩
theorem turn_enumT {P : Program} {w : World} {K : PySem.W.Frag} {elts : List Expr} {kk : Nat} {tpos : Pos} (a e it : Addr) :
    Turn P w K (.Tuple elts kk tpos) (IteT K a) [e, it] e (fun i h => (∃ old, IsEnum h e it ((i : Nat) : Int) old) ∧ h.IsTupleIter it a i ∧ e ≠ it) := by
  have two : ∀ {b : Addr}, b ∈ [e, it] → b = e ∨ b = it := fun hb => by simpa using hb
  refine ⟨by simp, fun i h st b hb => ?_, fun i h h' st k => ?_, ?_, ?_, fun A i s Q E st h => ?_⟩
  · obtain ⟨⟨old, he⟩, ⟨o, ho, hc, hd⟩, _⟩ := st
    cases two hb with
    | inl z => subst z; exact ⟨_, he, fun v q => nomatch q⟩
    | inr z => subst z; exact ⟨o, ho, fun v q => by rw [hd] at q; cases q⟩
  · obtain ⟨⟨old, he⟩, hi, hne⟩ := st
    exact ⟨⟨old, k e (by simp) _ he⟩, hi.at fun o q => k it (by simp) o q, hne⟩
  · intro X hP hw hK hc i pins s σ H E I hf st hg
    subst hP hw hK
    obtain ⟨⟨old, he⟩, hit, hne⟩ := st
    obtain ⟨xs, x, hq, hx⟩ := hg
    obtain ⟨its, rv, p, hz⟩ := I.tuple hq
    have pT : s.heap.IsTuple a its.toArray := p
    have eN : e ≠ a := fun z => by
      obtain ⟨o, ho, hcl, _⟩ := pT
      subst z
      rw [he] at ho
      cases ho
      injection hcl with q
      revert q
      decide
    have iN : a ≠ it := fun z => by
      obtain ⟨o, ho, hcl, _⟩ := pT
      obtain ⟨o2, ho2, hcl2, _⟩ := hit
      subst z
      rw [ho] at ho2
      cases ho2
      rw [hcl] at hcl2
      injection hcl2 with q
      revert q
      decide
    have el : e < s.heap.objs.size := Heap.lt_size he
    have il : it < s.heap.objs.size := by
      obtain ⟨_, q, _⟩ := hit
      exact Heap.lt_size q
    have hlen := (List.getElem?_eq_some_iff.mp hx).1
    have hn := rv.length
    refine wpAny_pyNext_enum_itemC (Draws.tuple (A := X.A.in1) (show X.A.in1.handled = none from I.ok.hd hc) it a iN its.toArray) he ⟨hit, pT⟩ (by simp; omega) hne (by simp [hne, eN]) fun u h1 tk hu ho hst hT hsz hk => ?_
    refine ⟨_, rfl, wpAny_letOwnedTupleGo_enum (s := { s with heap := h1, toks := tk + 1 }) ho fun h2 he2 sb => ?_⟩
    have hT2 : h2.get? s.heap.objs.size = some { cls := .type "tuple", data := .seq #[.int i tk, u] } := (sb.2 _ (Nat.ne_of_gt el)).trans hT
    have ru : RelV x u := by
      obtain ⟨u2, hu2, r2⟩ := rv.get hx
      have : its.toArray[i]? = its[i]? := by simp
      rw [this, hu2] at hu
      cases hu
      exact r2
    have I1 : Inv X pins σ (L2.upd H s.heap.objs.size (.tup [.int (i : Nat), x])) { s with heap := h2, toks := tk + 1 } :=
      I.turnedNew (ch := [e, it]) (fun b ob hb q => (sb.2 b (fun z => hb (by simp [z]))).trans (hk b ob (fun z => hb (by simp [z])) (fun z => hb (by simp [z])) q)) hf (Nat.le_refl _)
        ⟨by show 2 ≤ sizeLine; decide, [.int i tk, u], .cons ⟨_, rfl⟩ (.cons ru .nil), ⟨_, hT2, rfl, _, rfl⟩⟩
    refine ⟨.ref s.heap.objs.size, _, I1, rfl, ⟨_, x, rfl, I.hok.fresh (Nat.le_refl _), rfl, fun ys hy => by rw [I.tuple_inj hy hq]; exact hx⟩, ⟨⟨u, ?_⟩, hst.1.at fun o q => (sb.2 it (Ne.symm hne)).trans q, hne⟩, fun b hb => ?_⟩
    · have e1 : ((i + 1 : Nat) : Int) = (i : Int) + 1 := by omega
      rw [e1]
      exact he2
    · have lt : b < s.heap.objs.size := by
        cases two hb with
        | inl z => subst z; exact el
        | inr z => subst z; exact il
      rw [upd_ne (Nat.ne_of_lt lt)]
      exact (hf b hb).1
  · intro X hP hw hK hc i pins s σ H E I hf st hg
    subst hP hw hK
    obtain ⟨⟨old, he⟩, hit, hne⟩ := st
    obtain ⟨xs, hq, hx⟩ := hg
    obtain ⟨its, rv, p, hz⟩ := I.tuple hq
    obtain ⟨f0, f1, f2, f3, f4, f5⟩ := hf it (by simp)
    have pT : s.heap.IsTuple a its.toArray := p
    have hl := rv.length
    exact next_enum_tupEnd (I.ok.hd hc) he hit pT (by simp; omega) fun h1 eb => ⟨rfl, I.turned (t' := s.toks) (fun b o hb q => eb b o hb q) f0 f1 f3 f4 f5⟩
  · obtain ⟨⟨old, he⟩, _⟩ := st
    exact wpAny_pyIter_enum he h
/-- enumerate(e), e a list or a tuple -/
def iEnumS (K : PySem.W.Frag) (ta : TA) : TI := fun σ H R => ta σ H fun vs H1 => ∃ a, vs = [.ref a] ∧ ((∃ xs, SqL K H1 a xs ∧ R (Ite K a) H1) ∨ ∃ xs, SqT K H1 a xs ∧ R (IteT K a) H1)
theorem pi_enumS {X : Cx} {e : Expr} {ta : TA} {p pos tpos : Pos} {elts : List Expr} {kk : Nat} (hg : Gl X "enumerate") (hm : X.mg "enumerate" = none) (ha : PA X [e] ta) (hs : starEach [e] X.env = [(false, eval e X.env)] := by rfl) :
    PI X (.Tuple elts kk tpos) (.Call (.Name "enumerate" p) [e] [] pos) (iEnumS X.K ta) := by
  refine ⟨fun pins s σ H R I h => ?_⟩
  refine Call_ (ld_blt I hg hm boot_enumerate (PyProof.Rows.callWith_type1 (thn (ha.run pos pins s σ H _ I h) fun us s1 h1 => ?_) hs rfl))
  obtain ⟨vs, H1, I1, r1, a, rfl, q⟩ := h1
  match us, r1 with
  | [_], .cons r .nil =>
    cases r
    have low : ∀ b ∈ [s1.heap.objs.size + 1, s1.heap.objs.size], s1.heap.objs.size ≤ b := fun b hb => by
      have : b = s1.heap.objs.size + 1 ∨ b = s1.heap.objs.size := by simpa using hb
      omega
    rcases q with ⟨xs, hq, q⟩ | ⟨xs, hq, q⟩
    · obtain ⟨its, rv, pl, hz⟩ := I1.list hq
      refine call_enumerate_list pl.isList fun h2 he hit hsz hk => wpAny_pyIter_enum he ?_
      exact ⟨s1.heap.objs.size + 1, [s1.heap.objs.size + 1, s1.heap.objs.size], _, _, H1, rfl, I1.kept (t' := s1.toks) hk, turn_enum a _ _, ⟨⟨.none, he⟩, hit, Nat.succ_ne_self _⟩, fun b hb => I1.fpOk (low b hb) (I1.hok.fresh (low b hb)), q⟩
    · obtain ⟨its, rv, pl, hz⟩ := I1.tuple hq
      refine call_enum_tuple (show s1.heap.IsTuple a its.toArray from pl) fun h2 he hit hk => wpAny_pyIter_enum he ?_
      exact ⟨s1.heap.objs.size + 1, [s1.heap.objs.size + 1, s1.heap.objs.size], _, _, H1, rfl, I1.kept (t' := s1.toks) hk, turn_enumT a _ _, ⟨⟨.none, he⟩, hit, Nat.succ_ne_self _⟩, fun b hb => I1.fpOk (low b hb) (I1.hok.fresh (low b hb)), q⟩
theorem walk_enumT {K : PySem.W.Frag} {a : Addr} {xs : List V} : Walk (IteT K a) xs.length (fun H => SqT K H a xs) (YPair (fun i => some (.int (i : Nat))) (fun i => xs[i]?)) := by
  refine ⟨fun i _ hi q => ⟨xs, xs[i], q, by simp [hi]⟩, fun _ q => ⟨xs, q, Nat.le_refl _⟩, fun i H v H' _ q y => ?_⟩
  obtain ⟨T, x, e1, e2, e3, e4⟩ := y
  exact ⟨T, _, x, e1, e2, e3, rfl, e4 xs q⟩
end Own
set_option Elab.async false
set_option linter.all false
set_option maxRecDepth 100000
set_option maxHeartbeats 4000000
namespace Own
open PySem PySem.Spec PyProof.Rows L2
/-! ### [x for x in iter if len(x) > n] != [], iter wanting a token -/
def longV (n : Int) : Value → Bool
  | .str z _ => decide (n < (z.length : Int))
  | _ => false
def tLong (n : Int) (tl : TE) : TT := fun σ H R => tl σ H fun v H1 => ∃ a, ∃ ys : List Str, v = .ref a ∧ H1 a = some (.lst (ys.map V.str)) ∧ (∀ y ∈ ys, y.length ≤ sizeLine ∧ y.cps.all (· < 0x110000) = true) ∧ R (ys.any fun y => decide (n < (y.length : Int))) H1
theorem reads_strs {h : Heap} : ∀ {us : List Value}, (∀ v ∈ us, ∃ z t, v = Value.str z t ∧ z.cps.all (· < 0x110000) = true) → ∃ ds as, ReadsAll h us ds as ∧ PyData.canLayAll0 ds = true ∧ PyData.depthAll ds = 0 ∧ ds.isEmpty = us.isEmpty
  | [], _ => ⟨[], [], .nil, rfl, rfl, rfl⟩
  | v :: r, hh => by
    obtain ⟨z, t, rfl, hz⟩ := hh v (List.mem_cons_self ..)
    obtain ⟨ds, as, a1, a2, a3, _⟩ := reads_strs (h := h) (us := r) fun y hy => hh y (List.mem_cons_of_mem _ hy)
    refine ⟨.str z :: ds, _, .cons (.str z t) a1, ?_, ?_, rfl⟩
    · show (PyData.canLay0 (.str z) && PyData.canLayAll0 ds) = true
      rw [a2, Bool.and_true]
      exact hz
    · show max (PyData.depth (.str z)) (PyData.depthAll ds) = 0
      rw [a3]
      rfl
theorem any_vals (n : Int) : ∀ {ys : List Str} {us : List Value}, Vals (ys.map V.str) us → us.any (longV n) = ys.any fun y => decide (n < (y.length : Int))
  | [], _, .nil => rfl
  | y :: ys, _, .cons r t => by
    obtain ⟨k, rfl⟩ := r
    rw [List.any_cons, List.any_cons, any_vals n t]
    rfl
theorem paired_eq : ∀ {xs ys : List Value}, Paired (fun v y => y = v) xs ys → ys = xs
  | _, _, .nil => rfl
  | _, _, .cons r t => by rw [r, paired_eq t]
theorem vals_strs_mem : ∀ {ys : List Str} {us : List Value}, Vals (ys.map V.str) us → ∀ v ∈ us, ∃ z t, z ∈ ys ∧ v = Value.str z t
  | [], _, .nil, v, h => by cases h
  | y :: ys, _, .cons r t, v, h => by
    obtain ⟨k, rfl⟩ := r
    rcases List.mem_cons.mp h with rfl | h
    · exact ⟨y, k, List.mem_cons_self .., rfl⟩
    · obtain ⟨z, t2, h1, h2⟩ := vals_strs_mem t v h
      exact ⟨z, t2, List.mem_cons_of_mem _ h1, h2⟩
theorem ptt_long {X : Cx} {iter : Expr} {tl : TE} {x : Str} {n : Int} {scope : Scope} {j : Nat} {p1 p2 p3 p4 p5 p6 p7 p8 p9 p10 : Pos} (hu : X.A.units + 64 < cLine) (hc : X.calm = true) (hi : PET X iter tl) (hm : X.mg "len" = none)
    (hfree : ∀ y ∈ scope.names, y.2 ≠ .free) (hcell : ∀ y ∈ scope.names, y.2 ≠ .cell) (hkind : scope.kind = .function) (hnames : ∀ y ∈ scope.names, y.2 = .local → scope.names.lookup y.1 = some .local) (hx : scope.names.lookup x = some .local)
    (hlen : scope.names.lookup ("len" : Str) = some .globalImplicit) (hxd : (x == ("__debug__" : Str)) = false) (hs : ∀ y, foldedSetIterable iter X.env y = pure y := by intro _; rfl) :
    PTT X (.Compare (.ListComp (.Name x p1) [⟨.Name x p2, iter, [.Compare (.Call (.Name "len" p3) [.Name x p4] [] p5) [.Gt] [.Constant (.int n) j p6] p7], 0⟩] scope p8) [.NotEq] [.List [] p9] p10) (tLong n tl) := by
  intro pins s σ H R h0 I h
  refine wpAny_isTrue_Compare1 ?_ (nobehind _ (by decide) (by decide))
  refine wpAny_ListComp_map (longV n) (fun v y => y = v) (I.ok.hd hc) hfree hcell hkind hnames hx (thn (hi pins s σ H _ h0 I h) fun xv s1 q => ?_) hs
  obtain ⟨v, H1, I1, rv, a, ys, rfl, ha, hys, hR⟩ := q
  cases rv
  obtain ⟨its, vv, pl, hz⟩ := I1.list (SqL.of ha)
  refine ⟨a, its.toArray, rfl, pl.isList, ?_, ?_, ?_, ?_⟩
  · rw [List.size_toArray, ← vv.length]
    exact hz
  · intro C w s2 m2 E2 hw hns hm2 hk
    obtain ⟨z, t, hzm, rfl⟩ := vals_strs_mem vv w (by simpa using hw)
    obtain ⟨mb, b1, b2⟩ := I1.mod.blt
    have up : ∀ b o, X.base.get? b = some o → s2.heap.get? b = some o := fun b o e => hk b o (I1.bk b o e)
    refine wpAny_tests_one (wpAny_isTrue_Compare1 (wpAny_Call_Name_kw ?_) (nobehind _ (by decide) (by decide)))
    refine Calls.Name_function_global (env := compEnv scope C X.env) hkind hlen (Calls.loadGlobal_builtin (by show s2.heap.Ns X.env.globals X.mg; rw [I1.ok.glob]; exact I1.mod.glob.keeps up) hm (by show s2.heap.Ns X.env.builtins mb; rw [I1.ok.blt]; exact b1.keeps up) ((b2 "len" (by decide)).trans PySem.boot_len) ?_) (by decide)
    refine PyProof.Rows.callWith_builtin1 (Calls.spliced_cons (wpAny_Name (wpAny_loadName_local hkind hx hns hm2 ?_) hxd)) rfl rfl
    refine Calls.spliced_nil (len_str (by have := (hys z hzm).1; have := line63; omega) ?_)
    refine wpAny_Constant_int (gt_int (wpAny_truthy_bool ⟨rfl, _, _, rfl, fun b o e => e⟩))
  · intro C w s2 m2 E2 hw hp hns hm2 hk
    exact wpAny_Name (wpAny_loadName_local hkind hx hns hm2 ⟨rfl, _, _, rfl, fun b o e => e⟩) hxd
  · intro D h2 tk out hD hL hF hk
    have eo := paired_eq hF
    obtain ⟨oD, hoD, hcD, nD, hdD⟩ := hL
    have I2 : Inv X pins σ H1 { s1 with heap := h2, toks := tk } := I1.kept (t' := tk) hk
    refine wpAny_List_spliced (Calls.spliced_nil ⟨by decide, ?_⟩)
    have I3 : Inv X pins σ H1 { s1 with heap := h2.push { cls := .type "list", data := .seq ([] : List Value).toArray }, toks := tk } := I1.kept (t' := tk) fun b o e => Heap.get?_push_of_some _ (hk b o e)
    have hmem : ∀ v ∈ out.toList, ∃ z t, v = Value.str z t ∧ z.cps.all (· < 0x110000) = true := fun v hv => by
      rw [eo] at hv
      obtain ⟨z, t, hzm, e⟩ := vals_strs_mem vv v (by simpa using (List.mem_filter.mp hv).1)
      exact ⟨z, t, e, (hys z hzm).2⟩
    obtain ⟨ds, as, d1, d2, d3, d4⟩ := reads_strs (h := h2.push { cls := .type "list", data := .seq ([] : List Value).toArray }) hmem
    have r1 : Reads (h2.push { cls := .type "list", data := .seq ([] : List Value).toArray }) (.ref D) (.list ds) (D :: as) := .list (Heap.get?_push_of_some _ hoD) hcD hdD d1
    have r2 : Reads (h2.push { cls := .type "list", data := .seq ([] : List Value).toArray }) (.ref h2.objs.size) (.list []) [h2.objs.size] := .list (Heap.get?_push_size _ rfl) rfl rfl .nil
    refine SeqAt.compareNe_shaped (s := { s1 with heap := h2.push { cls := .type "list", data := .seq ([] : List Value).toArray }, toks := tk }) r1 r2 ?_ rfl hu (wpAny_truthy_bool ⟨H1, I3, ?_⟩)
    · show (PyData.canLayAll0 ds && decide (PyData.depthAll ds + 1 ≤ 64)) = true
      rw [d2, d3]
      rfl
    · have e1 : PyData.eqv (.list ds) (.list []) = ds.isEmpty := by cases ds <;> rfl
      have e2 : (!ds.isEmpty) = ys.any fun y => decide (n < (y.length : Int)) := by
        rw [d4, eo, ← any_vals n vv]
        rw [Bool.eq_iff_iff]
        simp
      rw [e1, e2]
      exact hR
/-- e.split(c), e wanting a token -/
theorem pet_splitC {X : Cx} {o : Expr} {to : TE} {b : Str} {j : Nat} {c0 apos pos : Pos} (ho : PET X o to) (hs : starEach [.Constant (.str b) j c0] X.env = [(false, eval (.Constant (.str b) j c0) X.env)] := by rfl) (hbase : attributeBase o "split" X.env (eval o X.env) = eval o X.env := by rfl) (hline : (apos.endLine == pos.line) = true := by rfl) :
    PET X (.Call (.Attribute o "split" apos) [.Constant (.str b) j c0] [] pos) (fun σ H Q => to σ H fun x H1 => ∃ a, x = .str a ∧ (b.length == 0) = false ∧ a.length + 2 ≤ sizeLine ∧ ∀ p, H1 p = none → Q (.ref p) (L2.upd H1 p (.lst ((Txt.split a b).map V.str)))) := by
  intro pins s σ H Q h0 I h
  refine PySem.Call_method1 hbase hs hline (thn (ho pins s σ H _ h0 I h) fun v s1 q => ?_)
  obtain ⟨x, H1, I1, rx, a, rfl, hb, hl, k⟩ := q
  obtain ⟨t, rfl⟩ := id rx
  refine ⟨"str", _, F.plainAttrs_str, F.slot_str_split, F.type_str_split, typeIs_str _ _ _, (fun _ e => nomatch e), Calls.callWith_builtin rfl (Calls.evalArgs_plain (Calls.spliced_cons (Calls.Constant_str (Calls.spliced_nil ?_))))⟩
  exact mt_split pins _ σ H1 (.str a) [.str b] _ _ Q (I1.tok (s1.toks + 1)) ⟨t, rfl⟩ (.cons ⟨s1.toks, rfl⟩ .nil) ⟨a, b, rfl, rfl, hb, hl, k⟩
end Own
set_option Elab.async false
set_option linter.all false
set_option maxRecDepth 100000
set_option maxHeartbeats 4000000
namespace Own
open PySem PySem.Spec PyProof.Rows L2 LamX
/-! ### a caught error that is kept as a value -/
/-- an exception object of the class cls (own dict at d) stands at a -/
def Caught (cls : Value) (d : Option Addr) (a : Addr) : HO := .ext fun h => ∃ oe : Obj, h.get? a = some oe ∧ Zc cls d oe ∧ ∃ vs, oe.data = .fields vs
theorem caught_ok {P : Program} {w : World} {H : Hp} {h : Heap} {a : Addr} {cls : Value} {d : Option Addr} {oe : Obj} (e : h.get? a = some oe) (z : Zc cls d oe) (k : ∃ vs, oe.data = .fields vs) : ObjOk P w H h a (Caught cls d a) :=
  ⟨⟨oe, e, z, k⟩, ⟨oe, e⟩, fun _ _ ⟨o1, e1, z1, k1⟩ st => ⟨o1, st _ e1, z1, k1⟩⟩
section
variable {X : Cx} {pins : List (Addr × Obj)}
/-- a new address gets known: nothing of the entry, no cell, no pin stands there -/
theorem note_new {σ : L2.St} {H : Hp} {s : Shared} {a : Addr} {u : HO} (I : Inv X pins σ H s) (na : H a = none) (n0 : X.s_0.heap.get? a = none) (nL : a ≠ X.env.locals) (nC : ∀ x c, X.env.cells.lookup x = some c → c ≠ a) (nP : ∀ p ∈ X.pn ++ pins, p.1 ≠ a)
    (new : ObjOk X.prog X.w (upd H a u) s.heap a u) : Inv X pins σ (upd H a u) s := by
  have apart : ∀ {b : Addr} {o : Obj}, X.s_0.heap.get? b = some o → b ≠ a := fun {b o} e z => by
    rw [z, n0] at e
    cases e
  refine ⟨I.ok, I.os, I.bare, ?_, I.loc, I.cell, ?_, ?_, ?_, ?_, I.len⟩
  · refine ⟨I.base.keep, I.base.slot, fun b o e n hx => ?_, I.base.there, fun b xs e => ?_, fun b o xs e => ?_, fun b ps e => ?_⟩
    · rw [upd_ne (apart e)]
      exact I.base.free b o e n hx
    · have q := I.base.tups b xs e
      rw [upd_ne (ne_of_none q na)]
      exact q
    · have q := I.base.frzs b o xs e
      rw [upd_ne (ne_of_none q na)]
      exact q
    · obtain ⟨more, q⟩ := I.base.tbls b ps e
      exact ⟨more, by rw [upd_ne (ne_of_none q na)]; exact q⟩
  · rw [upd_ne nL.symm]
    exact I.free
  · intro x c e
    rw [upd_ne (nC x c e)]
    exact I.freeC x c e
  · intro p hp
    obtain ⟨h1, h2, h3⟩ := I.pin p hp
    exact ⟨h1, by rw [upd_ne (nP p hp)]; exact h2, h3⟩
  · intro b o e
    by_cases hb : b = a
    · subst hb
      rw [upd_same] at e
      cases e
      exact new
    · rw [upd_ne hb] at e
      exact (I.hok b o e).stay (fun c v _ q => q) (fun c q => by rw [upd_ne (ne_of_none q na)]; exact q) fun c xs q => by rw [upd_ne (ne_of_none q na)]; exact q
/-- what is wished of an error that the clause takes and keeps -/
def wKeep (K : PySem.W.Frag) (c : Value) (i : Nat) (ts : Addr → Value → Option Addr → TS) (D : Ends) : WX := fun cls d σ H =>
  ∃ b, PySem.W.exmOne K cls c = some b ∧ (b = true → ∀ a, H a = none → ts a cls d { nx := fun σ' H' => H' a = none → D.nx (σ'.set i none) (upd H' a (Caught cls d a)), rt := fun _ _ => False } (σ.set i (some (.ref a))) H) ∧ (b = false → False)
/-- try: body / except x as n: suite, the error being known behind it; every error is of that class -/
theorem ps_try_keep {x n : Str} {c : Value} {i : Nat} {body suite : List Stmt} {b0 : Stmt} {np pos pos1 : Pos} {tb : WX → TS} {ts : Addr → Value → Option Addr → TS}
    (hs : X.stack = X.env :: X.outer) (hex : X.ex = []) (hf : X.env.frame = some X.env.locals) (hN : X.N.Nodup) (hi : X.N[i]? = some n) (hln : X.env.kindOf n = some .local) (hc : Names X x c)
    (hb : ∀ (W : WX) (pn : List (Addr × Obj)) (xe : Value → Shared → Prop), Takes (X.tr pn xe) W → PassesOwn (model X.prog X.w) X.A X.env xe → PSs (X.tr pn xe) body (tb W))
    (hsu : ∀ (a : Addr) (oe : Obj) (cls : Value) (d : Option Addr) (pn : List (Addr × Obj)), Zc cls d oe → (∃ vs, oe.data = .fields vs) → PSs (X.suite a ((a, oe) :: pn)) (b0 :: suite) (ts a cls d)) :
    PS X (.Try body [.ExceptHandler (some (.Name x np)) (some n) (b0 :: suite) pos1] [] [] pos) (fun D σ H => tb (wKeep X.K c i ts D) D σ H) := by
  constructor
  intro pins s σ H D I h
  have ok := I.ok
  have frm : X.A.frames = some (X.env :: X.outer) := ok.frames.trans (congrArg some hs)
  refine wpAny_Try_except (wpAny_mono (hb (wKeep X.K c i ts D) (X.pn ++ pins) (fun e t1 => wpAny (model X.prog X.w) X.A (noteFrame e X.env) (fun _ t2 => wpAny (model X.prog X.w) X.A (setFlight e none) (fun _ t3 =>
    wpAny (model X.prog X.w) X.A (handleBy e X.env [.ExceptHandler (some (.Name x np)) (some n) (b0 :: suite) pos1]) (SP X pins D) X.xe t3) X.xe t2) X.xe t1) (fun u t hx => ?_) PassesOwn.looking |>.run [] s σ H D (I.toTry _) h) (fun fl t hq => ?_) (fun _ _ he => he))
  · obtain ⟨a, B, s2, p2, σ2, H2, cls, d, rfl, Jt, nb, up, sky, na, os, ag, b, hb1, hyes, hno⟩ := hx
    have J : Inv X pins σ2 H2 s2 := Jt.ofTry ok
    rw [hs] at sky
    refine Sky.land Zc.steady frm hf sky fun h3 fl3 up3 => ?_
    have J3 : Inv X pins σ2 H2 { t with heap := h3 } := J.landed nb fl3.1 (up.trans up3) os ag
    obtain ⟨oe3, vs3, he3, hz3, hd3⟩ := fl3.there
    have out : a ∉ frs (X.env :: X.outer) := fun hm => by
      obtain ⟨_, o1, e1, no⟩ := fl3.2.2.1.mem hm
      rw [he3] at e1
      cases e1
      exact no _ hd3
    have nL : a ≠ X.env.locals := fun z => out (List.mem_filterMap.mpr ⟨X.env, List.mem_cons_self, by rw [hf, z]⟩)
    have nF : a ∉ X.fs := fun hm => by
      obtain ⟨e1, he1, q⟩ := List.mem_filterMap.mp hm
      exact out (List.mem_filterMap.mpr ⟨e1, List.mem_cons_of_mem _ he1, q⟩)
    -- nothing stood at a when the body was entered
    have nB : B.get? a = none := fl3.2.1
    have n2 : s2.heap.get? a = none := by
      cases q : s2.heap.get? a with
      | none => rfl
      | some o =>
        have z := nb a o q (by rw [hs]; exact out)
        rw [nB] at z
        cases z
    have n0 : X.s_0.heap.get? a = none := by
      cases q : X.s_0.heap.get? a with
      | none => rfl
      | some o =>
        obtain ⟨o1, q1⟩ := J.base.there a o q (by rw [hex]; exact List.not_mem_nil)
        rw [n2] at q1
        cases q1
    have nC : ∀ y c, X.env.cells.lookup y = some c → c ≠ a := fun y c e z => by
      obtain ⟨v, o, q, _⟩ := J.cell y c e
      rw [z, n2] at q
      cases q
    have nP : ∀ p ∈ X.pn ++ pins, p.1 ≠ a := fun p hp z => by
      have q := (J.pin p hp).1
      rw [z, n2] at q
      cases q
    refine wpAny_handleBy_cons (codeAny_handlers_test ?_) (fun z => nomatch z)
    have inS := J3.suite he3 hd3 na nL nF
    have asked : ∀ {Q E : Value → Shared → Prop}, Q c { t with heap := h3 } → wpAny (model X.prog X.w) (X.A.mark (some (.ref a))) (eval (.Name x np) X.env) Q E { t with heap := h3 } := fun {Q E} q => by
      obtain ⟨hg, hdbg, hm⟩ := hc
      rcases hm with hm | ⟨hm, hv, hnn⟩
      · exact ld_glob (X := X.suite a ((a, oe3) :: (X.pn ++ pins))) inS hg hm q hdbg
      · exact ld_blt (X := X.suite a ((a, oe3) :: (X.pn ++ pins))) inS hg hm hv q hnn hdbg
    have kind : PySem.W.Looks (model X.prog X.w) h3 (typeOf (.ref a)) cls := fun A Q E s k q => wpAny_typeOf_ref (k _ _ he3) (by rw [hz3.1]; exact q)
    refine asked ((PySem.W.exm_one (M := model X.prog X.w) (J3.kIn) kind hb1).here ?_)
    cases b with
    | false => exact (hno rfl).elim
    | true =>
      refine codeAny_handlers_suite_as (HandSPX.lands_againZ fl3 fun h4 fl4 up4 => ?_)
      have J4 : Inv X pins σ2 H2 { t with heap := h4 } := J.landed nb fl4.1 ((up.trans up3).trans up4) os ag
      obtain ⟨oe4, vs4, he4, hz4, hd4⟩ := fl4.there
      refine store_ok (X := X.suite a ((a, oe4) :: (X.pn ++ pins))) (v := .ref a) (J4.suite he4 hd4 na nL nF) hN hi (.inl hln) rfl (fun s5 S5 => ?_) (.inr hln)
      refine wpAny_mono ((hsu a oe4 cls d (X.pn ++ pins) hz4 ⟨_, hd4⟩).run [] s5 _ H2 _ S5 (hyes rfl a na)) (fun fl s6 hsp => ?_) (fun _ _ z => False.elim z)
      cases fl with
      | next =>
        obtain ⟨σ6, H6, S6, q6⟩ := hsp
        refine gone_ok (X := X.suite a ((a, oe4) :: (X.pn ++ pins))) S6 hN hi hln fun s7 S7 => ?_
        obtain ⟨e7, n7, _⟩ := S7.pin (a, oe4) (List.mem_append.mpr (.inl List.mem_cons_self))
        exact ⟨_, _, note_new (S7.unsuite ok) n7 n0 nL nC nP (caught_ok e7 hz4 ⟨_, hd4⟩), q6 n7⟩
      | brk =>
        obtain ⟨_, _, _, q6⟩ := hsp
        exact False.elim q6
      | cont =>
        obtain ⟨_, _, _, q6⟩ := hsp
        exact False.elim q6
      | ret u =>
        obtain ⟨_, _, _, _, _, q6⟩ := hsp
        exact False.elim q6
  · cases fl with
    | next =>
      obtain ⟨σ2, H2, J, q⟩ := hq
      exact wpAny_execs_nil ⟨σ2, H2, J.ofTry ok, q⟩
    | brk =>
      obtain ⟨σ2, H2, J, q⟩ := hq
      exact ⟨σ2, H2, J.ofTry ok, q⟩
    | cont =>
      obtain ⟨σ2, H2, J, q⟩ := hq
      exact ⟨σ2, H2, J.ofTry ok, q⟩
    | ret u =>
      obtain ⟨v, σ2, H2, J, r, q⟩ := hq
      exact ⟨v, σ2, H2, J.ofTry ok, r, q⟩
end
theorem tk_len {X : Cx} {W : WX} (tk : Takes X W) {n : Nat} (hn : X.N.length = n) : Takes X (fun cls d σ H => σ.length = n → W cls d σ H) := fun u s' ⟨a, B, sI, pins, σ, H, cls, d, e, I, h1, h2, h3, h4, h5, h6, w⟩ =>
  tk u s' ⟨a, B, sI, pins, σ, H, cls, d, e, I, h1, h2, h3, h4, h5, h6, w (I.len.trans hn)⟩
/-- isinstance(e, c), e an error that was caught and kept, c an own class; or a value of a known kind -/
def rIsX (K : PySem.W.Frag) : List V → Hp → VK → Prop := fun xs H Q => ∃ (a D : Addr) (dd : Option Addr) (c : V) (cv : Value) (b : Bool), xs = [.ref a, c] ∧ H a = some (Caught (.ref D) dd a) ∧ dd = none ∧ ExcC K D ∧ ClsV c cv ∧ PySem.W.kitOne K (.ref D) cv = some b ∧ Q (.bl b) H
theorem call_isX {X : Cx} : CallR X (.builtin "isinstance") (rIsX X.K) := by
  intro pins s σ H xs us Q I r h
  obtain ⟨a, D, dd, c, cv, b, rfl, ha, rfl, C, k, e, q⟩ := h
  obtain ⟨u1, u2, rfl, r1, r2⟩ := vals2 r
  have e2 := k.eq r2
  subst e2
  cases (show u1 = Value.ref a from r1)
  obtain ⟨⟨oe, ho, hz, vs, hv⟩, _, _⟩ := I.hok a _ ha
  have J : PySem.W.InstAt s.heap a oe D none := by
    obtain ⟨oc, od, oda, osl⟩ := oe
    obtain ⟨h1, h2⟩ := hz
    dsimp only at h1 h2 hv
    subst h1 h2 hv
    exact ⟨ho, rfl, rfl, trivial⟩
  exact PySem.W.kia_one (PySem.W.handS_kitx_exc C.hg C.hk C.hs C.hd C.ha C.hn C.ht C.hm) I.kIn J e (fun z => nomatch z) fun tk => ⟨.bl b, H, I.tok tk, rfl, q⟩
/-- f(e, ..) by either of two readings -/
theorem CallR.either {X : Cx} {f : Value} {r1 r2 : List V → Hp → VK → Prop} (h1 : CallR X f r1) (h2 : CallR X f r2) : CallR X f (fun xs H Q => r1 xs H Q ∨ r2 xs H Q) := by
  intro pins s σ H xs us Q I r h
  rcases h with h | h
  · exact h1 pins s σ H xs us Q I r h
  · exact h2 pins s σ H xs us Q I r h
/-! ### the law's own catcher: found = None; try: action() / except E as error: found = error; return found -/
def TKeep (K : PySem.W.Frag) (CS : Addr) : (XK → Hp → VK → Prop) → Hp → VK → Prop := fun tl H Q =>
  tl (fun cls d H' => ∃ b, PySem.W.exmOne K cls (.ref CS) = some b ∧ (b = true → ∀ a, H' a = none → Q (.ref a) (upd H' a (Caught cls d a))) ∧ (b = false → False)) H (fun _ H' => ∃ v, (some (some V.non) : Option (Option V)) = some (some v) ∧ Q v H')
theorem keep_gives {X : Cx} {Ng : List Str} {x a e n f q : Str} {sg : Scope} {g CS : Addr} {cdg : Value} {k1 : Nat} {p1 p2 p3 p4 p5 p6 p7 p8 p9 p10 p11 p12 p13 p14 : Pos}
    (hN : Ng = [a, f, n]) (nd : Ng.Nodup) (hlf : sg.names.lookup f = some .local) (hln : sg.names.lookup n = some .local) (hge : sg.names.lookup e = some .globalImplicit) (hme : X.mg e = some (.ref CS)) (hde : (e == ("__debug__" : Str)) = false)
    (hdf : (f == ("__debug__" : Str)) = false) (hcf : (f == ("__classdict__" : Str)) = false) (hdn : (n == ("__debug__" : Str)) = false) (hcn : (n == ("__classdict__" : Str)) = false) :
    GivesTo X Ng x sg g cdg [.Assign [.Name f p1] (.Constant .none k1 p2) p3, .Try [.Expr (.Call (.Name a p4) [] [] p5) p6] [.ExceptHandler (some (.Name e p7)) (some n) [.Assign [.Name f p8] (.Name n p9) p10] p11] [] [] p12, .Return (some (.Name f p13)) p14] a q (TKeep X.K CS) := by
  subst hN
  intro fa c' s H Q tl act hc h
  have hgl : Gl (cxOf C8.CX0 X.prog X.w X.K X.mg X.base [a, f, n] x sg g cdg X.A X.stack s H C8.E0).nox e := hge
  refine ⟨_, pss_cons (ps_set (X := (cxOf C8.CX0 X.prog X.w X.K X.mg X.base [a, f, n] x sg g cdg X.A X.stack s H C8.E0).nox) (i := 1) nd rfl (Or.inl hlf) pe_non (hf := Or.inr hlf))
    (pss_cons (ps_try_keep (X := (cxOf C8.CX0 X.prog X.w X.K X.mg X.base [a, f, n] x sg g cdg X.A X.stack s H C8.E0).nox) (i := 2) (c := .ref CS)
      (tb := fun W D σ H => ∃ Ech : XK, (∀ cls d σ' H', Ech cls d H' → σ'.length = 3 → W cls d σ' H') ∧ σ[0]? = some (some (.ref fa)) ∧ H c' = some (CodeO c' q) ∧ tl Ech H fun _ H1 => D.nx σ H1)
      (ts := fun a cls d => tAsg (tVar 2) (gName 1))
      rfl rfl rfl nd rfl hln ⟨hgl, hde, .inl hme⟩ (fun W pn xe tk _ => ?_) (fun a oe cls d pn _ _ => pss_one (ps_set (i := 1) nd rfl (Or.inl hlf) (pe_var rfl (Or.inl hln) hdn hcn) (hf := Or.inr hlf))))
    (pss_one (ps_ret (pe_var (i := 1) rfl (Or.inl hlf) hdf hcf)))), ?_⟩
  · refine ⟨fun pins s' σ H' D I h' => ?_⟩
    obtain ⟨Ech, hW, h1, h2, h3⟩ := h'
    have tk2 := tk_len tk (n := 3) rfl
    exact (pss_one (ps_expr (pos := p6) (act (fun cls d σ H => σ.length = 3 → W cls d σ H) pn xe Ech p4 p5 tk2 hW))).run pins s' σ H' D I ⟨h1, h2, h3⟩
  · refine ⟨fun cls d H' => ∃ b, PySem.W.exmOne X.K cls (.ref CS) = some b ∧ (b = true → ∀ a, H' a = none → Q (.ref a) (upd H' a (Caught cls d a))) ∧ (b = false → False), fun cls d σ' H' hE hl => ?_, rfl, hc, h⟩
    obtain ⟨b, e1, e2, e3⟩ := hE
    refine ⟨b, e1, fun hb a na => ?_, e3⟩
    match σ', hl with
    | [u1, u2, u3], _ => exact ⟨_, rfl, fun na => ⟨_, rfl, e2 hb a na⟩⟩
end Own
set_option Elab.async false
set_option linter.all false
set_option maxRecDepth 100000
set_option maxHeartbeats 4000000
namespace Own
open PySem PySem.Spec PyProof.Rows L2 LamX
/-! ### f(k = v, ..), all by keywords -/
section
variable {X : Cx} {CX : CXT} {k : Nat} {f : Addr} {fd : FuncData} {ps ks : List Str} {sp : Sp} {E : XK} {x : Str} {p pos : Pos} {kws : List Keyword} {tk : TA} {g : List Value → List Value → List Value} {gV : List V → List V → List V}
def tCallK0 (m : Nat) (sp : Sp) (gV : List V → List V → List V) (E : XK) (tk : TA) : TE := fun σ H Q => tk σ H fun zs H2 => zs.length = m ∧ sp (gV [] zs) H2 Q E
theorem pe_kw0 (F : FnOk X.prog X.w X.K X.mg X.base CX k f fd ps sp) (hr : Room k X.A) (hg : Gl X x) (hm : X.mg x = some (.ref f)) (hk : PySem.W.keepIn X.K (.ref f) = true) (hb : KBn X.K fd ps 0 ks g gV) (hx : Passes CX X E) (hkw : PK X kws tk)
    (hall : (backToKw pos (keywordEach kws X.env)).all (·.1.isSome) = true := by rfl) (hks : (backToKw pos (keywordEach kws X.env)).filterMap (·.1) = ks := by rfl) (hdb : (x == ("__debug__" : Str)) = false := by decide)
    (hpl : ((backTo pos (starEach [] X.env)).any (·.1) || (backToKw pos (keywordEach kws X.env)).any (·.1.isNone)) = false := by rfl) : PE X (.Call (.Name x p) [] kws pos) (tCallK0 ks.length sp gV E tk) := by
  constructor
  intro pins s σ H Q I h
  refine wpAny_Call_Name_kw (ld_glob I hg hm (PySem.W.callWith_KW0 (h₀ := X.base) I.ok.mod.kin hk hall (thn (hkw.run pos pins s σ H _ I h) fun ws s2 ⟨zs, H2, I2, rz, l2, q2⟩ => ⟨I2.kIn, ?_⟩) hpl) hdb)
  rw [hks]
  exact run_fnN (us := []) (vs := []) F hr hb hx I2 .nil rz rfl l2 q2
end
theorem kb_one {K : PySem.W.Frag} {x qual : Str} {params : Arguments} {body : List Stmt} {scope : Scope} {kws : List (Str × V)} {f : Addr} {fd : FuncData} {p : Str} (F : FunD K x qual params body scope [] kws f fd)
    (h : ∀ (kV doc pm : Value) (an : Option Addr) (cdv ct u : Value), bindArgs (PySem.W.fnOf x qual params body scope .none kV doc pm an cdv ct) ⟨[], [(p, u)]⟩ = pure [(p, u)]) : KBn K fd [p] 0 [p] (fun _ ws => ws) (fun _ zs => zs) := by
  obtain ⟨oc, od, dV, kV, doc, pm, an, cdv, ct, osl, rfl, lk, hcd, hD, hK⟩ := F.ex
  refine ⟨fun s us ws X l1 l2 => ?_, fun _ r => r⟩
  match us, ws, l1, l2 with
  | [], [u], _, _ =>
    rcases hD with ⟨_, rfl⟩ | ⟨e, _⟩
    · exact .of_eq (h kV doc pm an cdv ct u)
    · exact absurd rfl e
/-- len of a list, a tuple, the written part told by its own name -/
theorem call_lenK {X : Cx} {K : PySem.W.Frag} (hK : X.K = K) : CallR X (.builtin "len") (fun xs H Q => ∃ p ys, xs = [.ref p] ∧ (SqL K H p ys ∨ SqT K H p ys) ∧ Q (.int (List.length ys)) H) := by
  subst hK
  exact call_len_seq
end Own
set_option Elab.async false
set_option linter.all false
set_option maxRecDepth 100000
set_option maxHeartbeats 4000000
/-! ### an own error with one field: def __init__(self, p): super().__init__('..'); self.f = p -/
namespace PySem
namespace SupX
open PySem.W PySem.Calls PyProof.Rows PySem.HandSPX
/-- what is fixed of the text: the class's name, the parameter, the field, the message -/
structure Txt where
  x : Str
  p : Str
  f : Str
  m : Str
def iA (t : Txt) (p1 p2 : Pos) : Arguments := { posonlyargs := [], args := [{ arg := "self", annotation := none, pos := p1 }, { arg := t.p, annotation := none, pos := p2 }], vararg := none, kwonlyargs := [], kw_defaults := [], kwarg := none, defaults := [] }
def iB (t : Txt) (j : Nat) (q1 q2 q3 q4 q5 q6 q7 q8 q9 q10 : Pos) : List Stmt := [.Expr (.Call (.Attribute (.Call (.Name "super" q1) [] [] q2) "__init__" q3) [.Constant (.str t.m) j q4] [] q5) q6, .Assign [.Attribute (.Name "self" q7) t.f q8] (.Name t.p q9) q10]
def iS (t : Txt) : Scope := { kind := .function, names := [(PySem.Str.ofString "self", .local), (t.p, .local), (PySem.Str.ofString "__class__", .free), (PySem.Str.ofString "super", .globalImplicit)], isGenerator := false, isCoroutine := false, more := [] }
/-- what the written part says of the class at C, of its __init__ at fI, of the cell at cc -/
structure Has (prog : Program) (K : Frag) (mg : Str → Option Value) (t : Txt) (C fI : Addr) : Prop where
  gC : mg t.x = some (.ref C)
  cls : ∃ nm q N bs bm sn sub ab col dd k0 k1 k2 k3 k5, K.lookup C = some (excClassObj nm q C N bs bm true sn sub ab col dd k0 k1 k2 k3 k5 "ValueError.__new__") ∧ refsVE bm = true
  sa : findIn K (.ref C) "__setattr__" = some (some (.builtin "object.__setattr__"))
  noN : findIn K (.ref C) t.f = some none
  iC : findIn K (.ref C) "__init__" = some (some (.ref fI))
  tC : typeIn K (.ref fI) = some (.type "function")
  kC : keepIn K (.ref C) = true
  exC : subIn K (.ref C) (.type "BaseException") = some true
  tyC : typeIn K (.ref C) = some (.type "type")
  sVE : subIn K (.ref C) (.type "ValueError") = some true
  mro : mroIn K C (.ref C) = some true
  sup : ks_superIn K C C "__init__" = some (some (.builtin "ValueError.__init__"))
  ini : excInitIn K C He.veBase "ValueError.__new__" = true
  tp : nsIn K cStatics "thirdparty.any" = some none
  gS : mg "super" = none
  pn : (t.p == ("__debug__" : Str)) = false ∧ t.p ≠ "self"
  lself : (iS t).names.lookup ("self" : Str) = some .local
  lp : (iS t).names.lookup t.p = some .local
  lcls : (iS t).names.lookup ("__class__" : Str) = some .free
  lsup : (iS t).names.lookup ("super" : Str) = some .globalImplicit
  fn : ∃ (cc cda : Addr) (oc ccl cl : Value) (od cdd cld : Option Addr) (kV doc pm : Value) (an : Option Addr) (ct : Value) (osl ccs csl : Array (Option Value)) (vs : Array Value) (file : Str) (tf : Tok) (qual : Str) (j : Nat) (p1 p2 q1 q2 q3 q4 q5 q6 q7 q8 q9 q10 : Pos),
    K.lookup fI = some ⟨oc, od, .func (fnX "__init__" qual (iA t p1 p2) (iB t j q1 q2 q3 q4 q5 q6 q7 q8 q9 q10) (iS t) [("__class__", cc)] .none kV doc pm an (.ref cda) ct), osl⟩ ∧ codeIn K (.ref cda) qual = true ∧
      K.lookup cda = some ⟨ccl, cdd, .fields vs, ccs⟩ ∧ vs[2]? = some (.str file tf) ∧ ((prog.main.file : Str) == file) = true ∧ K.lookup cc = some ⟨cl, cld, .cell (some (.ref C)), csl⟩ ∧
      (∀ a b : Value, bindArgs (fnX "__init__" qual (iA t p1 p2) (iB t j q1 q2 q3 q4 q5 q6 q7 q8 q9 q10) (iS t) [("__class__", cc)] .none kV doc pm an (.ref cda) ct) ⟨[a, b], []⟩ = pure [(("self" : Str), a), (t.p, b)]) ∧
      (∀ env : Env, ∃ pl : Sem Bool, eval (.Call (.Attribute (.Call (.Name "super" q1) [] [] q2) "__init__" q3) [.Constant (.str t.m) j q4] [] q5) env = (do
        let ov ← attributeBase (.Call (.Name "super" q1) [] [] q2) "__init__" env (eval (.Call (.Name "super" q1) [] [] q2) env)
        standAt q3.atName
        let (f, first) ← holding [ov] (getMethod ov "__init__" pl)
        callWith q5 f first (backTo q5 (starEach [.Constant (.str t.m) j q4] env)) []))
  top : (prog.main.scope.names.lookup ("super" : Str)).isSome = false
theorem one_size (v : Value) : [v].length ≤ sizeLine := by
  rw [sizeLine_eq]
  exact (by decide : 1 ≤ 16777216)
/-- what __init__ leaves of a fresh exception at x -/
structure InitEnd (h h' : Heap) (f : Str) (x C dx t1 : Addr) (v : Value) : Prop where
  keep : ∀ b o, b ≠ x → h.get? b = some o → h'.get? b = some o
  obj : h'.get? x = some { cls := .ref C, dict := some dx, data := .fields #[.ref t1, .none, .none, .none, .bool false, .none] }
  dbig : h.objs.size ≤ dx
  dne : dx ≠ x
  ns : h'.Ns1 dx (fun y => if y = f then some v else none)
/-- a made error -/
structure OwnMade (h h' : Heap) (f : Str) (e C d : Addr) (v : Value) : Prop where
  keep : ∀ b o, h.get? b = some o → h'.get? b = some o
  new : h.objs.size ≤ e
  obj : ∃ oe vs, h'.get? e = some oe ∧ oe.cls = .ref C ∧ oe.dict = some d ∧ oe.data = .fields vs ∧ vs[1]? = some .none
  dbig : h.objs.size ≤ d
  dne : d ≠ e
  ns : h'.Ns1 d (fun y => if y = f then some v else none)
section
variable {prog : Program} {w : World} {A : Around} {E : Value → Shared → Prop} {R : Result → Shared → Prop} {s : Shared} {K : Frag} {mg mb : Str → Option Value} {t : Txt} {C fI : Addr}
theorem sup_init (T : Has prog K mg t C fI) {x t0 : Addr} {v : Value} (X : K.In s.heap) (hlim : s.heap.NoLimit) (hg : s.heap.Ns mainGlobals mg) (hb : s.heap.Ns builtinsNs mb) (hsb : mb "super" = some (.type "super")) (hx : s.heap.get? x = some (excO C t0)) (hnx : K.lookup x = none) (hroom : A.depth < recursionLimit)
    (hq : ∀ h' tk dx t1, InitEnd s.heap h' t.f x C dx t1 v → R (.ok (.ret .none)) { s with heap := h', toks := tk }) :
    codeAny (model prog w) A (.call (.ref fI) ⟨[.ref x, v], []⟩) R s := by
  obtain ⟨cc, cda, oc, ccl, cl, od, cdd, cld, kV, doc, pm, an, ct, osl, ccs, csl, vs, file, tf, qual, j, p1, p2, q1, q2, q3, q4, q5, q6, q7, q8, q9, q10, ho, hcd, hcode, hvs, hfile, hcell, hbind, hev⟩ := T.fn
  obtain ⟨nm, q, N, bs, bm, sn, sub, ab, col, dd, k0, k1, k2, k3, k5, hC, hbm⟩ := T.cls
  have hcl : clsIn K C = some { name := nm, bases := bs, mro := .ref C :: bm, ns := N, qualname := q, hasDict := true, slotNames := sn, subclasses := sub, abstract := ab, collection := col, hasDel := false } := by unfold clsIn; rw [hC] <;> rfl
  have nps : ((PySem.Str.ofString "self" : Str) == t.p) = false := by
    rw [beq_eq_false_iff_ne]
    exact fun e => T.pn.2 e.symm
  have nps2 : (t.p == (PySem.Str.ofString "self" : Str)) = false := by
    rw [beq_eq_false_iff_ne]
    exact T.pn.2
  have lself := T.lself
  have lp := T.lp
  refine ks_codeAny_call_defAt (binds := [("self", .ref x), (t.p, v)]) hroom (X _ _ ho) rfl hlim (codeRec_of X hcd) rfl (BindsTo.of_eq ?_) (by intro y hy; unfold iS at hy; simp at hy; rcases hy with rfl | rfl | rfl | rfl <;> simp) (by
    intro y hy
    rcases List.mem_cons.mp hy with e | hy
    · rw [e]; exact lself
    · rw [List.mem_singleton.mp hy]; exact lp) (fun h₁ hn k => ?_) rfl rfl rfl
  · exact hbind _ _
  have hxL : x ≠ s.heap.objs.size := Nat.ne_of_lt (Heap.lt_size hx)
  have F : Fr (hideAll s.heap [x]) s.heap.objs.size h₁ (fun y => ([(("self" : Str), Value.ref x), (t.p, v)] : List (Str × Value)).reverse.lookup y) := ⟨hn, fun b o e => k b o (of_hideAll _ e), Nat.le_of_eq (hideAll_size _ _)⟩
  have Nw : News (hideAll s.heap [x]) s.heap.objs.size h₁ [(x, excObj C t0 none .none)] := fun p hp => by
    rw [List.mem_singleton.mp hp]
    exact ⟨k _ _ hx, hxL, hideAll_none _ List.mem_cons_self⟩
  have X₀ : K.In (hideAll s.heap [x]) := fun a o e => hideAll_get _ (X a o e) fun m => by
    rw [List.mem_singleton.mp m, hnx] at e
    cases e
  have mself : (fun y => ([(("self" : Str), Value.ref x), (t.p, v)] : List (Str × Value)).reverse.lookup y) "self" = some (.ref x) := by
    show List.lookup ("self" : Str) [(t.p, v), (("self" : Str), Value.ref x)] = _
    simp only [List.lookup, nps, beq_self_eq_true]
  have mp : (fun y => ([(("self" : Str), Value.ref x), (t.p, v)] : List (Str × Value)).reverse.lookup y) t.p = some v := by
    show List.lookup t.p [(t.p, v), (("self" : Str), Value.ref x)] = _
    simp only [List.lookup, beq_self_eq_true]
  generalize (fun y => ([(("self" : Str), Value.ref x), (t.p, v)] : List (Str × Value)).reverse.lookup y) = mm at F mself mp hn
  have X₁ : K.In h₁ := X₀.keeps F.keep
  have I : InstAt h₁ x (excObj C t0 none .none) C none := ⟨k _ _ hx, rfl, rfl, trivial⟩
  have hC1 := X₁ _ _ hC
  -- super()
  obtain ⟨oD, hD1, hD2⟩ : ∃ oD, h₁.get? C = some oD ∧ oD.data = .cls { name := nm, bases := bs, mro := .ref C :: bm, ns := N, qualname := q, hasDict := true, slotNames := sn, subclasses := sub, abstract := ab, collection := col, hasDel := false } := ⟨_, hC1, rfl⟩
  obtain ⟨pl, hpl⟩ := hev (callEnv (fnX "__init__" qual (iA t p1 p2) (iB t j q1 q2 q3 q4 q5 q6 q7 q8 q9 q10) (iS t) [("__class__", cc)] .none kV doc pm an (.ref cda) ct) s.heap.objs.size fI)
  refine ks_wpAt_execs_cons (ks_wpAt_Expr_any (ks_wpAt_MethodCall (pl := pl) ?_ hpl))
  refine ks_wpAt_super_base T.lsup T.lcls rfl rfl (X₁ _ _ ho) rfl rfl rfl (X₁ _ _ hcode) rfl hvs hfile T.top ?_
  refine ks_loadName_global rfl T.lsup (loadGlobal_builtin (hg.keeps k) T.gS (hb.keeps k) hsb ⟨rfl, ?_⟩)
  refine wpAny_loadName_free rfl T.lcls rfl ⟨_, X₁ _ _ hcell, rfl⟩ ?_
  refine wpAny_loadName_local rfl lself hn mself ?_
  refine ks_wpAny_isType_cls hD1 hD2 ⟨rfl, ?_⟩
  refine ks_wpAny_call_super hD1 hD2 I.at_ I.cls (fun c e => by cases e) (looks_mroIn X₁ T.mro) (fun h₂ e2 kk => ?_)
  obtain ⟨F2, N2, _⟩ := ks_newsPush (s := { s with heap := h₁, toks := s.toks + 2 }) F Nw rfl e2 kk
  refine kxs_method (s := { s with heap := h₂, toks := s.toks + 2 }) kxs_ValueError F2 X₀ N2 List.mem_cons_self (ox := excObj C t0 none .none) (odx := none) ⟨kk _ _ I.at_, rfl, rfl, trivial⟩ T.tp T.sup T.sVE rfl (fun u h₃ F3 N3 _ => ?_)
  refine kxs_callWith1 N3 List.mem_cons_self ?_
  refine spliced_cons (Constant_str (k := j) (pos := q4) ?_)
  refine spliced_nil ⟨kxs_at N3 List.mem_cons_self, ?_⟩
  refine kxs_call F3 X₀ N3 PySem.F.excBase_ValueError T.ini List.mem_cons_self (.tail ?_ (.tail ?_ (.head (fun p hp => nomatch hp)))) (one_size _) (fun t1 h₄ F4 N4 _ => ?_)
  · exact fun e => by
      have q := (N3 (u, kxs_mw "ValueError.__init__" x) List.mem_cons_self).1
      have q2 := (N3 (x, excObj C t0 none .none) (by simp)).1
      rw [show u = x from e] at q
      rw [q] at q2
      cases q2
  · exact fun e => by
      have q := (N3 (_, ks_superObj C x C) (List.mem_cons_of_mem _ List.mem_cons_self)).1
      have q2 := (N3 (x, excObj C t0 none .none) (by simp)).1
      rw [show _ = x from e] at q
      rw [q] at q2
      cases q2
  · -- self.f = p
    have hx4 : h₄.get? x = some (excObj C t1 none .none) := (N4 (x, excObj C t1 none .none) (by simp)).1
    have X₄ : K.In h₄ := X₀.keeps F4.keep
    refine wpAt_of_wpAny (wpAny_execs_cons (plainObj_wpAny_Assign_Attribute ?_))
    refine wpAny_Name (wpAny_loadName_local rfl lp F4.ns mp ?_) T.pn.1
    refine wpAny_Name (wpAny_loadName_local rfl lself F4.ns mself ?_) (by decide)
    refine set_plain X₄ (ox := excObj C t1 none .none) (od := none) ⟨hx4, rfl, rfl, trivial⟩ T.sa ?_
    refine exc_osa X₄ hx4 hcl (show refsVE (.ref C :: bm) = true from hbm) rfl T.noN (fun h₅ tk₅ dx k₅ dn dne hx5 hn5 => ?_)
    refine wpAny_execs_nil (hq h₅ tk₅ dx t1 ⟨fun b o hb e => k₅ b o hb (F4.keep b o (hideAll_get _ e fun m => hb (List.mem_singleton.mp m))), hx5, ?_, dne, hn5⟩)
    have z : s.heap.objs.size < h₄.objs.size := F4.ns.lt
    exact Nat.le_of_lt (Nat.lt_of_lt_of_le z dn)
/-- C(e): a new error with its field -/
theorem sup_made (T : Has prog K mg t C fI) {v : Value} (X : K.In s.heap) (hlim : s.heap.NoLimit) (hg : s.heap.Ns mainGlobals mg) (hb : s.heap.Ns builtinsNs mb) (hsb : mb "super" = some (.type "super")) (hroom : A.depth + 1 < recursionLimit)
    (hq : ∀ h' tk e d, OwnMade s.heap h' t.f e C d v → R (.ok (.ret (.ref e))) { s with heap := h', toks := tk }) :
    codeAny (model prog w) A (.call (.ref C) ⟨[v], []⟩) R s := by
  obtain ⟨nm, q, N, bs, bm, sn, sub, ab, col, dd, k0, k1, k2, k3, k5, hC, hbm⟩ := T.cls
  obtain ⟨hp, g, dr, tk, os⟩ := s
  have k : ∀ b o, hp.get? b = some o → ((hp.push (kdv_tup [v])).push (excO C hp.objs.size)).get? b = some o := fun b o e => Heap.get?_push_of_some _ (Heap.get?_push_of_some _ e)
  have hget : ((hp.push (kdv_tup [v])).push (excO C hp.objs.size)).get? (hp.objs.size + 1) = some (excO C hp.objs.size) := by heap_get
  have hnx : K.lookup (hp.objs.size + 1) = none := by
    cases e : K.lookup (hp.objs.size + 1) with
    | none => rfl
    | some o =>
      have z : hp.get? (hp.objs.size + 1) = some o := X _ _ e
      exact absurd (Nat.lt_of_succ_lt (Heap.lt_size z)) (Nat.lt_irrefl _)
  refine call_own F.excBase_ValueError (fun X => refsVE_contains X bm hbm) (X _ _ hC) (looks_findIn X T.iC) (fun self => bind_fn X self T.tC) (one_size v) ?_
  refine sup_init (s := ⟨(hp.push (kdv_tup [v])).push (excO C hp.objs.size), g, dr, tk, os⟩) T (X.keeps k) (hlim.keeps k) (hg.keeps k) (hb.keeps k) hsb hget hnx ?_ fun h' tk' dx t1 ⟨k', hx, dn, dne, hns⟩ => ?_
  · show A.depth + 1 < recursionLimit
    exact hroom
  · have old : ∀ b o, hp.get? b = some o → h'.get? b = some o := fun b o e => k' b o (Nat.ne_of_lt (Nat.lt_succ_of_lt (Heap.lt_size e))) (k b o e)
    have z : hp.objs.size + 1 + 1 ≤ dx := by
      first
        | (simpa only [Heap.size_push] using dn)
        | exact dn
        | (have q := dn; rw [Heap.size_push, Heap.size_push] at q; exact q)
    exact ⟨rfl, hq h' tk' (hp.objs.size + 1) dx ⟨old, Nat.le_succ _, ⟨_, _, hx, rfl, rfl, rfl, rfl⟩, Nat.le_trans (Nat.le_trans (Nat.le_succ _) (Nat.le_succ _)) z, dne, hns⟩⟩
end
end SupX
end PySem
set_option Elab.async false
set_option linter.all false
set_option maxRecDepth 100000
set_option maxHeartbeats 4000000
namespace PySem.W
open PySem PySem.Spec PySem.Calls PyProof.Rows
section
variable {prog : Program} {w : World} {A : Around} {E : Value → Shared → Prop} {s : Shared} {K : Frag} {x D : Addr} {ox : Obj} {od : Option Obj}
theorem find_data_any {C : Addr} {name : Str} {a g : Value} (h1 : (clsIn K C).isSome = true) (h2 : findIn K (.ref C) name = some (some a)) (h3 : specialIn K a "__get__" = some (some g)) (h4 : takesIn K a = some true) : findObj K C od name = some (.bind g a) := by
  cases e : clsIn K C with
  | none =>
    rw [e] at h1
    cases h1
  | some cd =>
    unfold findObj
    rw [e, Option.bind_some, h2, Option.bind_some]
    simp [h3, h4]
theorem own_class_any {Q : Option Value → Shared → Prop} (C : L2.ExcC K D) (X : K.In s.heap) (I : InstAt s.heap x ox D od) (h : Q (some (.ref D)) { s with toks := s.toks + 1 }) : wpAny (model prog w) A (getAttr? (.ref x) "__class__") Q E s := by
  have hfo : findObj K D od "__class__" = some (.bind (.builtin "getset_descriptor.__get__") (.builtin "object.__class__")) := find_data_any (by
    obtain ⟨cd, hc, _⟩ := any_some C.hd
    rw [hc]
    rfl) C.ha C.hn C.ht
  obtain ⟨hp, g, d, t, os⟩ := s
  have la := I.type (M := model prog w)
  have lb := looks_findIn (M := model prog w) X C.hg
  have lc := looks_findIn (M := model prog w) X C.hk
  have ld := looks_find (M := model prog w) X I hfo
  have sub : Looks (model prog w) hp (isInstance (.ref x) (.type "BaseException")) true := la.andThen (looks_subIn X C.hs)
  have z0 : (false && onTheHeap (Value.builtin "BaseException.__getattribute__")) = false := rfl
  have z2 : (Value.builtin "BaseException.__getattribute__" == Value.builtin "object.__getattribute__") = false := by decide +kernel
  have z1 : (onTheHeap (Value.ref D) && Value.builtin "BaseException.__getattribute__" == Value.builtin "object.__getattribute__") = false := by
    rw [z2]
    rfl
  unfold getAttr?
  unfold getAttrBy?
  unfold getAttrBy
  refine wpAny_bind (wpAny_mkText (wpAny_bind (wpAny_attempt (wpAny_holding (wpAny_bind (la.at (wpAny_bind (lb.at ?_))))))))
  show wpAny _ _ (if (onTheHeap (Value.ref D) && Value.builtin "BaseException.__getattribute__" == Value.builtin "object.__getattribute__") = true then _ else _) _ _ _
  rw [z1, if_neg Bool.false_ne_true]
  unfold getAttrByItsOwn
  unfold hookBefore
  refine wpAny_bind ?_
  rw [if_pos (show onTheHeap (Value.ref D) = true from rfl)]
  refine lc.at (wpAny_bind (wpAny_attempt (wpAny_holding ?_)))
  unfold callGetattribute
  rw [z0, if_neg Bool.false_ne_true]
  unfold boundAndCalled
  rw [PySem.F.excAttr_ValueError.ga.bind (.ref x)]
  refine wpAny_bind (wpAny_pure ?_)
  show wpAny _ _ (call (.builtin "BaseException.__getattribute__") [.ref x, .str "__class__" t]) _ _ _
  refine wpAny_call (codeAny_call_builtin PySem.F.excAttr_ValueError.ga.plain PySem.F.entry_bexc_ga ?_)
  refine @check_slot (model prog w) _ _ ⟨hp, g, d, t + 1, os⟩ "BaseException.__getattribute__" "BaseException" "__getattribute__" (.ref x) [.str "__class__" t] [] _ (by decide +kernel) (by decide +kernel) sub (PySem.F.args_bexc_ga (.ref x) (.str "__class__" t)) ?_
  unfold Builtin.«object.__getattribute__»
  refine wpAny_bind (wpAny_of_eq (a := ((Value.ref x : Value), [Value.str "__class__" t])) (by first | rfl | (simp only [slotArgs]; rfl)) ?_)
  refine wpAny_bind (wpAny_pure (wpAny_bind (la.at (wpAny_bind (ld.at ?_)))))
  show wpAny _ _ (holding [Value.builtin "object.__class__"] (call (.builtin "getset_descriptor.__get__") [.builtin "object.__class__", .ref x, .ref D]) >>= ret) _ _ _
  refine wpAny_bind (wpAny_holding (wpAny_call (class_get (s := ⟨hp, g, d, t + 1, os⟩) (ox := ox) (od := od) X I C.hm ?_)))
  refine wpAny_pure ?_
  show wpAny _ _ (handedOut (.ref D)) _ _ _
  rw [handedOut_of (v := .ref D) rfl]
  first
    | exact wpAny_pure (wpAny_pure h)
    | exact wpAny_pure h
    | exact wpAny_pure (wpAny_bind (wpAny_pure (wpAny_pure h)))
theorem kit_exc_any (C : L2.ExcC K D) : KitX K (.ref x) (.ref D) (fun h => InstAt h x ox D od) where
  ty := fun _ _ _ I => I.type
  it := fun _ _ X _ => by
    obtain ⟨cd, hc, _⟩ := any_some C.hd
    unfold clsIn at hc
    split at hc
    · rename_i ho
      intro A' Q' E' s' k q
      unfold isType
      unfold loadHead
      exact wpAny_bind (wpAny_loadPart (k _ _ (X _ _ ho)) (wpAny_pure q))
    · cases hc
  ne := fun h tp dd its n sl X htp => by
    obtain ⟨cd, hc, _⟩ := any_some C.hd
    refine Bool.eq_false_iff.mpr fun q => ?_
    obtain rfl : D = tp := Value.ref.inj (beq_iff_eq.mp q)
    unfold clsIn at hc
    split at hc
    · rename_i ho
      have z := (X _ _ ho).symm.trans htp
      cases z
    · cases hc
  ca := fun X I k => own_class_any C X I k
end
end PySem.W
namespace Own
open PySem PySem.Spec PyProof.Rows L2 LamX
theorem relO_one {f : Str} {v : V} {u : Value} (r : RelV v u) (y : Str) : RelO (List.lookup y [(f, v)]) (if y = f then some u else none) := by
  by_cases h : y = f
  · subst h
    rw [if_pos rfl]
    have q : List.lookup y [(y, v)] = some v := by simp [List.lookup]
    rw [q]
    exact r
  · rw [if_neg h]
    have e : (y == f) = false := by simpa using h
    have q : List.lookup y [(f, v)] = none := by simp [List.lookup, e]
    rw [q]
    trivial
section
variable {X : Cx} {C fI : Addr}
/-- x(e), x such an error class -/
def tMkS (C : Addr) (f : Str) (ta : TA) : L2.St → Hp → XK → Prop := fun σ H Q => ta σ H fun vs H1 => ∃ v, vs = [v] ∧ ∀ d, H1 d = none → Q (.ref C) (some d) (upd H1 d (.xd [(f, v)]))
theorem pmk_sup {t : SupX.Txt} {a : Expr} {ta : TA} {p pos : Pos} {k : Nat} (T : SupX.Has X.prog X.K X.mg t C fI) (hr : Room k X.A) (ha : PA X [a] ta) (hg : Gl X t.x) (hdb : (t.x == ("__debug__" : Str)) = false)
    (he : starEach (a :: []) X.env = (false, eval a X.env) :: starEach [] X.env := by rfl) (hpl : (backTo pos (starEach [] X.env)).any (·.1) = false := by rfl) : PMk X (.Call (.Name t.x p) [a] [] pos) (tMkS C t.f ta) := by
  intro pins s σ H Q I h
  refine wpAny_Call_Name_kw (ld_glob I hg T.gC ?_ hdb)
  refine PySem.W.callWith_K (h₀ := X.base) I.ok.mod.kin T.kC (thn (ha.run pos pins s σ H _ I h) fun us s1 ⟨vs, H1, I1, r1, v, ev, q1⟩ => ?_) he hpl
  subst ev
  refine ⟨I1.kIn, ?_⟩
  obtain ⟨v1, rfl, rv⟩ := vals1 r1
  show wpAny _ _ (call (.ref C) [v1]) _ _ _
  have hlim := I1.nolimit
  obtain ⟨mb, hmb, hbo⟩ := I1.ok.mod.blt
  have hNs := I1.ok.mod.glob.keeps I1.bk
  have hBs := hmb.keeps I1.bk
  obtain ⟨hp, g, dr, tk, os⟩ := s1
  refine wpAny_call (SupX.sup_made T I1.kIn hlim hNs hBs ((hbo "super" (by decide)).trans (by decide +kernel)) (by have := hr.dp; omega) fun h1 tk1 e d M => ?_)
  show MkP X pins σ Q (.ref e) ⟨h1, g, dr, tk1, os⟩
  obtain ⟨oe, fv, hoe, hc, hd, hdat, hn1⟩ := M.obj
  have hns := M.ns
  obtain ⟨G1, g1, g2⟩ := restrict h1 fun b => decide (b ≠ e)
  have gk : ∀ b, b ≠ e → G1.get? b = h1.get? b := fun b hb => g1 b (decide_eq_true hb)
  have ge : G1.get? e = none := g2 e (by simp)
  have old : ∀ b o, hp.get? b = some o → G1.get? b = some o := fun b o q => (gk b (Nat.ne_of_lt (Nat.lt_of_lt_of_le (Heap.lt_size q) M.new))).trans (M.keep b o q)
  have ob : ObjOk X.prog X.w (upd H1 d (.xd [(t.f, v)])) G1 d (.xd [(t.f, v)]) := ⟨_, hns.at (fun o q => (gk d M.dne).trans q), fun y => relO_one rv y⟩
  have J : Inv X pins σ (upd H1 d (.xd [(t.f, v)])) ⟨G1, g, dr, tk1, os⟩ := I1.laid (t' := tk1) old M.dbig ob
  refine ⟨e, oe, fv, ⟨G1, g, dr, tk1, os⟩, _, .ref C, some d, rfl, J, fun b o q => ?_, ge, hoe, ⟨hc, hd⟩, hdat, hn1, ?_, rfl, I1.bare, raises_own T.exC T.tyC, q1 d (I1.hok.fresh M.dbig)⟩
  · by_cases hb : b = e
    · have q2 : G1.get? b = some o := q
      rw [hb, ge] at q2
      cases q2
    · exact (gk b hb).symm.trans q
  · rw [upd_ne (Ne.symm M.dne)]
    exact I1.hok.fresh M.new
/-- e.f, e an error that was caught and kept -/
def tKf (K : PySem.W.Frag) (f : Str) (te : TE) : TE := fun σ H Q => te σ H fun x H1 => ∃ (a C dd : Addr) (fs : List (Str × V)) (v : V), x = .ref a ∧ H1 a = some (Caught (.ref C) (some dd) a) ∧ XfC K C ∧ PySem.W.findIn K (.ref C) f = some none ∧ H1 dd = some (.xd fs) ∧ fs.lookup f = some v ∧ Q v H1
theorem pe_kf {e : Expr} {te : TE} {pos : Pos} {n : Str} (he : PE X e te) (hb : attributeBase e n X.env (eval e X.env) = eval e X.env := by rfl) : PE X (.Attribute e n pos) (tKf X.K n te) := by
  constructor
  intro pins s σ H Q I h
  refine attr_of hb (thn (he.run pins s σ H _ I h) fun u s1 ⟨x, H1, I1, rx, a, C, dd, fs, v, ex, ea, T, hno, ed, l, q⟩ => ?_)
  subst ex
  obtain rfl : u = Value.ref a := rx
  obtain ⟨⟨oe, ho, hz, vs, hd⟩, _, _⟩ := I1.hok a _ ea
  obtain ⟨mA, hns, hr⟩ := (show ObjOk X.prog X.w H1 s1.heap dd (.xd fs) from I1.hok dd _ ed)
  obtain ⟨od, hod, hl⟩ := lookIn_ns hns
  obtain ⟨u, hu, ru⟩ := RelO.some_of (v := v) (o := mA n) (by rw [← l]; exact hr n)
  have J : PySem.W.InstAt s1.heap a oe C (some od) := ⟨ho, hz.1, by unfold PySem.W.notCls; rw [hd] <;> rfl, by rw [hz.2]; exact hod⟩
  exact HandSPX.exc_get I1.kIn J T.ga T.gg T.exC (PySem.W.findObj_own T.hdC hno rfl (by rw [hl, hu])) (handed_of ru) ⟨v, H1, I1.tok _, ru, q⟩
/-- isinstance(e, c), e an error with fields that was caught and kept -/
def rIsD (K : PySem.W.Frag) : List V → Hp → VK → Prop := fun xs H Q => ∃ (a D dd : Addr) (fs : List (Str × V)) (c : V) (cv : Value) (b : Bool), xs = [.ref a, c] ∧ H a = some (Caught (.ref D) (some dd) a) ∧ H dd = some (.xd fs) ∧ ExcC K D ∧ ClsV c cv ∧ PySem.W.kitOne K (.ref D) cv = some b ∧ Q (.bl b) H
theorem call_isD : CallR X (.builtin "isinstance") (rIsD X.K) := by
  intro pins s σ H xs us Q I r h
  obtain ⟨a, D, dd, fs, c, cv, b, rfl, ha, hdd, C, k, e, q⟩ := h
  obtain ⟨u1, u2, rfl, r1, r2⟩ := vals2 r
  have e2 := k.eq r2
  subst e2
  cases (show u1 = Value.ref a from r1)
  obtain ⟨⟨oe, ho, hz, vs, hv⟩, _, _⟩ := I.hok a _ ha
  obtain ⟨mA, hns, hr⟩ := (show ObjOk X.prog X.w H s.heap dd (.xd fs) from I.hok dd _ hdd)
  obtain ⟨od, hod, hl⟩ := lookIn_ns hns
  have J : PySem.W.InstAt s.heap a oe D (some od) := ⟨ho, hz.1, by unfold PySem.W.notCls; rw [hv] <;> rfl, by rw [hz.2]; exact hod⟩
  exact PySem.W.kia_one (PySem.W.kit_exc_any C) I.kIn J e (fun z => nomatch z) fun tk => ⟨.bl b, H, I.tok tk, rfl, q⟩
end
end Own
set_option Elab.async false
set_option linter.all false
set_option maxRecDepth 100000
set_option maxHeartbeats 1000000
namespace Own
open PySem PySem.Spec PyProof.Rows L2
/-! ### a hook that also holds the statics, and tells of functions with closures -/
abbrev InitW : Type := Option (Str × Str × Arguments × FuncBody × Scope × Addr × List Str × Addr)
def initW (K : PySem.W.Frag) (p : He.Defn) : InitW := match K.lookup (He.fAd K p) with
  | some ⟨_, _, .func fd, _⟩ => some (fd.name, fd.qualname, fd.params, fd.body, fd.scope, fd.globals, fd.closure.map (·.1), fd.builtins)
  | _ => none
def KOf (n : Nat) (g : Addr → Option Obj) : PySem.W.Frag := He.frT g (cStatics :: He.asD g n)
abbrev AlY : Type := He.AlX × List InitW
def obsY (n : Nat) (fa : List He.Fa) (fn : List He.DefD) (tf : List He.Defn) (ex : PySem.W.Frag → Bool) (ini : List (He.Defn × InitW)) (g : Addr → Option Obj) : AlY :=
  ((He.obsT fa fn [] (KOf n g), ex (KOf n g) && He.tabsB g tf (KOf n g)), ini.map fun p => initW (KOf n g) p.1)
def valY (fn : List He.DefD) (ini : List (He.Defn × InitW)) (w : World) : AlY := (He.valX fn [] w, ini.map (·.2))
structure SaysY (fa : List He.Fa) (fn : List He.DefD) (tf : List He.Defn) (ex : PySem.W.Frag → Bool) (ini : List (He.Defn × InitW)) (w : World) (h : Heap) (K : PySem.W.Frag) : Prop where
  x : He.SaysX fa fn [] tf ex w h K
  i : ∀ p ∈ ini, initW K p.1 = p.2
theorem map_mem_eq {α β : Type} {f g : α → β} : ∀ {l : List α}, l.map f = l.map g → ∀ p ∈ l, f p = g p
  | [], _, p, hp => by cases hp
  | a :: r, h, p, hp => by
    injection h with h1 h2
    rcases List.mem_cons.mp hp with rfl | hp
    · exact h1
    · exact map_mem_eq h2 p hp
theorem saysY_of {n : Nat} {fa : List He.Fa} {fn : List He.DefD} {tf : List He.Defn} {ex : PySem.W.Frag → Bool} {ini : List (He.Defn × InitW)} {w : World} {h : Heap} (e : obsY n fa fn tf ex ini h.get? = valY fn ini w) : SaysY fa fn tf ex ini w h (KOf n h.get?) := by
  have eT : He.obsT fa fn [] (KOf n h.get?) = He.valT fn [] w := congrArg (fun z : AlY => z.1.1) e
  have eB : (ex (KOf n h.get?) && He.tabsB h.get? tf (KOf n h.get?)) = true := congrArg (fun z : AlY => z.1.2) e
  have eI : ini.map (fun p => initW (KOf n h.get?) p.1) = ini.map (·.2) := congrArg (fun z : AlY => z.2) e
  obtain ⟨b1, b2⟩ := He.ba eB
  have one : ∀ p ∈ tf, PySem.W.codeHdIn (KOf n h.get?) (He.cT (KOf n h.get?) p).1 (He.cT (KOf n h.get?) p).2 = true ∧ ∃ o, h.get? (He.cT (KOf n h.get?) p).2 = some o ∧ He.emptyTab o = true := fun p hp => by
    obtain ⟨c1, c2⟩ := He.ba (List.all_eq_true.mp b2 p hp)
    refine ⟨c1, ?_⟩
    cases q : h.get? (He.cT (KOf n h.get?) p).2 with
    | none => rw [q] at c2; cases c2
    | some o => rw [q] at c2; exact ⟨o, rfl, c2⟩
  refine ⟨⟨eT, b1, fun p hp => (one p hp).1, fun p hp => ?_, fun p hp => ?_⟩, fun p hp => map_mem_eq eI p hp⟩
  · obtain ⟨_, o, q, z⟩ := one p hp
    exact He.frT_none q z
  · obtain ⟨_, o, q, z⟩ := one p hp
    rw [q, He.emptyTab_eq z]
def hookY (n : Nat) (fa : List He.Fa) (fn : List He.DefD) (tf : List He.Defn) (ex : PySem.W.Frag → Bool) (ini : List (He.Defn × InitW)) : PySem.W.Hook where
  α := AlY
  obs := fun s => obsY n fa fn tf ex ini s.heap.get?
  val := fun w => valY fn ini w
  says := fun w h => ∃ K : PySem.W.Frag, K.In h ∧ SaysY fa fn tf ex ini w h K
  of := fun _ _ e => ⟨_, He.frT_in, saysY_of e⟩
  keeps := fun _ _ _ z k => by
    obtain ⟨K, inK, c⟩ := z
    exact ⟨K, PySem.W.Frag.In.keeps inK k, ⟨⟨c.x.t, c.x.more, c.x.hd, c.x.out, fun p hp => k _ _ (c.x.empty p hp)⟩, c.i⟩⟩
theorem obsY_eq {n : Nat} {fa : List He.Fa} {fn : List He.DefD} {tf : List He.Defn} {ex : PySem.W.Frag → Bool} {ini : List (He.Defn × InitW)} {g : Addr → Option Obj} {s : Shared} (h : ∀ a, g a = s.heap.get? a) : obsY n fa fn tf ex ini g = (hookY n fa fn tf ex ini).obs s := by
  have e : g = s.heap.get? := funext h
  subst e
  rfl
/-! ### what the head says of an error class with one field -/
def clsB (K : PySem.W.Frag) (C : Addr) : Bool := match K.lookup C with
  | some ⟨.type "type", _, .cls cd, sl⟩ => (match cd.mro, sl.toList with
    | .ref C2 :: bm, [_, _, _, _, some (.builtin m), _] => decide (C2 = C) && (decide (m = "ValueError.__new__") && (!cd.hasDel && (cd.hasDict && PySem.HandSPX.refsVE bm)))
    | _, _ => false)
  | _ => false
theorem clsB_ok {K : PySem.W.Frag} {C : Addr} (h : clsB K C = true) : ∃ nm q N bs bm sn sub ab col dd k0 k1 k2 k3 k5, K.lookup C = some (PySem.excClassObj nm q C N bs bm true sn sub ab col dd k0 k1 k2 k3 k5 "ValueError.__new__") ∧ PySem.HandSPX.refsVE bm = true := by
  unfold clsB at h
  split at h
  · rename_i dd cd sl ho
    split at h
    · rename_i C2 bm k0 k1 k2 k3 m k5 hm hs
      obtain ⟨h1, h⟩ := He.ba h
      obtain ⟨h2, h⟩ := He.ba h
      obtain ⟨h3, h⟩ := He.ba h
      obtain ⟨h4, h5⟩ := He.ba h
      have e1 := of_decide_eq_true h1
      have e2 := of_decide_eq_true h2
      subst e1 e2
      obtain ⟨nm, bs, mro, ns, qn, hd, sn, sub, ab, col, del⟩ := cd
      dsimp only at hm h3 h4
      have h3' : del = false := by simpa using h3
      subst hm h3' h4
      obtain ⟨l⟩ := sl
      dsimp only at hs
      subst hs
      exact ⟨nm, qn, ns, bs, bm, sn, sub, ab, col, dd, k0, k1, k2, k3, k5, ho, h5⟩
    · cases h
  · cases h
def fileB (K : PySem.W.Frag) (a : Addr) (file : Str) : Bool := match K.lookup a with
  | some ⟨_, _, .fields vs, _⟩ => (match vs[(2 : Nat)]? with
    | some (Value.str f _) => decide (f = file)
    | _ => false)
  | _ => false
theorem fileB_ok {K : PySem.W.Frag} {a : Addr} {file : Str} (h : fileB K a file = true) : ∃ c d vs sl t, K.lookup a = some ⟨c, d, .fields vs, sl⟩ ∧ vs[2]? = some (.str file t) := by
  unfold fileB at h
  split at h
  · rename_i c d vs sl ho
    split at h
    · rename_i f t hv
      have e := of_decide_eq_true h
      subst e
      exact ⟨c, d, vs, sl, t, ho, hv⟩
    · cases h
  · cases h
def cellB (K : PySem.W.Frag) (a C : Addr) : Bool := match K.lookup a with
  | some ⟨_, _, .cell (some (.ref c)), _⟩ => decide (c = C)
  | _ => false
theorem cellB_ok {K : PySem.W.Frag} {a C : Addr} (h : cellB K a C = true) : ∃ c d sl, K.lookup a = some ⟨c, d, .cell (some (.ref C)), sl⟩ := by
  unfold cellB at h
  split at h
  · rename_i c d c2 sl ho
    have e := of_decide_eq_true h
    subst e
    exact ⟨c, d, sl, ho⟩
  · cases h
def fnB (K : PySem.W.Frag) (C fI : Addr) (file : Str) : Bool := match K.lookup fI with
  | some ⟨_, _, .func fd, _⟩ => (match fd.defaults, fd.code, fd.closure with
    | .none, .ref cda, [(_, cc)] => PySem.W.codeIn K (.ref cda) fd.qualname && (fileB K cda file && cellB K cc C)
    | _, _, _ => false)
  | _ => false
theorem fnB_ok {K : PySem.W.Frag} {C : Addr} {p : He.Defn} {file qual : Str} {params : Arguments} {body : List Stmt} {scope : Scope} (h : fnB K C (He.fAd K p) file = true) (hi : initW K p = some (("__init__" : Str), qual, params, FuncBody.stmts body, scope, mainGlobals, [("__class__" : Str)], builtinsNs)) :
    ∃ (cc cda : Addr) (oc ccl cl : Value) (od cdd cld : Option Addr) (kV doc pm : Value) (an : Option Addr) (ct : Value) (osl ccs csl : Array (Option Value)) (vs : Array Value) (tf : Tok),
      K.lookup (He.fAd K p) = some ⟨oc, od, .func (PySem.W.fnX "__init__" qual params body scope [("__class__", cc)] .none kV doc pm an (.ref cda) ct), osl⟩ ∧ PySem.W.codeIn K (.ref cda) qual = true ∧
      K.lookup cda = some ⟨ccl, cdd, .fields vs, ccs⟩ ∧ vs[2]? = some (.str file tf) ∧ K.lookup cc = some ⟨cl, cld, .cell (some (.ref C)), csl⟩ := by
  unfold fnB at h
  unfold initW at hi
  split at h
  · rename_i oc od fd osl ho
    rw [ho] at hi
    have hi2 : (fd.name, fd.qualname, fd.params, fd.body, fd.scope, fd.globals, fd.closure.map (·.1), fd.builtins) = (("__init__" : Str), qual, params, FuncBody.stmts body, scope, mainGlobals, [("__class__" : Str)], builtinsNs) := Option.some.inj hi
    split at h
    · rename_i cda n cc h1 h2 h3
      obtain ⟨g1, g⟩ := He.ba h
      obtain ⟨g2, g3⟩ := He.ba g
      obtain ⟨ccl, cdd, vs, ccs, tf, q1, q2⟩ := fileB_ok g2
      obtain ⟨cl, cld, csl, q3⟩ := cellB_ok g3
      obtain ⟨nm, qn, pr, bd, sc, gb, clo, df, kV, doc, pm, an, cd, ct, bi⟩ := fd
      dsimp only at h1 h2 h3 hi2 g1
      subst h1 h2 h3
      injection hi2 with i1 hi2
      injection hi2 with i2 hi2
      injection hi2 with i3 hi2
      injection hi2 with i4 hi2
      injection hi2 with i5 hi2
      injection hi2 with i6 hi2
      injection hi2 with i7 i8
      have en : n = ("__class__" : Str) := by
        have : [n] = [("__class__" : Str)] := i7
        injection this
      subst i1 i2 i3 i4 i5 i6 i8 en
      exact ⟨cc, cda, oc, ccl, cl, od, cdd, cld, kV, doc, pm, an, ct, osl, ccs, csl, vs, tf, ho, g1, q1, q2, q3⟩
    · cases h
  · cases h
def supB (K : PySem.W.Frag) (t : SupX.Txt) (file : Str) : Bool :=
  He.eqO (PySem.W.findIn K (.ref (He.ga K t.x)) "__setattr__") (some (some (.builtin "object.__setattr__"))) && (He.eqO (PySem.W.findIn K (.ref (He.ga K t.x)) t.f) (some none) && (He.eqO (PySem.W.findIn K (.ref (He.ga K t.x)) "__init__") (some (some (.ref (He.fAd K (t.x, some "__init__"))))) &&
  (decide (PySem.W.typeIn K (.ref (He.fAd K (t.x, some "__init__"))) = some (.type "function")) && (PySem.W.keepIn K (.ref (He.ga K t.x)) && (decide (PySem.W.subIn K (.ref (He.ga K t.x)) (.type "BaseException") = some true) && (decide (PySem.W.typeIn K (.ref (He.ga K t.x)) = some (.type "type")) &&
  (decide (PySem.W.subIn K (.ref (He.ga K t.x)) (.type "ValueError") = some true) && (decide (PySem.W.mroIn K (He.ga K t.x) (.ref (He.ga K t.x)) = some true) && (He.eqO (PySem.W.ks_superIn K (He.ga K t.x) (He.ga K t.x) "__init__") (some (some (.builtin "ValueError.__init__"))) &&
  (PySem.W.excInitIn K (He.ga K t.x) He.veBase "ValueError.__new__" && (He.eqO (PySem.W.nsIn K cStatics "thirdparty.any") (some none) && (clsB K (He.ga K t.x) && fnB K (He.ga K t.x) (He.fAd K (t.x, some "__init__")) file))))))))))))
theorem has_of {prog : Program} {K : PySem.W.Frag} {mg : Str → Option Value} {t : SupX.Txt} {file qual : Str} {j : Nat} {p1 p2 q1 q2 q3 q4 q5 q6 q7 q8 q9 q10 : Pos} (h : supB K t file = true) (gC : mg t.x = some (.ref (He.ga K t.x))) (gS : mg "super" = none) (hfile : ((prog.main.file : Str) == file) = true)
    (htop : (prog.main.scope.names.lookup ("super" : Str)).isSome = false) (hi : initW K (t.x, some "__init__") = some (("__init__" : Str), qual, SupX.iA t p1 p2, FuncBody.stmts (SupX.iB t j q1 q2 q3 q4 q5 q6 q7 q8 q9 q10), SupX.iS t, mainGlobals, [("__class__" : Str)], builtinsNs))
    (pn : (t.p == ("__debug__" : Str)) = false ∧ t.p ≠ "self") (l1 : (SupX.iS t).names.lookup ("self" : Str) = some .local) (l2 : (SupX.iS t).names.lookup t.p = some .local) (l3 : (SupX.iS t).names.lookup ("__class__" : Str) = some .free) (l4 : (SupX.iS t).names.lookup ("super" : Str) = some .globalImplicit)
    (hbind : ∀ (cl : List (Str × Addr)) (kV doc pm : Value) (an : Option Addr) (cdv ct a b : Value), bindArgs (PySem.W.fnX "__init__" qual (SupX.iA t p1 p2) (SupX.iB t j q1 q2 q3 q4 q5 q6 q7 q8 q9 q10) (SupX.iS t) cl .none kV doc pm an cdv ct) ⟨[a, b], []⟩ = pure [(("self" : Str), a), (t.p, b)])
    (hev : ∀ env : Env, ∃ pl : Sem Bool, eval (.Call (.Attribute (.Call (.Name "super" q1) [] [] q2) "__init__" q3) [.Constant (.str t.m) j q4] [] q5) env = (do
        let ov ← attributeBase (.Call (.Name "super" q1) [] [] q2) "__init__" env (eval (.Call (.Name "super" q1) [] [] q2) env)
        standAt q3.atName
        let (f, first) ← holding [ov] (getMethod ov "__init__" pl)
        callWith q5 f first (backTo q5 (starEach [.Constant (.str t.m) j q4] env)) [])) :
    SupX.Has prog K mg t (He.ga K t.x) (He.fAd K (t.x, some "__init__")) := by
  unfold supB at h
  obtain ⟨h1, h⟩ := He.ba h
  obtain ⟨h2, h⟩ := He.ba h
  obtain ⟨h3, h⟩ := He.ba h
  obtain ⟨h4, h⟩ := He.ba h
  obtain ⟨h5, h⟩ := He.ba h
  obtain ⟨h6, h⟩ := He.ba h
  obtain ⟨h7, h⟩ := He.ba h
  obtain ⟨h8, h⟩ := He.ba h
  obtain ⟨h9, h⟩ := He.ba h
  obtain ⟨h10, h⟩ := He.ba h
  obtain ⟨h11, h⟩ := He.ba h
  obtain ⟨h12, h⟩ := He.ba h
  obtain ⟨h13, h14⟩ := He.ba h
  obtain ⟨cc, cda, oc, ccl, cl, od, cdd, cld, kV, doc, pm, an, ct, osl, ccs, csl, vs, tf, r1, r2, r3, r4, r5⟩ := fnB_ok h14 hi
  exact { gC := gC, cls := clsB_ok h13, sa := He.eqO_ok h1, noN := He.eqO_ok h2, iC := He.eqO_ok h3, tC := of_decide_eq_true h4, kC := h5, exC := of_decide_eq_true h6, tyC := of_decide_eq_true h7, sVE := of_decide_eq_true h8, mro := of_decide_eq_true h9,
          sup := He.eqO_ok h10, ini := h11, tp := He.eqO_ok h12, gS := gS, pn := pn, lself := l1, lp := l2, lcls := l3, lsup := l4,
          fn := ⟨cc, cda, oc, ccl, cl, od, cdd, cld, kV, doc, pm, an, ct, osl, ccs, csl, vs, file, tf, qual, j, p1, p2, q1, q2, q3, q4, q5, q6, q7, q8, q9, q10, r1, r2, r3, r4, hfile, r5, fun a b => hbind _ _ _ _ _ _ _ a b, hev⟩, top := htop }
end Own
set_option Elab.async false
set_option linter.all false
namespace Own
open PySem TL
/-! ### wholes as texts -/
abbrev dval (d : List Nat) : Nat := NumText.digitsVal d
theorem dval_snoc (e : List Nat) (c : Nat) : dval (e ++ [c]) = dval e * 10 + (c - 48) := by
  show (e ++ [c]).foldl (fun acc c => acc * 10 + (c - 48)) 0 = _
  rw [List.foldl_append]
  rfl
def allDig (d : List Nat) : Bool := d.all fun c => decide (48 ≤ c ∧ c ≤ 57)
theorem allDig_iff {d : List Nat} : allDig d = true ↔ NumText.AllDigits d := by
  unfold allDig NumText.AllDigits
  simp [List.all_eq_true]
theorem numL_head (n : Nat) (h : 0 < n) : (numL n).head? ≠ some 48 := by
  induction n using Nat.strongRecOn with
  | _ n ih =>
    by_cases h10 : n < 10
    · rw [numL_lt h10]
      simp
      omega
    · rw [numL_step (by omega)]
      have i := ih (n / 10) (by omega) (by omega)
      rw [List.head?_append]
      cases e : (numL (n / 10)).head? with
      | none => exact absurd (List.head?_eq_none_iff.mp e) (numL_ne _)
      | some c =>
        rw [e] at i
        exact i
/-- canonical digits -/
theorem numL_dval : ∀ (k : Nat) (d : List Nat), d.length ≤ k → d ≠ [] → NumText.AllDigits d → (d.head? ≠ some 48 ∨ d = [48]) → numL (dval d) = d
  | 0, d, hk, hn, _, _ => absurd (List.length_eq_zero_iff.mp (Nat.le_zero.mp hk)) hn
  | k + 1, d, hk, hn, ha, hh => by
    rcases List.eq_nil_or_concat d with e | ⟨e, c, rfl⟩
    · exact absurd e hn
    rw [List.concat_eq_append] at *
    have hc := ha c (by simp)
    rw [dval_snoc]
    by_cases he : e = []
    · subst he
      show numL (0 * 10 + (c - 48)) = [c]
      rw [numL_lt (by omega)]
      have : 48 + (0 * 10 + (c - 48)) = c := by omega
      rw [this]
    · have hh' : e.head? ≠ some 48 := by
        rcases hh with h | h
        · intro z
          apply h
          rw [List.head?_append, z]
          rfl
        · have := congrArg List.length h
          simp at this
          exact absurd this he
      have hd : NumText.AllDigits e := fun x hx => ha x (by simp [hx])
      have ih := numL_dval k e (by simp at hk; omega) he hd (.inl hh')
      have pos : 0 < dval e := by
        refine Nat.pos_of_ne_zero fun z => ?_
        rw [z, numL_lt (by omega)] at ih
        apply hh'
        rw [← ih]
        rfl
      rw [numL_step (by omega)]
      have e1 : (dval e * 10 + (c - 48)) / 10 = dval e := by omega
      have e2 : 48 + (dval e * 10 + (c - 48)) % 10 = c := by omega
      rw [e1, e2, ih]
theorem canon {d : List Nat} (hn : d ≠ []) (ha : NumText.AllDigits d) : numL (dval d) = d ↔ (d.head? ≠ some 48 ∨ d = [48]) := by
  refine ⟨fun h => ?_, numL_dval _ d (Nat.le_refl _) hn ha⟩
  by_cases z : dval d = 0
  · rw [z, numL_lt (by omega)] at h
    exact .inr h.symm
  · left
    rw [← h]
    exact numL_head _ (by omega)
/-- the digits of a word -/
def digs (w : List Nat) : List Nat := if w.take 1 = [45] then w.drop 1 else w
def wval (w : List Nat) : Int := if w.take 1 = [45] then -(dval (digs w) : Int) else (dval (digs w) : Int)
/-- the signs of a whole -/
def intL (z : Int) : List Nat := if z < 0 then 45 :: numL z.natAbs else numL z.natAbs
/-- as the program reads a word -/
def parse (w : List Nat) : Option Int :=
  if digs w = [] ∨ allDig (digs w) = false then none else if (digs w).head? = some 48 ∧ w ≠ [48] then none else some (wval w)
theorem digs_eq {w : List Nat} : (digs w = w) ↔ ¬ w.take 1 = [45] := by
  unfold digs
  constructor
  · intro h z
    rw [if_pos z] at h
    have l := congrArg List.length h
    rw [List.length_drop] at l
    cases w with
    | nil => cases z
    | cons c r => simp at l
  · intro h
    rw [if_neg h]
theorem take_45 {w : List Nat} (h : w.take 1 = [45]) : w = 45 :: digs w := by
  unfold digs
  rw [if_pos h]
  cases w with
  | nil => cases h
  | cons c r =>
    simp at h
    rw [h]
    rfl
/-- the law's way: canonical iff the whole's text is the word -/
theorem parse_law {w : List Nat} (hn : digs w ≠ []) (ha : allDig (digs w) = true) : parse w = if intL (wval w) = w then some (wval w) else none := by
  have hA := allDig_iff.mp ha
  unfold parse
  rw [if_neg (by simp [hn, ha])]
  by_cases h45 : w.take 1 = [45]
  · have ew := take_45 h45
    have w48 : w ≠ [48] := by
      intro z
      rw [z] at h45
      simp at h45
    have ev : wval w = -(dval (digs w) : Int) := if_pos h45
    by_cases z : dval (digs w) = 0
    · have e0 : intL (wval w) = [48] := by
        rw [ev, z]
        show numL 0 = [48]
        exact numL_lt (by omega)
      rw [e0, if_neg (fun q : [48] = w => w48 q.symm)]
      have hh : (digs w).head? = some 48 := by
        cases e : digs w with
        | nil => exact absurd e hn
        | cons c r =>
          show some c = some 48
          refine Option.some_inj.mpr ?_
          by_cases hc : c = 48
          · exact hc
          · exfalso
            have hne : (digs w).head? ≠ some 48 := by
              rw [e]
              intro q
              exact hc (Option.some.inj q)
            have k := (canon hn hA).mpr (.inl hne)
            rw [z, numL_lt (by omega), e] at k
            injection k with k1 _
            exact hc k1.symm
      rw [if_pos ⟨hh, w48⟩]
    · have neg : wval w < 0 := by rw [ev]; omega
      have ea : (wval w).natAbs = dval (digs w) := by rw [ev]; omega
      have e1 : intL (wval w) = 45 :: numL (dval (digs w)) := by
        unfold intL
        rw [if_pos neg, ea]
      rw [e1]
      by_cases hh : (digs w).head? = some 48
      · rw [if_pos ⟨hh, w48⟩, if_neg]
        intro q
        rw [ew] at q
        injection q with _ q
        have q2 : numL (dval (digs w)) = digs w := by
          rw [← ew] at q
          exact q
        rw [← q2] at hh
        exact numL_head _ (by omega) hh
      · rw [if_neg (fun q => hh q.1), if_pos]
        rw [(canon hn hA).mpr (.inl hh)]
        exact ew.symm
  · have ed : digs w = w := digs_eq.mpr h45
    have ev : wval w = (dval (digs w) : Int) := if_neg h45
    have e1 : intL (wval w) = numL (dval w) := by
      rw [ev, ed]
      unfold intL
      rw [if_neg (by omega)]
      rfl
    rw [e1]
    have k := canon hn hA
    rw [ed] at k
    rw [ed]
    by_cases hc : w.head? ≠ some 48 ∨ w = [48]
    · rw [if_pos (k.mpr hc), if_neg]
      rintro ⟨a, b⟩
      rcases hc with h | h
      · exact h a
      · exact b h
    · rw [if_neg (fun q => hc (k.mp q)), if_pos]
      refine ⟨?_, fun q => hc (.inr q)⟩
      by_cases q : w.head? = some 48
      · exact q
      · exact absurd (.inl q) hc
/-- reading back what was written -/
theorem parse_intL (z : Int) : parse (intL z) = some z := by
  by_cases h : z < 0
  · have e : intL z = 45 :: numL z.natAbs := if_pos h
    have t : (intL z).take 1 = [45] := by rw [e]; rfl
    have d : digs (intL z) = numL z.natAbs := by
      unfold digs
      rw [if_pos t, e]
      rfl
    have v : wval (intL z) = z := by
      unfold wval
      rw [if_pos t, d]
      show -((NumText.digitsVal (numL z.natAbs) : Nat) : Int) = z
      rw [numL_val]
      omega
    unfold parse
    rw [if_neg, if_neg, v]
    · rw [d]
      rintro ⟨a, _⟩
      exact numL_head _ (by omega) a
    · rw [d]
      rintro (a | a)
      · exact numL_ne _ a
      · rw [allDig_iff.mpr (numL_digits _)] at a
        cases a
  · have e : intL z = numL z.natAbs := if_neg h
    have t : ¬ (intL z).take 1 = [45] := by
      rw [e]
      intro q
      have m : 45 ∈ numL z.natAbs := List.mem_of_mem_take (i := 1) (by rw [q]; simp)
      have := numL_digits _ 45 m
      omega
    have d : digs (intL z) = numL z.natAbs := (digs_eq.mpr t).trans e
    have v : wval (intL z) = z := by
      unfold wval
      rw [if_neg t, d]
      show ((NumText.digitsVal (numL z.natAbs) : Nat) : Int) = z
      rw [numL_val]
      omega
    unfold parse
    rw [if_neg, if_neg, v]
    · rw [d]
      rintro ⟨a, b⟩
      by_cases z0 : z.natAbs = 0
      · rw [e, z0, numL_lt (by omega)] at b
        exact b rfl
      · exact numL_head _ (by omega) a
    · rw [d]
      rintro (a | a)
      · exact numL_ne _ a
      · rw [allDig_iff.mpr (numL_digits _)] at a
        cases a
theorem intL_free {z : Int} {s : Nat} (h : s < 45 ∨ 57 < s) : s ∉ intL z := fun m => by
  unfold intL at m
  split at m
  · rcases List.mem_cons.mp m with q | q
    · omega
    · exact numL_free (by omega) q
  · exact numL_free (by omega) m
/-- Python's text of a whole -/
theorem tl_int (z : Int) : tl (Str.ofString (toString z)) = intL z := by
  by_cases h : z < 0
  · have e : toString z = "-" ++ toString (z.natAbs : Int) := by
      obtain ⟨n, rfl⟩ : ∃ n : Nat, z = Int.negSucc n := ⟨z.natAbs - 1, by omega⟩
      rfl
    rw [tl_ofString, e, String.toList_append, List.map_append]
    have k := tl_num z.natAbs
    rw [tl_ofString] at k
    rw [k]
    unfold intL
    rw [if_pos h]
    rfl
  · obtain ⟨n, rfl⟩ := Int.eq_ofNat_of_zero_le (show 0 ≤ z by omega)
    rw [tl_num]
    unfold intL
    rw [if_neg h]
    rfl
end Own
set_option Elab.async false
set_option linter.all false
set_option maxRecDepth 100000
set_option maxHeartbeats 4000000
namespace Own
open PySem PySem.Spec PyProof.Rows L2 LamX
/-! ### the text -/
def top (i : Nat) : Stmt := PySem.Challenge.pw_rulerchest_k65_texts_of_reckonings.main.body.getD i (.Pass ⟨0, 0, 0, 0⟩)
abbrev sWhole : Stmt := top 7
abbrev sWText : Stmt := top 8
abbrev sWOf : Stmt := top 9
abbrev sIsRow : Stmt := top 12
abbrev sIsReck : Stmt := top 13
abbrev sNeed : Stmt := top 14
abbrev sRText : Stmt := top 15
abbrev sRow : Stmt := top 16
abbrev sReck : Stmt := top 17
abbrev sBegun : Stmt := top 19
abbrev sStir : Stmt := top 20
abbrev sDraw : Stmt := top 21
abbrev sPick : Stmt := top 22
abbrev sCaught : Stmt := top 23
abbrev sLWhole : Stmt := top 24
abbrev sLRows : Stmt := top 25
abbrev sDrawn : Stmt := top 26
abbrev sWritten : Stmt := top 27
abbrev sLWOf : Stmt := top 28
abbrev sFirst : Stmt := top 29
abbrev sLong : Stmt := top 30
abbrev sBent : Stmt := top 31
abbrev sRight : Stmt := top 32
abbrev sLaw : Stmt := top 33
abbrev FnP (K : PySem.W.Frag) (x : Str) (st : Stmt) (f : Addr) (fd : FuncData) : Prop := FunD K x x (defArgs st) (defBody st) (defScope st) [] [] f fd
/-! ### kinds of values -/
/-- isinstance(x, int) is i, isinstance(x, bool) is b -/
def Kind (K : PySem.W.Frag) (H : Hp) (x : V) (i b : Bool) : Prop := ∃ t : String, TyX K H x (.type t) ∧ kitB t "int" = some i ∧ kitB t "bool" = some b
theorem Kind.int {K : PySem.W.Frag} {H : Hp} (z : Int) : Kind K H (.int z) true false := ⟨"int", .base (.int z), by decide +kernel, by decide +kernel⟩
theorem Kind.bl {K : PySem.W.Frag} {H : Hp} (z : Bool) : Kind K H (.bl z) true true := ⟨"bool", .base (.bl z), by decide +kernel, by decide +kernel⟩
theorem Kind.non {K : PySem.W.Frag} {H : Hp} : Kind K H .non false false := ⟨"NoneType", .base .non, by decide +kernel, by decide +kernel⟩
theorem Kind.str {K : PySem.W.Frag} {H : Hp} (z : Str) : Kind K H (.str z) false false := ⟨"str", .base (.str z), by decide +kernel, by decide +kernel⟩
theorem Kind.lst {K : PySem.W.Frag} {H : Hp} {a : Addr} {xs : List V} (e : H a = some (.lst xs)) : Kind K H (.ref a) false false := ⟨"list", .base (.lst e), by decide +kernel, by decide +kernel⟩
theorem Kind.tup {K : PySem.W.Frag} {H : Hp} {a : Addr} {xs : List V} (e : H a = some (.tup xs)) : Kind K H (.ref a) false false := ⟨"tuple", .base (.tup e), by decide +kernel, by decide +kernel⟩
theorem Kind.dict {K : PySem.W.Frag} {H : Hp} {a : Addr} {kvs : List (Key × V)} (e : H a = some (.dK kvs)) : Kind K H (.ref a) false false := ⟨"dict", .base (.dK e), by decide +kernel, by decide +kernel⟩
/-! ### what the walk asks of the module -/
structure Txt (K : PySem.W.Frag) (mg : Str → Option Value) : Prop where
  isi : mg "isinstance" = none
  int : mg "int" = none
  bool : mg "bool" = none
  str : mg "str" = none
  tuple : mg "tuple" = none
  abs : mg "abs" = none
  len : mg "len" = none
  range : mg "range" = none
  list : mg "list" = none
  divmod : mg "divmod" = none
  min : mg "min" = none
  enum : mg "enumerate" = none
def PAIR : List Str := ["plus", "minus", "times", "over", "hyp"]
/-- the module's constants -/
structure Cst (K : PySem.W.Frag) (mg : Str → Option Value) : Prop where
  piece : ∃ t, mg "PIECE" = some (.int 64 t)
  digits : ∃ t, mg "DIGITS" = some (.str "0123456789" t)
  paired : ∃ p, mg "PAIRED" = some (.ref p) ∧ ∀ H, SqT K H p (PAIR.map V.str)
def spWhole (K : PySem.W.Frag) : Sp := fun vs H Q _ => ∃ x i b, vs = [x] ∧ Kind K H x i b ∧ Q (.bl (i && !b)) H
section
variable {P : Program} {w : World} {K : PySem.W.Frag} {mg : Str → Option Value} {base : Heap} {f : Addr} {fd : FuncData}
theorem scWhole : FnScope ["value"] ["value"] (defScope sWhole) := ⟨rfl, rfl, rfl, by decide +kernel, rfl, by decide +kernel, by decide +kernel⟩
theorem ok_whole (F : FnP K "is_whole" sWhole f fd) (T : Txt K mg) : FnOk P w K mg base CX0 1 f fd ["value"] (spWhole K) := by
  refine F.ok scWhole (fun vs H Q E h => ?_) (fun cdv A outer s H vs Q E hr h => ?_)
  · obtain ⟨x, i, b, rfl, _⟩ := h
    rfl
  · obtain ⟨x, i, b, rfl, ⟨t, ty, e1, e2⟩, k⟩ := h
    refine ⟨_, PSs.nox (pss_one (ps_ret (pe_and (pe_callB call_isi (by rfl) T.isi boot_isinstance (pa_cons (pv 0) (pa_cons (pe_bltn (v := .ty "int") (by rfl) T.int boot_int rfl) pa_nil)))
      (pe_one (pe_not (pe_callB call_isi (by rfl) T.isi boot_isinstance (pa_cons (pv 0) (pa_cons (pe_bltn (v := .ty "bool") (by rfl) T.bool boot_bool rfl) pa_nil)))))))), ?_⟩
    refine ⟨_, rfl, x, .ty "int", .type t, .type "int", i, rfl, .ty _, ty, kit_ty e1, i, rfl, ?_⟩
    cases i with
    | false =>
      refine iteF ?_
      exact k
    | true =>
      refine iteT ?_
      exact ⟨_, rfl, x, .ty "bool", .type t, .type "bool", b, rfl, .ty _, ty, kit_ty e2, b, rfl, k⟩
end
end Own
set_option Elab.async false
set_option linter.all false
set_option maxRecDepth 100000
set_option maxHeartbeats 4000000
namespace Own
open PySem PySem.Spec PyProof.Rows L2 LamX
theorem yes_if {σ : L2.St} {H : Hp} {A B : Hp → Prop} (h : A H) : tYes σ H (fun b H3 => if b = true then A H3 else B H3) := by
  show if true = true then A H else B H
  rw [if_pos rfl]
  exact h
/-! ### the law's draws: a state of two lists and two wholes -/
def stK (lw lc : Addr) (r u : Int) : List (Key × V) := [(.inr "wide", .ref lw), (.inr "cells", .ref lc), (.inr "rest", .int r), (.inr "turn", .int u)]
theorem stK_wide (lw lc : Addr) (r u : Int) : valV (stK lw lc r u) (.inr "wide") = some (.ref lw) := by kernel_rfl
theorem stK_cells (lw lc : Addr) (r u : Int) : valV (stK lw lc r u) (.inr "cells") = some (.ref lc) := by kernel_rfl
theorem stK_rest (lw lc : Addr) (r u : Int) : valV (stK lw lc r u) (.inr "rest") = some (.int r) := by kernel_rfl
theorem stK_turn (lw lc : Addr) (r u : Int) : valV (stK lw lc r u) (.inr "turn") = some (.int u) := by kernel_rfl
theorem stK_putRest (lw lc : Addr) (r u z : Int) : putK (stK lw lc r u) (.inr "rest") (.int z) = stK lw lc z u := by kernel_rfl
theorem stK_putTurn (lw lc : Addr) (r u z : Int) : putK (stK lw lc r u) (.inr "turn") (.int z) = stK lw lc r z := by kernel_rfl
theorem stK_new (lw lc : Addr) : mergeK [] (stK lw lc 0 0) = stK lw lc 0 0 := by kernel_rfl
theorem dget_k {H : Hp} {a : Addr} {kvs : List (Key × V)} (k : Key) {v : V} (h : H a = some (.dK kvs)) (e : valV kvs k = some v) : DGet H a (kV k) (some v) := e ▸ DGet.k h
theorem dput_k {H : Hp} {a : Addr} {kvs kvs' : List (Key × V)} (k : Key) {v : V} (h : H a = some (.dK kvs)) (hl : kvs.length < sizeLine) (e : putK kvs k v = kvs') : DPut H a (kV k) v (upd H a (.dK kvs')) := e ▸ DPut.k h hl
/-- the state at a, its turns being at most t -/
structure StA (H : Hp) (a lw lc : Addr) (t : Nat) : Prop where
  ex : ∃ (ws cs : List Int) (r u : Int), H a = some (.dK (stK lw lc r u)) ∧ H lw = some (.lst (ws.map V.int)) ∧ H lc = some (.lst (cs.map V.int)) ∧ 0 ≤ r ∧ 0 ≤ u ∧ u ≤ t ∧ (∀ z ∈ ws, 0 ≤ z) ∧ ws.length ≤ 63
  ne : lw ≠ lc
/-- all that was tracked is as it was, but for what stands at xs -/
def Kp (xs : List Addr) (H H' : Hp) : Prop := ∀ b o, H b = some o → b ∉ xs → H' b = some o
theorem Kp.refl (xs : List Addr) (H : Hp) : Kp xs H H := fun _ _ h _ => h
theorem Kp.trans {xs : List Addr} {H H1 H2 : Hp} (a : Kp xs H H1) (b : Kp xs H1 H2) : Kp xs H H2 := fun c o h n => b c o (a c o h n) n
theorem Kp.of {xs : List Addr} {H H' : Hp} (e : Same H H') : Kp xs H H' := fun b o h _ => e b o h
theorem Kp.upd {xs : List Addr} {H : Hp} {a : Addr} {o : HO} (h : a ∈ xs) : Kp xs H (L2.upd H a o) := fun b u e n => by
  rw [upd_ne (fun z => n (by rw [z]; exact h))]
  exact e
theorem Same.upd {H : Hp} {a : Addr} {o : HO} (h : H a = none) : Same H (L2.upd H a o) := fun b u e => by
  rw [upd_ne (ne_of_none e h)]
  exact e
theorem Kp.weak {xs ys : List Addr} {H H' : Hp} (a : Kp xs H H') (h : ∀ b ∈ xs, b ∈ ys) : Kp ys H H' := fun b o e n => a b o e fun z => n (h b z)
theorem StA.same {H H' : Hp} {a lw lc : Addr} {t : Nat} (S : StA H a lw lc t) (e : Same H H') : StA H' a lw lc t := by
  obtain ⟨⟨ws, cs, r, u, h1, h2, h3, h4⟩, ne⟩ := S
  exact ⟨⟨ws, cs, r, u, e _ _ h1, e _ _ h2, e _ _ h3, h4⟩, ne⟩
theorem StA.more {H : Hp} {a lw lc : Addr} {t t' : Nat} (S : StA H a lw lc t) (h : t ≤ t') : StA H a lw lc t' := by
  obtain ⟨⟨ws, cs, r, u, h1, h2, h3, h4, h5, h6, h7⟩, ne⟩ := S
  exact ⟨⟨ws, cs, r, u, h1, h2, h3, h4, h5, by omega, h7⟩, ne⟩
def spBegun (K : PySem.W.Frag) : Sp := fun vs H Q _ => ∃ (s : Addr) (ns : List Int), vs = [.ref s] ∧ SqL K H s (ns.map V.int) ∧ ns.length ≤ 63 ∧
  ∀ a lw lc H', H a = none → H lw = none → H lc = none → StA H' a lw lc 0 → Same H H' → Q (.ref a) H'
def spStir : Sp := fun vs H Q _ => ∃ (a lw lc : Addr) (t : Nat), vs = [.ref a] ∧ StA H a lw lc t ∧ t < 2 ^ 40 ∧
  ∀ z H', 0 ≤ z → StA H' a lw lc (t + 1) → Kp [a] H H' → Q (.int z) H'
def spDraw : Sp := fun vs H Q _ => ∃ (a lw lc : Addr) (t : Nat) (n : Int), vs = [.ref a, .int n] ∧ StA H a lw lc t ∧ t < 2 ^ 40 ∧ 0 < n ∧ n < 2 ^ 128 ∧
  ∀ z H', 0 ≤ z → z < n → StA H' a lw lc (t + 1) → Kp [a, lw] H H' → Q (.int z) H'
def spPick (K : PySem.W.Frag) : Sp := fun vs H Q _ => ∃ (a lw lc : Addr) (t : Nat) (l : Addr) (xs : List V), vs = [.ref a, .ref l] ∧ StA H a lw lc t ∧ t < 2 ^ 40 ∧ H l = some (.lst xs) ∧ l ≠ lw ∧ 0 < xs.length ∧ xs.length ≤ 1000 ∧
  ∀ (i : Nat) x H', xs[i]? = some x → StA H' a lw lc (t + 1) → Kp [a, lw] H H' → Q x H'
section
variable {P : Program} {w : World} {K : PySem.W.Frag} {mg : Str → Option Value} {base : Heap} {f fS fD : Addr} {fd fdS fdD : FuncData}
theorem scBegun : FnScope ["_law_script", "_law_wide", "_law_cell"] ["_law_script"] (defScope sBegun) := ⟨rfl, rfl, rfl, by decide +kernel, rfl, by decide +kernel, by decide +kernel⟩
theorem ok_begun (F : FnP K "_law_begun" sBegun f fd) (T : Txt K mg) : FnOk P w K mg base CX0 1 f fd ["_law_script"] (spBegun K) := by
  refine F.ok scBegun (fun vs H Q E h => ?_) (fun cdv A outer s H vs Q E hr h => ?_)
  · obtain ⟨x, i, rfl, _⟩ := h
    rfl
  · obtain ⟨x, ns, rfl, hS, hl, k⟩ := h
    refine ⟨_, PSs.nox (pss_cons (ps_setLc (i := 1) (own := [("_law_cell", 2)]) (g := gName 2) (by rfl) scBegun.nd rfl rfl (sw_true rfl rfl rfl (by decide +kernel)) (pi_list (pv 0)) (blkOk_by (own := [("_law_cell", 2)]) (N := ["_law_script", "_law_wide", "_law_cell"]) (sc := defScope sBegun) (by decide +kernel))
        (fun _ _ _ _ _ => pg_name (i := 2) scBegun.nd rfl (Or.inl rfl))
        (fun _ _ _ _ _ => pts_one (pt_cmpR op_ge (pe_callB call_abs (by rfl) T.abs (by decide +kernel) (pa_cons (pv 2) pa_nil)) (pe_op op_pow pe_int pe_int) (nomark _)))
        (fun _ _ _ _ _ => pe_op op_sub (pe_callB call_abs (by rfl) T.abs (by decide +kernel) (pa_cons (pv 2) pa_nil)) (pe_op op_pow pe_int pe_int)))
      (pss_one (ps_ret (pe_disp (pps_cons pe_str (pv 1) (pps_cons pe_str (pe_lc (own := [("_law_cell", 2)]) (g := gName 2) (tt := tYes) (by rfl) scBegun.nd (pi_list (pv 0)) (blkOk_by (own := [("_law_cell", 2)]) (N := ["_law_script", "_law_wide", "_law_cell"]) (sc := defScope sBegun) (by decide +kernel))
        (fun _ _ _ _ _ => pg_name (i := 2) scBegun.nd rfl (Or.inl rfl)) (fun _ _ _ _ _ => pts_nil) (fun _ _ _ _ _ => pe_callB call_abs (by rfl) T.abs (by decide +kernel) (pa_cons (pv 2) pa_nil)))
        (pps_cons pe_str pe_int (pps_cons pe_str pe_int pps_nil)))) (by rfl) (by rfl) (fun z => by cases z) (by decide))))), ?_⟩
    refine ⟨_, rfl, x, rfl, ⟨_, hS⟩, fun lw nw => ?_⟩
    have sw : ∀ o, Same H (L2.upd H lw o) := fun o => Same.upd nw
    refine lc_list (K := K) (a := x) (xs := ns.map V.int) (fun i H1 => ∃ ws : List Int, H1 = L2.upd H lw (.lst (ws.map V.int)) ∧ (∀ z ∈ ws, 0 ≤ z) ∧ ws.length ≤ i) ⟨[], rfl, (fun z hz => by cases hz), Nat.le_refl _⟩ (fun i H1 _ ⟨ws, e, _⟩ => by rw [e]; exact (sw _).seq hS) ?_ ?_
    · rintro i y H1 hi ⟨ws, rfl, h0, hw⟩
      obtain ⟨z, hz, rfl⟩ : ∃ z, ns[i]? = some z ∧ y = V.int z := by
        rw [List.getElem?_map] at hi
        cases e : ns[i]? with
        | none =>
          rw [e] at hi
          cases hi
        | some z =>
          rw [e] at hi
          exact ⟨z, rfl, (Option.some.inj hi).symm⟩
      have hin : i < 63 := Nat.lt_of_lt_of_le (List.getElem?_eq_some_iff.mp hz).1 hl
      refine ⟨rfl, _, rfl, z, rfl, _, _, rfl, rfl, ⟨by decide, by decide, by decide⟩, _, _, rfl, rfl, _, rfl, ?_⟩
      refine ite2 (fun hc => ?_) fun _ => ⟨ws, rfl, h0, by omega⟩
      refine ⟨_, rfl, z, rfl, _, _, rfl, rfl, ⟨by decide, by decide, by decide⟩, _, _, rfl, rfl, _, upd_same, (by rw [List.length_map]; exact Nat.lt_of_le_of_lt (Nat.le_trans hw (Nat.le_of_lt hin)) (by decide)), ?_⟩
      refine ⟨ws ++ [(if z < 0 then -z else z) - 10 ^ (18 : Int).toNat], ?_, fun q hq => ?_, by simp; omega⟩
      · rw [upd_upd, List.map_append]
        all_goals rfl
      · rcases List.mem_append.mp hq with m | m
        · exact h0 q m
        · have hc' := of_decide_eq_true hc
          rw [List.mem_singleton] at m
          subst m
          omega
    · rintro H1 ⟨ws, rfl, h0, hw⟩
      intro a na
      have nL : a ≠ lw := fun z => by
        rw [z, upd_same] at na
        cases na
      have na0 : H a = none := by
        rw [upd_ne nL] at na
        exact na
      have s1 : Same H (L2.upd (L2.upd H lw (.lst (ws.map V.int))) a (.dK [])) := (sw _).trans (Same.upd na)
      refine ⟨_, rfl, ?_⟩
      refine ⟨_, rfl, x, rfl, ⟨_, s1.seq hS⟩, fun lc nc => ?_⟩
      have sc : ∀ o, Same (L2.upd (L2.upd H lw (.lst (ws.map V.int))) a (.dK [])) (L2.upd (L2.upd (L2.upd H lw (.lst (ws.map V.int))) a (.dK [])) lc o) := fun o => Same.upd nc
      refine lc_list (K := K) (a := x) (xs := ns.map V.int) (fun i H1 => ∃ cs : List Int, H1 = L2.upd (L2.upd (L2.upd H lw (.lst (ws.map V.int))) a (.dK [])) lc (.lst (cs.map V.int)) ∧ cs.length = i) ⟨[], rfl, rfl⟩ (fun i H1 _ ⟨cs, e, _⟩ => by rw [e]; exact (s1.trans (sc _)).seq hS) ?_ ?_
      · rintro i y H1 hi ⟨cs, rfl, hcs⟩
        obtain ⟨z, hz, rfl⟩ : ∃ z, ns[i]? = some z ∧ y = V.int z := by
          rw [List.getElem?_map] at hi
          cases e : ns[i]? with
          | none =>
            rw [e] at hi
            cases hi
          | some z =>
            rw [e] at hi
            exact ⟨z, rfl, (Option.some.inj hi).symm⟩
        have hin : i < 63 := Nat.lt_of_lt_of_le (List.getElem?_eq_some_iff.mp hz).1 hl
        refine ⟨rfl, ?_⟩
        refine yes_if ?_
        refine ⟨_, rfl, z, rfl, _, upd_same, (by rw [List.length_map, hcs]; exact Nat.lt_trans hin (by decide)), ?_⟩
        exact ⟨cs ++ [if z < 0 then -z else z], by rw [upd_upd, List.map_append]; all_goals rfl, by simp [hcs]⟩
      · rintro H1 ⟨cs, rfl, hcs⟩
        have nLC : lw ≠ lc := ne_of_none (by rw [upd_ne nL.symm]; exact upd_same) nc
        have nAC : a ≠ lc := ne_of_none upd_same nc
        have hlw : ws.length ≤ 63 := by
          rw [List.length_map] at hw
          omega
        refine ⟨by rw [upd_ne nAC]; exact upd_same, stK lw lc 0 0, rfl, (by show 4 ≤ 15; decide), ?_⟩
        rw [stK_new]
        have nc0 : H lc = none := (s1.free nc)
        refine k a lw lc _ na0 nw nc0 ⟨⟨ws, cs, 0, 0, upd_same, ?_, ?_, Int.le_refl _, Int.le_refl _, Int.le_refl _, h0, hlw⟩, nLC⟩ ?_
        · rw [upd_ne nL.symm, upd_ne nLC, upd_ne nL.symm, upd_same]
        · rw [upd_ne nAC.symm, upd_same]
        · intro b o e
          rw [upd_ne (ne_of_none e na0)]
          exact (s1.trans (sc _)) b o e
end
end Own
set_option Elab.async false
set_option linter.all false
set_option maxRecDepth 100000
set_option maxHeartbeats 4000000
namespace Own
open PySem PySem.Spec PyProof.Rows L2 LamX
section
variable {P : Program} {w : World} {K : PySem.W.Frag} {mg : Str → Option Value} {base : Heap} {f fS fD : Addr} {fd fdS fdD : FuncData}
theorem ints_at {ns : List Int} {i : Nat} {y : V} (h : (ns.map V.int)[i]? = some y) : ∃ z, ns[i]? = some z ∧ y = V.int z := by
  rw [List.getElem?_map] at h
  cases e : ns[i]? with
  | none =>
    rw [e] at h
    cases h
  | some z =>
    rw [e] at h
    exact ⟨z, rfl, (Option.some.inj h).symm⟩
theorem scStir : FnScope ["_law_state", "_law_turn", "_law_found", "_law_prime", "_law_blend", "_law_cell"] ["_law_state"] (defScope sStir) := ⟨rfl, rfl, rfl, by decide +kernel, rfl, by decide +kernel, by decide +kernel⟩
def primes : List Int := [2147483647, 2147483629, 2147483587, 2147483579]
theorem ok_stir (F : FnP K "_law_stirred" sStir f fd) (T : Txt K mg) : FnOk P w K mg base CX0 1 f fd ["_law_state"] spStir := by
  refine F.ok scStir (fun vs H Q E h => ?_) (fun cdv A outer s H vs Q E hr h => ?_)
  · obtain ⟨a, lw, lc, t, rfl, _⟩ := h
    rfl
  · obtain ⟨a, lw, lc, t, rfl, S, ht, k⟩ := h
    have hu := hu_of hr
    refine ⟨_, PSs.nox (pss_cons (ps_par (i := 1) (j := 2) rfl scStir.nd rfl rfl (by decide) rfl rfl (pa_cons (pe_op op_add (pe_dget hu (pv 0) pe_str (fun _ _ => rfl)) pe_int) (pa_cons pe_int pa_nil)) (by rfl))
      (pss_cons (ps_dput hu (pv 0) pe_str (pv 1) rfl)
      (pss_cons (ps_for PassesOwn.never rfl (pi_list (pe_lst (pa_cons pe_int (pa_cons pe_int (pa_cons pe_int (pa_cons pe_int pa_nil)))))) (pg_name (i := 3) scStir.nd rfl (Or.inl rfl))
        (pss_cons (ps_set (i := 4) scStir.nd rfl (Or.inl rfl) (pe_op op_add (pe_op op_mul pe_int (pv 1)) (pe_op op_fdiv (pv 3) pe_int)))
        (pss_cons (ps_for PassesOwn.never rfl (pi_list (pe_dget hu (pv 0) pe_str (fun _ _ => rfl))) (pg_name (i := 5) scStir.nd rfl (Or.inl rfl))
          (pss_one (ps_set (i := 4) scStir.nd rfl (Or.inl rfl) (pe_op op_mod (pe_callTy call_int1 (by rfl) T.int boot_int (pa_cons (pe_op op_add (pe_op op_add (pe_op op_mul (pv 4) pe_int) (pv 5)) (pv 1)) pa_nil)) (pv 3)))))
        (pss_one (ps_set (i := 2) scStir.nd rfl (Or.inl rfl) (pe_op op_add (pe_op op_mul (pv 2) pe_int) (pe_op op_mod (pe_callTy call_int1 (by rfl) T.int boot_int (pa_cons (pe_op op_pow (pv 4) pe_int) pa_nil)) (pv 3))))))))
      (pss_one (ps_ret (pv 2)))))), ?_⟩
    obtain ⟨⟨ws, cs, r, u, h1, h2, h3, hr0, hu0, hut, hw0, hwl⟩, ne⟩ := S
    refine ⟨_, rfl, a, _, rfl, dget_k (.inr "turn") h1 (stK_turn ..), _, _, rfl, rfl, _, _, rfl, ?_⟩
    refine ⟨_, rfl, _, rfl, a, _, rfl, dput_k (.inr "turn") h1 (by show 4 < sizeLine; decide) (stK_putTurn ..), ?_⟩
    have nlw : lw ≠ a := ne_of h2 h1 (by intro z; cases z)
    have nlc : lc ≠ a := ne_of h3 h1 (by intro z; cases z)
    refine ⟨(by show 4 ≤ sizeLine; decide), fun p hp => ?_⟩
    have npa : p ≠ a := (ne_of_none upd_same hp).symm
    have npw : p ≠ lw := (ne_of_none (by rw [upd_ne nlw]; exact h2) hp).symm
    have npc : p ≠ lc := (ne_of_none (by rw [upd_ne nlc]; exact h3) hp).symm
    have hp0 : H p = none := by
      rw [upd_ne npa] at hp
      exact hp
    have np0 : SqL K (L2.upd (L2.upd H a (.dK (stK lw lc r (u + 1)))) p (.lst (primes.map V.int))) p (primes.map V.int) := SqL.of upd_same
    have atA : (L2.upd (L2.upd H a (.dK (stK lw lc r (u + 1)))) p (.lst (primes.map V.int))) a = some (.dK (stK lw lc r (u + 1))) := by rw [upd_ne npa.symm, upd_same]
    have atC : (L2.upd (L2.upd H a (.dK (stK lw lc r (u + 1)))) p (.lst (primes.map V.int))) lc = some (.lst (cs.map V.int)) := by rw [upd_ne npc.symm, upd_ne nlc]; exact h3
    refine ⟨p, rfl, ⟨_, np0⟩, for_list (K := K) (a := p) (xs := primes.map V.int) (fun i σ H1 => ∃ (z : Int) (v3 v4 v5 : Option V), σ = [some (.ref a), some (.int (u + 1)), some (.int z), v3, v4, v5] ∧ 0 ≤ z ∧ H1 = L2.upd (L2.upd H a (.dK (stK lw lc r (u + 1)))) p (.lst (primes.map V.int)))
      ⟨0, none, none, none, rfl, Int.le_refl _, rfl⟩ (fun i σ H1 _ ⟨_, _, _, _, _, _, e⟩ => by rw [e]; exact np0) ?_ ?_⟩
    · rintro i y σ H1 hi ⟨z, v3, v4, v5, rfl, hz, rfl⟩
      obtain ⟨q, hq, rfl⟩ := ints_at hi
      have hq2 : 2000000000 < q ∧ q < 3000000000 := by
        match i, hq with
        | 0, hq => cases hq; exact ⟨by decide, by decide⟩
        | 1, hq => cases hq; exact ⟨by decide, by decide⟩
        | 2, hq => cases hq; exact ⟨by decide, by decide⟩
        | 3, hq => cases hq; exact ⟨by decide, by decide⟩
        | j + 4, hq => cases hq
      refine ⟨_, rfl, _, _, rfl, rfl, .inl ⟨by decide, by decide⟩, _, rfl, _, _, rfl, rfl, ⟨by decide, by decide⟩, _, _, rfl, rfl, ?_⟩
      refine ⟨_, rfl, a, _, rfl, dget_k (.inr "cells") atA (stK_cells ..), lc, rfl, ⟨_, SqL.of atC⟩, ?_⟩
      refine for_list (K := K) (a := lc) (xs := cs.map V.int) (fun i σ H1 => ∃ (b : Int) (v5 : Option V), σ = [some (.ref a), some (.int (u + 1)), some (.int z), some (.int q), some (.int b), v5] ∧ 0 ≤ b ∧ b < 2 ^ 60 ∧ H1 = L2.upd (L2.upd H a (.dK (stK lw lc r (u + 1)))) p (.lst (primes.map V.int)))
        ⟨48271 * (u + 1) + q / 37, v5, rfl, by omega, by omega, rfl⟩ (fun i σ H1 _ ⟨_, _, _, _, _, e⟩ => by rw [e]; exact SqL.of atC) ?_ ?_
      · rintro j y σ H1 hj ⟨b, v5, rfl, hb0, hb1, rfl⟩
        obtain ⟨c, hc, rfl⟩ := ints_at hj
        refine ⟨_, rfl, _, _, rfl, rfl, .inr ⟨by decide, by decide⟩, _, rfl, _, _, rfl, rfl, _, rfl, _, _, rfl, rfl, .inl ⟨_, rfl, _, rfl, _, _, rfl, rfl, (by omega), ?_⟩⟩
        have m1 := Int.emod_nonneg (b * 69621 + c + (u + 1)) (show q ≠ 0 by omega)
        have m2 := Int.emod_lt_of_pos (b * 69621 + c + (u + 1)) (show 0 < q by omega)
        exact ⟨_, _, rfl, m1, by omega, rfl⟩
      · rintro σ H1 ⟨b, v5, rfl, hb0, hb1, rfl⟩
        refine ⟨_, rfl, _, _, rfl, rfl, .inr ⟨by decide, by decide⟩, _, rfl, _, _, rfl, rfl, ⟨by decide, by decide, by omega⟩, .inl ⟨_, rfl, _, rfl, _, _, rfl, rfl, (by omega), _, _, rfl, rfl, ?_⟩⟩
        have m1 := Int.emod_nonneg (b ^ (5 : Int).toNat) (show q ≠ 0 by omega)
        exact ⟨_, _, _, _, rfl, by omega, rfl⟩
    · rintro σ H1 ⟨z, v3, v4, v5, rfl, hz, rfl⟩
      refine ⟨_, rfl, ?_⟩
      refine k z _ hz ⟨⟨ws, cs, r, u + 1, atA, ?_, atC, hr0, by omega, by omega, hw0, hwl⟩, ne⟩ fun b o e nb => ?_
      · rw [upd_ne npw.symm, upd_ne nlw]
        exact h2
      · have nb2 : b ≠ a := fun z => nb (List.mem_singleton.mpr z)
        rw [upd_ne (ne_of_none e hp0), upd_ne nb2]
        exact e
end
end Own
set_option Elab.async false
set_option linter.all false
set_option maxRecDepth 100000
set_option maxHeartbeats 4000000
namespace Own
open PySem PySem.Spec PyProof.Rows L2 LamX
section
variable {P : Program} {w : World} {K : PySem.W.Frag} {mg : Str → Option Value} {base : Heap} {f fS fD : Addr} {fd fdS fdD : FuncData}
theorem dpAll_ints {H : Hp} : ∀ ws : List Int, DpAll K H (ws.map V.int) (ws.map PyData.int)
  | [] => .nil
  | z :: r => .cons (.int z) (dpAll_ints r)
theorem shaped_ints : ∀ ws : List Int, SeqAt.shaped (.list (ws.map PyData.int)) = true := by
  intro ws
  have h : ∀ l : List Int, PyData.canLayAll0 (l.map PyData.int) = true ∧ PyData.depthAll (l.map PyData.int) = 0 := by
    intro l
    induction l with
    | nil => exact ⟨rfl, rfl⟩
    | cons z r ih =>
      refine ⟨?_, ?_⟩
      · show (true && PyData.canLayAll0 (r.map PyData.int)) = true
        rw [ih.1]
        rfl
      · show max 0 (PyData.depthAll (r.map PyData.int)) = 0
        rw [ih.2]
        rfl
  show (PyData.canLayAll0 (ws.map PyData.int) && decide (PyData.depthAll (ws.map PyData.int) + 1 ≤ 64)) = true
  rw [(h ws).1, (h ws).2]
  rfl
theorem eqv_nil (ws : List Int) : PyData.eqv (.list (ws.map PyData.int)) (.list []) = ws.isEmpty := by
  cases ws <;> rfl
theorem scDraw : FnScope ["_law_state", "_law_size", "_law_found"] ["_law_state", "_law_size"] (defScope sDraw) := ⟨rfl, rfl, rfl, by decide +kernel, rfl, by decide +kernel, by decide +kernel⟩
theorem ok_draw (F : FnP K "_law_draw" sDraw f fd) (FS : FnP K "_law_stirred" sStir fS fdS) (gS : mg "_law_stirred" = some (.ref fS)) (T : Txt K mg) : FnOk P w K mg base CX0 2 f fd ["_law_state", "_law_size"] spDraw := by
  have GS : FnOk P w K mg base CX0 1 fS fdS ["_law_state"] spStir := ok_stir FS T
  have bS : Binds K fdS ["_law_state"] [] := FS.bindsN fun _ _ _ _ _ _ us hl => match us, hl with | [_], _ => rfl
  refine F.ok scDraw (fun vs H Q E h => ?_) (fun cdv A outer s H vs Q E hr h => ?_)
  · obtain ⟨a, lw, lc, t, n, rfl, _⟩ := h
    rfl
  · obtain ⟨a, lw, lc, t, n, rfl, S, ht, hn0, hn1, k⟩ := h
    have hu := hu_of hr
    refine ⟨_, PSs.nox (pss_cons (ps_if (pt_cmpR op_eq (pe_dget hu (pv 0) pe_str (fun _ _ => rfl)) pe_int (nomark _))
        (pss_one (ps_dput hu (pv 0) pe_str (pe_ifExp (pt_cmpR (op_neD hr.units) (pe_dget hu (pv 0) pe_str (fun _ _ => rfl)) (pe_lst pa_nil) (nomark _))
          (pe_bm PySem.F.plainAttrs_list PySem.F.slot_list_pop PySem.F.type_list_pop mt_popAt (pe_dget hu (pv 0) pe_str (fun _ _ => rfl)) (pa_cons pe_int pa_nil))
          (pe_call GS hr (by rfl) gS FS.kp bS .nil pass0 (pa_cons (pv 0) pa_nil))) rfl)) pss_nil)
      (pss_cons (ps_set (i := 2) scDraw.nd rfl (Or.inl rfl) (pe_op op_mod (pe_callTy call_int1 (by rfl) T.int boot_int (pa_cons (pe_dget hu (pv 0) pe_str (fun _ _ => rfl)) pa_nil)) (pv 1)))
      (pss_cons (ps_dput hu (pv 0) pe_str (pe_op op_fdivW (pe_dget hu (pv 0) pe_str (fun _ _ => rfl)) (pv 1)) rfl)
      (pss_one (ps_ret (pv 2)))))), ?_⟩
    -- what comes behind the first if
    have rest : ∀ H1, StA H1 a lw lc (t + 1) → Kp [a, lw] H H1 → ∀ x y : Option V, (tSeq (tAsg (tOp (rI (fun _ j => 0 < j) fun i j => .int (i % j)) (tCB (fun xs H Q => (∃ i, xs = [.int i] ∧ Q (.int i) H) ∨ ∃ k, xs = [.bl k] ∧ Q (.int (if k then 1 else 0)) H) (tCons (tDGet (tVar 0) (tC (.str "rest"))) tNil)) (tVar 1)) (gName 2))
        (tSeq (sDPut (tVar 0) (tC (.str "rest")) (tOp (rI CDivW fun i j => .int (i / j)) (tDGet (tVar 0) (tC (.str "rest"))) (tVar 1))) (tRet (tVar 2)))) { nx := fun _ H' => Q .non H', rt := Q } [some (.ref a), some (.int n), none] H1 := by
      intro H1 S1 K1 x y
      obtain ⟨⟨ws, cs, r, u, h1, h2, h3, hr0, hu0, hut, hw0, hwl⟩, ne⟩ := S1
      refine ⟨_, rfl, a, _, rfl, dget_k (.inr "rest") h1 (stK_rest ..), .inl ⟨_, rfl, _, rfl, _, _, rfl, rfl, hn0, ?_⟩⟩
      refine ⟨_, rfl, a, _, rfl, dget_k (.inr "rest") h1 (stK_rest ..), _, rfl, _, _, rfl, rfl, wide_div (b := 128) hn0 (by omega) (by decide) (by decide), _, rfl, a, _, rfl, dput_k (.inr "rest") h1 (by show 4 < sizeLine; decide) (stK_putRest ..), _, rfl, ?_⟩
      have nlw : lw ≠ a := ne_of h2 h1 (by intro z; cases z)
      have nlc : lc ≠ a := ne_of h3 h1 (by intro z; cases z)
      refine k _ _ (Int.emod_nonneg _ (by omega)) (Int.emod_lt_of_pos _ hn0) ⟨⟨ws, cs, r / n, u, upd_same, by rw [upd_ne nlw]; exact h2, by rw [upd_ne nlc]; exact h3, Int.ediv_nonneg hr0 (by omega), hu0, hut, hw0, hwl⟩, ne⟩ (K1.trans (Kp.upd (by simp)))
    obtain ⟨⟨ws, cs, r, u, h1, h2, h3, hr0, hu0, hut, hw0, hwl⟩, ne⟩ := id S
    have nlw : lw ≠ a := ne_of h2 h1 (by intro z; cases z)
    have nlc : lc ≠ a := ne_of h3 h1 (by intro z; cases z)
    refine ⟨_, rfl, a, _, rfl, dget_k (.inr "rest") h1 (stK_rest ..), rfl, _, rfl, ?_⟩
    refine ite2 (fun _ => ?_) (fun _ => rest H (S.more (Nat.le_succ t)) (Kp.refl _ _) none none)
    refine ⟨_, rfl, a, _, rfl, dget_k (.inr "wide") h1 (stK_wide ..), (by show 0 ≤ sizeLine; decide), fun p hp => ?_⟩
    have se : Same H (L2.upd H p (.lst [])) := Same.upd hp
    refine ⟨_, _, .lst (SqL.of (se _ _ h2)) (dpAll_ints ws), .lst (SqL.of upd_same) .nil, shaped_ints ws, rfl, _, rfl, ?_⟩
    rw [eqv_nil]
    have S1 := S.same se
    cases ws with
    | nil =>
      refine iteF ?_
      refine ⟨_, rfl, a, lw, lc, t, rfl, S1, ht, fun z H' hz S2 K2 => ?_⟩
      obtain ⟨⟨ws, cs, r, u, h1, h2, h3, hr0, hu0, hut, hw0, hwl⟩, ne⟩ := id S2
      have nlw : lw ≠ a := ne_of h2 h1 (by intro z; cases z)
      have nlc : lc ≠ a := ne_of h3 h1 (by intro z; cases z)
      refine ⟨_, rfl, a, _, rfl, dput_k (.inr "rest") h1 (by show 4 < sizeLine; decide) (stK_putRest ..), ?_⟩
      exact rest _ ⟨⟨ws, cs, z, u, upd_same, by rw [upd_ne nlw]; exact h2, by rw [upd_ne nlc]; exact h3, hz, hu0, hut, hw0, hwl⟩, ne⟩ (((Kp.of se).trans (K2.weak (by simp))).trans (Kp.upd (by simp))) none none
    | cons q ws =>
      refine iteT ?_
      have h1' := se _ _ h1
      have h2' := se _ _ h2
      refine ⟨_, rfl, a, _, rfl, dget_k (.inr "wide") h1' (stK_wide ..), .inl ⟨rfl, _, .inl (.inl h2')⟩, lw, _, 0, 0, .int q, rfl, rfl, h2', by decide, by decide, ?_, rfl, ?_⟩
      · unfold seqIndex?
        simp
      · have S3 : StA (L2.upd (L2.upd (L2.upd H p (.lst [])) lw (.lst (ws.map V.int))) a (.dK (stK lw lc q u))) a lw lc (t + 1) := by
          refine ⟨⟨ws, cs, q, u, upd_same, ?_, ?_, hw0 q List.mem_cons_self, hu0, by omega, fun z hz => hw0 z (List.mem_cons_of_mem _ hz), by rw [List.length_cons] at hwl; omega⟩, ne⟩
          · rw [upd_ne nlw, upd_same]
          · rw [upd_ne nlc, upd_ne ne.symm]
            exact se _ _ h3
        refine ⟨_, rfl, a, _, rfl, dput_k (.inr "rest") (by rw [upd_ne nlw.symm]; exact h1') (by show 4 < sizeLine; decide) (stK_putRest ..), ?_⟩
        exact rest _ S3 (((Kp.of se).trans (Kp.upd (by simp))).trans (Kp.upd (by simp))) none none
theorem scPick : FnScope ["_law_state", "_law_some"] ["_law_state", "_law_some"] (defScope sPick) := ⟨rfl, rfl, rfl, by decide +kernel, rfl, by decide +kernel, by decide +kernel⟩
theorem ok_pick (F : FnP K "_law_pick" sPick f fd) (FD : FnP K "_law_draw" sDraw fD fdD) (FS : FnP K "_law_stirred" sStir fS fdS) (gD : mg "_law_draw" = some (.ref fD)) (gS : mg "_law_stirred" = some (.ref fS)) (T : Txt K mg) : FnOk P w K mg base CX0 3 f fd ["_law_state", "_law_some"] (spPick K) := by
  have GD : FnOk P w K mg base CX0 2 fD fdD ["_law_state", "_law_size"] spDraw := ok_draw FD FS gS T
  have bD : Binds K fdD ["_law_state", "_law_size"] [] := FD.bindsN fun _ _ _ _ _ _ us hl => match us, hl with | [_, _], _ => rfl
  refine F.ok scPick (fun vs H Q E h => ?_) (fun cdv A outer s H vs Q E hr h => ?_)
  · obtain ⟨a, lw, lc, t, l, xs, rfl, _⟩ := h
    rfl
  · obtain ⟨a, lw, lc, t, l, xs, rfl, S, ht, hl, nl, h0, h1, k⟩ := h
    refine ⟨_, PSs.nox (pss_one (ps_ret (pe_ix ix_list (pv 1) (pe_call GD hr (by rfl) gD FD.kp bD .nil pass0 (pa_cons (pv 0) (pa_cons (pe_callB call_len_seq (by rfl) T.len PySem.boot_len (pa_cons (pv 1) pa_nil)) pa_nil))) (fun _ _ => rfl)))), ?_⟩
    refine ⟨_, rfl, _, rfl, _, rfl, l, _, rfl, .inl (SqL.of hl), a, lw, lc, t, _, rfl, S, ht, by omega, by omega, fun z H' hz0 hz1 S' K' => ?_⟩
    obtain ⟨⟨ws, cs, r, u, e1, _⟩, _⟩ := id S
    have na : l ≠ a := ne_of hl e1 (by intro z; cases z)
    have hl' := K' l _ hl (by simp [na, nl])
    obtain ⟨j, rfl⟩ : ∃ j : Nat, z = (j : Int) := ⟨z.toNat, by omega⟩
    have hj : j < xs.length := by omega
    refine ⟨l, _, _, xs[j], rfl, rfl, SqL.of hl', atI_nat (List.getElem?_eq_getElem hj), ?_⟩
    exact k j _ H' (List.getElem?_eq_getElem hj) S' K'
end
end Own
set_option Elab.async false
set_option linter.all false
set_option maxRecDepth 100000
set_option maxHeartbeats 4000000
namespace Own
open PySem PySem.Spec PyProof.Rows L2 LamX
/-! ### lists of flat values against [] -/
def fd : V → PyData
  | .bl b => .bool b
  | .int i => .int i
  | .str x => .str x
  | _ => .none
def fok : V → Bool
  | .non => true
  | .bl _ => true
  | .int _ => true
  | .str x => x.cps.all (· < 0x110000)
  | _ => false
theorem dp_flat1 {K : PySem.W.Frag} {H : Hp} : ∀ {x : V}, fok x = true → Dp K H x (fd x) ∧ (fd x).canLay0 = true ∧ (fd x).depth = 0
  | .non, _ => ⟨.non, rfl, rfl⟩
  | .bl b, _ => ⟨.bl b, rfl, rfl⟩
  | .int i, _ => ⟨.int i, rfl, rfl⟩
  | .str x, h => ⟨.str x, h, rfl⟩
theorem dp_flat {K : PySem.W.Frag} {H : Hp} : ∀ {xs : List V}, xs.all fok = true → DpAll K H xs (xs.map fd) ∧ PyData.canLayAll0 (xs.map fd) = true ∧ PyData.depthAll (xs.map fd) = 0
  | [], _ => ⟨.nil, rfl, rfl⟩
  | x :: r, h => by
    rw [List.all_cons, Bool.and_eq_true] at h
    obtain ⟨a1, a2, a3⟩ := dp_flat1 (K := K) (H := H) h.1
    obtain ⟨b1, b2, b3⟩ := dp_flat (K := K) (H := H) h.2
    refine ⟨.cons a1 b1, ?_, ?_⟩
    · show ((fd x).canLay0 && PyData.canLayAll0 (r.map fd)) = true
      rw [a2, b2]
      rfl
    · show max (fd x).depth (PyData.depthAll (r.map fd)) = 0
      rw [a3, b3]
      rfl
theorem shaped_flat (K : PySem.W.Frag) (H : Hp) {xs : List V} (h : xs.all fok = true) : SeqAt.shaped (.list (xs.map fd)) = true := by
  obtain ⟨_, a, b⟩ := dp_flat (K := K) (H := H) h
  show (PyData.canLayAll0 (xs.map fd) && decide (PyData.depthAll (xs.map fd) + 1 ≤ 64)) = true
  rw [a, b]
  rfl
theorem eqv_nil2 (xs : List V) : PyData.eqv (.list (xs.map fd)) (.list []) = xs.isEmpty := by
  cases xs <;> rfl
theorem ne_nil {K : PySem.W.Frag} {H : Hp} {a b : Addr} {xs : List V} {Q : VK} (ha : SqL K H a xs) (hb : SqL K H b []) (hf : xs.all fok = true) (q : Q (.bl (!xs.isEmpty)) H) : rNeD K (.ref a) (.ref b) H Q :=
  ⟨_, _, .lst ha (dp_flat hf).1, .lst hb .nil, shaped_flat K H hf, rfl, by rw [eqv_nil2]; exact q⟩
theorem eq_nil {K : PySem.W.Frag} {H : Hp} {a b : Addr} {xs : List V} {Q : VK} (ha : SqL K H a xs) (hb : SqL K H b []) (hf : xs.all fok = true) (q : Q (.bl xs.isEmpty) H) : rEqD K (.ref a) (.ref b) H Q :=
  ⟨_, _, .lst ha (dp_flat hf).1, .lst hb .nil, shaped_flat K H hf, rfl, by rw [eqv_nil2]; exact q⟩
/-! ### texts as lists of signs -/
def sg (l : List Nat) : Str := ⟨l.toArray⟩
theorem tl_sg (l : List Nat) : TL.tl (sg l) = l := rfl
theorem sg_tl (x : Str) : sg (TL.tl x) = x := TL.mk_tl x
theorem sg_len (l : List Nat) : (sg l).length = l.length := by rw [TL.len_tl, tl_sg]
theorem int_sg (z : Int) : Str.ofString (toString z) = sg (intL z) := TL.ext_tl (tl_int z)
theorem log2_small {z : Int} (h : z.natAbs < 2 ^ 150) : z.natAbs.log2 < 1920 := Nat.lt_trans (PySem.Flt.log2_lt_of (by decide) h) (by decide)
theorem intL_len {z : Int} (h : z.natAbs < 2 ^ 150) : (intL z).length ≤ 60 := by
  have k : (TL.numL z.natAbs).length ≤ 50 := TL.numL_len (by decide) (Nat.lt_of_lt_of_le h (by decide +kernel))
  unfold intL
  split
  · rw [List.length_cons]
    omega
  · omega
def spWText : Sp := fun vs H Q _ => ∃ z : Int, vs = [.int z] ∧ z.natAbs < 2 ^ 150 ∧ Q (.str (sg (intL z))) H
def spWOf : Sp := fun vs H Q _ => ∃ d : List Nat, vs = [.str (sg d)] ∧ d.length < 64 ∧ allDig d = true ∧ Q (.int (dval d : Nat)) H
section
variable {P : Program} {w : World} {K : PySem.W.Frag} {mg : Str → Option Value} {base : Heap} {f fW fR CB : Addr} {fd2 fdW fdR : FuncData}
theorem scWText : FnScope ["whole", "left", "found", "low"] ["whole"] (defScope sWText) := ⟨rfl, rfl, rfl, by decide +kernel, rfl, by decide +kernel, by decide +kernel⟩
theorem ok_wtext (F : FnP K "whole_text" sWText f fd2) (T : Txt K mg) : FnOk P w K mg base CX0 1 f fd2 ["whole"] spWText := by
  refine F.ok scWText (fun vs H Q E h => ?_) (fun cdv A outer s H vs Q E hr h => ?_)
  · obtain ⟨z, rfl, _⟩ := h
    rfl
  · obtain ⟨z, rfl, hz, k⟩ := h
    refine ⟨_, PSs.nox (pss_cons (ps_par (i := 1) (j := 2) rfl scWText.nd rfl rfl (by decide) rfl rfl (pa_cons (pe_callB call_abs (by rfl) T.abs (by decide +kernel) (pa_cons (pv 0) pa_nil)) (pa_cons pe_str pa_nil)) (by rfl))
      (pss_cons (ps_while PassesOwn.never (pt_cmpR op_ge (pv 1) (pe_op op_pow pe_int pe_int) (nomark _)) pss_never)
      (pss_one (ps_ret (pe_op op_add_str (pe_op op_add_str (pe_ifExp (pt_cmpR op_lt (pv 0) pe_int (nomark _)) pe_str pe_str) (pe_callTy call_str_int (by rfl) T.str (by decide +kernel) (pa_cons (pv 1) pa_nil))) (pv 2)))))), ?_⟩
    refine ⟨_, rfl, z, rfl, _, _, rfl, ?_⟩
    have ea : (if z < 0 then -z else z) = (z.natAbs : Int) := by split <;> omega
    rw [ea]
    refine while_by (fun σ H1 => σ = [some (.int z), some (.int (z.natAbs : Int)), some (.str ""), none] ∧ H1 = H) (fun _ _ => 0) ⟨rfl, rfl⟩ ?_ ?_
    · rintro σ H1 ⟨rfl, rfl⟩
      refine ⟨_, rfl, _, _, rfl, rfl, ⟨by decide, by decide, by decide⟩, _, _, rfl, rfl, _, rfl, ?_⟩
      refine ite2 (fun c => ?_) fun _ => ?_
      · exfalso
        have h1 := of_decide_eq_true c
        have h2 : (10 : Int) ^ (64 : Int).toNat = ((10 ^ 64 : Nat) : Int) := by decide +kernel
        have h3 : (2 : Nat) ^ 150 ≤ 10 ^ 64 := by decide +kernel
        rw [h2] at h1
        omega
      · have hl : ((z.natAbs : Int)).natAbs.log2 < 1920 := log2_small (by show z.natAbs < _; exact hz)
        have hlen := intL_len hz
        refine ⟨_, rfl, _, _, rfl, rfl, _, rfl, ?_⟩
        have fin : ∀ y : Str, TL.tl y ++ TL.numL z.natAbs = intL z → y.length ≤ 1 → y.length + (Str.ofString (toString (z.natAbs : Int))).length ≤ sizeLine ∧ ((y ++ Str.ofString (toString (z.natAbs : Int))).length + ("" : Str).length ≤ sizeLine ∧ Q (.str (y ++ Str.ofString (toString (z.natAbs : Int)) ++ "")) H1) := by
          intro y hy hy1
          have e1 : TL.tl (Str.ofString (toString (z.natAbs : Int))) = TL.numL z.natAbs := TL.tl_num _
          have l1 : (Str.ofString (toString (z.natAbs : Int))).length ≤ 60 := by
            have := congrArg List.length hy
            rw [List.length_append] at this
            rw [TL.len_tl, e1]
            omega
          have l2 : (y ++ Str.ofString (toString (z.natAbs : Int))).length ≤ 61 := by
            rw [TL.len_tl, TL.tl_append, List.length_append, ← TL.len_tl, ← TL.len_tl]
            omega
          have s0 : (100 : Nat) ≤ sizeLine := by decide
          refine ⟨by omega, ?_, ?_⟩
          · have : ("" : Str).length = 0 := rfl
            omega
          · have e2 : y ++ Str.ofString (toString (z.natAbs : Int)) ++ "" = sg (intL z) := by
              refine TL.ext_tl ?_
              rw [TL.tl_append, TL.tl_append, e1, tl_sg, hy]
              exact List.append_nil _
            rw [e2]
            exact k
        refine ite2 (fun c => ?_) fun c => ?_
        · have hz0 : z < 0 := of_decide_eq_true c
          obtain ⟨f1, f2, f3⟩ := fin "-" (by unfold intL; rw [if_pos hz0]; rfl) (by decide)
          exact ⟨_, rfl, _, rfl, hl, _, _, rfl, rfl, f1, _, rfl, _, _, rfl, rfl, f2, f3⟩
        · have hz0 : ¬ z < 0 := fun q => c (decide_eq_true q)
          obtain ⟨f1, f2, f3⟩ := fin "" (by unfold intL; rw [if_neg hz0]; rfl) (by decide)
          exact ⟨_, rfl, _, rfl, hl, _, _, rfl, rfl, f1, _, rfl, _, _, rfl, rfl, f2, f3⟩
    · rintro σ H1 Q1 Q2 hq ⟨v, e1, i, j, e2, e3, c, x, y, e4, e5, b, e6, q⟩
      exact ⟨v, e1, i, j, e2, e3, c, x, y, e4, e5, b, e6, hq _ _ q⟩
end
end Own
set_option Elab.async false
set_option linter.all false
set_option maxRecDepth 100000
set_option maxHeartbeats 4000000
namespace Own
open PySem PySem.Spec PyProof.Rows L2 LamX
theorem cut_all {z : Str} {n : Nat} (h : n = z.length) : cutS z none (some (n : Int)) = z := by
  subst h
  refine TL.ext_tl ?_
  show ((z.cps.toList.drop (HT.sIx z.length 0 none)).take (HT.sIx z.length z.length (some (z.length : Int)) - HT.sIx z.length 0 none)) = z.cps.toList
  rw [HT.sIx_none, HT.sIx_nat, List.drop_zero, Nat.min_self]
  exact List.take_of_length_le (by simp [Str.length])
theorem rg64 : ∀ n : Nat, n < 64 → RgC (n : Int) (n : Int) 64 0 := by
  intro n h
  have k : ∀ m : Fin 64, Builtin.Range.small ((m.val : Nat) : Int) ((m.val : Nat) : Int) 64 = true ∧ Builtin.Range.rangeSize ((m.val : Nat) : Int) ((m.val : Nat) : Int) 64 = (0 : Nat) := by decide +kernel
  exact ⟨by decide, by decide, (k ⟨n, h⟩).1, (k ⟨n, h⟩).2⟩
theorem int_dig {d : List Nat} (h : d.length < 64) (ha : allDig d = true) : intText? (sg (48 :: d)) = some ((dval d : Nat) : Int) := by
  have A := allDig_iff.mp ha
  have e := intText_digits (x := sg (48 :: d)) (fun c hc => by
    rcases List.mem_cons.mp hc with rfl | hc
    · omega
    · exact A c hc) (by simp [sg]) (by rw [sg_len, List.length_cons]; omega)
  exact e
section
variable {P : Program} {w : World} {K : PySem.W.Frag} {mg : Str → Option Value} {base : Heap} {f fW fR CB : Addr} {fd2 fdW fdR : FuncData}
theorem scWOf : FnScope ["digits", "head", "found", "at"] ["digits"] (defScope sWOf) := ⟨rfl, rfl, rfl, by decide +kernel, rfl, by decide +kernel, by decide +kernel⟩
theorem ok_wof (F : FnP K "whole_of" sWOf f fd2) (T : Txt K mg) (C : Cst K mg) : FnOk P w K mg base CX0 1 f fd2 ["digits"] spWOf := by
  obtain ⟨tp, hp⟩ := C.piece
  refine F.ok scWOf (fun vs H Q E h => ?_) (fun cdv A outer s H vs Q E hr h => ?_)
  · obtain ⟨z, rfl, _⟩ := h
    rfl
  · obtain ⟨d, rfl, hd, ha, k⟩ := h
    refine ⟨_, PSs.nox (pss_cons (ps_set (i := 1) scWOf.nd rfl (.inl rfl) (pe_op op_mod (pe_callB call_len_str (by rfl) T.len PySem.boot_len (pa_cons (pv 0) pa_nil)) (pe_glob (v := .int 64) (by rfl) hp ⟨tp, rfl⟩)))
      (pss_cons (ps_set (i := 2) scWOf.nd rfl (.inl rfl) (pe_callTy call_int_str (by rfl) T.int boot_int (pa_cons (pe_op op_add_str pe_str (pe_slice sl_str (pv 0) po_none (po_some (pv 1)))) pa_nil)))
      (pss_cons (ps_for PassesOwn.never rfl (pi_range3 (by rfl) T.range (pa_cons (pv 1) (pa_cons (pe_callB call_len_str (by rfl) T.len PySem.boot_len (pa_cons (pv 0) pa_nil)) (pa_cons (pe_glob (v := .int 64) (by rfl) hp ⟨tp, rfl⟩) pa_nil)))) (pg_name (i := 3) scWOf.nd rfl (Or.inl rfl)) pss_never)
      (pss_one (ps_ret (pv 2)))))), ?_⟩
    have hl : (sg d).length = d.length := sg_len d
    have sz : (sg d).length ≤ sizeLine := by
      have : (64 : Nat) ≤ sizeLine := by decide
      omega
    refine ⟨_, rfl, _, rfl, sz, _, _, rfl, rfl, (by show (0 : Int) < 64; decide), ?_⟩
    have em : (((sg d).length : Nat) : Int) % 64 = (((sg d).length : Nat) : Int) := by omega
    dsimp only
    rw [em]
    refine ⟨_, rfl, _, rfl, _, rfl, _, rfl, sz, ?_⟩
    rw [cut_all rfl]
    have e0 : ("0" : Str) ++ sg d = sg (48 :: d) := TL.ext_tl (by rw [TL.tl_append]; rfl)
    refine ⟨_, _, rfl, rfl, (by show 1 + (sg d).length ≤ sizeLine; have : (65 : Nat) ≤ sizeLine := by decide
                                omega), ?_⟩
    rw [e0]
    refine ⟨_, _, rfl, int_dig hd ha, (by rw [sg_len, List.length_cons]; omega), ?_⟩
    refine ⟨_, rfl, _, rfl, _, rfl, sz, _, _, _, 0, rfl, rg64 _ (by omega), ?_⟩
    refine for_rangeC (lo := (((sg d).length : Nat) : Int)) (c := 64) (n := 0) (fun _ σ H1 => σ = [some (.str (sg d)), some (.int (((sg d).length : Nat) : Int)), some (.int (dval d : Nat)), none] ∧ H1 = H) ⟨rfl, rfl⟩ (fun i σ H1 hi => absurd hi (Nat.not_lt_zero i)) ?_
    rintro σ H1 ⟨rfl, rfl⟩
    exact ⟨_, rfl, k⟩
end
end Own
set_option Elab.async false
set_option linter.all false
set_option maxRecDepth 100000
set_option maxHeartbeats 4000000
namespace Own
open PySem PySem.Spec PyProof.Rows L2 LamX
/-! ### rows -/
def inRange (is : List Int) (n : Nat) : Bool := is.all fun i => !(decide (i < 0) || decide ((n : Int) ≤ i))
def rowOk (w : Str) (is : List Int) (n : Nat) : Bool :=
  if w = "fraction" then decide (is.length = 2) && decide (0 < is.getD 1 0)
  else if w = "root" then decide (is.length = 1) && inRange is n
  else if w ∈ PAIR then decide (is.length = 2) && inRange is n
  else false
def rowV (w : Str) (is : List Int) : List V := .str w :: is.map V.int
theorem cut_drop {xs : List V} {k : Nat} (h : k ≤ xs.length) : cutV xs (some (k : Int)) none = xs.drop k := by
  show (xs.drop (HT.sIx xs.length 0 (some (k : Int)))).take (HT.sIx xs.length xs.length none - HT.sIx xs.length 0 (some (k : Int))) = _
  rw [HT.sIx_none, HT.sIx_nat, Nat.min_eq_left h]
  exact List.take_of_length_le (by rw [List.length_drop]; exact Nat.le_refl _)
theorem cut_tail {w : Str} {is : List Int} : cutV (rowV w is) (some 1) none = is.map V.int := cut_drop (k := 1) (by simp [rowV])
theorem notWhole {w : Str} {is : List Int} : ¬ (HT.sIx (rowV w is).length 0 (some 1) = 0 ∧ HT.sIx (rowV w is).length (rowV w is).length none = (rowV w is).length) := by
  rintro ⟨h, _⟩
  have e : HT.sIx (rowV w is).length 0 (some ((1 : Nat) : Int)) = min 1 (rowV w is).length := HT.sIx_nat _ _ _
  have l : (rowV w is).length = is.length + 1 := by simp [rowV]
  have h' : HT.sIx (rowV w is).length 0 (some ((1 : Nat) : Int)) = 0 := h
  omega
theorem decStr {x y : Str} : decide (V.str x = V.str y) = decide (x = y) := by
  rw [Bool.eq_iff_iff]
  simp
theorem at_nat {xs : List V} {k : Nat} {v : V} (h : xs[k]? = some v) : atI xs ((k : Nat) : Int) = some v := atI_nat h
def spIsRow (K : PySem.W.Frag) : Sp := fun vs H Q _ => ∃ (x : V) (n : Nat), vs = [x, .int n] ∧ ((∃ t : String, TyX K H x (.type t) ∧ kitB t "tuple" = some false ∧ Q (.bl false) H) ∨
  ∃ a w is, x = .ref a ∧ H a = some (.tup (rowV w is)) ∧ is.length ≤ 10000 ∧ ∀ H', Same H H' → Q (.bl (rowOk w is n)) H')
section
variable {P : Program} {w : World} {K : PySem.W.Frag} {mg : Str → Option Value} {base : Heap} {f fW fR CB : Addr} {fd2 fdW fdR : FuncData}
abbrev nsIsRow : List Str := ["value", "at", "item"]
theorem inV_str (w : Str) : ∀ xs : List Str, inV (.str w) (xs.map V.str) = decide (w ∈ xs)
  | [] => rfl
  | x :: r => by
    show ((x == w) || inV (.str w) (r.map V.str)) = _
    rw [inV_str w r]
    by_cases h : x = w
    · subst h
      simp
    · have h2 : ¬ w = x := fun z => h z.symm
      have h3 : (x == w) = false := by simpa using h
      rw [h3]
      simp [h2]
theorem fok_ints (is : List Int) : (is.map V.int).all fok = true := by
  rw [List.all_map, List.all_eq_true]
  intro _ _
  rfl
theorem range_read {H : Hp} {a : Addr} {w : Str} {is : List Int} {n : Nat} {Q : VK} (hs : SqT K H a (rowV w is)) (hlen : is.length ≤ 10000) (k : ∀ H', Same H H' → Q (.bl (inRange is n)) H') :
    tOp (rEqD K) (tLc (iTup K (tSl (rSlT K) (tVar 0) (tPart (tC (.int 1))) tNoPart)) (gName 2) (tOr (tTest (tOp (rI0 fun i j => .bl (decide (i < j))) (tVar 2) (tC (.int 0)))) (tTest (tOp (rI0 fun i j => .bl (decide (j ≤ i))) (tVar 2) (tVar 1)))) (tVar 2) [2]) (tLst tNil) [some (.ref a), some (.int n), none] H Q := by
  refine ⟨_, rfl, _, rfl, a, _, rfl, hs, notWhole, fun p np => ?_⟩
  rw [cut_tail]
  refine ⟨p, rfl, ⟨_, SqT.of upd_same⟩, fun D nD => ?_⟩
  generalize hH1 : L2.upd H p (.tup (is.map V.int)) = H1 at nD ⊢
  have s01 : Same H H1 := hH1 ▸ Same.upd np
  have pt : H1 p = some (.tup (is.map V.int)) := by rw [← hH1, upd_same]
  have nDp : p ≠ D := ne_of_none pt nD
  let bad : Int → Bool := fun i => decide (i < 0) || decide ((n : Int) ≤ i)
  refine lc_tup (K := K) (a := p) (xs := is.map V.int) (fun i G => G = L2.upd H1 D (.lst (((is.take i).filter bad).map V.int))) rfl (fun i G _ e => by rw [e]; exact SqT.of (by rw [upd_ne nDp]; exact pt)) ?_ ?_
  · rintro i y G hi rfl
    obtain ⟨z, hz, rfl⟩ := ints_at hi
    obtain ⟨hlt, hget⟩ := List.getElem?_eq_some_iff.mp hz
    have et : is.take (i + 1) = is.take i ++ [z] := by
      rw [List.take_succ, hz]
      rfl
    refine ⟨rfl, ?_⟩
    refine ⟨_, rfl, _, _, rfl, rfl, _, rfl, ?_⟩
    have len : ((is.take i).filter bad).length ≤ 10000 := Nat.le_trans (List.length_filter_le _ _) (by rw [List.length_take]; omega)
    have put : bad z = true → ∃ v, [some (V.ref a), some (V.int n), some (V.int z)][2]? = some (some v) ∧ ∃ acc, L2.upd H1 D (.lst (((is.take i).filter bad).map V.int)) D = some (.lst acc) ∧ acc.length < sizeLine ∧ L2.upd (L2.upd H1 D (.lst (((is.take i).filter bad).map V.int))) D (.lst (acc ++ [v])) = L2.upd H1 D (.lst (((is.take (i + 1)).filter bad).map V.int)) := fun hb => by
      refine ⟨_, rfl, _, upd_same, by rw [List.length_map]; exact Nat.lt_of_le_of_lt len (by decide), ?_⟩
      rw [upd_upd, et, List.filter_append, List.map_append, List.filter_cons_of_pos hb]
      rfl
    have skip : bad z = false → L2.upd H1 D (.lst (((is.take i).filter bad).map V.int)) = L2.upd H1 D (.lst (((is.take (i + 1)).filter bad).map V.int)) := fun hb => by
      rw [et, List.filter_append, List.filter_cons_of_neg (by rw [hb]; exact Bool.false_ne_true)]
      simp
    refine ite2 (fun c => ?_) fun c => ?_
    · exact put (by show (decide (z < 0) || _) = true; rw [c]; rfl)
    · have c' : decide (z < 0) = false := by simpa using c
      refine ⟨_, rfl, _, rfl, _, _, rfl, rfl, _, rfl, ?_⟩
      by_cases hc : (n : Int) ≤ z
      · rw [decide_eq_true hc]
        exact put (by show (decide (z < 0) || decide ((n : Int) ≤ z)) = true; rw [decide_eq_true hc, Bool.or_true])
      · rw [decide_eq_false hc]
        exact skip (by show (decide (z < 0) || decide ((n : Int) ≤ z)) = false; rw [c', decide_eq_false hc]; rfl)
  · rintro G rfl
    refine ⟨(by show 0 ≤ sizeLine; decide), fun q nq => ?_⟩
    have nDq : D ≠ q := ne_of_none upd_same nq
    have full : is.take ((is.map V.int).length) = is := by rw [List.length_map, List.take_length]
    refine eq_nil (SqL.of (by rw [upd_ne nDq]; exact upd_same)) (SqL.of upd_same) (fok_ints _) ?_
    rw [full] at nq ⊢
    have e : ((is.filter bad).map V.int).isEmpty = inRange is n := by
      rw [List.isEmpty_map, Bool.eq_iff_iff, List.isEmpty_iff, List.filter_eq_nil_iff]
      unfold inRange
      rw [List.all_eq_true]
      refine forall_congr' fun i => forall_congr' fun _ => ?_
      show (¬ (decide (i < 0) || decide ((n : Int) ≤ i)) = true) ↔ (!(decide (i < 0) || decide ((n : Int) ≤ i))) = true
      cases (decide (i < 0) || decide ((n : Int) ≤ i)) <;> simp
    rw [e]
    exact k _ ((s01.trans (Same.upd nD)).trans (Same.upd nq))
theorem scIsRow : FnScope nsIsRow ["value", "at"] (defScope sIsRow) := ⟨rfl, rfl, rfl, by decide +kernel, rfl, by decide +kernel, by decide +kernel⟩
theorem ok_isrow (F : FnP K "is_row" sIsRow f fd2) (FW : FnP K "is_whole" sWhole fW fdW) (T : Txt K mg) (C : Cst K mg) (gW : mg "is_whole" = some (.ref fW)) : FnOk P w K mg base CX0 2 f fd2 ["value", "at"] (spIsRow K) := by
  obtain ⟨pp, hpp, seqP⟩ := C.paired
  have GW : FnOk P w K mg base CX0 1 fW fdW ["value"] (spWhole K) := ok_whole FW T
  have bW : Binds K fdW ["value"] [] := FW.bindsN fun _ _ _ _ _ _ us hl => match us, hl with | [_], _ => rfl
  refine F.ok scIsRow (fun vs H Q E h => ?_) (fun cdv A outer s H vs Q E hr h => ?_)
  · obtain ⟨x, n, rfl, _⟩ := h
    rfl
  · obtain ⟨x, n, rfl, k⟩ := h
    refine ⟨_, PSs.nox (pss_cons (ps_if (PW.pt (pw_or (pt_not (pt_val (pe_callB call_isi (by rfl) T.isi boot_isinstance (pa_cons (pv 0) (pa_cons (pe_bltn (v := .ty "tuple") (by rfl) T.tuple (by decide +kernel) rfl) pa_nil)))))
        (pw_or (pt_cmpR op_lt (pe_callB call_len_seq (by rfl) T.len PySem.boot_len (pa_cons (pv 0) pa_nil)) pe_int (nomark _))
        (pw_or1 (pt_not (pt_val (pe_callB call_isi (by rfl) T.isi boot_isinstance (pa_cons (pe_ix ix_tup (pv 0) pe_int (fun _ _ => rfl)) (pa_cons (pe_bltn (v := .ty "str") (by rfl) T.str (by decide +kernel) rfl) pa_nil)))))))))
        (pss_one (ps_ret pe_bl)) pss_nil)
      (pss_cons (ps_if (pt_cmpR (op_neD hr.units) (pe_lc (own := [("item", 2)]) (g := gName 2) (by rfl) scIsRow.nd (pi_tup (pe_slice sl_tup (pv 0) (po_some pe_int) po_none)) (blkOk_by (own := [("item", 2)]) (N := nsIsRow) (sc := defScope sIsRow) (by decide +kernel))
          (fun _ _ _ _ _ => pg_name (i := 2) scIsRow.nd rfl (Or.inl rfl))
          (fun _ _ _ _ _ => pts_one (pt_not (pt_val (pe_call GW hr (by rfl) gW FW.kp bW .nil pass0 (pa_cons (pv 2) pa_nil)))))
          (fun _ _ _ _ _ => pv 2)) (pe_lst pa_nil) (nomark _)) (pss_one (ps_ret pe_bl)) pss_nil)
      (pss_cons (ps_if (pt_cmpR op_eq (pe_ix ix_tup (pv 0) pe_int (fun _ _ => rfl)) pe_str (nomark _))
          (pss_one (ps_ret (pe_and (pe_cmpR op_eq (pe_callB call_len_seq (by rfl) T.len PySem.boot_len (pa_cons (pv 0) pa_nil)) pe_int (nomark _)) (pe_one (pe_cmpR op_gt (pe_ix ix_tup (pv 0) pe_int (fun _ _ => rfl)) pe_int (nomark _)))))) pss_nil)
      (pss_cons (ps_if (PW.pt (pw_and (pt_cmpR op_ne (pe_ix ix_tup (pv 0) pe_int (fun _ _ => rfl)) pe_str (nomark _)) (pw_and1 (pt_cmpR op_notIn_seq (pe_ix ix_tup (pv 0) pe_int (fun _ _ => rfl)) (pe_glob (v := .ref pp) (by rfl) hpp rfl) (by rfl))))) (pss_one (ps_ret pe_bl)) pss_nil)
      (pss_cons (ps_if (pt_cmpR op_ne (pe_callB call_len_seq (by rfl) T.len PySem.boot_len (pa_cons (pv 0) pa_nil)) (pe_ifExp (pt_cmpR op_eq (pe_ix ix_tup (pv 0) pe_int (fun _ _ => rfl)) pe_str (nomark _)) pe_int pe_int) (nomark _)) (pss_one (ps_ret pe_bl)) pss_nil)
      (pss_one (ps_ret (pe_cmpR (op_eqD hr.units) (pe_lc (own := [("item", 2)]) (g := gName 2) (by rfl) scIsRow.nd (pi_tup (pe_slice sl_tup (pv 0) (po_some pe_int) po_none)) (blkOk_by (own := [("item", 2)]) (N := nsIsRow) (sc := defScope sIsRow) (by decide +kernel))
          (fun _ _ _ _ _ => pg_name (i := 2) scIsRow.nd rfl (Or.inl rfl))
          (fun _ _ _ _ _ => pts_one (PW.pt (pw_or (pt_cmpR op_lt (pv 2) pe_int (nomark _)) (pw_or1 (pt_cmpR op_ge (pv 2) (pv 1) (nomark _))))))
          (fun _ _ _ _ _ => pv 2)) (pe_lst pa_nil) (nomark _))))))))), ?_⟩
    rcases k with ⟨t, ty, e1, k⟩ | ⟨a, w, is, rfl, ha, hlen, k⟩
    · refine ⟨_, rfl, x, .ty "tuple", .type t, .type "tuple", false, rfl, .ty _, ty, kit_ty e1, false, rfl, ?_⟩
      refine iteT ?_
      exact iteT k
    · have hr1 : SqT K H a (rowV w is) := SqT.of ha
      refine ⟨_, rfl, .ref a, .ty "tuple", .type "tuple", .type "tuple", true, rfl, .ty _, .base (.tup ha), kit_ty (by decide +kernel), true, rfl, ?_⟩
      refine iteF ?_
      refine ⟨_, rfl, a, _, rfl, .inr hr1, _, _, rfl, rfl, _, rfl, ?_⟩
      have at0 : atI (rowV w is) (0 : Int) = some (.str w) := at_nat (k := 0) rfl
      have ln : (rowV w is).length = is.length + 1 := by simp [rowV]
      have okS : ∀ n : Nat, n ≤ 100 → n < sizeLine := fun n h => Nat.lt_of_le_of_lt h (by decide)
      refine ite2 (fun c => ?_) fun c => ?_
      · have h0 : is.length = 0 := by
          have := of_decide_eq_true c
          omega
        have er : rowOk w is n = false := by
          have : is = [] := List.length_eq_zero_iff.mp h0
          subst this
          unfold rowOk
          split
          · rfl
          · split
            · rfl
            · split <;> rfl
        have k' := k H (fun _ _ e => e)
        rw [er] at k'
        exact iteT k'
      have h1 : 1 ≤ is.length := by
        have : ¬ (((rowV w is).length : Nat) : Int) < 2 := fun q => c (decide_eq_true q)
        omega
      refine ⟨_, rfl, a, _, _, _, rfl, rfl, hr1, at0, _, .ty "str", .type "str", .type "str", true, rfl, .ty _, .base (.str w), kit_ty (by decide +kernel), true, rfl, ?_⟩
      refine iteF ?_
      -- the wholes
      refine ⟨_, rfl, _, rfl, a, _, rfl, hr1, notWhole, fun p np => ?_⟩
      rw [cut_tail]
      have s1 : ∀ o, Same H (L2.upd H p o) := fun o => Same.upd np
      refine ⟨p, rfl, ⟨_, SqT.of upd_same⟩, fun D nD => ?_⟩
      generalize hH1 : L2.upd H p (.tup (is.map V.int)) = H1 at nD ⊢
      have s01 : Same H H1 := hH1 ▸ s1 _
      have pt : H1 p = some (.tup (is.map V.int)) := by rw [← hH1, upd_same]
      have s2 : ∀ o, Same H1 (L2.upd H1 D o) := fun o => Same.upd nD
      refine lc_tup (K := K) (a := p) (xs := is.map V.int) (fun i G => G = L2.upd H1 D (.lst [])) rfl (fun i G _ e => by rw [e]; exact SqT.of (s2 _ _ _ pt)) ?_ ?_
      · rintro i y G hi rfl
        obtain ⟨z, hz, rfl⟩ := ints_at hi
        refine ⟨rfl, ?_⟩
        refine ⟨_, rfl, .int z, true, false, rfl, Kind.int z, true, rfl, ?_⟩
        exact iteF rfl
      · rintro G rfl
        refine ⟨(by show 0 ≤ sizeLine; decide), fun q nq => ?_⟩
        have nDq : D ≠ q := ne_of_none upd_same nq
        refine ne_nil (xs := []) (SqL.of (by rw [upd_ne nDq]; exact upd_same)) (SqL.of upd_same) rfl ⟨_, rfl, ?_⟩
        refine iteF ?_
        generalize hH2 : L2.upd (L2.upd H1 D (.lst [])) q (.lst []) = H2
        have s02 : Same H H2 := hH2 ▸ (s01.trans (s2 _)).trans (Same.upd nq)
        clear hH2 s1 s2 pt s01 nD np nq nDq
        have hr2 : SqT K H2 a (rowV w is) := SqT.of (s02 _ _ ha)
        have kk : ∀ H', Same H2 H' → Q (.bl (rowOk w is n)) H' := fun H' e => k H' (s02.trans e)
        refine ⟨_, rfl, a, _, _, _, rfl, rfl, hr2, at0, rfl, _, rfl, ?_⟩
        rw [decStr]
        refine ite2 (fun c => ?_) fun c => ?_
        · have hw : w = "fraction" := of_decide_eq_true c
          have er : rowOk w is n = (decide (is.length = 2) && decide (0 < is.getD 1 0)) := if_pos hw
          rw [er] at kk
          refine ⟨_, rfl, a, _, rfl, .inr hr2, rfl, _, rfl, ?_⟩
          rw [dec_int, ln]
          by_cases h2 : is.length = 2
          · obtain ⟨u, v, rfl⟩ : ∃ u v, is = [u, v] := by
              match is, h2 with
              | [u, v], _ => exact ⟨u, v, rfl⟩
            refine iteT ?_
            refine ⟨_, rfl, a, _, _, .int v, rfl, rfl, hr2, at_nat (k := 2) rfl, _, _, rfl, rfl, ?_⟩
            exact kk _ (fun _ _ e => e)
          · rw [decide_eq_false h2, Bool.false_and] at kk
            have e3 : ((((is.length + 1 : Nat) : Nat) : Int) == 3) = false := by
              rw [Bool.eq_false_iff]
              intro q
              have := eq_of_beq q
              omega
            rw [e3]
            exact iteF (kk _ (fun _ _ e => e))
        · have hw : ¬ w = "fraction" := fun q => c (decide_eq_true q)
          have er : rowOk w is n = (if w = "root" then decide (is.length = 1) && inRange is n else if w ∈ PAIR then decide (is.length = 2) && inRange is n else false) := if_neg hw
          -- the range
          by_cases hroot : w = "root"
          · rw [if_pos hroot] at er
            refine ⟨_, rfl, a, _, _, _, rfl, rfl, hr2, at0, rfl, _, rfl, ?_⟩
            rw [decStr, decide_eq_true hroot]
            refine iteF ?_
            refine ⟨_, rfl, a, _, rfl, .inr hr2, _, rfl, a, _, _, _, rfl, rfl, hr2, at0, rfl, _, rfl, ?_⟩
            rw [decStr, decide_eq_true hroot]
            refine iteT ?_
            refine ⟨rfl, _, rfl, ?_⟩
            rw [dec_int, ln]
            by_cases h2 : is.length = 1
            · have e3 : ((((is.length + 1 : Nat) : Nat) : Int) == 2) = true := by rw [h2]; rfl
              rw [e3]
              refine iteF ?_
              rw [decide_eq_true h2, Bool.true_and] at er
              exact range_read hr2 hlen fun H' e => by have := kk H' e; rw [er] at this; exact this
            · have e3 : ((((is.length + 1 : Nat) : Nat) : Int) == 2) = false := by
                rw [Bool.eq_false_iff]
                intro q
                have := eq_of_beq q
                omega
              rw [e3]
              rw [decide_eq_false h2, Bool.false_and] at er
              rw [er] at kk
              exact iteT (kk _ (fun _ _ e => e))
          · rw [if_neg hroot] at er
            refine ⟨_, rfl, a, _, _, _, rfl, rfl, hr2, at0, rfl, _, rfl, ?_⟩
            rw [decStr, decide_eq_false hroot]
            refine iteT ?_
            refine ⟨_, rfl, a, _, _, _, rfl, rfl, hr2, at0, pp, _, rfl, .inr (seqP _), rfl, rfl, _, rfl, ?_⟩
            have ein : inV (.str w) (PAIR.map V.str) = decide (w ∈ PAIR) := inV_str _ _
            rw [if_pos rfl, ein]
            by_cases hp : w ∈ PAIR
            · rw [if_pos hp] at er
              rw [decide_eq_true hp]
              refine iteF ?_
              refine ⟨_, rfl, a, _, rfl, .inr hr2, _, rfl, a, _, _, _, rfl, rfl, hr2, at0, rfl, _, rfl, ?_⟩
              rw [decStr, decide_eq_false hroot]
              refine iteF ?_
              refine ⟨rfl, _, rfl, ?_⟩
              rw [dec_int, ln]
              by_cases h2 : is.length = 2
              · have e3 : ((((is.length + 1 : Nat) : Nat) : Int) == 3) = true := by rw [h2]; rfl
                rw [e3]
                refine iteF ?_
                rw [decide_eq_true h2, Bool.true_and] at er
                exact range_read hr2 hlen fun H' e => by have := kk H' e; rw [er] at this; exact this
              · have e3 : ((((is.length + 1 : Nat) : Nat) : Int) == 3) = false := by
                  rw [Bool.eq_false_iff]
                  intro q
                  have := eq_of_beq q
                  omega
                rw [e3]
                rw [decide_eq_false h2, Bool.false_and] at er
                rw [er] at kk
                exact iteT (kk _ (fun _ _ e => e))
            · rw [if_neg hp] at er
              rw [er] at kk
              rw [decide_eq_false hp]
              exact iteT (kk _ (fun _ _ e => e))
end
end Own
set_option Elab.async false
set_option linter.all false
set_option maxRecDepth 100000
set_option maxHeartbeats 4000000
namespace Own
open PySem PySem.Spec PyProof.Rows L2 LamX
abbrev RowS := Str × List Int
/-- what a value is, seen as a row: none: no tuple -/
def ItemV (H : Hp) (v : V) : Option RowS → Prop
  | none => (∃ z, v = .str z) ∨ ∃ z, v = .int z
  | some r => ∃ a, v = .ref a ∧ H a = some (.tup (rowV r.1 r.2)) ∧ r.2.length ≤ 10000
theorem ItemV.same {H H' : Hp} {v : V} : ∀ {o : Option RowS}, ItemV H v o → Same H H' → ItemV H' v o
  | none, h, _ => h
  | some r, ⟨a, e, h, l⟩, s => ⟨a, e, s _ _ h, l⟩
def itemOk (o : Option RowS) (n : Nat) : Bool := match o with
  | none => false
  | some r => rowOk r.1 r.2 n
def reckOk (os : List (Option RowS)) : Bool := !os.isEmpty && os.zipIdx.all fun p => itemOk p.1 p.2
def ItemsV (H : Hp) (vs : List V) (os : List (Option RowS)) : Prop := vs.length = os.length ∧ ∀ (i : Nat) (v : V), vs[i]? = some v → ∃ o, os[i]? = some o ∧ ItemV H v o
theorem ItemsV.same {H H' : Hp} {vs : List V} {os : List (Option RowS)} (h : ItemsV H vs os) (s : Same H H') : ItemsV H' vs os := ⟨h.1, fun i v e => let ⟨o, e1, h1⟩ := h.2 i v e; ⟨o, e1, h1.same s⟩⟩
theorem enumS_of {K : PySem.W.Frag} {σ : L2.St} {H : Hp} {R : It → Hp → Prop} {i : Nat} {a : Addr} {vs : List V} (hσ : σ[i]? = some (some (.ref a))) (hv : H a = some (.lst vs) ∨ H a = some (.tup vs))
    (h : ∀ (J : It) (G : Hp → Prop), Walk J vs.length G (YPair (fun (i : Nat) => some (.int (i : Nat))) (fun (i : Nat) => vs[i]?)) → (∀ H', Same H H' → G H') → R J H) : iEnumS K (tCons (tVar i) tNil) σ H R := by
  refine ⟨_, hσ, a, rfl, ?_⟩
  rcases hv with hv | hv
  · exact .inl ⟨vs, SqL.of hv, h _ _ walk_enum fun H' e => SqL.of (e _ _ hv)⟩
  · exact .inr ⟨vs, SqT.of hv, h _ _ walk_enumT fun H' e => SqT.of (e _ _ hv)⟩
theorem zip_snoc {os : List (Option RowS)} {i : Nat} {o : Option RowS} (h : os[i]? = some o) : (os.take (i + 1)).zipIdx = (os.take i).zipIdx ++ [(o, i)] := by
  have hl : (os.take i).length = i := by
    rw [List.length_take]
    have := (List.getElem?_eq_some_iff.mp h).1
    omega
  rw [List.take_succ, h]
  show (os.take i ++ [o]).zipIdx = _
  rw [List.zipIdx_append, hl]
  simp
def spReck (K : PySem.W.Frag) : Sp := fun vs H Q _ => ∃ x, vs = [x] ∧ ((∃ t : String, TyX K H x (.type t) ∧ kitB t "list" = some false ∧ kitB t "tuple" = some false ∧ Q (.bl false) H) ∨
  ∃ a vs os, x = .ref a ∧ (H a = some (.lst vs) ∨ H a = some (.tup vs)) ∧ ItemsV H vs os ∧ vs.length ≤ 10000 ∧ ∀ H', Same H H' → Q (.bl (reckOk os)) H')
def spNeed (K : PySem.W.Frag) (CR : Addr) : Sp := fun vs H Q E => ∃ x, vs = [x] ∧ ((∃ t : String, TyX K H x (.type t) ∧ kitB t "list" = some false ∧ kitB t "tuple" = some false ∧ E (.ref CR) none H) ∨
  ∃ a vs os, x = .ref a ∧ (H a = some (.lst vs) ∨ H a = some (.tup vs)) ∧ ItemsV H vs os ∧ vs.length ≤ 10000 ∧ (reckOk os = true → ∀ H', Same H H' → Q .non H') ∧ (reckOk os = false → ∀ H', Same H H' → E (.ref CR) none H'))
section
variable {P : Program} {w : World} {K : PySem.W.Frag} {mg : Str → Option Value} {base : Heap} {f fW fR fN CB : Addr} {fd2 fdW fdR fdN : FuncData}
abbrev nsReck : List Str := ["value", "at", "row"]
theorem scReck : FnScope nsReck ["value"] (defScope sIsReck) := ⟨rfl, rfl, rfl, by decide +kernel, rfl, by decide +kernel, by decide +kernel⟩
theorem ok_isreck (F : FnP K "is_reckoning" sIsReck f fd2) (FR : FnP K "is_row" sIsRow fR fdR) (FW : FnP K "is_whole" sWhole fW fdW) (T : Txt K mg) (C : Cst K mg) (gW : mg "is_whole" = some (.ref fW)) (gR : mg "is_row" = some (.ref fR)) : FnOk P w K mg base CX0 3 f fd2 ["value"] (spReck K) := by
  have GR : FnOk P w K mg base CX0 2 fR fdR ["value", "at"] (spIsRow K) := ok_isrow FR FW T C gW
  have bR : Binds K fdR ["value", "at"] [] := FR.bindsN fun _ _ _ _ _ _ us hl => match us, hl with | [_, _], _ => rfl
  refine F.ok scReck (fun vs H Q E h => ?_) (fun cdv A outer s H vs Q E hr h => ?_)
  · obtain ⟨x, rfl, _⟩ := h
    rfl
  · obtain ⟨x, rfl, k⟩ := h
    refine ⟨_, PSs.nox (pss_cons (ps_if (PW.pt (pw_and (pt_not (pt_val (pe_callB call_isi (by rfl) T.isi boot_isinstance (pa_cons (pv 0) (pa_cons (pe_bltn (v := .ty "list") (by rfl) T.list (by decide +kernel) rfl) pa_nil)))))
        (pw_and1 (pt_not (pt_val (pe_callB call_isi (by rfl) T.isi boot_isinstance (pa_cons (pv 0) (pa_cons (pe_bltn (v := .ty "tuple") (by rfl) T.tuple (by decide +kernel) rfl) pa_nil))))))))
        (pss_one (ps_ret pe_bl)) pss_nil)
      (pss_one (ps_ret (pe_and (pe_cmpR op_gt (pe_callB call_len_seq (by rfl) T.len PySem.boot_len (pa_cons (pv 0) pa_nil)) pe_int (nomark _))
        (pe_one (pe_cmpR (op_eqD hr.units) (pe_lc (own := [("at", 1), ("row", 2)]) (g := gTup K 2 (gCons (gName 1) (gCons (gName 2) gNil))) (by rfl) scReck.nd (pi_enumS (by rfl) T.enum (pa_cons (pv 0) pa_nil)) (blkOk_by (own := [("at", 1), ("row", 2)]) (N := nsReck) (sc := defScope sIsReck) (by decide +kernel))
          (fun _ _ _ _ _ => pg_tup rfl (pgs_cons (pg_name (i := 1) scReck.nd rfl (Or.inl rfl)) (pgs_cons (pg_name (i := 2) scReck.nd rfl (Or.inl rfl)) pgs_nil)))
          (fun _ _ _ _ _ => pts_one (pt_not (pt_val (pe_call GR hr (by rfl) gR FR.kp bR .nil pass0 (pa_cons (pv 2) (pa_cons (pv 1) pa_nil))))))
          (fun _ _ _ _ _ => pv 1)) (pe_lst pa_nil) (nomark _))))))), ?_⟩
    rcases k with ⟨t, ty, e1, e2, k⟩ | ⟨a, vs, os, rfl, hv, hI, hl, k⟩
    · refine ⟨_, rfl, x, .ty "list", .type t, .type "list", false, rfl, .ty _, ty, kit_ty e1, false, rfl, ?_⟩
      refine iteT ?_
      refine ⟨_, rfl, x, .ty "tuple", .type t, .type "tuple", false, rfl, .ty _, ty, kit_ty e2, false, rfl, ?_⟩
      exact iteT k
    · have isl : ∃ t b c, TyX K H (.ref a) (.type t) ∧ kitB t "list" = some b ∧ kitB t "tuple" = some c ∧ (!b && !c) = false ∧ (b = false → c = true) := by
        rcases hv with hv | hv
        · exact ⟨"list", true, false, .base (.lst hv), by decide +kernel, by decide +kernel, rfl, fun z => by cases z⟩
        · exact ⟨"tuple", false, true, .base (.tup hv), by decide +kernel, by decide +kernel, rfl, fun _ => rfl⟩
      obtain ⟨t, b, c, ty, e1, e2, e3, e4⟩ := isl
      have isq : SqL K H a vs ∨ SqT K H a vs := hv.elim (fun h => .inl (SqL.of h)) fun h => .inr (SqT.of h)
      have hN : os.length = vs.length := hI.1.symm
      refine ⟨_, rfl, .ref a, .ty "list", .type t, .type "list", b, rfl, .ty _, ty, kit_ty e1, b, rfl, ?_⟩
      have main : (tRet (tAndV (tOp (rI0 fun i j => .bl (decide (j < i))) (tCB (fun xs H Q => ∃ p ys, xs = [.ref p] ∧ (SqL K H p ys ∨ SqT K H p ys) ∧ Q (.int ys.length) H) (tCons (tVar 0) tNil)) (tC (.int 0)))
        (tOp (rEqD K) (tLc (iEnumS K (tCons (tVar 0) tNil)) (gTup K 2 (gCons (gName 1) (gCons (gName 2) gNil))) (tNot (tB (tCall (spIsRow K) [] (fun _ _ _ => False) (tCons (tVar 2) (tCons (tVar 1) tNil))))) (tVar 1) [1, 2]) (tLst tNil)))) { nx := fun _ H' => Q .non H', rt := Q } (start nsReck [.ref a]) H := by
        refine ⟨_, rfl, a, _, rfl, isq, _, _, rfl, rfl, _, rfl, ?_⟩
        refine ite2 (fun c => ?_) fun c => ?_
        · have pos : 0 < vs.length := by
            have := of_decide_eq_true c
            omega
          have ne : os.isEmpty = false := by
            cases os with
            | nil => simp at hN; omega
            | cons _ _ => rfl
          unfold tOp tLc
          refine enumS_of (K := K) (σ := start nsReck [.ref a]) (i := 0) (H := H) (a := a) (vs := vs) rfl hv ?_
          intro J G wk hG D nD
          refine lc_it wk (fun i H1 => ∃ bs : List Int, H1 D = some (.lst (bs.map V.int)) ∧ bs.length ≤ i ∧ bs.isEmpty = ((os.take i).zipIdx.all fun p => itemOk p.1 p.2) ∧ Same H H1)
            ⟨[], upd_same, Nat.le_refl _, rfl, Same.upd nD⟩ (fun i H1 _ ⟨_, _, _, _, e⟩ => hG _ e) ?_ ?_
          · rintro i x H1 H2 hi ⟨bs, hD, hb, he, e⟩ ⟨TA, x1, x2, rfl, nT, rfl, hx1, hx2⟩
            obtain rfl : V.int (i : Nat) = x1 := Option.some.inj hx1
            obtain ⟨o, ho, hit⟩ := hI.2 i x2 hx2
            have eT : Same H1 (L2.upd H1 TA (.tup [.int (i : Nat), x2])) := Same.upd nT
            refine ⟨TA, _, rfl, SqT.of upd_same, rfl, _, _, rfl, _, _, rfl, rfl, rfl, ?_⟩
            have hD2 := eT _ _ hD
            have e2 := e.trans eT
            generalize L2.upd H1 TA (.tup [.int (i : Nat), x2]) = H2 at eT hD2 e2
            refine ⟨_, rfl, _, rfl, x2, i, rfl, ?_⟩
            have fin : ∀ H3, Same H2 H3 → (if (!itemOk o i) = true then ∃ v, [some (V.ref a), some (V.int (i : Nat)), some x2][1]? = some (some v) ∧ ∃ acc, H3 D = some (.lst acc) ∧ acc.length < sizeLine ∧ ∃ bs : List Int, L2.upd H3 D (.lst (acc ++ [v])) D = some (.lst (bs.map V.int)) ∧ bs.length ≤ i + 1 ∧ bs.isEmpty = ((os.take (i + 1)).zipIdx.all fun p => itemOk p.1 p.2) ∧ Same H (L2.upd H3 D (.lst (acc ++ [v])))
                else ∃ bs : List Int, H3 D = some (.lst (bs.map V.int)) ∧ bs.length ≤ i + 1 ∧ bs.isEmpty = ((os.take (i + 1)).zipIdx.all fun p => itemOk p.1 p.2) ∧ Same H H3) := fun H3 e3 => by
              rw [zip_snoc ho, List.all_append]
              cases hk : itemOk o i with
              | true =>
                refine iteF ⟨bs, e3 _ _ hD2, by omega, ?_, e2.trans e3⟩
                rw [he]
                simp [hk]
              | false =>
                refine iteT ⟨_, rfl, _, e3 _ _ hD2, by rw [List.length_map]; exact Nat.lt_of_le_of_lt (show bs.length ≤ 10000 by omega) (by decide), bs ++ [(i : Int)], ?_, by simp; omega, ?_, ?_⟩
                · rw [upd_same, List.map_append]
                  rfl
                · simp [hk]
                · intro b u eb
                  rw [upd_ne (ne_of_none eb nD)]
                  exact (e2.trans e3) _ _ eb
            cases o with
            | none =>
              rcases hit with ⟨z, rfl⟩ | ⟨z, rfl⟩
              · exact .inl ⟨"str", .base (.str z), by decide +kernel, false, rfl, fin H2 (Same.refl _)⟩
              · exact .inl ⟨"int", .base (.int z), by decide +kernel, false, rfl, fin H2 (Same.refl _)⟩
            | some r =>
              obtain ⟨ar, rfl, har, hrl⟩ := hit
              exact .inr ⟨ar, r.1, r.2, rfl, e2 _ _ har, hrl, fun H3 e3 => ⟨_, rfl, fin H3 e3⟩⟩
          · rintro H1 ⟨bs, hD, hb, he, e⟩
            have full : os.take vs.length = os := by rw [← hN, List.take_length]
            rw [full] at he
            refine ⟨(by show 0 ≤ sizeLine; decide), fun q nq => ?_⟩
            have nDq : D ≠ q := ne_of_none hD nq
            refine eq_nil (SqL.of (by rw [upd_ne nDq]; exact hD)) (SqL.of upd_same) (fok_ints _) ?_
            have er : (bs.map V.int).isEmpty = reckOk os := by
              rw [List.isEmpty_map, he]
              unfold reckOk
              rw [ne]
              rfl
            rw [er]
            exact k _ (e.trans (Same.upd nq))
        · have z : vs.length = 0 := by
            have : ¬ (0 : Int) < ((vs.length : Nat) : Int) := fun q => c (decide_eq_true q)
            omega
          have er : reckOk os = false := by
            have : os = [] := List.length_eq_zero_iff.mp (by omega)
            rw [this]
            rfl
          have := k H (fun _ _ e => e)
          rw [er] at this
          exact this
      cases b with
      | true =>
        refine iteF ?_
        exact main
      | false =>
        refine iteT ?_
        refine ⟨_, rfl, .ref a, .ty "tuple", .type t, .type "tuple", c, rfl, .ty _, ty, kit_ty e2, c, rfl, ?_⟩
        rw [e4 rfl]
        refine iteF ?_
        exact main
/-- what the module says of an own error class without __init__ -/
structure ExcT (K : PySem.W.Frag) (mg : Str → Option Value) (x : Str) (C : Addr) : Prop where
  g : mg x = some (.ref C)
  x : PySem.W.excIn K C He.veBase "ValueError.__new__" = true
  k : PySem.W.keepIn K (.ref C) = true
  b : PySem.W.subIn K (.ref C) (.type "BaseException") = some true
  t : PySem.W.typeIn K (.ref C) = some (.type "type")
theorem scNeed : FnScope ["rows"] ["rows"] (defScope sNeed) := ⟨rfl, rfl, rfl, by decide +kernel, rfl, by decide +kernel, by decide +kernel⟩
theorem ok_need (F : FnP K "need_rows" sNeed f fd2) (FI : FnP K "is_reckoning" sIsReck fN fdN) (FR : FnP K "is_row" sIsRow fR fdR) (FW : FnP K "is_whole" sWhole fW fdW) (T : Txt K mg) (C : Cst K mg) (gW : mg "is_whole" = some (.ref fW)) (gR : mg "is_row" = some (.ref fR)) (gI : mg "is_reckoning" = some (.ref fN))
    (B : ExcT K mg "BadRows" CB) : FnOk P w K mg base (L2.CX P w) 4 f fd2 ["rows"] (spNeed K CB) := by
  have GI : FnOk P w K mg base CX0 3 fN fdN ["value"] (spReck K) := ok_isreck FI FR FW T C gW gR
  have bI : Binds K fdN ["value"] [] := FI.bindsN fun _ _ _ _ _ _ us hl => match us, hl with | [_], _ => rfl
  refine F.ok scNeed (fun vs H Q E h => ?_) (fun cdv A outer s H vs Q E hr h => ?_)
  · obtain ⟨x, rfl, _⟩ := h
    rfl
  · obtain ⟨x, rfl, k⟩ := h
    refine ⟨_, pss_one (ps_if (pt_not (pt_val (pe_call GI hr (by rfl) gI FI.kp bI .nil pass0 (pa_cons (pv 0) pa_nil)))) (pss_one (ps_raise rfl (takes_of rfl rfl rfl rfl) (pmk_own PySem.F.excBase_ValueError B.x B.g B.k (raises_own B.b B.t) rfl))) pss_nil), ?_⟩
    rcases k with ⟨t, ty, e1, e2, k⟩ | ⟨a, vs, os, rfl, hv, hI, hl, k1, k2⟩
    · exact ⟨_, rfl, x, rfl, .inl ⟨t, ty, e1, e2, false, rfl, iteT k⟩⟩
    · refine ⟨_, rfl, .ref a, rfl, .inr ⟨a, vs, os, rfl, hv, hI, hl, fun H' e => ⟨_, rfl, ?_⟩⟩⟩
      cases hk : reckOk os with
      | true => exact iteF (k1 hk H' e)
      | false => exact iteT (k2 hk H' e)
end
end Own
set_option Elab.async false
set_option linter.all false
set_option maxRecDepth 100000
set_option maxHeartbeats 4000000
namespace Own
open PySem PySem.Spec PyProof.Rows L2 LamX
/-! ### rows written -/
def lineL (r : RowS) : List Nat := TL.joinL [32] (TL.tl r.1 :: r.2.map intL)
def textL (rows : List RowS) : List Nat := TL.joinL [10] (rows.map lineL)
theorem tl_joinS (y : Str) (ps : List Str) : TL.tl (Txt.join y ps) = TL.joinL (TL.tl y) (ps.map TL.tl) := by rw [TL.join_eq, TL.tl_join]
def partsS (r : RowS) : List Str := r.1 :: r.2.map fun z => sg (intL z)
theorem join_parts (r : RowS) : Txt.join " " (partsS r) = sg (lineL r) := by
  refine TL.ext_tl ?_
  rw [tl_joinS, tl_sg]
  unfold partsS lineL
  rw [List.map_cons, List.map_map]
  rfl
theorem join_lines (rows : List RowS) : Txt.join "\n" (rows.map fun r => sg (lineL r)) = sg (textL rows) := by
  refine TL.ext_tl ?_
  rw [tl_joinS, tl_sg, List.map_map]
  rfl
theorem joinL_len (s : Nat) : ∀ ps : List (List Nat), (TL.joinL [s] ps).length ≤ (ps.map List.length).sum + ps.length
  | [] => Nat.le_refl _
  | [p] => by simp [TL.joinL]
  | p :: q :: r => by
    have ih := joinL_len s (q :: r)
    show (p ++ ([s] ++ TL.joinL [s] (q :: r))).length ≤ _
    rw [List.length_append, List.length_append]
    simp at ih ⊢
    omega
/-- rows as they are drawn: the words known, the wholes bounded -/
def RowB (r : RowS) : Prop := r.1.length ≤ 10 ∧ r.2.length ≤ 2 ∧ ∀ z ∈ r.2, z.natAbs < 2 ^ 90
theorem lineL_len {r : RowS} (h : RowB r) : (lineL r).length ≤ 200 := by
  obtain ⟨h1, h2, h3⟩ := h
  have k := joinL_len 32 (TL.tl r.1 :: r.2.map intL)
  have e1 : (TL.tl r.1).length = r.1.length := (TL.len_tl r.1).symm
  have e2 : ((r.2.map intL).map List.length).sum ≤ 120 := by
    match hr : r.2, h2, h3 with
    | [], _, _ => simp
    | [a], _, h3 =>
      have := intL_len (Nat.lt_trans (h3 a (by simp)) (by decide))
      simp; omega
    | [a, b], _, h3 =>
      have := intL_len (Nat.lt_trans (h3 a (by simp)) (by decide))
      have := intL_len (Nat.lt_trans (h3 b (by simp)) (by decide))
      simp; omega
  unfold lineL
  have e3 : ((TL.tl r.1 :: r.2.map intL).map List.length).sum = (TL.tl r.1).length + ((r.2.map intL).map List.length).sum := by
    rw [List.map_cons, List.sum_cons]
  have e4 : (TL.tl r.1 :: r.2.map intL).length = r.2.length + 1 := by rw [List.length_cons, List.length_map]
  omega
theorem parts_bound {r : RowS} (h : RowB r) : ((partsS r).map (·.length)).sum + (partsS r).length * (" " : Str).length ≤ 16777216 := by
  obtain ⟨h1, h2, h3⟩ := h
  have e1 : (" " : Str).length = 1 := rfl
  have e2 : (partsS r).length = r.2.length + 1 := by simp [partsS]
  have e3 : ((partsS r).map (·.length)).sum = r.1.length + (r.2.map fun z => (intL z).length).sum := by
    unfold partsS
    rw [List.map_cons, List.sum_cons, List.map_map]
    congr 2
  have e4 : (r.2.map fun z => (intL z).length).sum ≤ 120 := by
    match hr : r.2, h2, h3 with
    | [], _, _ => simp
    | [a], _, h3 =>
      have := intL_len (Nat.lt_trans (h3 a (by simp)) (by decide))
      simp; omega
    | [a, b], _, h3 =>
      have := intL_len (Nat.lt_trans (h3 a (by simp)) (by decide))
      have := intL_len (Nat.lt_trans (h3 b (by simp)) (by decide))
      simp; omega
  rw [e1, e2, e3]
  omega
theorem sum_bound {c : Nat} : ∀ {l : List Nat}, (∀ x ∈ l, x ≤ c) → l.sum ≤ l.length * c
  | [], _ => Nat.zero_le _
  | x :: r, h => by
    have a := h x (List.mem_cons_self ..)
    have b := sum_bound (l := r) fun y hy => h y (List.mem_cons_of_mem _ hy)
    rw [List.sum_cons, List.length_cons, Nat.succ_mul]
    omega
theorem lines_bound {rows : List RowS} (h : ∀ r ∈ rows, RowB r) (hl : rows.length ≤ 100) : ((rows.map fun r => sg (lineL r)).map (·.length)).sum + (rows.map fun r => sg (lineL r)).length * ("\n" : Str).length ≤ 16777216 := by
  have e1 : ("\n" : Str).length = 1 := rfl
  have e2 := sum_bound (c := 200) (l := (rows.map fun r => sg (lineL r)).map (·.length)) fun x hx => by
    rw [List.map_map, List.mem_map] at hx
    obtain ⟨r, hr, rfl⟩ := hx
    show (sg (lineL r)).length ≤ 200
    rw [sg_len]
    exact lineL_len (h r hr)
  rw [List.length_map, List.length_map] at e2
  rw [e1, List.length_map]
  omega
def lcScope : Expr → Scope
  | .ListComp _ _ sc _ => sc
  | _ => default
def rtOuter : Expr := match (defBody sRText).getD 1 (.Pass ⟨0, 0, 0, 0⟩) with
  | .Return (some (.Call _ [e] _ _)) _ => e
  | _ => .Constant .none 0 ⟨0, 0, 0, 0⟩
def RowsV (H : Hp) (vs : List V) (rows : List RowS) : Prop := vs.length = rows.length ∧ ∀ (i : Nat) (v : V), vs[i]? = some v → ∃ r, rows[i]? = some r ∧ ∃ a, v = .ref a ∧ H a = some (.tup (rowV r.1 r.2))
theorem RowsV.same {H H' : Hp} {vs : List V} {rows : List RowS} (h : RowsV H vs rows) (s : Same H H') : RowsV H' vs rows := ⟨h.1, fun i v e => let ⟨r, e1, a, e2, e3⟩ := h.2 i v e; ⟨r, e1, a, e2, s _ _ e3⟩⟩
theorem RowsV.items {H : Hp} {vs : List V} {rows : List RowS} (h : RowsV H vs rows) (hb : ∀ r ∈ rows, r.2.length ≤ 10000) : ItemsV H vs (rows.map some) := by
  refine ⟨by rw [List.length_map]; exact h.1, fun i v e => ?_⟩
  obtain ⟨r, e1, a, e2, e3⟩ := h.2 i v e
  exact ⟨some r, by rw [List.getElem?_map, e1]; rfl, a, e2, e3, hb r (List.mem_of_getElem? e1)⟩
def spRText (K : PySem.W.Frag) (CR : Addr) : Sp := fun vs H Q E => ∃ x, vs = [x] ∧ ((∃ t : String, TyX K H x (.type t) ∧ kitB t "list" = some false ∧ kitB t "tuple" = some false ∧ E (.ref CR) none H) ∨
  (∃ a vs os, x = .ref a ∧ (H a = some (.lst vs) ∨ H a = some (.tup vs)) ∧ ItemsV H vs os ∧ vs.length ≤ 10000 ∧ reckOk os = false ∧ ∀ H', Same H H' → E (.ref CR) none H') ∨
  ∃ a vs rows, x = .ref a ∧ H a = some (.tup vs) ∧ RowsV H vs rows ∧ vs.length ≤ 100 ∧ (∀ r ∈ rows, RowB r) ∧ reckOk (rows.map some) = true ∧ ∀ H', Same H H' → Q (.str (sg (textL rows))) H')
section
variable {P : Program} {w : World} {K : PySem.W.Frag} {mg : Str → Option Value} {base : Heap} {f fW fR fN fI fT CB : Addr} {fd2 fdW fdR fdN fdI fdT : FuncData}
abbrev tParts (K : PySem.W.Frag) : TE := tOp rCat (tLst (tCons (tOp (rIxT K) (tVar 2) (tC (.int 0))) tNil)) (tLc (iTup K (tSl (rSlT K) (tVar 2) (tPart (tC (.int 1))) tNoPart)) (gName 1) tYes (tCall spWText [] (fun _ _ _ => False) (tCons (tVar 1) tNil)) [1])
abbrev tJoinE (K : PySem.W.Frag) (y : Str) (t : TE) : TE := tM1 (fun x xs H Q => ∃ a p, ∃ ys : List Str, x = .str a ∧ xs = [.ref p] ∧ (SqL K H p (ys.map V.str) ∨ SqT K H p (ys.map V.str)) ∧
      (ys.map (·.length)).sum + ys.length * a.length ≤ 16777216 ∧ Q (.str (Txt.join a ys)) H) (tC (.str y)) t
abbrev nsRText : List Str := ["rows", "item", "row"]
theorem scRText : FnScope nsRText ["rows"] (defScope sRText) := ⟨rfl, rfl, rfl, by decide +kernel, rfl, by decide +kernel, by decide +kernel⟩
theorem ok_rtext (F : FnP K "reckoning_text" sRText f fd2) (FN : FnP K "need_rows" sNeed fN fdN) (FT : FnP K "whole_text" sWText fT fdT) (FI : FnP K "is_reckoning" sIsReck fI fdI) (FR : FnP K "is_row" sIsRow fR fdR) (FW : FnP K "is_whole" sWhole fW fdW) (T : Txt K mg) (C : Cst K mg) (gW : mg "is_whole" = some (.ref fW)) (gR : mg "is_row" = some (.ref fR)) (gI : mg "is_reckoning" = some (.ref fI)) (gN : mg "need_rows" = some (.ref fN)) (gT : mg "whole_text" = some (.ref fT))
    (B : ExcT K mg "BadRows" CB) : FnOk P w K mg base (L2.CX P w) 5 f fd2 ["rows"] (spRText K CB) := by
  have GN : FnOk P w K mg base (L2.CX P w) 4 fN fdN ["rows"] (spNeed K CB) := ok_need FN FI FR FW T C gW gR gI B
  have bN : Binds K fdN ["rows"] [] := FN.bindsN fun _ _ _ _ _ _ us hl => match us, hl with | [_], _ => rfl
  have GT : FnOk P w K mg base CX0 1 fT fdT ["whole"] spWText := ok_wtext FT T
  have bT : Binds K fdT ["whole"] [] := FT.bindsN fun _ _ _ _ _ _ us hl => match us, hl with | [_], _ => rfl
  refine F.ok scRText (fun vs H Q E h => ?_) (fun cdv A outer s H vs Q E hr h => ?_)
  · obtain ⟨x, rfl, _⟩ := h
    rfl
  · obtain ⟨x, rfl, k⟩ := h
    have hr1 : Room 1 (A.deeper (envOfC "reckoning_text" (defScope sRText) s.heap.objs.size f cdv)) := hr.mono (by decide)
    refine ⟨_, pss_cons (ps_expr (pe_call GN hr (by rfl) gN FN.kp bN .nil (passes_call (takes_of rfl rfl rfl rfl) fun _ _ _ _ h => h) (pa_cons (pv 0) pa_nil)))
      (pss_one (ps_ret (pe_join pe_str (pe_lc (own := [("row", 2)]) (g := gName 2) (tt := tYes) (te := tJoinE K " " (tParts K)) (by rfl) scRText.nd (pi_tup (pv 0)) (blkOk_by (own := [("row", 2)]) (N := nsRText) (sc := defScope sRText) (by decide +kernel))
        (fun _ _ _ _ _ => pg_name (i := 2) scRText.nd rfl (Or.inl rfl)) (fun _ _ _ _ _ => pts_nil)
        (fun _ _ _ _ _ => pe_join pe_str (pe_op op_cat (pe_lst (pa_cons (pe_ix ix_tup (pv 2) pe_int (fun _ _ => rfl)) pa_nil))
          (pe_lc (own := [("item", 1)]) (g := gName 1) (tt := tYes) (by rfl) scRText.nd (pi_tup (pe_slice sl_tup (pv 2) (po_some pe_int) po_none)) (blkOk_by (own := [("item", 1)]) (N := nsRText) (sc := lcScope rtOuter) (by decide +kernel))
            (fun _ _ _ _ _ => pg_name (i := 1) scRText.nd rfl (Or.inl rfl)) (fun _ _ _ _ _ => pts_nil)
            (fun _ _ _ _ _ => pe_call GT hr1 (by rfl) gT FT.kp bT .nil pass0 (pa_cons (pv 1) pa_nil))))))))), ?_⟩
    rcases k with ⟨t, ty, e1, e2, k⟩ | ⟨a, vs, os, rfl, hv, hI, hl, hk, k⟩ | ⟨a, vs, rows, rfl, ha, hR, hl, hB, hk, k⟩
    · exact ⟨_, rfl, x, rfl, .inl ⟨t, ty, e1, e2, k⟩⟩
    · exact ⟨_, rfl, .ref a, rfl, .inr ⟨a, vs, os, rfl, hv, hI, hl, (fun z => by rw [hk] at z; cases z), fun _ => k⟩⟩
    · have hlr : rows.length ≤ 100 := hR.1 ▸ hl
      refine ⟨_, rfl, .ref a, rfl, .inr ⟨a, vs, rows.map some, rfl, .inr ha, hR.items fun r hr => Nat.le_trans (hB r hr).2.1 (by decide), Nat.le_trans hl (by decide), fun _ H1 e1 => ?_, fun z => by rw [hk] at z; cases z⟩⟩
      refine ⟨⟨_, rfl⟩, _, rfl, a, rfl, ⟨_, SqT.of (e1 _ _ ha)⟩, fun D nD => ?_⟩
      refine lc_tup (K := K) (a := a) (xs := vs) (fun i H2 => H2 D = some (.lst ((rows.take i).map fun r => V.str (sg (lineL r)))) ∧ Same H1 H2) ⟨upd_same, Same.upd nD⟩ (fun i H2 _ h => SqT.of (h.2 _ _ (e1 _ _ ha))) ?_ ?_
      · rintro i y H2 hi ⟨hD, e2⟩
        obtain ⟨r, hri, ar, rfl, har⟩ := hR.2 i y hi
        have har2 := e2 _ _ (e1 _ _ har)
        have hBr := hB r (List.mem_of_getElem? hri)
        refine ⟨rfl, ?_⟩
        refine yes_if ?_
        refine ⟨⟨_, rfl⟩, _, rfl, ar, _, _, .str r.1, rfl, rfl, SqT.of har2, at_nat (k := 0) rfl, (by show 1 ≤ sizeLine; decide), fun p np => ?_⟩
        have e3 : Same H2 (L2.upd H2 p (.lst [.str r.1])) := Same.upd np
        have hp : (L2.upd H2 p (.lst [.str r.1])) p = some (.lst [.str r.1]) := upd_same
        generalize L2.upd H2 p (.lst [.str r.1]) = H3 at e3 hp
        refine ⟨_, rfl, _, rfl, ar, _, rfl, SqT.of (e3 _ _ har2), notWhole, fun q nq => ?_⟩
        rw [cut_tail]
        have e4 : Same H3 (L2.upd H3 q (.tup (r.2.map V.int))) := Same.upd nq
        have hq : (L2.upd H3 q (.tup (r.2.map V.int))) q = some (.tup (r.2.map V.int)) := upd_same
        generalize L2.upd H3 q (.tup (r.2.map V.int)) = H4 at e4 hq
        refine ⟨q, rfl, ⟨_, SqT.of hq⟩, fun D2 nD2 => ?_⟩
        refine lc_tup (K := K) (a := q) (xs := r.2.map V.int) (fun j H5 => H5 = L2.upd H4 D2 (.lst ((r.2.take j).map fun z => V.str (sg (intL z))))) rfl (fun j H5 _ h => by rw [h]; exact SqT.of (by rw [upd_ne (ne_of_none hq nD2)]; exact hq)) ?_ ?_
        · rintro j y H5 hj rfl
          obtain ⟨z, hz, rfl⟩ := ints_at hj
          refine ⟨rfl, ?_⟩
          refine yes_if ?_
          refine ⟨_, rfl, z, rfl, Nat.lt_trans (hBr.2.2 z (List.mem_of_getElem? hz)) (by decide), _, upd_same, ?_, ?_⟩
          · rw [List.length_map, List.length_take]
            exact Nat.lt_of_le_of_lt (Nat.min_le_right _ _) (Nat.lt_of_le_of_lt hBr.2.1 (by decide))
          · rw [upd_upd, List.take_succ, hz, List.map_append]
            rfl
        · rintro H5 rfl
          rw [List.length_map, List.take_length]
          have nqD : p ≠ D2 := ne_of_none (e4 _ _ hp) nD2
          have e5 : Same H4 (L2.upd H4 D2 (.lst (r.2.map fun z => V.str (sg (intL z))))) := Same.upd nD2
          refine ⟨p, D2, _, _, rfl, rfl, e5 _ _ (e4 _ _ hp), upd_same, ?_, fun u nu => ?_⟩
          · rw [List.length_map]
            exact Nat.le_trans (show 1 + r.2.length ≤ 3 by have := hBr.2.1; omega) (by decide)
          · have ep : [V.str r.1] ++ r.2.map (fun z => V.str (sg (intL z))) = (partsS r).map V.str := by
              unfold partsS
              rw [List.map_cons, List.map_map]
              rfl
            rw [ep]
            refine ⟨_, u, partsS r, rfl, rfl, .inl (SqL.of upd_same), parts_bound hBr, ?_⟩
            rw [join_parts]
            have e6 : Same H2 (L2.upd (L2.upd H4 D2 (.lst (r.2.map fun z => V.str (sg (intL z))))) u (.lst ((partsS r).map V.str))) := ((e3.trans e4).trans e5).trans (Same.upd nu)
            refine ⟨_, e6 _ _ hD, ?_, ?_, ?_⟩
            · rw [List.length_map, List.length_take]
              exact Nat.lt_of_le_of_lt (Nat.min_le_right _ _) (Nat.lt_of_le_of_lt hlr (by decide))
            · rw [upd_same, List.take_succ, hri, List.map_append]
              rfl
            · intro b o eb
              rw [upd_ne (ne_of_none eb nD)]
              exact e6 _ _ (e2 _ _ eb)
      · rintro H2 ⟨hD, e2⟩
        have full : rows.take vs.length = rows := by rw [hR.1, List.take_length]
        rw [full] at hD
        refine ⟨_, D, rows.map fun r => sg (lineL r), rfl, rfl, .inl (SqL.of ?_), lines_bound hB hlr, ?_⟩
        · rw [List.map_map]
          exact hD
        · rw [join_lines]
          exact k _ (e1.trans e2)
end
end Own
set_option Elab.async false
set_option linter.all false
set_option maxRecDepth 100000
set_option maxHeartbeats 4000000
namespace Own
open PySem PySem.Spec PyProof.Rows L2 LamX
/-! ### lines read -/
def parseAll : List Str → Option (List Int)
  | [] => some []
  | w :: r => match parse (TL.tl w), parseAll r with
    | some z, some l => some (z :: l)
    | _, _ => none
theorem parseAll_none : ∀ {ws : List Str} {i : Nat} {w : Str}, ws[i]? = some w → parse (TL.tl w) = none → parseAll ws = none
  | x :: r, 0, w, h, e => by
    cases h
    unfold parseAll
    rw [e]
  | x :: r, i + 1, w, h, e => by
    have ih := parseAll_none (ws := r) (i := i) (by simpa using h) e
    unfold parseAll
    rw [ih]
    cases parse (TL.tl x) <;> rfl
theorem parseAll_snoc : ∀ {ws : List Str} {w : Str} {zs : List Int} {z : Int}, parseAll ws = some zs → parse (TL.tl w) = some z → parseAll (ws ++ [w]) = some (zs ++ [z])
  | [], w, zs, z, h, e => by
    cases h
    show parseAll [w] = some [z]
    unfold parseAll
    rw [e]
    rfl
  | x :: r, w, zs, z, h, e => by
    unfold parseAll at h
    cases hx : parse (TL.tl x) with
    | none => rw [hx] at h; cases h
    | some zx =>
      rw [hx] at h
      cases hr : parseAll r with
      | none => rw [hr] at h; cases h
      | some l =>
        rw [hr] at h
        cases h
        show parseAll (x :: (r ++ [w])) = _
        unfold parseAll
        rw [parseAll_snoc hr e, hx]
        rfl
def rowOf (z : Str) : Option RowS := match Txt.split z " " with
  | [] => none
  | w :: ws => (parseAll ws).map fun is => (w, is)
theorem spl_ne (S : List Nat) : ∀ (l : List Nat) (k : Nat) (acc : List Nat), TL.spl S k acc l ≠ []
  | [], k, acc => by rw [TL.spl_nil]; simp
  | c :: r, 0, acc => by
    show (if TL.pre S (c :: r) = true then acc :: TL.spl S (S.length - 1) [] r else TL.spl S 0 (acc ++ [c]) r) ≠ []
    split
    · simp
    · exact spl_ne S r 0 (acc ++ [c])
  | c :: r, k + 1, acc => by
    show TL.spl S k acc r ≠ []
    exact spl_ne S r k acc
theorem split_tl {z y : Str} (h1 : TL.tl y ≠ []) (h2 : y.cps.all (· < 256) = true) : (Txt.split z y).map TL.tl = TL.spl (TL.tl y) 0 [] (TL.tl z) := TL.split_spl z y h1 (TL.kind_ok h2)
theorem split_ne {z y : Str} (h1 : TL.tl y ≠ []) (h2 : y.cps.all (· < 256) = true) : Txt.split z y ≠ [] := fun e => by
  have k := split_tl (z := z) h1 h2
  rw [e] at k
  exact spl_ne _ _ _ _ k.symm
/-- the pieces are made of the text's signs -/
theorem spl_mem (S : List Nat) : ∀ (l : List Nat) (k : Nat) (acc : List Nat) (p : List Nat), p ∈ TL.spl S k acc l → ∀ c ∈ p, c ∈ acc ∨ c ∈ l
  | [], k, acc, p, h, c, hc => by
    rw [TL.spl_nil, List.mem_singleton] at h
    subst h
    exact .inl hc
  | x :: r, 0, acc, p, h, c, hc => by
    have h' : p ∈ (if TL.pre S (x :: r) = true then acc :: TL.spl S (S.length - 1) [] r else TL.spl S 0 (acc ++ [x]) r) := h
    split at h'
    · rcases List.mem_cons.mp h' with rfl | h'
      · exact .inl hc
      · rcases spl_mem S r _ [] p h' c hc with q | q
        · cases q
        · exact .inr (List.mem_cons_of_mem _ q)
    · rcases spl_mem S r 0 (acc ++ [x]) p h' c hc with q | q
      · rcases List.mem_append.mp q with q | q
        · exact .inl q
        · exact .inr (by rw [List.mem_singleton.mp q]; exact List.mem_cons_self ..)
      · exact .inr (List.mem_cons_of_mem _ q)
  | x :: r, k + 1, acc, p, h, c, hc => by
    have h' : p ∈ TL.spl S k acc r := h
    rcases spl_mem S r k acc p h' c hc with q | q
    · exact .inl q
    · exact .inr (List.mem_cons_of_mem _ q)
theorem spl_len (S : List Nat) : ∀ (l : List Nat) (k : Nat) (acc : List Nat) (p : List Nat), p ∈ TL.spl S k acc l → p.length ≤ acc.length + l.length
  | [], k, acc, p, h => by
    rw [TL.spl_nil, List.mem_singleton] at h
    subst h
    simp
  | x :: r, 0, acc, p, h => by
    have h' : p ∈ (if TL.pre S (x :: r) = true then acc :: TL.spl S (S.length - 1) [] r else TL.spl S 0 (acc ++ [x]) r) := h
    split at h'
    · rcases List.mem_cons.mp h' with rfl | h'
      · omega
      · have := spl_len S r _ [] p h'
        simp at this ⊢
        omega
    · have := spl_len S r 0 (acc ++ [x]) p h'
      simp at this ⊢
      omega
  | x :: r, k + 1, acc, p, h => by
    have h' : p ∈ TL.spl S k acc r := h
    have := spl_len S r k acc p h'
    simp at this ⊢
    omega
theorem spl_count (S : List Nat) : ∀ (l : List Nat) (k : Nat) (acc : List Nat), (TL.spl S k acc l).length ≤ l.length + 1
  | [], k, acc => by rw [TL.spl_nil]; simp
  | x :: r, 0, acc => by
    show (if TL.pre S (x :: r) = true then acc :: TL.spl S (S.length - 1) [] r else TL.spl S 0 (acc ++ [x]) r).length ≤ _
    split
    · have := spl_count S r (S.length - 1) []
      simp at this ⊢
      omega
    · have := spl_count S r 0 (acc ++ [x])
      simp at this ⊢
      omega
  | x :: r, k + 1, acc => by
    have := spl_count S r k acc
    show (TL.spl S k acc r).length ≤ _
    simp at this ⊢
    omega
/-- a text that is not too long, of signs that are signs -/
def TextB (n : Nat) (z : Str) : Prop := z.length ≤ n ∧ ∀ c ∈ TL.tl z, c < 1114112
theorem TextB.part {n : Nat} {z y w : Str} (h : TextB n z) (h1 : TL.tl y ≠ []) (h2 : y.cps.all (· < 256) = true) (hw : w ∈ Txt.split z y) : TextB n w := by
  have m : TL.tl w ∈ TL.spl (TL.tl y) 0 [] (TL.tl z) := by
    rw [← split_tl h1 h2]
    exact List.mem_map_of_mem hw
  refine ⟨?_, fun c hc => ?_⟩
  · have k := spl_len _ _ _ _ _ m
    have := h.1
    rw [TL.len_tl] at this ⊢
    simp at k
    simp at this ⊢
    omega
  · rcases spl_mem _ _ _ _ _ m c hc with q | q
    · cases q
    · exact h.2 c q
theorem TextB.count {n : Nat} {z y : Str} (h : TextB n z) (h1 : TL.tl y ≠ []) (h2 : y.cps.all (· < 256) = true) : (Txt.split z y).length ≤ n + 1 := by
  have k := spl_count (TL.tl y) (TL.tl z) 0 []
  rw [← split_tl h1 h2, List.length_map] at k
  have := h.1
  rw [TL.len_tl] at this
  omega
theorem TextB.fok {n : Nat} {z : Str} (h : TextB n z) : Own.fok (.str z) = true := by
  show z.cps.all (· < 0x110000) = true
  rw [← Array.all_toList, List.all_eq_true]
  intro c hc
  exact decide_eq_true (h.2 c hc)
def sp32 : Str := " "
def sp10 : Str := "\n"
end Own
set_option Elab.async false
set_option linter.all false
set_option maxRecDepth 100000
set_option maxHeartbeats 4000000
namespace Own
open PySem PySem.Spec PyProof.Rows L2 LamX
theorem n32 : TL.tl (" " : Str) ≠ [] := by decide +kernel
theorem a32 : (" " : Str).cps.all (· < 256) = true := by decide +kernel
theorem n10 : TL.tl ("\n" : Str) ≠ [] := by decide +kernel
theorem a10 : ("\n" : Str).cps.all (· < 256) = true := by decide +kernel
theorem cut_to1 {z : Str} : cutS z none (some 1) = sg ((TL.tl z).take 1) := by
  refine TL.ext_tl ?_
  show ((z.cps.toList.drop (HT.sIx z.length 0 none)).take (HT.sIx z.length z.length (some ((1 : Nat) : Int)) - HT.sIx z.length 0 none)) = _
  rw [HT.sIx_none, HT.sIx_nat, List.drop_zero, tl_sg]
  have e : z.cps.toList.length = z.length := by simp [Str.length]
  by_cases h : 1 ≤ z.length
  · rw [Nat.min_eq_left h]
  · have h0 : z.cps.toList = [] := List.length_eq_zero_iff.mp (by omega)
    show List.take _ z.cps.toList = List.take 1 z.cps.toList
    rw [h0]
    simp
theorem cut_from1 {z : Str} : cutS z (some 1) none = sg ((TL.tl z).drop 1) := by
  refine TL.ext_tl ?_
  show ((z.cps.toList.drop (HT.sIx z.length 0 (some ((1 : Nat) : Int)))).take (HT.sIx z.length z.length none - HT.sIx z.length 0 (some ((1 : Nat) : Int)))) = _
  rw [HT.sIx_none, HT.sIx_nat, tl_sg]
  have e : z.cps.toList.length = z.length := by simp [Str.length]
  by_cases h : 1 ≤ z.length
  · rw [Nat.min_eq_left h]
    exact List.take_of_length_le (by rw [List.length_drop, e]; exact Nat.le_refl _)
  · have h0 : z.cps.toList = [] := List.length_eq_zero_iff.mp (by omega)
    show List.take _ (List.drop _ z.cps.toList) = List.drop 1 z.cps.toList
    rw [h0]
    simp
theorem str_eq_iff {x : Str} {l : List Nat} : x = sg l ↔ TL.tl x = l := by
  constructor
  · intro h
    rw [h, tl_sg]
  · intro h
    rw [← h, sg_tl]
theorem digs_read {σ : L2.St} {H : Hp} {Q : VK} {i : Nat} {w : Str} (h3 : σ[i]? = some (some (.str w))) (hl : w.length ≤ sizeLine) (q : Q (.str (sg (digs (TL.tl w)))) H) :
    tIf (tTest (tOp rEq (tSl rSlS (tVar i) tNoPart (tPart (tC (.int 1)))) (tC (.str "-")))) (tSl rSlS (tVar i) (tPart (tC (.int 1))) tNoPart) (tVar i) σ H Q := by
  refine ⟨_, h3, _, rfl, _, rfl, hl, rfl, _, rfl, ?_⟩
  rw [decStr, cut_to1]
  have e1 : (sg ((TL.tl w).take 1) = "-") ↔ (TL.tl w).take 1 = [45] := by
    constructor
    · intro h
      exact congrArg TL.tl h
    · intro h
      rw [h]
      rfl
  by_cases h45 : (TL.tl w).take 1 = [45]
  · rw [decide_eq_true (e1.mpr h45)]
    refine iteT ⟨_, h3, _, rfl, _, rfl, hl, ?_⟩
    rw [cut_from1]
    unfold digs at q
    rw [if_pos h45] at q
    exact q
  · rw [decide_eq_false (fun z => h45 (e1.mp z))]
    refine iteF ⟨_, h3, ?_⟩
    rw [digs_eq.mpr h45, sg_tl] at q
    exact q
def rNotSign : R2 := fun x y H Q => ∃ (c : Nat) (z : Str), x = .str ⟨#[c]⟩ ∧ y = .str z ∧ Q (.bl (!decide (c ∈ z.cps.toList))) H
theorem tenD (c : Nat) : (!decide (c ∈ ("0123456789" : Str).cps.toList)) = !decide (48 ≤ c ∧ c ≤ 57) := by
  have e : ("0123456789" : Str).cps.toList = [48, 49, 50, 51, 52, 53, 54, 55, 56, 57] := by decide +kernel
  rw [e]
  congr 1
  rw [Bool.eq_iff_iff, decide_eq_true_iff, decide_eq_true_iff]
  simp
  omega
theorem marks_read {K : PySem.W.Frag} {σ : L2.St} {G : Hp} {Q : VK} {d m : Nat} {dl : List Nat} (hd : σ[d]? = some (some (.str (sg dl)))) (hc : ∀ c ∈ dl, c < 1114112) (hl : dl.length ≤ 5000)
    (h1 : ∀ v, ((wipe σ [m]).set m (some v))[m]? = some (some v)) (h2 : ∀ v, wipe ((wipe σ [m]).set m (some v)) [m] = wipe σ [m]) (k : ∀ G', Same G G' → Q (.bl (!allDig dl)) G') :
    tOp (rNeD K) (tLc (iStr (tVar d)) (gName m) (tTest (tOp rNotSign (tVar m) (tC (.str "0123456789")))) (tVar m) [m]) (tLst tNil) σ G Q := by
  let bad : Nat → Bool := fun c => !decide (48 ≤ c ∧ c ≤ 57)
  refine ⟨_, hd, _, rfl, fun D nD => ?_⟩
  refine lc_it (walk_str (z := sg dl)) (fun i G2 => G2 = L2.upd G D (.lst (((dl.take i).filter bad).map fun c => V.str ⟨#[c]⟩))) rfl (fun _ _ _ _ => trivial) ?_ ?_
  · rintro i x G1 G2 hi rfl ⟨rfl, c, hcx, rfl⟩
    have hci : dl[i]? = some c := by
      rw [← hcx]
      show dl[i]? = dl.toArray[i]?
      simp
    have et : dl.take (i + 1) = dl.take i ++ [c] := by
      rw [List.take_succ, hci]
      rfl
    refine ⟨h2 _, _, h1 _, c, _, rfl, rfl, _, rfl, ?_⟩
    rw [tenD]
    cases hb : bad c with
    | true =>
      have hb2 : (!decide (48 ≤ c ∧ c ≤ 57)) = true := hb
      rw [hb2]
      refine iteT ⟨_, h1 _, _, upd_same, ?_, ?_⟩
      · rw [List.length_map]
        exact Nat.lt_of_le_of_lt (Nat.le_trans (List.length_filter_le _ _) (by rw [List.length_take]; omega : _ ≤ 5000)) (by decide)
      · rw [upd_upd, et, List.filter_append, List.map_append, List.filter_cons_of_pos hb]
        rfl
    | false =>
      have hb2 : (!decide (48 ≤ c ∧ c ≤ 57)) = false := hb
      rw [hb2]
      refine iteF ?_
      rw [et, List.filter_append, List.filter_cons_of_neg (by rw [hb]; exact Bool.false_ne_true)]
      simp
  · rintro G2 rfl
    refine ⟨(by show 0 ≤ sizeLine; decide), fun q nq => ?_⟩
    have full : dl.take (sg dl).cps.size = dl := by
      have : (sg dl).cps.size = dl.length := sg_len dl
      rw [this, List.take_length]
    rw [full] at nq ⊢
    have nDq : D ≠ q := ne_of_none upd_same nq
    have fk : ((dl.filter bad).map fun c => V.str ⟨#[c]⟩).all fok = true := by
      rw [List.all_map, List.all_eq_true]
      intro c hcm
      have := hc c (List.mem_filter.mp hcm).1
      show (#[c] : Array Nat).all (· < 0x110000) = true
      simpa using this
    refine ne_nil (SqL.of (by rw [upd_ne nDq]; exact upd_same)) (SqL.of upd_same) fk ?_
    have e : (!((dl.filter bad).map fun c => V.str ⟨#[c]⟩).isEmpty) = !allDig dl := by
      congr 1
      rw [List.isEmpty_map, Bool.eq_iff_iff, List.isEmpty_iff, List.filter_eq_nil_iff]
      unfold allDig
      rw [List.all_eq_true]
      refine forall_congr' fun c => forall_congr' fun _ => ?_
      show (¬ (!decide (48 ≤ c ∧ c ≤ 57)) = true) ↔ decide (48 ≤ c ∧ c ≤ 57) = true
      cases decide (48 ≤ c ∧ c ≤ 57) <;> simp
    rw [e]
    exact k _ ((Same.upd nD).trans (Same.upd nq))
theorem zero_read {σ : L2.St} {H : Hp} {R : Bool → Hp → Prop} {i j : Nat} {w : Str} {dl : List Nat} {c : Nat} (h3 : σ[i]? = some (some (.str w))) (h4 : σ[j]? = some (some (.str (sg dl)))) (hl : dl.length ≤ 1000) (hc : dl[0]? = some c)
    (q : R (decide (c = 48) && !decide (TL.tl w = [48])) H) : tAnd (tTest (tOp rEq (tOp rIxS (tVar j) (tC (.int 0))) (tC (.str "0")))) (tTest (tOp rNe (tVar i) (tC (.str "0")))) σ H R := by
  have hat : atI (sg dl).cps.toList (0 : Int) = some c := by
    show atI (TL.tl (sg dl)) ((0 : Nat) : Int) = some c
    rw [tl_sg]
    exact atI_nat hc
  refine ⟨_, h4, _, _, c, rfl, rfl, Nat.le_trans (by rw [sg_len]; exact hl) (by decide), hat, rfl, _, rfl, ?_⟩
  rw [decStr]
  have e48 : ((⟨#[c]⟩ : Str) = "0") ↔ c = 48 := by
    constructor
    · intro h
      have := congrArg TL.tl h
      have h0 : TL.tl ("0" : Str) = [48] := by decide +kernel
      rw [h0] at this
      injection this
    · intro h
      rw [h]
      exact TL.ext_tl (by decide +kernel)
  have ew48 : (w = "0") ↔ TL.tl w = [48] := by
    constructor
    · intro h
      rw [h]
      decide +kernel
    · intro h
      refine TL.ext_tl (h.trans ?_)
      decide +kernel
  by_cases h : c = 48
  · rw [decide_eq_true (e48.mpr h)]
    rw [decide_eq_true h, Bool.true_and] at q
    refine iteT ⟨_, h3, rfl, _, rfl, ?_⟩
    rw [decStr]
    have : decide (w = "0") = decide (TL.tl w = [48]) := by rw [Bool.eq_iff_iff, decide_eq_true_iff, decide_eq_true_iff]; exact ew48
    rw [this]
    exact q
  · rw [decide_eq_false (fun z => h (e48.mp z))]
    rw [decide_eq_false h, Bool.false_and] at q
    exact iteF q
theorem val_read {σ : L2.St} {H : Hp} {Q : VK} {E : XK} {i j : Nat} {w : Str} (h3 : σ[i]? = some (some (.str w))) (h4 : σ[j]? = some (some (.str (sg (digs (TL.tl w)))))) (hl : (digs (TL.tl w)).length < 64) (hA : allDig (digs (TL.tl w)) = true)
    (q : Q (.int (wval (TL.tl w))) H) : tIf (tTest (tOp rNe (tVar i) (tVar j))) (tUn (rU fun i => .int (-i)) (tCall spWOf [] E (tCons (tVar j) tNil))) (tCall spWOf [] E (tCons (tVar j) tNil)) σ H Q := by
  refine ⟨_, h3, _, h4, rfl, _, rfl, ?_⟩
  rw [decStr]
  have e : (w = sg (digs (TL.tl w))) ↔ ¬ (TL.tl w).take 1 = [45] := by
    rw [str_eq_iff, ← digs_eq]
    exact eq_comm
  unfold wval at q
  by_cases h : (TL.tl w).take 1 = [45]
  · rw [decide_eq_false (fun z => (e.mp z) h)]
    rw [if_pos h] at q
    exact iteT ⟨_, h4, _, rfl, hl, hA, _, rfl, q⟩
  · rw [decide_eq_true (e.mpr h)]
    rw [if_neg h] at q
    exact iteF ⟨_, h4, _, rfl, hl, hA, q⟩
def spRow (K : PySem.W.Frag) : Sp := fun vs H Q _ => ∃ z : Str, vs = [.str z] ∧ TextB 5000 z ∧ (∀ w ∈ Txt.split z " ", w.length ≤ 30) ∧ (rowOf z = none → ∀ H', Same H H' → Q .non H') ∧
  (∀ r, rowOf z = some r → ∀ a H', H' a = some (.tup (rowV r.1 r.2)) → Same H H' → Q (.ref a) H')
section
variable {P : Program} {w : World} {K : PySem.W.Frag} {mg : Str → Option Value} {base : Heap} {f fW fR fN fI fT CB : Addr} {fd2 fdW fdR fdN fdI fdT : FuncData}
abbrev nsRow : List Str := ["line", "words", "found", "word", "digits", "mark"]
theorem scRow : FnScope nsRow ["line"] (defScope sRow) := ⟨rfl, rfl, rfl, by decide +kernel, rfl, by decide +kernel, by decide +kernel⟩
theorem ok_row (F : FnP K "row_of_line" sRow f fd2) (FW : FnP K "whole_of" sWOf fW fdW) (T : Txt K mg) (C : Cst K mg) (gW : mg "whole_of" = some (.ref fW)) : FnOk P w K mg base CX0 2 f fd2 ["line"] (spRow K) := by
  have GW : FnOk P w K mg base CX0 1 fW fdW ["digits"] spWOf := ok_wof FW T C
  have bW : Binds K fdW ["digits"] [] := FW.bindsN fun _ _ _ _ _ _ us hl => match us, hl with | [_], _ => rfl
  obtain ⟨td, hd⟩ := C.digits
  refine F.ok scRow (fun vs H Q E h => ?_) (fun cdv A outer s H vs Q E hr h => ?_)
  · obtain ⟨x, rfl, _⟩ := h
    rfl
  · obtain ⟨z, rfl, hz, hw, k1, k2⟩ := h
    refine ⟨_, PSs.nox (pss_cons (ps_set (i := 1) scRow.nd rfl (.inl rfl) (pe_split (pv 0) pe_str))
      (pss_cons (ps_set (i := 2) scRow.nd rfl (.inl rfl) (pe_lst (pa_cons (pe_ix ix_list (pv 1) pe_int (fun _ _ => rfl)) pa_nil)))
      (pss_cons (ps_for PassesOwn.never rfl (pi_list (pe_slice sl_list (pv 1) (po_some pe_int) po_none)) (pg_name (i := 3) scRow.nd rfl (Or.inl rfl))
        (pss_cons (ps_set (i := 4) scRow.nd rfl (.inl rfl) (pe_ifExp (pt_cmpR op_eq (pe_slice sl_str (pv 3) po_none (po_some pe_int)) pe_str (nomark _)) (pe_slice sl_str (pv 3) (po_some pe_int) po_none) (pv 3)))
        (pss_cons (ps_if (PW.pt (pw_or (pt_cmpR op_eq (pv 4) pe_str (nomark _)) (pw_or1 (pt_cmpR (op_neD hr.units) (pe_lc (own := [("mark", 5)]) (g := gName 5) (by rfl) scRow.nd (pi_str (pv 4)) (blkOk_by (own := [("mark", 5)]) (N := nsRow) (sc := defScope sRow) (by decide +kernel))
            (fun _ _ _ _ _ => pg_name (i := 5) scRow.nd rfl (Or.inl rfl)) (fun _ _ _ _ _ => pts_one (pt_cmpR op_notIn_sign (pv 5) (pe_glob (v := .str "0123456789") (by rfl) hd ⟨td, rfl⟩) (by rfl))) (fun _ _ _ _ _ => pv 5)) (pe_lst pa_nil) (nomark _))))) (pss_one (ps_ret pe_non)) pss_nil)
        (pss_cons (ps_if (PW.pt (pw_and (pt_cmpR op_eq (pe_ix ix_str (pv 4) pe_int (fun _ _ => rfl)) pe_str (nomark _)) (pw_and1 (pt_cmpR op_ne (pv 3) pe_str (nomark _))))) (pss_one (ps_ret pe_non)) pss_nil)
        (pss_one (ps_expr (pe_bm PySem.F.plainAttrs_list PySem.F.slot_list_append PySem.F.type_list_append mt_append (pv 2) (pa_cons (pe_ifExp (pt_cmpR op_ne (pv 3) (pv 4) (nomark _))
          (pe_un un_neg (pe_call GW hr (by rfl) gW FW.kp bW .nil pass0 (pa_cons (pv 4) pa_nil))) (pe_call GW hr (by rfl) gW FW.kp bW .nil pass0 (pa_cons (pv 4) pa_nil))) pa_nil))))))))
      (pss_one (ps_ret (pe_tupleOf (by rfl) T.tuple (pv 2))))))), ?_⟩
    obtain ⟨w0, ws, ew⟩ : ∃ w0 ws, Txt.split z " " = w0 :: ws := by
      cases e : Txt.split z " " with
      | nil => exact absurd e (split_ne n32 a32)
      | cons w0 ws => exact ⟨w0, ws, rfl⟩
    have er : rowOf z = (parseAll ws).map fun is => (w0, is) := by
      unfold rowOf
      rw [ew]
    have hcount := hz.count n32 a32
    have hlenw : ws.length ≤ 5001 := by
      rw [ew, List.length_cons] at hcount
      omega
    have big : ∀ n : Nat, n ≤ 10000 → n ≤ sizeLine := fun n h => Nat.le_trans h (by decide)
    refine ⟨_, rfl, ⟨_, rfl⟩, _, _, rfl, rfl, rfl, big _ (by have := hz.1; omega), fun p np => ?_⟩
    rw [ew]
    have e1 : Same H (L2.upd H p (.lst ((w0 :: ws).map V.str))) := Same.upd np
    have hp : (L2.upd H p (.lst ((w0 :: ws).map V.str))) p = some (.lst ((w0 :: ws).map V.str)) := upd_same
    generalize L2.upd H p (.lst ((w0 :: ws).map V.str)) = H1 at e1 hp
    refine ⟨_, rfl, p, _, _, .str w0, rfl, rfl, SqL.of hp, at_nat (k := 0) rfl, big 1 (by decide), fun q nq => ?_⟩
    have e2 : Same H1 (L2.upd H1 q (.lst [.str w0])) := Same.upd nq
    have hq : (L2.upd H1 q (.lst [.str w0])) q = some (.lst [.str w0]) := upd_same
    have nqH : H q = none := e1.free nq
    generalize L2.upd H1 q (.lst [.str w0]) = H2 at e2 hq
    have ct : cutV ((w0 :: ws).map V.str) (some 1) none = ws.map V.str := cut_drop (k := 1) (by simp)
    refine ⟨_, rfl, _, rfl, p, _, rfl, SqL.of (e2 _ _ hp), fun u nu => ?_⟩
    rw [ct]
    have e3 : Same H2 (L2.upd H2 u (.lst (ws.map V.str))) := Same.upd nu
    have hu : (L2.upd H2 u (.lst (ws.map V.str))) u = some (.lst (ws.map V.str)) := upd_same
    have nuq : u ≠ q := (ne_of_none hq nu).symm
    generalize L2.upd H2 u (.lst (ws.map V.str)) = H3 at e3 hu
    refine ⟨u, rfl, ⟨_, SqL.of hu⟩, ?_⟩
    refine for_list (K := K) (a := u) (xs := ws.map V.str) (fun i σ G => ∃ (v3 v4 : Option V) (zs : List Int), σ = [some (.str z), some (.ref p), some (.ref q), v3, v4, none] ∧ G q = some (.lst (.str w0 :: zs.map V.int)) ∧ G u = some (.lst (ws.map V.str)) ∧ Same H G ∧ parseAll (ws.take i) = some zs ∧ zs.length = i)
      ⟨none, none, [], rfl, e3 _ _ hq, hu, (e1.trans e2).trans e3, rfl, rfl⟩ (fun i σ G _ ⟨_, _, _, _, _, h, _⟩ => SqL.of h) ?_ ?_
    · rintro i y σ G hi ⟨v3, v4, zs, rfl, hGq, hGu, eG, hpa, hzl⟩
      obtain ⟨w, hwi, rfl⟩ : ∃ w, ws[i]? = some w ∧ y = V.str w := by
        rw [List.getElem?_map] at hi
        cases e : ws[i]? with
        | none => rw [e] at hi; cases hi
        | some w => rw [e] at hi; exact ⟨w, rfl, (Option.some.inj hi).symm⟩
      have hwm : w ∈ Txt.split z " " := by
        rw [ew]
        exact List.mem_cons_of_mem _ (List.mem_of_getElem? hwi)
      have hw30 := hw w hwm
      have hwB := hz.part n32 a32 hwm
      have hdl : (digs (TL.tl w)).length ≤ 30 := by
        rw [TL.len_tl] at hw30
        unfold digs
        split
        · rw [List.length_drop]
          omega
        · exact hw30
      have hdc : ∀ c ∈ digs (TL.tl w), c < 1114112 := fun c hc => hwB.2 c (by
        unfold digs at hc
        split at hc
        · exact List.mem_of_mem_drop hc
        · exact hc)
      have bad : parse (TL.tl w) = none → ∀ G', Same G G' → Q .non G' := fun hn G' e => k1 (by rw [er, parseAll_none hwi hn]; rfl) G' (eG.trans e)
      refine digs_read rfl (big _ (by omega)) ?_
      refine ⟨_, rfl, rfl, _, rfl, ?_⟩
      rw [decStr]
      have en : (sg (digs (TL.tl w)) = "") ↔ digs (TL.tl w) = [] := ⟨fun h => congrArg TL.tl h, fun h => by rw [h]; rfl⟩
      by_cases hn : digs (TL.tl w) = []
      · rw [decide_eq_true (en.mpr hn)]
        exact iteT (iteT (bad (by unfold parse; rw [if_pos (.inl hn)]) G (Same.refl _)))
      rw [decide_eq_false (fun h => hn (en.mp h))]
      refine iteF ?_
      refine marks_read (d := 4) (m := 5) (dl := digs (TL.tl w)) rfl hdc (by omega) (fun _ => rfl) (fun _ => rfl) fun G1 eG1 => ⟨_, rfl, ?_⟩
      cases hA : allDig (digs (TL.tl w)) with
      | false => exact iteT (bad (by unfold parse; rw [if_pos (.inr hA)]) G1 eG1)
      | true =>
        refine iteF ?_
        obtain ⟨c, r, edc⟩ : ∃ c r, digs (TL.tl w) = c :: r := by
          cases e : digs (TL.tl w) with
          | nil => exact absurd e hn
          | cons c r => exact ⟨c, r, rfl⟩
        refine zero_read (i := 3) (j := 4) (w := w) (dl := digs (TL.tl w)) (c := c) rfl rfl (by omega) (by rw [edc]; rfl) ?_
        have ehd : (digs (TL.tl w)).head? = some 48 ↔ c = 48 := by
          rw [edc]
          show some c = some 48 ↔ _
          exact Option.some_inj
        have no1 : ¬ (digs (TL.tl w) = [] ∨ allDig (digs (TL.tl w)) = false) := by
          rintro (a | a)
          · exact hn a
          · rw [hA] at a
            cases a
        cases hb : (decide (c = 48) && !decide (TL.tl w = [48])) with
        | true =>
          refine iteT (bad ?_ G1 eG1)
          simp at hb
          unfold parse
          rw [if_neg no1, if_pos ⟨ehd.mpr hb.1, hb.2⟩]
        | false =>
          have hv : parse (TL.tl w) = some (wval (TL.tl w)) := by
            unfold parse
            rw [if_neg no1, if_neg]
            rintro ⟨a, b⟩
            simp [ehd.mp a, b] at hb
          refine iteF ?_
          have hq1 := eG1 _ _ hGq
          refine ⟨_, rfl, .inl ⟨rfl, _, .inl (.inl hq1)⟩, ?_⟩
          refine val_read (i := 3) (j := 4) (w := w) rfl rfl (by omega) hA ?_
          refine ⟨q, _, _, rfl, rfl, hq1, ?_, ?_⟩
          · rw [List.length_cons, List.length_map, hzl]
            have := (List.getElem?_eq_some_iff.mp hwi).1
            exact Nat.lt_of_le_of_lt (show i + 1 ≤ 6000 by omega) (by decide)
          · have nq2 : ∀ b o, H b = some o → b ≠ q := fun b o e => ne_of_none e nqH
            refine ⟨_, _, zs ++ [wval (TL.tl w)], rfl, ?_, ?_, ?_, ?_, by simp [hzl]⟩
            · rw [upd_same]
              simp
            · rw [upd_ne nuq]
              exact eG1 _ _ hGu
            · intro b o eb
              rw [upd_ne (nq2 b o eb)]
              exact (eG.trans eG1) _ _ eb
            · rw [List.take_succ, hwi]
              exact parseAll_snoc hpa hv
    · rintro σ G ⟨v3, v4, zs, rfl, hGq, hGu, eG, hpa, hzl⟩
      have full : ws.take ((ws.map V.str).length) = ws := by rw [List.length_map, List.take_length]
      rw [full] at hpa
      refine ⟨_, rfl, .inl ⟨q, _, rfl, SqL.of hGq, fun t nt => ?_⟩⟩
      exact k2 (w0, zs) (by rw [er, hpa]; rfl) t _ upd_same (eG.trans (Same.upd nt))
end
end Own
set_option Elab.async false
set_option linter.all false
set_option maxRecDepth 100000
set_option maxHeartbeats 4000000
namespace Own
open PySem PySem.Spec PyProof.Rows L2 LamX
theorem tup_ne_lst {H : Hp} {a l : Addr} {xs ys : List V} (h1 : H a = some (.tup xs)) (h2 : H l = some (.lst ys)) : a ≠ l := ne_of h1 h2 (by intro z; cases z)
theorem RowsV.push {H : Hp} {l a : Addr} {vs : List V} {rows : List RowS} {r : RowS} (hl : H l = some (.lst vs)) (h : RowsV H vs rows) (ha : H a = some (.tup (rowV r.1 r.2))) :
    RowsV (L2.upd H l (.lst (vs ++ [.ref a]))) (vs ++ [.ref a]) (rows ++ [r]) := by
  refine ⟨by rw [List.length_append, List.length_append, h.1]; rfl, fun i v e => ?_⟩
  by_cases hi : i < vs.length
  · rw [List.getElem?_append_left hi] at e
    obtain ⟨r2, e1, b, e2, e3⟩ := h.2 i v e
    exact ⟨r2, by rw [List.getElem?_append_left (h.1 ▸ hi)]; exact e1, b, e2, by rw [upd_ne (tup_ne_lst e3 hl)]; exact e3⟩
  · rw [List.getElem?_append_right (by omega)] at e
    have hi2 : i - vs.length = 0 := by
      have := (List.getElem?_eq_some_iff.mp e).1
      simp at this
      omega
    rw [hi2] at e
    cases e
    refine ⟨r, ?_, a, rfl, by rw [upd_ne (tup_ne_lst ha hl)]; exact ha⟩
    rw [List.getElem?_append_right (by have := h.1; omega)]
    have : i - rows.length = 0 := by have := h.1; omega
    rw [this]
    rfl
def osOf (z : Str) : List (Option RowS) := (Txt.split z "\n").map rowOf
theorem parseAll_len : ∀ {ws : List Str} {is : List Int}, parseAll ws = some is → is.length = ws.length
  | [], is, h => by cases h; rfl
  | x :: r, is, h => by
    unfold parseAll at h
    cases hx : parse (TL.tl x) with
    | none => rw [hx] at h; cases h
    | some zx =>
      rw [hx] at h
      cases hr : parseAll r with
      | none => rw [hr] at h; cases h
      | some l =>
        rw [hr] at h
        cases h
        rw [List.length_cons, List.length_cons, parseAll_len hr]
theorem rowOf_len {n : Nat} {z : Str} {r : RowS} (hz : TextB n z) (h : rowOf z = some r) : r.2.length ≤ n := by
  unfold rowOf at h
  have hc := hz.count n32 a32
  cases e : Txt.split z " " with
  | nil => rw [e] at h; cases h
  | cons w ws =>
    rw [e] at h hc
    have h2 : (parseAll ws).map (fun is => ((w, is) : RowS)) = some r := h
    cases hp : parseAll ws with
    | none => rw [hp] at h2; cases h2
    | some is =>
      rw [hp] at h2
      cases h2
      have := parseAll_len hp
      rw [List.length_cons] at hc
      show is.length ≤ n
      omega
abbrev tBL : SupX.Txt := ⟨"BadLine", "at", "at", "see the value"⟩
def spReckOf (K : PySem.W.Frag) (CL : Addr) : Sp := fun vs H Q E => ∃ x, vs = [x] ∧ ((∃ t : String, TyX K H x (.type t) ∧ kitB t "str" = some false ∧ ∀ d H', H' d = some (.xd [("at", .non)]) → Same H H' → E (.ref CL) (some d) H') ∨
  ∃ z, x = .str z ∧ TextB 5000 z ∧ (∀ l ∈ Txt.split z "\n", ∀ w ∈ Txt.split l " ", w.length ≤ 30) ∧
    (∀ (i : Nat) o, (osOf z)[i]? = some o → itemOk o i = false → (∀ (j : Nat) o', j < i → (osOf z)[j]? = some o' → itemOk o' j = true) → ∀ d H', H' d = some (.xd [("at", .int i)]) → Same H H' → E (.ref CL) (some d) H') ∧
    ((∀ (j : Nat) o, (osOf z)[j]? = some o → itemOk o j = true) → ∀ l vs rows H', H l = none → H' l = some (.lst vs) → osOf z = rows.map some → RowsV H' vs rows → Same H H' → Q (.ref l) H'))
section
variable {P : Program} {w : World} {K : PySem.W.Frag} {mg : Str → Option Value} {base : Heap} {f fW fO fR fN fI fT fL CL : Addr} {fd2 fdW fdO fdR fdN fdI fdT : FuncData}
abbrev nsReckOf : List Str := ["text", "rows", "at", "line", "row"]
theorem scReckOf : FnScope nsReckOf ["text"] (defScope sReck) := ⟨rfl, rfl, rfl, by decide +kernel, rfl, by decide +kernel, by decide +kernel⟩
theorem ok_reckof (F : FnP K "reckoning_of" sReck f fd2) (FL : FnP K "row_of_line" sRow fN fdN) (FO : FnP K "whole_of" sWOf fO fdO) (FR : FnP K "is_row" sIsRow fR fdR) (FW : FnP K "is_whole" sWhole fW fdW) (T : Txt K mg) (C : Cst K mg) (gW : mg "is_whole" = some (.ref fW)) (gO : mg "whole_of" = some (.ref fO)) (gR : mg "is_row" = some (.ref fR)) (gL : mg "row_of_line" = some (.ref fN))
    (B : SupX.Has P K mg tBL CL fL) : FnOk P w K mg base (L2.CX P w) 5 f fd2 ["text"] (spReckOf K CL) := by
  have GL : FnOk P w K mg base CX0 2 fN fdN ["line"] (spRow K) := ok_row FL FO T C gO
  have bL : Binds K fdN ["line"] [] := FL.bindsN fun _ _ _ _ _ _ us hl => match us, hl with | [_], _ => rfl
  have GR : FnOk P w K mg base CX0 2 fR fdR ["value", "at"] (spIsRow K) := ok_isrow FR FW T C gW
  have bR : Binds K fdR ["value", "at"] [] := FR.bindsN fun _ _ _ _ _ _ us hl => match us, hl with | [_, _], _ => rfl
  refine F.ok scReckOf (fun vs H Q E h => ?_) (fun cdv A outer s H vs Q E hr h => ?_)
  · obtain ⟨x, rfl, _⟩ := h
    rfl
  · obtain ⟨x, rfl, k⟩ := h
    have hr2 : Room 2 (A.deeper (envOfC "reckoning_of" (defScope sReck) s.heap.objs.size f cdv)) := hr.mono (by decide)
    refine ⟨_, pss_cons (ps_if (pt_not (pt_val (pe_callB call_isi (by rfl) T.isi boot_isinstance (pa_cons (pv 0) (pa_cons (pe_bltn (v := .ty "str") (by rfl) T.str (by decide +kernel) rfl) pa_nil)))))
        (pss_one (ps_raise rfl (takes_of rfl rfl rfl rfl) (pmk_sup (t := tBL) (C := CL) B hr (pa_cons pe_non pa_nil) (by rfl) (by decide +kernel)))) pss_nil)
      (pss_cons (ps_set (i := 1) scReckOf.nd rfl (.inl rfl) (pe_lst pa_nil))
      (pss_cons (ps_for (passes_of rfl) rfl (pi_enum (by rfl) T.enum (pa_cons (pe_split (pv 0) pe_str) pa_nil)) (pg_tup rfl (pgs_cons (pg_name (i := 2) scReckOf.nd rfl (Or.inl rfl)) (pgs_cons (pg_name (i := 3) scReckOf.nd rfl (Or.inl rfl)) pgs_nil)))
        (pss_cons (ps_set (i := 4) scReckOf.nd rfl (.inl rfl) (pe_call GL hr2 (by rfl) gL FL.kp bL .nil pass0 (pa_cons (pv 3) pa_nil)))
        (pss_cons (ps_if (PW.pt (pw_or (pt_cmpR op_isN (pv 4) pe_non (nomark _)) (pw_or1 (pt_not (pt_val (pe_call GR hr2 (by rfl) gR FR.kp bR .nil pass0 (pa_cons (pv 4) (pa_cons (pv 2) pa_nil))))))))
          (pss_one (ps_raise rfl (takes_of rfl rfl rfl rfl) (pmk_sup (t := tBL) (C := CL) B hr (pa_cons (pv 2) pa_nil) (by rfl) (by decide +kernel)))) pss_nil)
        (pss_one (ps_expr (pe_bm PySem.F.plainAttrs_list PySem.F.slot_list_append PySem.F.type_list_append mt_append (pv 1) (pa_cons (pv 4) pa_nil)))))))
      (pss_one (ps_ret (pv 1))))), ?_⟩
    rcases k with ⟨t, ty, e1, k⟩ | ⟨z, rfl, hz, hw, k1, k2⟩
    · refine ⟨_, rfl, x, .ty "str", .type t, .type "str", false, rfl, .ty _, ty, kit_ty e1, false, rfl, ?_⟩
      refine iteT ?_
      refine ⟨_, rfl, fun d nd => ?_⟩
      exact k d _ upd_same (Same.upd nd)
    · refine ⟨_, rfl, .str z, .ty "str", .type "str", .type "str", true, rfl, .ty _, .base (.str z), kit_ty (by decide +kernel), true, rfl, ?_⟩
      refine iteF ?_
      have big : ∀ n : Nat, n ≤ 10000 → n ≤ sizeLine := fun n h => Nat.le_trans h (by decide)
      refine ⟨big 0 (by decide), fun l nl => ?_⟩
      have e1 : Same H (L2.upd H l (.lst [])) := Same.upd nl
      have hl0 : (L2.upd H l (.lst [])) l = some (.lst []) := upd_same
      generalize L2.upd H l (.lst []) = H1 at e1 hl0
      refine ⟨_, rfl, ⟨_, rfl⟩, _, _, rfl, rfl, rfl, big _ (by have := hz.1; omega), fun p np => ?_⟩
      have e2 : Same H1 (L2.upd H1 p (.lst ((Txt.split z "\n").map V.str))) := Same.upd np
      have hp : (L2.upd H1 p (.lst ((Txt.split z "\n").map V.str))) p = some (.lst ((Txt.split z "\n").map V.str)) := upd_same
      have npl : p ≠ l := (ne_of_none hl0 np).symm
      generalize L2.upd H1 p (.lst ((Txt.split z "\n").map V.str)) = H2 at e2 hp
      refine ⟨p, _, rfl, SqL.of hp, ?_⟩
      have osl : (osOf z).length = ((Txt.split z "\n").map V.str).length := by
        unfold osOf
        rw [List.length_map, List.length_map]
      refine for_it (walk_enum (K := K) (a := p) (xs := (Txt.split z "\n").map V.str)) (fun i σ G => ∃ (v2 v3 v4 : Option V) (vs : List V) (rows : List RowS), σ = [some (.str z), some (.ref l), v2, v3, v4] ∧ G l = some (.lst vs) ∧ RowsV G vs rows ∧ (osOf z).take i = rows.map some ∧ rows.length = i ∧
          (∀ (j : Nat) o, j < i → (osOf z)[j]? = some o → itemOk o j = true) ∧ Same H G ∧ G p = some (.lst ((Txt.split z "\n").map V.str)))
        ⟨none, none, none, [], [], rfl, e2 _ _ hl0, ⟨rfl, fun i v e => by simp at e⟩, rfl, rfl, (fun j o h => absurd h (Nat.not_lt_zero j)), e1.trans e2, hp⟩ (fun i σ G _ ⟨_, _, _, _, _, _, _, _, _, _, _, _, h⟩ => SqL.of h) ?_ ?_
      · rintro i x σ G G' hi ⟨v2, v3, v4, vs, rows, rfl, hGl, hR, ht, hlr, hok, eG, hGp⟩ ⟨TA, x1, x2, rfl, nT, rfl, hx1, hx2⟩
        obtain rfl : V.int (i : Nat) = x1 := Option.some.inj hx1
        obtain ⟨ln, hln, rfl⟩ : ∃ ln, (Txt.split z "\n")[i]? = some ln ∧ x2 = V.str ln := by
          have h2 : ((Txt.split z "\n").map V.str)[i]? = some x2 := hx2
          rw [List.getElem?_map] at h2
          cases e : (Txt.split z "\n")[i]? with
          | none => rw [e] at h2; cases h2
          | some w => rw [e] at h2; exact ⟨w, rfl, (Option.some.inj h2).symm⟩
        have hlm := List.mem_of_getElem? hln
        have hlB := hz.part n10 a10 hlm
        have hos : (osOf z)[i]? = some (rowOf ln) := by
          unfold osOf
          rw [List.getElem?_map, hln]
          rfl
        have eT : Same G (L2.upd G TA (.tup [.int (i : Nat), .str ln])) := Same.upd nT
        refine ⟨TA, _, rfl, SqT.of upd_same, rfl, _, _, rfl, _, _, rfl, rfl, ?_⟩
        generalize L2.upd G TA (.tup [.int (i : Nat), .str ln]) = G1 at eT
        have bad : itemOk (rowOf ln) i = false → ∀ G2, Same G1 G2 → ∀ d, G2 d = none → E (.ref CL) (some d) (L2.upd G2 d (.xd [("at", .int i)])) := fun hb G2 e d nd =>
          k1 i _ hos hb hok d _ upd_same (((eG.trans eT).trans e).trans (Same.upd nd))
        refine ⟨_, rfl, ln, rfl, hlB, hw ln hlm, fun hn G2 eG2 => ?_, fun r hr a G2 ha eG2 => ?_⟩
        · refine ⟨_, rfl, rfl, _, rfl, ?_⟩
          rw [decide_eq_true rfl]
          refine iteT (iteT ?_)
          exact ⟨_, rfl, _, rfl, fun d nd => bad (by rw [hn]; rfl) G2 eG2 d nd⟩
        · refine ⟨_, rfl, rfl, _, rfl, ?_⟩
          rw [decide_eq_false (fun z => by cases z)]
          refine iteF ?_
          have hrl := rowOf_len hlB hr
          refine ⟨_, rfl, _, rfl, .ref a, i, rfl, .inr ⟨a, r.1, r.2, rfl, ha, by omega, fun G3 eG3 => ⟨_, rfl, ?_⟩⟩⟩
          cases hb : rowOk r.1 r.2 i with
          | false =>
            refine iteT ?_
            exact ⟨_, rfl, _, rfl, fun d nd => bad (by rw [hr]; exact hb) G3 (eG2.trans eG3) d nd⟩
          | true =>
            refine iteF ?_
            have eA := (eT.trans eG2).trans eG3
            have hl3 := eA _ _ hGl
            refine ⟨_, rfl, .inl ⟨rfl, _, .inl (.inl hl3)⟩, ?_⟩
            refine ⟨_, rfl, l, _, _, rfl, rfl, hl3, ?_, ?_⟩
            · have h1 := hR.1
              have h2 := hz.count n10 a10
              have h3 := (List.getElem?_eq_some_iff.mp hln).1
              exact Nat.lt_of_le_of_lt (show vs.length ≤ 5001 by omega) (by decide)
            · refine ⟨_, _, _, vs ++ [.ref a], rows ++ [r], rfl, upd_same, RowsV.push hl3 (hR.same eA) (eG3 _ _ ha), ?_, by simp [hlr], ?_, ?_, ?_⟩
              · rw [List.take_succ, ht, hos, hr, List.map_append]
                rfl
              · intro j o hj hjo
                by_cases hji : j = i
                · subst hji
                  rw [hos, hr] at hjo
                  cases hjo
                  exact hb
                · exact hok j o (by omega) hjo
              · intro b o eb
                rw [upd_ne (ne_of_none eb nl)]
                exact (eG.trans eA) _ _ eb
              · rw [upd_ne npl]
                exact eA _ _ hGp
      · rintro σ G ⟨v2, v3, v4, vs, rows, rfl, hGl, hR, ht, hlr, hok, eG, hGp⟩
        rw [← osl, List.take_length] at ht
        refine ⟨_, rfl, ?_⟩
        exact k2 (fun j o hjo => hok j o (by rw [← osl]; exact (List.getElem?_eq_some_iff.mp hjo).1) hjo) l vs rows G nl hGl ht hR eG
end
end Own
set_option Elab.async false
set_option linter.all false
set_option maxRecDepth 100000
set_option maxHeartbeats 4000000
namespace Own
open PySem PySem.Spec PyProof.Rows L2 LamX
/-! ### the law's own look at rows -/
def sizesK : List (Key × V) := [(.inr "fraction", .int 3), (.inr "plus", .int 3), (.inr "minus", .int 3), (.inr "times", .int 3), (.inr "over", .int 3), (.inr "hyp", .int 3), (.inr "root", .int 2)]
def sizeW (w : Str) : Option Int := if w = "fraction" then some 3 else if w = "root" then some 2 else if w ∈ PAIR then some 3 else none
theorem find_sizes (w : Str) : valV sizesK (.inr w) = (sizeW w).map V.int := by
  by_cases h1 : w = "fraction"
  · subst h1; rfl
  by_cases h2 : w = "root"
  · subst h2; kernel_rfl
  by_cases h3 : w = "plus"
  · subst h3; kernel_rfl
  by_cases h4 : w = "minus"
  · subst h4; kernel_rfl
  by_cases h5 : w = "times"
  · subst h5; kernel_rfl
  by_cases h6 : w = "over"
  · subst h6; kernel_rfl
  by_cases h7 : w = "hyp"
  · subst h7; kernel_rfl
  have e : sizeW w = none := by
    unfold sizeW
    rw [if_neg h1, if_neg h2, if_neg]
    simp [PAIR, h3, h4, h5, h6, h7]
  rw [e]
  have k : ∀ y : Str, w ≠ y → decide (y = w) = false := fun y h => decide_eq_false (fun z => h z.symm)
  unfold valV sizesK
  simp [List.find?_cons, k _ h1, k _ h2, k _ h3, k _ h4, k _ h5, k _ h6, k _ h7]
theorem rowOk_size (w : Str) (is : List Int) (n : Nat) : rowOk w is n = match sizeW w with
    | none => false
    | some k => decide ((is.length : Int) + 1 = k) && (if w = "fraction" then decide (0 < is.getD 1 0) else inRange is n) := by
  unfold rowOk sizeW
  by_cases h1 : w = "fraction"
  · simp only [if_pos h1]
    congr 1
    rw [Bool.eq_iff_iff, decide_eq_true_iff, decide_eq_true_iff]
    omega
  · simp only [if_neg h1]
    by_cases h2 : w = "root"
    · simp only [if_pos h2]
      congr 1
      rw [Bool.eq_iff_iff, decide_eq_true_iff, decide_eq_true_iff]
      omega
    · simp only [if_neg h2]
      by_cases h3 : w ∈ PAIR
      · simp only [if_pos h3]
        congr 1
        rw [Bool.eq_iff_iff, decide_eq_true_iff, decide_eq_true_iff]
        omega
      · simp only [if_neg h3]
/-- rows whose wholes may be lacking -/
abbrev LRow := Str × List (Option Int)
def optV : Option Int → V
  | none => .non
  | some z => .int z
def lrowV (r : LRow) : List V := .str r.1 :: r.2.map optV
def allSome : List (Option Int) → Option (List Int)
  | [] => some []
  | some z :: r => (allSome r).map (z :: ·)
  | none :: _ => none
def lrowOk (r : LRow) (n : Nat) : Bool := match allSome r.2 with
  | none => false
  | some is => rowOk r.1 is n
theorem allSome_len : ∀ {os : List (Option Int)} {is : List Int}, allSome os = some is → os = is.map some
  | [], is, h => by cases h; rfl
  | some z :: r, is, h => by
    unfold allSome at h
    cases hr : allSome r with
    | none => rw [hr] at h; cases h
    | some l =>
      rw [hr] at h
      cases h
      rw [allSome_len hr]
      rfl
  | none :: r, is, h => by cases h
theorem allSome_map (is : List Int) : allSome (is.map some) = some is := by
  induction is with
  | nil => rfl
  | cons z r ih =>
    show (allSome (r.map some)).map (z :: ·) = _
    rw [ih]
    rfl
theorem allSome_none {os : List (Option Int)} : allSome os = none ↔ none ∈ os := by
  induction os with
  | nil => simp [allSome]
  | cons o r ih =>
    cases o with
    | none => simp [allSome]
    | some z =>
      show (allSome r).map (z :: ·) = none ↔ _
      rw [Option.map_eq_none_iff, ih]
      simp
def lrowsOk (rows : List LRow) : Bool := !rows.isEmpty && rows.zipIdx.all fun p => lrowOk p.1 p.2
theorem lzip_snoc {os : List LRow} {i : Nat} {o : LRow} (h : os[i]? = some o) : (os.take (i + 1)).zipIdx = (os.take i).zipIdx ++ [(o, i)] := by
  have hl : (os.take i).length = i := by
    rw [List.length_take]
    have := (List.getElem?_eq_some_iff.mp h).1
    omega
  rw [List.take_succ, h]
  show (os.take i ++ [o]).zipIdx = _
  rw [List.zipIdx_append, hl]
  simp
def LRowsV (H : Hp) (vs : List V) (rows : List LRow) : Prop := vs.length = rows.length ∧ ∀ (i : Nat) (v : V), vs[i]? = some v → ∃ r, rows[i]? = some r ∧ ∃ a, v = .ref a ∧ H a = some (.tup (lrowV r)) ∧ fok (.str r.1) = true
theorem LRowsV.same {H H' : Hp} {vs : List V} {rows : List LRow} (h : LRowsV H vs rows) (s : Same H H') : LRowsV H' vs rows := ⟨h.1, fun i v e => let ⟨r, e1, a, e2, e3, e4⟩ := h.2 i v e; ⟨r, e1, a, e2, s _ _ e3, e4⟩⟩
theorem fok_lrow {r : LRow} (h : fok (.str r.1) = true) : (lrowV r).all fok = true := by
  unfold lrowV
  rw [List.all_cons, h, List.all_map, Bool.true_and, List.all_eq_true]
  intro o _
  cases o <;> rfl
theorem dp_tups {K : PySem.W.Frag} {H : Hp} : ∀ {vs : List V}, (∀ v ∈ vs, ∃ a xs, v = .ref a ∧ H a = some (.tup xs) ∧ xs.all fok = true) → ∃ ds, DpAll K H vs ds ∧ PyData.canLayAll0 ds = true ∧ PyData.depthAll ds ≤ 1 ∧ ds.isEmpty = vs.isEmpty
  | [], _ => ⟨[], .nil, rfl, Nat.zero_le _, rfl⟩
  | v :: r, h => by
    obtain ⟨a, xs, rfl, ha, hx⟩ := h v (List.mem_cons_self ..)
    obtain ⟨ds, d1, d2, d3, _⟩ := dp_tups (K := K) (H := H) (vs := r) fun y hy => h y (List.mem_cons_of_mem _ hy)
    obtain ⟨b1, b2, b3⟩ := dp_flat (K := K) (H := H) hx
    refine ⟨.tuple (xs.map fd) :: ds, .cons (.tup (SqT.of ha) b1) d1, ?_, ?_, rfl⟩
    · show (PyData.canLayAll0 (xs.map fd) && PyData.canLayAll0 ds) = true
      rw [b2, d2]
      rfl
    · show max (PyData.depthAll (xs.map fd) + 1) (PyData.depthAll ds) ≤ 1
      rw [b3]
      omega
theorem eq_nil_tups {K : PySem.W.Frag} {H : Hp} {a b : Addr} {vs : List V} {Q : VK} (ha : SqL K H a vs) (hb : SqL K H b []) (hf : ∀ v ∈ vs, ∃ a xs, v = .ref a ∧ H a = some (.tup xs) ∧ xs.all fok = true) (q : Q (.bl vs.isEmpty) H) : rEqD K (.ref a) (.ref b) H Q := by
  obtain ⟨ds, d1, d2, d3, d4⟩ := dp_tups (K := K) hf
  refine ⟨.list ds, .list [], .lst ha d1, .lst hb .nil, ?_, rfl, ?_⟩
  · show (PyData.canLayAll0 ds && decide (PyData.depthAll ds + 1 ≤ 64)) = true
    rw [d2, decide_eq_true (by omega)]
    rfl
  · have e : PyData.eqv (.list ds) (.list []) = vs.isEmpty := by
      rw [← d4]
      cases ds <;> rfl
    rw [e]
    exact q
theorem eq_tup_nil {K : PySem.W.Frag} {H : Hp} {a b : Addr} {x : V} {xs : List V} {Q : VK} (ha : SqT K H a (x :: xs)) (hb : SqT K H b []) (hf : (x :: xs).all fok = true) (q : Q (.bl false) H) : rEqD K (.ref a) (.ref b) H Q := by
  obtain ⟨b1, b2, b3⟩ := dp_flat (K := K) (H := H) hf
  refine ⟨.tuple ((x :: xs).map fd), .tuple [], .tup ha b1, .tup hb .nil, ?_, rfl, q⟩
  show (PyData.canLayAll0 ((x :: xs).map fd) && decide (PyData.depthAll ((x :: xs).map fd) + 1 ≤ 64)) = true
  rw [b2, b3]
  rfl
end Own
set_option Elab.async false
set_option linter.all false
set_option maxRecDepth 100000
set_option maxHeartbeats 4000000
namespace Own
open PySem PySem.Spec PyProof.Rows L2 LamX
theorem cut_cons {x : V} {xs : List V} : cutV (x :: xs) (some 1) none = xs := (cut_drop (xs := x :: xs) (k := 1) (by simp)).trans rfl
theorem notWhole_cons {x : V} {xs : List V} : ¬ (HT.sIx (x :: xs).length 0 (some 1) = 0 ∧ HT.sIx (x :: xs).length (x :: xs).length none = (x :: xs).length) := by
  rintro ⟨h, _⟩
  have e : HT.sIx (x :: xs).length 0 (some ((1 : Nat) : Int)) = min 1 (x :: xs).length := HT.sIx_nat _ _ _
  have h' : HT.sIx (x :: xs).length 0 (some ((1 : Nat) : Int)) = 0 := h
  rw [List.length_cons] at e h'
  omega
/-- [place for place in row[1:] if not is_whole(place)] != [] -/
theorem wholes_read {K : PySem.W.Frag} {σ : L2.St} {H : Hp} {a : Addr} {ir it : Nat} {x : V} {os : List (Option Int)} {Q : VK} {E : XK} (hr : σ[ir]? = some (some (.ref a))) (hs : SqT K H a (x :: os.map optV)) (hlen : os.length ≤ 10000)
    (h1 : ∀ v, ((wipe σ [it]).set it (some v))[it]? = some (some v)) (h2 : ∀ v, wipe ((wipe σ [it]).set it (some v)) [it] = wipe σ [it]) (k : ∀ H', Same H H' → Q (.bl (decide (none ∈ os))) H') :
    tOp (rNeD K) (tLc (iTup K (tSl (rSlT K) (tVar ir) (tPart (tC (.int 1))) tNoPart)) (gName it) (tNot (tB (tCall (spWhole K) [] E (tCons (tVar it) tNil)))) (tVar it) [it]) (tLst tNil) σ H Q := by
  refine ⟨_, hr, _, rfl, a, _, rfl, hs, notWhole_cons, fun p np => ?_⟩
  rw [cut_cons]
  refine ⟨p, rfl, ⟨_, SqT.of upd_same⟩, fun D nD => ?_⟩
  have e1 : Same H (L2.upd H p (.tup (os.map optV))) := Same.upd np
  have hp : (L2.upd H p (.tup (os.map optV))) p = some (.tup (os.map optV)) := upd_same
  generalize L2.upd H p (.tup (os.map optV)) = H1 at nD e1 hp
  have nDp : p ≠ D := ne_of_none hp nD
  refine lc_tup (K := K) (a := p) (xs := os.map optV) (fun i G => ∃ m : Nat, G = L2.upd H1 D (.lst (List.replicate m V.non)) ∧ m ≤ i ∧ (m = 0 ↔ none ∉ os.take i)) ⟨0, rfl, Nat.le_refl _, by simp⟩ (fun i G _ ⟨m, e, _⟩ => by rw [e]; exact SqT.of (by rw [upd_ne nDp]; exact hp)) ?_ ?_
  · rintro i y G hi ⟨m, rfl, hm, hm0⟩
    obtain ⟨o, ho, rfl⟩ : ∃ o, os[i]? = some o ∧ y = optV o := by
      rw [List.getElem?_map] at hi
      cases e : os[i]? with
      | none => rw [e] at hi; cases hi
      | some w => rw [e] at hi; exact ⟨w, rfl, (Option.some.inj hi).symm⟩
    have hlt := (List.getElem?_eq_some_iff.mp ho).1
    have et : os.take (i + 1) = os.take i ++ [o] := by
      rw [List.take_succ, ho]
      rfl
    refine ⟨h2 _, _, h1 _, ?_⟩
    cases o with
    | none =>
      refine ⟨.non, false, false, rfl, Kind.non, false, rfl, ?_⟩
      refine iteT ⟨_, h1 _, _, upd_same, ?_, m + 1, ?_, by omega, ?_⟩
      · rw [List.length_replicate]
        exact Nat.lt_of_le_of_lt (show m ≤ 10000 by omega) (by decide)
      · rw [upd_upd, List.replicate_succ']
        rfl
      · rw [et]
        simp
    | some z =>
      refine ⟨.int z, true, false, rfl, Kind.int z, true, rfl, ?_⟩
      refine iteF ⟨m, rfl, by omega, ?_⟩
      rw [hm0, et]
      simp
  · rintro G ⟨m, rfl, hm, hm0⟩
    refine ⟨(by show 0 ≤ sizeLine; decide), fun q nq => ?_⟩
    have nDq : D ≠ q := ne_of_none upd_same nq
    have fk : (List.replicate m V.non).all fok = true := by
      rw [List.all_eq_true]
      intro v hv
      rw [(List.mem_replicate.mp hv).2]
      rfl
    refine ne_nil (SqL.of (by rw [upd_ne nDq]; exact upd_same)) (SqL.of upd_same) fk ?_
    have full : os.take ((os.map optV).length) = os := by rw [List.length_map, List.take_length]
    rw [full] at hm0
    have e : (!(List.replicate m V.non).isEmpty) = decide (none ∈ os) := by
      by_cases h : none ∈ os
      · rw [decide_eq_true h]
        have : m ≠ 0 := fun z => (hm0.mp z) h
        cases m with
        | zero => exact absurd rfl this
        | succ m => rfl
      · rw [decide_eq_false h, hm0.mpr h]
        rfl
    rw [e]
    exact k _ ((e1.trans (Same.upd nD)).trans (Same.upd nq))
/-- [place for place in row[1:] if place < 0 or place >= at] != [] -/
theorem range_readN {K : PySem.W.Frag} {σ : L2.St} {H : Hp} {a : Addr} {ir it ia : Nat} {x : V} {is : List Int} {n : Nat} {Q : VK} (hr : σ[ir]? = some (some (.ref a))) (hs : SqT K H a (x :: is.map V.int)) (hlen : is.length ≤ 10000)
    (h1 : ∀ v, ((wipe σ [it]).set it (some v))[it]? = some (some v)) (h2 : ∀ v, wipe ((wipe σ [it]).set it (some v)) [it] = wipe σ [it]) (h3 : ∀ v, ((wipe σ [it]).set it (some v))[ia]? = some (some (.int n))) (k : ∀ H', Same H H' → Q (.bl (!inRange is n)) H') :
    tOp (rNeD K) (tLc (iTup K (tSl (rSlT K) (tVar ir) (tPart (tC (.int 1))) tNoPart)) (gName it) (tOr (tTest (tOp (rI0 fun i j => .bl (decide (i < j))) (tVar it) (tC (.int 0)))) (tTest (tOp (rI0 fun i j => .bl (decide (j ≤ i))) (tVar it) (tVar ia)))) (tVar it) [it]) (tLst tNil) σ H Q := by
  refine ⟨_, hr, _, rfl, a, _, rfl, hs, notWhole_cons, fun p np => ?_⟩
  rw [cut_cons]
  refine ⟨p, rfl, ⟨_, SqT.of upd_same⟩, fun D nD => ?_⟩
  have e1 : Same H (L2.upd H p (.tup (is.map V.int))) := Same.upd np
  have hp : (L2.upd H p (.tup (is.map V.int))) p = some (.tup (is.map V.int)) := upd_same
  generalize L2.upd H p (.tup (is.map V.int)) = H1 at nD e1 hp
  have nDp : p ≠ D := ne_of_none hp nD
  let bad : Int → Bool := fun i => decide (i < 0) || decide ((n : Int) ≤ i)
  refine lc_tup (K := K) (a := p) (xs := is.map V.int) (fun i G => G = L2.upd H1 D (.lst (((is.take i).filter bad).map V.int))) rfl (fun i G _ e => by rw [e]; exact SqT.of (by rw [upd_ne nDp]; exact hp)) ?_ ?_
  · rintro i y G hi rfl
    obtain ⟨z, hz, rfl⟩ := ints_at hi
    have hlt := (List.getElem?_eq_some_iff.mp hz).1
    have et : is.take (i + 1) = is.take i ++ [z] := by
      rw [List.take_succ, hz]
      rfl
    refine ⟨h2 _, _, h1 _, _, _, rfl, rfl, _, rfl, ?_⟩
    have len : ((is.take i).filter bad).length ≤ 10000 := Nat.le_trans (List.length_filter_le _ _) (by rw [List.length_take]; omega)
    have put : bad z = true → ∃ v, ((wipe σ [it]).set it (some (V.int z)))[it]? = some (some v) ∧ ∃ acc, L2.upd H1 D (.lst (((is.take i).filter bad).map V.int)) D = some (.lst acc) ∧ acc.length < sizeLine ∧ L2.upd (L2.upd H1 D (.lst (((is.take i).filter bad).map V.int))) D (.lst (acc ++ [v])) = L2.upd H1 D (.lst (((is.take (i + 1)).filter bad).map V.int)) := fun hb => by
      refine ⟨_, h1 _, _, upd_same, by rw [List.length_map]; exact Nat.lt_of_le_of_lt len (by decide), ?_⟩
      rw [upd_upd, et, List.filter_append, List.map_append, List.filter_cons_of_pos hb]
      rfl
    have skip : bad z = false → L2.upd H1 D (.lst (((is.take i).filter bad).map V.int)) = L2.upd H1 D (.lst (((is.take (i + 1)).filter bad).map V.int)) := fun hb => by
      rw [et, List.filter_append, List.filter_cons_of_neg (by rw [hb]; exact Bool.false_ne_true)]
      simp
    refine ite2 (fun c => ?_) fun c => ?_
    · exact put (by show (decide (z < 0) || _) = true; rw [c]; rfl)
    · have c' : decide (z < 0) = false := by simpa using c
      refine ⟨_, h1 _, _, h3 _, _, _, rfl, rfl, _, rfl, ?_⟩
      by_cases hc : (n : Int) ≤ z
      · rw [decide_eq_true hc]
        exact put (by show (decide (z < 0) || decide ((n : Int) ≤ z)) = true; rw [decide_eq_true hc, Bool.or_true])
      · rw [decide_eq_false hc]
        exact skip (by show (decide (z < 0) || decide ((n : Int) ≤ z)) = false; rw [c', decide_eq_false hc]; rfl)
  · rintro G rfl
    refine ⟨(by show 0 ≤ sizeLine; decide), fun q nq => ?_⟩
    have nDq : D ≠ q := ne_of_none upd_same nq
    have full : is.take ((is.map V.int).length) = is := by rw [List.length_map, List.take_length]
    refine ne_nil (SqL.of (by rw [upd_ne nDq]; exact upd_same)) (SqL.of upd_same) (fok_ints _) ?_
    rw [full] at nq ⊢
    have e : (!((is.filter bad).map V.int).isEmpty) = !inRange is n := by
      congr 1
      rw [List.isEmpty_map, Bool.eq_iff_iff, List.isEmpty_iff, List.filter_eq_nil_iff]
      unfold inRange
      rw [List.all_eq_true]
      refine forall_congr' fun i => forall_congr' fun _ => ?_
      show (¬ (decide (i < 0) || decide ((n : Int) ≤ i)) = true) ↔ (!(decide (i < 0) || decide ((n : Int) ≤ i))) = true
      cases (decide (i < 0) || decide ((n : Int) ≤ i)) <;> simp
    rw [e]
    exact k _ ((e1.trans (Same.upd nD)).trans (Same.upd nq))
def spLRows : Sp := fun vs H Q _ => ∃ l xs rows, vs = [.ref l] ∧ H l = some (.lst xs) ∧ LRowsV H xs rows ∧ xs.length ≤ 10000 ∧ (∀ r ∈ rows, r.2.length ≤ 10000) ∧ ∀ H', Same H H' → Q (.bl (lrowsOk rows)) H'
section
variable {P : Program} {w : World} {K : PySem.W.Frag} {mg : Str → Option Value} {base : Heap} {f fW fO fR fN fI fT fL CL : Addr} {fd2 fdW fdO fdR fdN fdI fdT : FuncData}
theorem scLWhole : FnScope ["_law_value"] ["_law_value"] (defScope sLWhole) := ⟨rfl, rfl, rfl, by decide +kernel, rfl, by decide +kernel, by decide +kernel⟩
theorem ok_lwhole (F : FnP K "_law_is_whole" sLWhole f fd2) (T : Txt K mg) : FnOk P w K mg base CX0 1 f fd2 ["_law_value"] (spWhole K) := by
  refine F.ok scLWhole (fun vs H Q E h => ?_) (fun cdv A outer s H vs Q E hr h => ?_)
  · obtain ⟨x, i, b, rfl, _⟩ := h
    rfl
  · obtain ⟨x, i, b, rfl, ⟨t, ty, e1, e2⟩, k⟩ := h
    refine ⟨_, PSs.nox (pss_one (ps_ret (pe_and (pe_callB call_isi (by rfl) T.isi boot_isinstance (pa_cons (pv 0) (pa_cons (pe_bltn (v := .ty "int") (by rfl) T.int boot_int rfl) pa_nil)))
      (pe_one (pe_not (pe_callB call_isi (by rfl) T.isi boot_isinstance (pa_cons (pv 0) (pa_cons (pe_bltn (v := .ty "bool") (by rfl) T.bool boot_bool rfl) pa_nil)))))))), ?_⟩
    refine ⟨_, rfl, x, .ty "int", .type t, .type "int", i, rfl, .ty _, ty, kit_ty e1, i, rfl, ?_⟩
    cases i with
    | false => exact iteF k
    | true => exact iteT ⟨_, rfl, x, .ty "bool", .type t, .type "bool", b, rfl, .ty _, ty, kit_ty e2, b, rfl, k⟩
abbrev nsLRows : List Str := ["_law_value", "_law_sizes", "_law_at", "_law_row", "_law_place"]
theorem scLRows : FnScope nsLRows ["_law_value"] (defScope sLRows) := ⟨rfl, rfl, rfl, by decide +kernel, rfl, by decide +kernel, by decide +kernel⟩
theorem ok_lrows (F : FnP K "_law_is_rows" sLRows f fd2) (FW : FnP K "_law_is_whole" sLWhole fW fdW) (T : Txt K mg) (gW : mg "_law_is_whole" = some (.ref fW)) : FnOk P w K mg base CX0 2 f fd2 ["_law_value"] spLRows := by
  have GW : FnOk P w K mg base CX0 1 fW fdW ["_law_value"] (spWhole K) := ok_lwhole FW T
  have bW : Binds K fdW ["_law_value"] [] := FW.bindsN fun _ _ _ _ _ _ us hl => match us, hl with | [_], _ => rfl
  refine F.ok scLRows (fun vs H Q E h => ?_) (fun cdv A outer s H vs Q E hr h => ?_)
  · obtain ⟨l, xs, rows, rfl, _⟩ := h
    rfl
  · obtain ⟨l, xs, rows, rfl, hl, hR, hxl, hrl, k⟩ := h
    have hu := hu_of hr
    refine ⟨_, PSs.nox (pss_cons (ps_if (PW.pt (pw_or (pt_not (pt_val (pe_callB call_isi (by rfl) T.isi boot_isinstance (pa_cons (pv 0) (pa_cons (pe_bltn (v := .ty "list") (by rfl) T.list (by decide +kernel) rfl) pa_nil)))))
        (pw_or1 (pt_cmpR (op_eqD hr.units) (pv 0) (pe_lst pa_nil) (nomark _))))) (pss_one (ps_ret pe_bl)) pss_nil)
      (pss_cons (ps_set (i := 1) scLRows.nd rfl (.inl rfl) (pe_disp (pps_cons pe_str pe_int (pps_cons pe_str pe_int (pps_cons pe_str pe_int (pps_cons pe_str pe_int (pps_cons pe_str pe_int (pps_cons pe_str pe_int (pps_cons pe_str pe_int pps_nil))))))) (by rfl) (by rfl) (fun z => by cases z) (by decide)))
      (pss_cons (ps_for PassesOwn.never rfl (pi_enum (by rfl) T.enum (pa_cons (pv 0) pa_nil)) (pg_tup rfl (pgs_cons (pg_name (i := 2) scLRows.nd rfl (Or.inr rfl)) (pgs_cons (pg_name (i := 3) scLRows.nd rfl (Or.inl rfl)) pgs_nil)))
        (pss_cons (ps_if (PW.pt (pw_or (pt_not (pt_val (pe_callB call_isi (by rfl) T.isi boot_isinstance (pa_cons (pv 3) (pa_cons (pe_bltn (v := .ty "tuple") (by rfl) T.tuple (by decide +kernel) rfl) pa_nil)))))
          (pw_or (pt_cmpR (op_eqD hr.units) (pv 3) (pe_tup pa_nil) (nomark _))
          (pw_or (pt_cmp (pc_dnotin hu (pe_ix ix_tup (pv 3) pe_int (fun _ _ => rfl)) (pv 1)) (by rfl))
          (pw_or1 (pt_cmpR op_ne (pe_callB call_len_seq (by rfl) T.len PySem.boot_len (pa_cons (pv 3) pa_nil)) (pe_dget hu (pv 1) (pe_ix ix_tup (pv 3) pe_int (fun _ _ => rfl)) (fun _ _ => rfl)) (nomark _))))))) (pss_one (ps_ret pe_bl)) pss_nil)
        (pss_cons (ps_if (pt_cmpR (op_neD hr.units) (pe_lc (own := [("_law_place", 4)]) (g := gName 4) (by rfl) scLRows.nd (pi_tup (pe_slice sl_tup (pv 3) (po_some pe_int) po_none)) (blkOk_by (own := [("_law_place", 4)]) (N := nsLRows) (sc := defScope sLRows) (by decide +kernel))
            (fun _ _ _ _ _ => pg_name (i := 4) scLRows.nd rfl (Or.inl rfl))
            (fun _ _ _ _ _ => pts_one (pt_not (pt_val (pe_call GW hr (by rfl) gW FW.kp bW .nil pass0 (pa_cons (pv 4) pa_nil)))))
            (fun _ _ _ _ _ => pv 4)) (pe_lst pa_nil) (nomark _)) (pss_one (ps_ret pe_bl)) pss_nil)
        (pss_cons (ps_if (PW.pt (pw_and (pt_cmpR op_eq (pe_ix ix_tup (pv 3) pe_int (fun _ _ => rfl)) pe_str (nomark _)) (pw_and1 (pt_cmpR op_lt (pe_ix ix_tup (pv 3) pe_int (fun _ _ => rfl)) pe_int (nomark _))))) (pss_one (ps_ret pe_bl)) pss_nil)
        (pss_one (ps_if (PW.pt (pw_and (pt_cmpR op_ne (pe_ix ix_tup (pv 3) pe_int (fun _ _ => rfl)) pe_str (nomark _)) (pw_and1 (pt_cmpR (op_neD hr.units) (pe_lc (own := [("_law_place", 4)]) (g := gName 4) (by rfl) scLRows.nd (pi_tup (pe_slice sl_tup (pv 3) (po_some pe_int) po_none)) (blkOk_by (own := [("_law_place", 4)]) (N := nsLRows) (sc := defScope sLRows) (by decide +kernel))
            (fun _ _ _ _ _ => pg_name (i := 4) scLRows.nd rfl (Or.inl rfl))
            (fun _ _ _ _ _ => pts_one (PW.pt (pw_or (pt_cmpR op_lt (pv 4) pe_int (nomark _)) (pw_or1 (pt_cmpR op_ge (pv 4) (pv 2) (nomark _))))))
            (fun _ _ _ _ _ => pv 4)) (pe_lst pa_nil) (nomark _))))) (pss_one (ps_ret pe_bl)) pss_nil))))))
      (pss_one (ps_ret pe_bl))))), ?_⟩
    have hf : ∀ {G : Hp}, Same H G → ∀ v ∈ xs, ∃ a ys, v = .ref a ∧ G a = some (.tup ys) ∧ ys.all fok = true := fun e v hv => by
      obtain ⟨i, hi⟩ := List.getElem?_of_mem hv
      obtain ⟨r, e1, a, e2, e3, e4⟩ := hR.2 i v hi
      exact ⟨a, _, e2, e _ _ e3, fok_lrow e4⟩
    have N := hR.1
    refine ⟨_, rfl, .ref l, .ty "list", .type "list", .type "list", true, rfl, .ty _, .base (.lst hl), kit_ty (by decide +kernel), true, rfl, ?_⟩
    refine iteF ?_
    refine ⟨_, rfl, (by show 0 ≤ sizeLine; decide), fun q nq => ?_⟩
    have e0 : Same H (L2.upd H q (.lst [])) := Same.upd nq
    refine eq_nil_tups (SqL.of (e0 _ _ hl)) (SqL.of upd_same) (hf e0) ⟨_, rfl, ?_⟩
    generalize L2.upd H q (.lst []) = H1 at e0
    cases hx : xs.isEmpty with
    | true =>
      have : rows = [] := List.length_eq_zero_iff.mp (by rw [← N, List.isEmpty_iff.mp hx]; rfl)
      have k' := k H1 e0
      rw [this] at k'
      exact iteT k'
    | false =>
    have rne : rows.isEmpty = false := by
      cases rows with
      | nil =>
        have : xs = [] := List.length_eq_zero_iff.mp N
        rw [this] at hx
        cases hx
      | cons _ _ => rfl
    refine iteF ?_
    intro d nd
    refine ⟨upd_same, sizesK, rfl, (by show 7 ≤ 15; decide), ?_⟩
    have em : mergeK [] sizesK = sizesK := by kernel_rfl
    rw [em, upd_upd]
    have e1 : Same H1 (L2.upd H1 d (.dK sizesK)) := Same.upd nd
    have hd : (L2.upd H1 d (.dK sizesK)) d = some (.dK sizesK) := upd_same
    generalize L2.upd H1 d (.dK sizesK) = H2 at e1 hd
    have e2 := e0.trans e1
    refine ⟨_, rfl, l, _, rfl, SqL.of (e2 _ _ hl), ?_⟩
    refine for_it (walk_enum (K := K) (a := l) (xs := xs)) (fun i σ G => ∃ (v2 v3 : Option V), σ = [some (.ref l), some (.ref d), v2, v3, none] ∧ Same H2 G ∧ ((rows.take i).zipIdx.all fun p => lrowOk p.1 p.2) = true)
      ⟨none, none, rfl, Same.refl _, rfl⟩ (fun i σ G _ ⟨_, _, _, h, _⟩ => SqL.of (h _ _ (e2 _ _ hl))) ?_ ?_
    · rintro i x σ G G' hi ⟨v2, v3, rfl, eG, hok⟩ ⟨TA, x1, x2, rfl, nT, rfl, hx1, hx2⟩
      obtain rfl : V.int (i : Nat) = x1 := Option.some.inj hx1
      obtain ⟨r, hri, a, rfl, har, hfk⟩ := hR.2 i x2 hx2
      have eT : Same G (L2.upd G TA (.tup [.int (i : Nat), .ref a])) := Same.upd nT
      refine ⟨TA, _, rfl, SqT.of upd_same, rfl, _, _, rfl, _, _, rfl, rfl, ?_⟩
      generalize L2.upd G TA (.tup [.int (i : Nat), .ref a]) = G1 at eT
      have eG1 := eG.trans eT
      have ha1 := eG1 _ _ (e2 _ _ har)
      have hd1 := eG1 _ _ hd
      have hrlen := hrl r (List.mem_of_getElem? hri)
      have badK : lrowOk r i = false → ∀ G2, Same G1 G2 → Q (.bl false) G2 := fun hb G2 e => by
        have kk := k G2 ((e2.trans eG1).trans e)
        have : lrowsOk rows = false := by
          unfold lrowsOk
          rw [rne, Bool.not_false, Bool.true_and, Bool.eq_false_iff]
          intro z
          rw [List.all_eq_true] at z
          have m : (r, i) ∈ rows.zipIdx := by
            rw [List.mem_zipIdx_iff_getElem?]
            exact hri
          have := z _ m
          rw [show lrowOk (r, i).1 (r, i).2 = lrowOk r i from rfl, hb] at this
          cases this
        rw [this] at kk
        exact kk
      have goodK : lrowOk r i = true → ((rows.take (i + 1)).zipIdx.all fun p => lrowOk p.1 p.2) = true := fun hb => by
        rw [lzip_snoc hri, List.all_append, hok]
        simp [hb]
      refine ⟨_, rfl, .ref a, .ty "tuple", .type "tuple", .type "tuple", true, rfl, .ty _, .base (.tup ha1), kit_ty (by decide +kernel), true, rfl, ?_⟩
      refine iteF ?_
      refine ⟨_, rfl, (by show 0 ≤ sizeLine; decide), fun u nu => ?_⟩
      have eu : Same G1 (L2.upd G1 u (.tup [])) := Same.upd nu
      refine eq_tup_nil (SqT.of (eu _ _ ha1)) (SqT.of upd_same) (fok_lrow hfk) ⟨_, rfl, ?_⟩
      refine iteF ?_
      generalize L2.upd G1 u (.tup []) = G2 at eu
      have ha2 : SqT K G2 a (.str r.1 :: r.2.map optV) := SqT.of (eu _ _ ha1)
      have hd2 := eu _ _ hd1
      have at0 : atI (.str r.1 :: r.2.map optV) (0 : Int) = some (.str r.1) := at_nat (k := 0) rfl
      refine ⟨_, rfl, a, _, _, .str r.1, rfl, rfl, ha2, at0, _, rfl, d, _, rfl, DGet.k (k := .inr r.1) hd2, _, rfl, ?_⟩
      rw [find_sizes]
      cases hs : sizeW r.1 with
      | none =>
        refine iteT (iteT (badK ?_ G2 eu))
        unfold lrowOk
        cases allSome r.2 with
        | none => rfl
        | some is => show rowOk r.1 is i = false; rw [rowOk_size, hs]
      | some kz =>
        refine iteF ?_
        refine ⟨_, rfl, a, _, rfl, .inr ha2, _, rfl, _, rfl, a, _, _, .str r.1, rfl, rfl, ha2, at0, d, .int kz, rfl, dget_k (.inr r.1) hd2 (by rw [find_sizes, hs]; rfl), rfl, _, rfl, ?_⟩
        have ln : (V.str r.1 :: r.2.map optV).length = r.2.length + 1 := by simp
        rw [dec_int, ln]
        by_cases hlk : ((r.2.length : Int) + 1 = kz)
        · have e3 : ((((r.2.length + 1 : Nat) : Nat) : Int) == kz) = true := by
            rw [beq_iff_eq]
            omega
          rw [e3]
          refine iteF ?_
          refine wholes_read (ir := 3) (it := 4) rfl ha2 hrlen (fun _ => rfl) (fun _ => rfl) fun G3 eG3 => ⟨_, rfl, ?_⟩
          by_cases hnn : none ∈ r.2
          · rw [decide_eq_true hnn]
            refine iteT (badK ?_ G3 (eu.trans eG3))
            unfold lrowOk
            rw [allSome_none.mpr hnn]
          rw [decide_eq_false hnn]
          refine iteF ?_
          obtain ⟨is, his⟩ : ∃ is, allSome r.2 = some is := by
            cases e : allSome r.2 with
            | none => exact absurd (allSome_none.mp e) hnn
            | some is => exact ⟨is, rfl⟩
          have e4 := allSome_len his
          have elr : lrowOk r i = rowOk r.1 is i := by
            unfold lrowOk
            rw [his]
          have emap : r.2.map optV = is.map V.int := by
            rw [e4, List.map_map]
            rfl
          have ilen : is.length = r.2.length := by rw [e4, List.length_map]
          have ha3 : SqT K G3 a (.str r.1 :: is.map V.int) := emap ▸ SqT.of ((eu.trans eG3) _ _ ha1)
          have at03 : atI (.str r.1 :: is.map V.int) (0 : Int) = some (.str r.1) := at_nat (k := 0) rfl
          have e13 := eu.trans eG3
          have fin : rowOk r.1 is i = true → ∀ G4, Same G3 G4 → ∃ (v2 v3 : Option V), [some (V.ref l), some (V.ref d), some (V.int (i : Nat)), some (V.ref a), none] = [some (V.ref l), some (V.ref d), v2, v3, none] ∧ Same H2 G4 ∧ ((rows.take (i + 1)).zipIdx.all fun p => lrowOk p.1 p.2) = true :=
            fun hb G4 e => ⟨_, _, rfl, (eG1.trans e13).trans e, goodK (elr.trans hb)⟩
          have ers : rowOk r.1 is i = (if r.1 = "fraction" then decide (0 < is.getD 1 0) else inRange is i) := by
            rw [rowOk_size, hs]
            show (decide ((is.length : Int) + 1 = kz) && _) = _
            rw [ilen, decide_eq_true hlk, Bool.true_and]
          refine ⟨_, rfl, a, _, _, .str r.1, rfl, rfl, ha3, at03, rfl, _, rfl, ?_⟩
          rw [decStr]
          by_cases hfr : r.1 = "fraction"
          · rw [if_pos hfr] at ers
            rw [decide_eq_true hfr]
            refine iteT ?_
            have k3 : kz = 3 := by
              unfold sizeW at hs
              rw [if_pos hfr] at hs
              injection hs with hs
              exact hs.symm
            obtain ⟨u1, v1, rfl⟩ : ∃ u1 v1, is = [u1, v1] := by
              match is, ilen with
              | [u1, v1], _ => exact ⟨u1, v1, rfl⟩
              | [], q => simp at q; omega
              | [_], q => simp at q; omega
              | _ :: _ :: _ :: _, q => simp at q; omega
            refine ⟨_, rfl, a, _, _, .int v1, rfl, rfl, ha3, at_nat (k := 2) rfl, _, _, rfl, rfl, _, rfl, ?_⟩
            refine ite2 (fun c => ?_) fun c => ?_
            · refine badK ?_ G3 e13
              rw [elr, ers]
              have := of_decide_eq_true c
              exact decide_eq_false (show ¬ (0 : Int) < v1 by omega)
            · refine ⟨_, rfl, a, _, _, .str r.1, rfl, rfl, ha3, at03, rfl, _, rfl, ?_⟩
              rw [decStr, decide_eq_true hfr]
              refine iteF (iteF (fin ?_ G3 (Same.refl _)))
              rw [ers]
              have : ¬ v1 < 1 := fun q => c (decide_eq_true q)
              exact decide_eq_true (show (0 : Int) < v1 by omega)
          · rw [if_neg hfr] at ers
            rw [decide_eq_false hfr]
            refine iteF (iteF ?_)
            refine ⟨_, rfl, a, _, _, .str r.1, rfl, rfl, ha3, at03, rfl, _, rfl, ?_⟩
            rw [decStr, decide_eq_false hfr]
            refine iteT ?_
            refine range_readN (ir := 3) (it := 4) (ia := 2) rfl ha3 (by omega) (fun _ => rfl) (fun _ => rfl) (fun _ => rfl) fun G4 eG4 => ⟨_, rfl, ?_⟩
            cases hrg : inRange is i with
            | true => exact iteF (fin (ers.trans hrg) G4 eG4)
            | false => exact iteT (badK (elr.trans (ers.trans hrg)) G4 (e13.trans eG4))
        · have e3 : ((((r.2.length + 1 : Nat) : Nat) : Int) == kz) = false := by
            rw [Bool.eq_false_iff]
            intro q
            have := eq_of_beq q
            omega
          rw [e3]
          refine iteT (badK ?_ G2 eu)
          unfold lrowOk
          cases has : allSome r.2 with
          | none => rfl
          | some is =>
            show rowOk r.1 is i = false
            have e4 := allSome_len has
            have ilen : is.length = r.2.length := by rw [e4, List.length_map]
            rw [rowOk_size, hs]
            show (decide ((is.length : Int) + 1 = kz) && _) = false
            rw [ilen, decide_eq_false hlk, Bool.false_and]
    · rintro σ G ⟨v2, v3, rfl, eG, hok⟩
      have kk := k G (e2.trans eG)
      have : lrowsOk rows = true := by
        unfold lrowsOk
        rw [N, List.take_length] at hok
        rw [rne, hok]
        rfl
      rw [this] at kk
      exact kk
end
end Own
set_option Elab.async false
set_option linter.all false
set_option maxRecDepth 100000
set_option maxHeartbeats 4000000
namespace Own
open PySem PySem.Spec PyProof.Rows L2 LamX
theorem dval_lt : ∀ (k : Nat) (d : List Nat), d.length ≤ k → NumText.AllDigits d → dval d < 10 ^ d.length
  | 0, d, hk, _ => by
    have : d = [] := List.length_eq_zero_iff.mp (by omega)
    subst this
    show (0 : Nat) < 1
    omega
  | k + 1, d, hk, ha => by
    rcases List.eq_nil_or_concat d with e | ⟨e, c, rfl⟩
    · subst e
      show (0 : Nat) < 1
      omega
    rw [List.concat_eq_append] at *
    have hc := ha c (by simp)
    have ih := dval_lt k e (by simp at hk; omega) (fun x hx => ha x (by simp [hx]))
    rw [dval_snoc, List.length_append, List.length_singleton, Nat.pow_succ]
    omega
theorem wval_small {w : List Nat} (h : w.length ≤ 30) (hA : allDig (digs w) = true) : (wval w).natAbs < 2 ^ 150 := by
  have hl : (digs w).length ≤ 30 := by
    unfold digs
    split
    · rw [List.length_drop]; omega
    · exact h
  have k := dval_lt 30 (digs w) hl (allDig_iff.mp hA)
  have k2 : (10 : Nat) ^ (digs w).length ≤ 10 ^ 30 := Nat.pow_le_pow_right (by decide) hl
  have k3 : (10 : Nat) ^ 30 ≤ 2 ^ 150 := by decide +kernel
  have e : (wval w).natAbs = dval (digs w) := by
    unfold wval
    split <;> omega
  omega
theorem int_wval {w : Str} (hn : digs (TL.tl w) ≠ []) (hA : allDig (digs (TL.tl w)) = true) (hl : w.length ≤ 30) : intText? w = some (wval (TL.tl w)) := by
  have A := allDig_iff.mp hA
  unfold wval
  by_cases h : (TL.tl w).take 1 = [45]
  · rw [if_pos h]
    exact intText_neg (take_45 h) A hn (by omega)
  · rw [if_neg h]
    have e := digs_eq.mpr h
    rw [e] at A hn ⊢
    exact intText_digits A hn (by omega)
def spLWOf : Sp := fun vs H Q _ => ∃ w : Str, vs = [.str w] ∧ TextB 5000 w ∧ w.length ≤ 30 ∧ ∀ H', Same H H' → Q (optV (parse (TL.tl w))) H'
section
variable {P : Program} {w : World} {K : PySem.W.Frag} {mg : Str → Option Value} {base : Heap} {f fW fO fR fN fI fT fL CL : Addr} {fd2 fdW fdO fdR fdN fdI fdT fdL : FuncData}
abbrev nsLWOf : List Str := ["_law_word", "_law_digits", "_law_sign"]
theorem scLWOf : FnScope nsLWOf ["_law_word"] (defScope sLWOf) := ⟨rfl, rfl, rfl, by decide +kernel, rfl, by decide +kernel, by decide +kernel⟩
theorem ok_lwof (F : FnP K "_law_whole_of" sLWOf f fd2) (T : Txt K mg) : FnOk P w K mg base CX0 1 f fd2 ["_law_word"] spLWOf := by
  refine F.ok scLWOf (fun vs H Q E h => ?_) (fun cdv A outer s H vs Q E hr h => ?_)
  · obtain ⟨w, rfl, _⟩ := h
    rfl
  · obtain ⟨w, rfl, hB, hl, k⟩ := h
    refine ⟨_, PSs.nox (pss_cons (ps_set (i := 1) scLWOf.nd rfl (.inl rfl) (pe_ifExp (pt_cmpR op_eq (pe_slice sl_str (pv 0) po_none (po_some pe_int)) pe_str (nomark _)) (pe_slice sl_str (pv 0) (po_some pe_int) po_none) (pv 0)))
      (pss_cons (ps_if (PW.pt (pw_or (pt_cmpR op_eq (pv 1) pe_str (nomark _)) (pw_or1 (pt_cmpR (op_neD hr.units) (pe_lc (own := [("_law_sign", 2)]) (g := gName 2) (by rfl) scLWOf.nd (pi_str (pv 1)) (blkOk_by (own := [("_law_sign", 2)]) (N := nsLWOf) (sc := defScope sLWOf) (by decide +kernel))
            (fun _ _ _ _ _ => pg_name (i := 2) scLWOf.nd rfl (Or.inl rfl)) (fun _ _ _ _ _ => pts_one (pt_cmpR op_notIn_sign (pv 2) pe_str (by rfl))) (fun _ _ _ _ _ => pv 2)) (pe_lst pa_nil) (nomark _))))) (pss_one (ps_ret pe_non)) pss_nil)
      (pss_one (ps_ret (pe_ifExp (pt_cmpR op_eq (pe_callTy call_str_int (by rfl) T.str (by decide +kernel) (pa_cons (pe_callTy call_int_str (by rfl) T.int boot_int (pa_cons (pv 0) pa_nil)) pa_nil)) (pv 0) (nomark _))
        (pe_callTy call_int_str (by rfl) T.int boot_int (pa_cons (pv 0) pa_nil)) pe_non))))), ?_⟩
    have big : ∀ n : Nat, n ≤ 10000 → n ≤ sizeLine := fun n h => Nat.le_trans h (by decide)
    have hl2 : (TL.tl w).length ≤ 30 := by rw [← TL.len_tl]; exact hl
    have hdl : (digs (TL.tl w)).length ≤ 30 := by
      unfold digs
      split
      · rw [List.length_drop]; omega
      · exact hl2
    have hdc : ∀ c ∈ digs (TL.tl w), c < 1114112 := fun c hc => hB.2 c (by
      unfold digs at hc
      split at hc
      · exact List.mem_of_mem_drop hc
      · exact hc)
    refine digs_read rfl (big _ (by omega)) ?_
    refine ⟨_, rfl, rfl, _, rfl, ?_⟩
    rw [decStr]
    have en : (sg (digs (TL.tl w)) = "") ↔ digs (TL.tl w) = [] := ⟨fun h => congrArg TL.tl h, fun h => by rw [h]; rfl⟩
    have pn : (digs (TL.tl w) = [] ∨ allDig (digs (TL.tl w)) = false) → parse (TL.tl w) = none := fun h => by
      unfold parse
      rw [if_pos h]
    by_cases hn : digs (TL.tl w) = []
    · rw [decide_eq_true (en.mpr hn)]
      have := k H (Same.refl _)
      rw [pn (.inl hn)] at this
      exact iteT (iteT this)
    rw [decide_eq_false (fun h => hn (en.mp h))]
    refine iteF ?_
    refine marks_read (d := 1) (m := 2) (dl := digs (TL.tl w)) rfl hdc (by omega) (fun _ => rfl) (fun _ => rfl) fun G1 eG1 => ⟨_, rfl, ?_⟩
    cases hA : allDig (digs (TL.tl w)) with
    | false =>
      have := k G1 eG1
      rw [pn (.inr hA)] at this
      exact iteT this
    | true =>
      refine iteF ?_
      have hi := int_wval hn hA hl
      refine ⟨_, rfl, _, _, rfl, hi, by omega, _, rfl, log2_small (wval_small hl2 hA), _, rfl, rfl, _, rfl, ?_⟩
      rw [decStr, int_sg]
      have kk := k G1 eG1
      rw [parse_law hn hA] at kk
      by_cases hc : intL (wval (TL.tl w)) = TL.tl w
      · have e1 : sg (intL (wval (TL.tl w))) = w := by rw [hc, sg_tl]
        rw [if_pos hc] at kk
        rw [decide_eq_true e1]
        exact iteT ⟨_, rfl, _, _, rfl, hi, by omega, kk⟩
      · have e1 : ¬ sg (intL (wval (TL.tl w))) = w := fun z => hc (by have := congrArg TL.tl z; exact this)
        rw [if_neg hc] at kk
        rw [decide_eq_false e1]
        exact iteF kk
end
end Own
set_option Elab.async false
set_option linter.all false
set_option maxRecDepth 100000
set_option maxHeartbeats 4000000
namespace Own
open PySem PySem.Spec PyProof.Rows L2 LamX
def lparse (ws : List Str) : List (Option Int) := ws.map fun w => parse (TL.tl w)
theorem allSome_parse : ∀ ws : List Str, allSome (lparse ws) = parseAll ws
  | [] => rfl
  | w :: r => by
    show allSome (parse (TL.tl w) :: lparse r) = _
    have ih := allSome_parse r
    unfold parseAll
    cases parse (TL.tl w) with
    | none => rfl
    | some z =>
      show (allSome (lparse r)).map (z :: ·) = _
      rw [ih]
      cases parseAll r <;> rfl
def toL (r : RowS) : LRow := (r.1, r.2.map some)
theorem lrowV_toL (r : RowS) : lrowV (toL r) = rowV r.1 r.2 := by
  unfold lrowV rowV toL
  rw [List.map_map]
  rfl
theorem lrowOk_toL (r : RowS) (n : Nat) : lrowOk (toL r) n = rowOk r.1 r.2 n := by
  unfold lrowOk toL
  rw [allSome_map]
theorem lrows_app {rows : List RowS} {r : LRow} (h : ∀ (j : Nat) x, rows[j]? = some x → rowOk x.1 x.2 j = true) : lrowsOk (rows.map toL ++ [r]) = lrowOk r rows.length := by
  unfold lrowsOk
  have e1 : (rows.map toL ++ [r]).isEmpty = false := by simp
  rw [e1, List.zipIdx_append, List.all_append]
  have e2 : ((rows.map toL).zipIdx.all fun p => lrowOk p.1 p.2) = true := by
    rw [List.all_eq_true]
    rintro ⟨x, j⟩ hx
    rw [List.mem_zipIdx_iff_getElem?] at hx
    rw [List.getElem?_map] at hx
    cases e : rows[j]? with
    | none => rw [e] at hx; cases hx
    | some y =>
      rw [e] at hx
      have hx2 : toL y = x := by simpa using hx
      show lrowOk x j = true
      rw [← hx2, lrowOk_toL]
      exact h j y e
  rw [e2]
  simp
theorem itemOk_line {z w0 : Str} {ws : List Str} (e : Txt.split z " " = w0 :: ws) (n : Nat) : lrowOk (w0, lparse ws) n = itemOk (rowOf z) n := by
  unfold lrowOk
  show (match allSome (lparse ws) with | none => false | some is => rowOk w0 is n) = _
  rw [allSome_parse]
  unfold rowOf
  rw [e]
  show _ = itemOk ((parseAll ws).map fun is => ((w0, is) : RowS)) n
  cases parseAll ws <;> rfl
def spFirst : Sp := fun vs H Q _ => ∃ z, vs = [.str z] ∧ TextB 5000 z ∧ (∀ l ∈ Txt.split z "\n", ∀ w ∈ Txt.split l " ", w.length ≤ 30) ∧
    (∀ (i : Nat) o, (osOf z)[i]? = some o → itemOk o i = false → (∀ (j : Nat) o', j < i → (osOf z)[j]? = some o' → itemOk o' j = true) → ∀ t l H', H' t = some (.tup [.ref l, .int i]) → Same H H' → Q (.ref t) H') ∧
    ((∀ (j : Nat) o, (osOf z)[j]? = some o → itemOk o j = true) → ∀ t l vs rows H', H' t = some (.tup [.ref l, .non]) → H' l = some (.lst vs) → osOf z = rows.map some → RowsV H' vs rows → (∀ r ∈ rows, fok (.str r.1) = true ∧ r.2.length ≤ 5000) → Same H H' → Q (.ref t) H')
section
variable {P : Program} {w : World} {K : PySem.W.Frag} {mg : Str → Option Value} {base : Heap} {f fW fO fR fN fI fT fL CL : Addr} {fd2 fdW fdO fdR fdN fdI fdT fdL : FuncData}
abbrev nsFirst : List Str := ["_law_text", "_law_found", "_law_at", "_law_line", "_law_words", "_law_row", "_law_word"]
theorem scFirst : FnScope nsFirst ["_law_text"] (defScope sFirst) := ⟨rfl, rfl, rfl, by decide +kernel, rfl, by decide +kernel, by decide +kernel⟩
theorem ok_first (F : FnP K "_law_first_bad_line" sFirst f fd2) (FO : FnP K "_law_whole_of" sLWOf fO fdO) (FR : FnP K "_law_is_rows" sLRows fR fdR) (FW : FnP K "_law_is_whole" sLWhole fW fdW) (T : Txt K mg) (gW : mg "_law_is_whole" = some (.ref fW)) (gR : mg "_law_is_rows" = some (.ref fR)) (gO : mg "_law_whole_of" = some (.ref fO)) : FnOk P w K mg base CX0 3 f fd2 ["_law_text"] spFirst := by
  have GO : FnOk P w K mg base CX0 1 fO fdO ["_law_word"] spLWOf := ok_lwof FO T
  have bO : Binds K fdO ["_law_word"] [] := FO.bindsN fun _ _ _ _ _ _ us hl => match us, hl with | [_], _ => rfl
  have GR : FnOk P w K mg base CX0 2 fR fdR ["_law_value"] spLRows := ok_lrows FR FW T gW
  have bR : Binds K fdR ["_law_value"] [] := FR.bindsN fun _ _ _ _ _ _ us hl => match us, hl with | [_], _ => rfl
  refine F.ok scFirst (fun vs H Q E h => ?_) (fun cdv A outer s H vs Q E hr h => ?_)
  · obtain ⟨l, rfl, _⟩ := h
    rfl
  · obtain ⟨z, rfl, hz, hw, k1, k2⟩ := h
    have hr1 : Room 1 (A.deeper (envOfC "_law_first_bad_line" (defScope sFirst) s.heap.objs.size f cdv)) := hr.mono (by decide)
    refine ⟨_, PSs.nox (pss_cons (ps_set (i := 1) scFirst.nd rfl (.inl rfl) (pe_lst pa_nil))
      (pss_cons (ps_for PassesOwn.never rfl (pi_enum (by rfl) T.enum (pa_cons (pe_split (pv 0) pe_str) pa_nil)) (pg_tup rfl (pgs_cons (pg_name (i := 2) scFirst.nd rfl (Or.inl rfl)) (pgs_cons (pg_name (i := 3) scFirst.nd rfl (Or.inl rfl)) pgs_nil)))
        (pss_cons (ps_set (i := 4) scFirst.nd rfl (.inl rfl) (pe_split (pv 3) pe_str))
        (pss_cons (ps_set (i := 5) scFirst.nd rfl (.inl rfl) (pe_op op_catT (pe_tup (pa_cons (pe_ix ix_list (pv 4) pe_int (fun _ _ => rfl)) pa_nil))
            (pe_tupleOf (by rfl) T.tuple (pe_lc (own := [("_law_word", 6)]) (g := gName 6) (tt := tYes) (by rfl) scFirst.nd (pi_list (pe_slice sl_list (pv 4) (po_some pe_int) po_none)) (blkOk_by (own := [("_law_word", 6)]) (N := nsFirst) (sc := defScope sFirst) (by decide +kernel))
              (fun _ _ _ _ _ => pg_name (i := 6) scFirst.nd rfl (Or.inl rfl)) (fun _ _ _ _ _ => pts_nil) (fun _ _ _ _ _ => pe_call GO hr1 (by rfl) gO FO.kp bO .nil pass0 (pa_cons (pv 6) pa_nil))))))
        (pss_cons (ps_if (pt_not (pt_val (pe_call GR hr (by rfl) gR FR.kp bR .nil pass0 (pa_cons (pe_op op_cat (pv 1) (pe_lst (pa_cons (pv 5) pa_nil))) pa_nil)))) (pss_one (ps_ret (pe_tup (pa_cons (pv 1) (pa_cons (pv 2) pa_nil))))) pss_nil)
        (pss_one (ps_expr (pe_bm PySem.F.plainAttrs_list PySem.F.slot_list_append PySem.F.type_list_append mt_append (pv 1) (pa_cons (pv 5) pa_nil))))))))
      (pss_one (ps_ret (pe_tup (pa_cons (pv 1) (pa_cons pe_non pa_nil))))))), ?_⟩
    have big : ∀ n : Nat, n ≤ 10010 → n ≤ sizeLine := fun n h => Nat.le_trans h (by decide)
    refine ⟨big 0 (by decide), fun l nl => ?_⟩
    have e1 : Same H (L2.upd H l (.lst [])) := Same.upd nl
    have hl0 : (L2.upd H l (.lst [])) l = some (.lst []) := upd_same
    generalize L2.upd H l (.lst []) = H1 at e1 hl0
    refine ⟨_, rfl, ⟨_, rfl⟩, _, _, rfl, rfl, rfl, big _ (by have := hz.1; omega), fun p np => ?_⟩
    have e2 : Same H1 (L2.upd H1 p (.lst ((Txt.split z "\n").map V.str))) := Same.upd np
    have hp : (L2.upd H1 p (.lst ((Txt.split z "\n").map V.str))) p = some (.lst ((Txt.split z "\n").map V.str)) := upd_same
    have npl : p ≠ l := (ne_of_none hl0 np).symm
    generalize L2.upd H1 p (.lst ((Txt.split z "\n").map V.str)) = H2 at e2 hp
    refine ⟨p, _, rfl, SqL.of hp, ?_⟩
    have osl : (osOf z).length = ((Txt.split z "\n").map V.str).length := by
      unfold osOf
      rw [List.length_map, List.length_map]
    refine for_it (walk_enum (K := K) (a := p) (xs := (Txt.split z "\n").map V.str)) (fun i σ G => ∃ (v2 v3 v4 v5 : Option V) (vs : List V) (rows : List RowS), σ = [some (.str z), some (.ref l), v2, v3, v4, v5, none] ∧ G l = some (.lst vs) ∧ RowsV G vs rows ∧ (osOf z).take i = rows.map some ∧ rows.length = i ∧
        (∀ (j : Nat) o, j < i → (osOf z)[j]? = some o → itemOk o j = true) ∧ Same H G ∧ G p = some (.lst ((Txt.split z "\n").map V.str)) ∧ (∀ r ∈ rows, fok (.str r.1) = true ∧ r.2.length ≤ 5000))
      ⟨none, none, none, none, [], [], rfl, e2 _ _ hl0, ⟨rfl, fun i v e => by simp at e⟩, rfl, rfl, (fun j o h => absurd h (Nat.not_lt_zero j)), e1.trans e2, hp, (fun r hr => by cases hr)⟩ (fun i σ G _ ⟨_, _, _, _, _, _, _, _, _, _, _, _, _, h, _⟩ => SqL.of h) ?_ ?_
    · rintro i x σ G G' hi ⟨v2, v3, v4, v5, vs, rows, rfl, hGl, hR, ht, hlr, hok, eG, hGp, hfk⟩ ⟨TA, x1, x2, rfl, nT, rfl, hx1, hx2⟩
      obtain rfl : V.int (i : Nat) = x1 := Option.some.inj hx1
      obtain ⟨ln, hln, rfl⟩ : ∃ ln, (Txt.split z "\n")[i]? = some ln ∧ x2 = V.str ln := by
        have h2 : ((Txt.split z "\n").map V.str)[i]? = some x2 := hx2
        rw [List.getElem?_map] at h2
        cases e : (Txt.split z "\n")[i]? with
        | none => rw [e] at h2; cases h2
        | some w => rw [e] at h2; exact ⟨w, rfl, (Option.some.inj h2).symm⟩
      have hlm := List.mem_of_getElem? hln
      have hlB := hz.part n10 a10 hlm
      have hos : (osOf z)[i]? = some (rowOf ln) := by
        unfold osOf
        rw [List.getElem?_map, hln]
        rfl
      obtain ⟨w0, ws, ew⟩ : ∃ w0 ws, Txt.split ln " " = w0 :: ws := by
        cases e : Txt.split ln " " with
        | nil => exact absurd e (split_ne n32 a32)
        | cons w0 ws => exact ⟨w0, ws, rfl⟩
      have hcount := hlB.count n32 a32
      have hwl : ws.length ≤ 5000 := by
        rw [ew, List.length_cons] at hcount
        omega
      have er : rowOf ln = (parseAll ws).map fun is => (w0, is) := by
        unfold rowOf
        rw [ew]
      have eT : Same G (L2.upd G TA (.tup [.int (i : Nat), .str ln])) := Same.upd nT
      refine ⟨TA, _, rfl, SqT.of upd_same, rfl, _, _, rfl, _, _, rfl, rfl, ?_⟩
      generalize L2.upd G TA (.tup [.int (i : Nat), .str ln]) = G1 at eT
      refine ⟨_, rfl, ⟨_, rfl⟩, _, _, rfl, rfl, rfl, big _ (by have := hlB.1; omega), fun q nq => ?_⟩
      rw [ew]
      have e3 : Same G1 (L2.upd G1 q (.lst ((w0 :: ws).map V.str))) := Same.upd nq
      have hq : (L2.upd G1 q (.lst ((w0 :: ws).map V.str))) q = some (.lst ((w0 :: ws).map V.str)) := upd_same
      generalize L2.upd G1 q (.lst ((w0 :: ws).map V.str)) = G2 at e3 hq
      refine ⟨_, rfl, q, _, _, .str w0, rfl, rfl, SqL.of hq, at_nat (k := 0) rfl, big 1 (by decide), fun u nu => ?_⟩
      have e4 : Same G2 (L2.upd G2 u (.tup [.str w0])) := Same.upd nu
      have hu : (L2.upd G2 u (.tup [.str w0])) u = some (.tup [.str w0]) := upd_same
      generalize L2.upd G2 u (.tup [.str w0]) = G3 at e4 hu
      have ct : cutV ((w0 :: ws).map V.str) (some 1) none = ws.map V.str := cut_drop (k := 1) (by simp)
      refine ⟨_, rfl, _, rfl, q, _, rfl, SqL.of (e4 _ _ hq), fun v nv => ?_⟩
      rw [ct]
      have e5 : Same G3 (L2.upd G3 v (.lst (ws.map V.str))) := Same.upd nv
      have hv : (L2.upd G3 v (.lst (ws.map V.str))) v = some (.lst (ws.map V.str)) := upd_same
      generalize L2.upd G3 v (.lst (ws.map V.str)) = G4 at e5 hv
      refine ⟨v, rfl, ⟨_, SqL.of hv⟩, fun D nD => ?_⟩
      refine lc_list (K := K) (a := v) (xs := ws.map V.str) (fun j G5 => G5 D = some (.lst ((lparse (ws.take j)).map optV)) ∧ Same G4 G5) ⟨upd_same, Same.upd nD⟩ (fun j G5 _ h => SqL.of (h.2 _ _ hv)) ?_ ?_
      · rintro j y G5 hj ⟨hD, eD⟩
        obtain ⟨wd, hwd, rfl⟩ : ∃ wd, ws[j]? = some wd ∧ y = V.str wd := by
          rw [List.getElem?_map] at hj
          cases e : ws[j]? with
          | none => rw [e] at hj; cases hj
          | some w => rw [e] at hj; exact ⟨w, rfl, (Option.some.inj hj).symm⟩
        have hwm : wd ∈ Txt.split ln " " := by
          rw [ew]
          exact List.mem_cons_of_mem _ (List.mem_of_getElem? hwd)
        refine ⟨rfl, ?_⟩
        refine yes_if ?_
        refine ⟨_, rfl, wd, rfl, hlB.part n32 a32 hwm, hw ln hlm wd hwm, fun G6 e6 => ?_⟩
        refine ⟨_, e6 _ _ hD, ?_, ?_, ?_⟩
        · rw [List.length_map]
          unfold lparse
          rw [List.length_map, List.length_take]
          exact Nat.lt_of_le_of_lt (Nat.min_le_right _ _) (Nat.lt_of_le_of_lt hwl (by decide))
        · rw [upd_same, List.take_succ, hwd]
          unfold lparse
          rw [List.map_append, List.map_append]
          rfl
        · intro b o eb
          rw [upd_ne (ne_of_none eb nD)]
          exact (eD.trans e6) _ _ eb
      · rintro G5 ⟨hD, eD⟩
        rw [List.length_map, List.take_length] at hD
        refine .inl ⟨D, _, rfl, SqL.of hD, fun t nt => ?_⟩
        have e6 : Same G5 (L2.upd G5 t (.tup ((lparse ws).map optV))) := Same.upd nt
        have htt : (L2.upd G5 t (.tup ((lparse ws).map optV))) t = some (.tup ((lparse ws).map optV)) := upd_same
        generalize L2.upd G5 t (.tup ((lparse ws).map optV)) = G6 at e6 htt
        have llen : (lparse ws).length = ws.length := by unfold lparse; rw [List.length_map]
        -- behind: the row stands at a
        have e16 : Same G1 G6 := (((e3.trans e4).trans e5).trans eD).trans e6
        have hcat : ∀ {Q2 : VK}, (∀ a G7, G7 a = some (.tup (lrowV (w0, lparse ws))) → Same G6 G7 → Q2 (.ref a) G7) → rCatT K (.ref u) (.ref t) G6 Q2 := fun {Q2} kq => by
          have hu6 := (((e5.trans eD).trans e6)) _ _ hu
          refine ⟨u, t, _, _, rfl, rfl, SqT.of hu6, SqT.of htt, by simp, ?_, fun hy => ?_, fun _ a na => ?_⟩
          · rw [List.length_map, llen]
            exact big _ (by show 1 + ws.length ≤ 10010; omega)
          · refine kq u G6 ?_ (Same.refl _)
            rw [hu6]
            show _ = some (HO.tup (.str w0 :: (lparse ws).map optV))
            rw [hy]
          · exact kq a _ upd_same (Same.upd na)
        refine hcat fun a G7 ha7 e67 => ?_
        have e17 := e16.trans e67
        have eG7 : Same G G7 := eT.trans e17
        have hl7 := eG7 _ _ hGl
        refine ⟨_, rfl, _, rfl, big 1 (by decide), fun b nb => ?_⟩
        have e8 : Same G7 (L2.upd G7 b (.lst [.ref a])) := Same.upd nb
        have hb8 : (L2.upd G7 b (.lst [.ref a])) b = some (.lst [.ref a]) := upd_same
        generalize L2.upd G7 b (.lst [.ref a]) = G8 at e8 hb8
        have hvl : vs.length ≤ 5001 := by
          have h1 := hR.1
          have h2 := hz.count n10 a10
          have h3 := (List.getElem?_eq_some_iff.mp hln).1
          omega
        refine ⟨l, b, _, _, rfl, rfl, e8 _ _ hl7, hb8, big _ (by show vs.length + 1 ≤ 10010; omega), fun c nc => ?_⟩
        have e9 : Same G8 (L2.upd G8 c (.lst (vs ++ [.ref a]))) := Same.upd nc
        have hc9 : (L2.upd G8 c (.lst (vs ++ [.ref a]))) c = some (.lst (vs ++ [.ref a])) := upd_same
        generalize L2.upd G8 c (.lst (vs ++ [.ref a])) = G9 at e9 hc9
        have e79 := e8.trans e9
        have f0 : fok (.str w0) = true := (hlB.part n32 a32 (by rw [ew]; exact List.mem_cons_self ..)).fok
        have hLR : LRowsV G9 (vs ++ [.ref a]) (rows.map toL ++ [(w0, lparse ws)]) := by
          have hR9 := hR.same (eG7.trans e79)
          refine ⟨by rw [List.length_append, List.length_append, List.length_map, hR9.1]; rfl, fun j y e => ?_⟩
          by_cases hj : j < vs.length
          · rw [List.getElem?_append_left hj] at e
            obtain ⟨r, r1, ar, r2, r3⟩ := hR9.2 j y e
            refine ⟨toL r, ?_, ar, r2, ?_, (hfk r (List.mem_of_getElem? r1)).1⟩
            · rw [List.getElem?_append_left (by rw [List.length_map]; exact hR9.1 ▸ hj), List.getElem?_map, r1]
              rfl
            · rw [lrowV_toL]
              exact r3
          · rw [List.getElem?_append_right (by omega)] at e
            have hj2 : j - vs.length = 0 := by
              have := (List.getElem?_eq_some_iff.mp e).1
              simp at this
              omega
            rw [hj2] at e
            cases e
            refine ⟨(w0, lparse ws), ?_, a, rfl, e79 _ _ ha7, f0⟩
            rw [List.getElem?_append_right (by rw [List.length_map]; have := hR9.1; omega)]
            have : j - (rows.map toL).length = 0 := by rw [List.length_map]; have := hR9.1; omega
            rw [this]
            rfl
        have okRows : ∀ (j : Nat) x, rows[j]? = some x → rowOk x.1 x.2 j = true := fun j x hx => by
          have hjl := (List.getElem?_eq_some_iff.mp hx).1
          have h1 : ((osOf z).take i)[j]? = some (some x) := by
            rw [ht, List.getElem?_map, hx]
            rfl
          rw [List.getElem?_take] at h1
          rw [if_pos (by omega)] at h1
          exact hok j _ (by omega) h1
        have hres : lrowsOk (rows.map toL ++ [(w0, lparse ws)]) = itemOk (rowOf ln) i := by
          rw [lrows_app okRows, hlr]
          exact itemOk_line ew i
        refine ⟨c, _, rows.map toL ++ [(w0, lparse ws)], rfl, hc9, hLR, ?_, ?_, fun G10 e10 => ⟨_, rfl, ?_⟩⟩
        · rw [List.length_append]
          show vs.length + 1 ≤ 10000
          omega
        · intro r hr
          rcases List.mem_append.mp hr with h | h
          · obtain ⟨x, hx, rfl⟩ := List.mem_map.mp h
            show (x.2.map some).length ≤ 10000
            rw [List.length_map]
            have := (hfk x hx).2
            omega
          · rw [List.mem_singleton.mp h]
            show (lparse ws).length ≤ 10000
            omega
        · rw [hres]
          have e710 := e79.trans e10
          have eH := (eG.trans eG7).trans e710
          cases hb : itemOk (rowOf ln) i with
          | false =>
            refine iteT ?_
            refine ⟨_, rfl, _, rfl, big 2 (by decide), fun tt ntt => ?_⟩
            exact k1 i _ hos hb hok tt l _ upd_same (eH.trans (Same.upd ntt))
          | true =>
            refine iteF ?_
            have hl10 := e710 _ _ hl7
            refine ⟨_, rfl, .inl ⟨rfl, _, .inl (.inl hl10)⟩, ?_⟩
            refine ⟨_, rfl, l, _, _, rfl, rfl, hl10, Nat.lt_of_le_of_lt hvl (by decide), ?_⟩
            obtain ⟨is, his⟩ : ∃ is, parseAll ws = some is := by
              rw [er] at hb
              cases e : parseAll ws with
              | none => rw [e] at hb; cases hb
              | some is => exact ⟨is, rfl⟩
            have ero : rowOf ln = some (w0, is) := by rw [er, his]; rfl
            have hla : lrowV (w0, lparse ws) = rowV w0 is := by
              have h1 : allSome (lparse ws) = some is := by rw [allSome_parse]; exact his
              have h2 := allSome_len h1
              show V.str w0 :: (lparse ws).map optV = V.str w0 :: is.map V.int
              rw [h2, List.map_map]
              rfl
            have ha10 : G10 a = some (.tup (rowV w0 is)) := by
              rw [← hla]
              exact e710 _ _ ha7
            refine ⟨_, _, _, _, vs ++ [.ref a], rows ++ [(w0, is)], rfl, upd_same, RowsV.push (r := (w0, is)) hl10 (hR.same (eG7.trans e710)) ha10, ?_, by simp [hlr], ?_, ?_, ?_, ?_⟩
            · rw [List.take_succ, ht, hos, ero, List.map_append]
              rfl
            · intro j o hj hjo
              by_cases hji : j = i
              · subst hji
                rw [hos] at hjo
                cases hjo
                exact hb
              · exact hok j o (by omega) hjo
            · intro b o eb
              rw [upd_ne (ne_of_none eb nl)]
              exact eH _ _ eb
            · rw [upd_ne npl]
              exact (eG7.trans e710) _ _ hGp
            · intro r hr
              rcases List.mem_append.mp hr with h | h
              · exact hfk r h
              · rw [List.mem_singleton.mp h]
                refine ⟨f0, ?_⟩
                show is.length ≤ 5000
                rw [parseAll_len his]
                exact hwl
    · rintro σ G ⟨v2, v3, v4, v5, vs, rows, rfl, hGl, hR, ht, hlr, hok, eG, hGp, hfk⟩
      rw [← osl, List.take_length] at ht
      refine ⟨_, rfl, big 2 (by decide), fun tt ntt => ?_⟩
      have e6 : Same G (L2.upd G tt (.tup [.ref l, .non])) := Same.upd ntt
      exact k2 (fun j o hjo => hok j o (by rw [← osl]; exact (List.getElem?_eq_some_iff.mp hjo).1) hjo) tt l vs rows _ upd_same (e6 _ _ hGl) ht (hR.same e6) hfk (eG.trans e6)
end
end Own
set_option Elab.async false
set_option linter.all false
set_option maxRecDepth 100000
set_option maxHeartbeats 4000000
namespace Own
open PySem PySem.Spec PyProof.Rows L2 LamX
/-- what comes behind a statement, under a name -/
theorem seq_gen {t u : TS} {D : Ends} {σ : L2.St} {H : Hp} (h : ∀ N : L2.St → Hp → Prop, N = u D → t { D with nx := N } σ H) : tSeq t u D σ H := h _ rfl
theorem StA.upd {H : Hp} {a lw lc : Addr} {t : Nat} {b : Addr} {o : HO} (S : StA H a lw lc t) (h1 : b ≠ a) (h2 : b ≠ lw) (h3 : b ≠ lc) : StA (L2.upd H b o) a lw lc t := by
  obtain ⟨⟨ws, cs, r, u, e1, e2, e3, e4⟩, ne⟩ := S
  exact ⟨⟨ws, cs, r, u, by rw [upd_ne h1.symm]; exact e1, by rw [upd_ne h2.symm]; exact e2, by rw [upd_ne h3.symm]; exact e3, e4⟩, ne⟩
theorem StA.off {H : Hp} {a lw lc : Addr} {t : Nat} {b : Addr} (S : StA H a lw lc t) (h : H b = none) : b ≠ a ∧ b ≠ lw ∧ b ≠ lc := by
  obtain ⟨⟨ws, cs, r, u, e1, e2, e3, _⟩, ne⟩ := S
  exact ⟨(ne_of_none e1 h).symm, (ne_of_none e2 h).symm, (ne_of_none e3 h).symm⟩
theorem StA.offT {H : Hp} {a lw lc : Addr} {t : Nat} {b : Addr} {xs : List V} (S : StA H a lw lc t) (h : H b = some (.tup xs)) : b ∉ [a, lw] := by
  obtain ⟨⟨ws, cs, r, u, e1, e2, e3, _⟩, ne⟩ := S
  have h1 : b ≠ a := ne_of h e1 (by intro z; cases z)
  have h2 : b ≠ lw := ne_of h e2 (by intro z; cases z)
  simp [h1, h2]
theorem RowsV.kp {H H' : Hp} {a lw lc : Addr} {t : Nat} {vs : List V} {rows : List RowS} (h : RowsV H vs rows) (S : StA H a lw lc t) (k : Kp [a, lw] H H') : RowsV H' vs rows :=
  ⟨h.1, fun i v e => let ⟨r, e1, b, e2, e3⟩ := h.2 i v e; ⟨r, e1, b, e2, k _ _ e3 (S.offT e3)⟩⟩
/-- a row that may stand at the index n of a list -/
def RowG (r : RowS) (n : Nat) : Prop := rowOk r.1 r.2 n = true ∧ RowB r ∧ fok (.str r.1) = true ∧ r.1 ∈ (("fraction" : Str) :: "root" :: PAIR)
def RowsG (rows : List RowS) : Prop := ∀ (i : Nat) r, rows[i]? = some r → RowG r i
theorem RowsG.push {rows : List RowS} {r : RowS} (h : RowsG rows) (g : RowG r rows.length) : RowsG (rows ++ [r]) := fun i x e => by
  by_cases hi : i < rows.length
  · rw [List.getElem?_append_left hi] at e
    exact h i x e
  · have hl := (List.getElem?_eq_some_iff.mp e).1
    rw [List.length_append] at hl
    have : i = rows.length := by simp at hl; omega
    subst this
    rw [List.getElem?_append_right (Nat.le_refl _), Nat.sub_self] at e
    cases e
    exact g
def WORDS : List Str := ["fraction", "plus", "minus", "times", "over", "hyp", "root"]
theorem good_words : ∀ w ∈ WORDS, w.length ≤ 10 ∧ fok (.str w) = true ∧ w ∈ (("fraction" : Str) :: "root" :: PAIR) := by decide +kernel
theorem rowG_fr {u v : Int} {n : Nat} (hv : 0 < v) (h1 : u.natAbs < 2 ^ 90) (h2 : v.natAbs < 2 ^ 90) : RowG ("fraction", [u, v]) n := by
  refine ⟨?_, ⟨(by decide : ("fraction" : Str).length ≤ 10), by show 2 ≤ 2; omega, fun z hz => ?_⟩, (by decide +kernel : fok (.str "fraction") = true), (by decide +kernel : ("fraction" : Str) ∈ (("fraction" : Str) :: "root" :: PAIR))⟩
  · show rowOk "fraction" [u, v] n = true
    unfold rowOk
    rw [if_pos rfl]
    have : decide (0 < [u, v].getD 1 0) = true := decide_eq_true hv
    rw [this]
    rfl
  · have : z = u ∨ z = v := by simpa using hz
    rcases this with rfl | rfl
    · exact h1
    · exact h2
theorem inRange_cons {z : Int} {r : List Int} {n : Nat} (h : 0 ≤ z ∧ z < n) (hr : inRange r n = true) : inRange (z :: r) n = true := by
  unfold inRange
  rw [List.all_cons]
  have e : (!(decide (z < 0) || decide ((n : Int) ≤ z))) = true := by
    rw [decide_eq_false (by omega), decide_eq_false (by omega)]
    rfl
  rw [e]
  exact hr
theorem rowG_root {u : Int} {n : Nat} (h : 0 ≤ u ∧ u < n) (hn : n < 2 ^ 60) : RowG ("root", [u]) n := by
  refine ⟨?_, ⟨(by decide : ("root" : Str).length ≤ 10), by show 1 ≤ 2; omega, fun z hz => ?_⟩, (by decide +kernel : fok (.str "root") = true), (by decide +kernel : ("root" : Str) ∈ (("fraction" : Str) :: "root" :: PAIR))⟩
  · show rowOk "root" [u] n = true
    unfold rowOk
    rw [if_neg (by decide +kernel), if_pos rfl, inRange_cons h rfl]
    rfl
  · have : z = u := by simpa using hz
    subst this
    omega
theorem rowG_pair {w : Str} {u v : Int} {n : Nat} (hw : w ∈ PAIR) (hu : 0 ≤ u ∧ u < n) (hv : 0 ≤ v ∧ v < n) (hn : n < 2 ^ 60) : RowG (w, [u, v]) n := by
  have kn : ∀ w ∈ PAIR, w ≠ "fraction" ∧ w ≠ "root" ∧ w.length ≤ 10 ∧ fok (.str w) = true := by decide +kernel
  obtain ⟨k1, k2, k3, k4⟩ := kn w hw
  refine ⟨?_, ⟨k3, by show 2 ≤ 2; omega, fun z hz => ?_⟩, k4, by simp [hw]⟩
  · show rowOk w [u, v] n = true
    unfold rowOk
    rw [if_neg k1, if_neg k2, if_pos hw, inRange_cons hu (inRange_cons hv rfl)]
    rfl
  · have : z = u ∨ z = v := by simpa using hz
    rcases this with rfl | rfl <;> omega
theorem in2_read {K : PySem.W.Frag} {σ : L2.St} {H : Hp} {Q : VK} {i : Nat} {w x y : Str} (hi : σ[i]? = some (some (.str w))) (k : ∀ (b : Bool) H', (b = true → w ∈ [x, y]) → Same H H' → Q (.bl b) H') : tOp (rIn K false) (tVar i) (tLst (tCons (tC (.str x)) (tCons (tC (.str y)) tNil))) σ H Q := by
  refine ⟨_, hi, (by show 2 ≤ sizeLine; decide), fun p np => ?_⟩
  refine ⟨p, _, rfl, .inl (SqL.of upd_same), rfl, rfl, ?_⟩
  have e : inV (.str w) [.str x, .str y] = decide (w ∈ [x, y]) := inV_str w [x, y]
  rw [e]
  exact k _ _ (fun h => of_decide_eq_true h) (Same.upd np)
def spDrawn : Sp := fun vs H Q _ => ∃ (a lw lc : Addr) (t : Nat) (wl : Addr) (n : Nat) (m : Int), vs = [.ref a, .ref wl, .int n, .int m] ∧ StA H a lw lc t ∧ t + 100 < 2 ^ 40 ∧ H wl = some (.lst (WORDS.map V.str)) ∧ wl ≠ lw ∧ n ≤ 10 ∧
  ∀ l vs rows H', H l = none → H' l = some (.lst vs) → RowsV H' vs rows → RowsG rows → rows.length = n → StA H' a lw lc (t + 50) → Kp [a, lw] H H' → Q (.ref l) H'
section
variable {P : Program} {w : World} {K : PySem.W.Frag} {mg : Str → Option Value} {base : Heap} {f fS fD fP fW fO fR fN fI fT fL CL : Addr} {fd2 fdS fdD fdP fdW fdO fdR fdN fdI fdT fdL : FuncData}
abbrev nsDrawn : List Str := ["_law_state", "_law_words", "_law_size", "_law_most", "_law_found", "_law_deep", "_law_steep", "_law_at", "_law_word"]
abbrev psDrawn : List Str := ["_law_state", "_law_words", "_law_size", "_law_most"]
theorem scDrawn : FnScope nsDrawn psDrawn (defScope sDrawn) := ⟨rfl, rfl, rfl, by decide +kernel, rfl, by decide +kernel, by decide +kernel⟩
theorem ok_drawn (F : FnP K "_law_drawn_rows" sDrawn f fd2) (FP : FnP K "_law_pick" sPick fP fdP) (FD : FnP K "_law_draw" sDraw fD fdD) (FS : FnP K "_law_stirred" sStir fS fdS) (gP : mg "_law_pick" = some (.ref fP)) (gD : mg "_law_draw" = some (.ref fD)) (gS : mg "_law_stirred" = some (.ref fS)) (T : Txt K mg) : FnOk P w K mg base CX0 4 f fd2 psDrawn spDrawn := by
  have GD : FnOk P w K mg base CX0 2 fD fdD ["_law_state", "_law_size"] spDraw := ok_draw FD FS gS T
  have bD : Binds K fdD ["_law_state", "_law_size"] [] := FD.bindsN fun _ _ _ _ _ _ us hl => match us, hl with | [_, _], _ => rfl
  have GP : FnOk P w K mg base CX0 3 fP fdP ["_law_state", "_law_some"] (spPick K) := ok_pick FP FD FS gD gS T
  have bP : Binds K fdP ["_law_state", "_law_some"] [] := FP.bindsN fun _ _ _ _ _ _ us hl => match us, hl with | [_, _], _ => rfl
  refine F.ok scDrawn (fun vs H Q E h => ?_) (fun cdv A outer s H vs Q E hr h => ?_)
  · obtain ⟨a, lw, lc, t, wl, n, m, rfl, _⟩ := h
    rfl
  · obtain ⟨a, lw, lc, t, wl, n, m, rfl, S, ht, hwl, nwl, hn, k⟩ := h
    have hr2 : Room 2 (A.deeper (envOfC "_law_drawn_rows" (defScope sDrawn) s.heap.objs.size f cdv)) := hr.mono (by decide)
    refine ⟨_, PSs.nox (pss_cons (ps_par3 (i := 4) (j := 5) (l := 6) rfl scDrawn.nd rfl rfl rfl (by decide) (by decide) (by decide) rfl rfl rfl (pa_cons (pe_lst pa_nil) (pa_cons pe_int (pa_cons pe_int pa_nil))) (by rfl))
      (pss_cons (ps_for PassesOwn.never rfl (pi_range1 (by rfl) T.range (pa_cons (pv 2) pa_nil)) (pg_name (i := 7) scDrawn.nd rfl (Or.inl rfl))
        (pss_cons (ps_set (i := 8) scDrawn.nd rfl (.inl rfl) (pe_ifExp (pt_cmpR op_gt (pv 7) pe_int (nomark _)) (pe_call GP hr (by rfl) gP FP.kp bP .nil pass0 (pa_cons (pv 0) (pa_cons (pv 1) pa_nil))) pe_str))
        (pss_cons (ps_par (i := 5) (j := 6) rfl scDrawn.nd rfl rfl (by decide) rfl rfl
          (pa_cons (pe_op op_add (pv 5) (pe_callTy call_int1 (by rfl) T.int boot_int (pa_cons (pe_cmpR op_in_seq (pv 8) (pe_lst (pa_cons pe_str (pa_cons pe_str pa_nil))) (by rfl)) pa_nil)))
          (pa_cons (pe_op op_add (pv 6) (pe_callTy call_int1 (by rfl) T.int boot_int (pa_cons (pe_cmpR op_in_seq (pv 8) (pe_lst (pa_cons pe_str (pa_cons pe_str pa_nil))) (by rfl)) pa_nil))) pa_nil)) (by rfl))
        (pss_cons (ps_if (PW.pt (pw_or (PW.pt (pw_and (pt_cmpR op_in_seq (pv 8) (pe_lst (pa_cons pe_str (pa_cons pe_str pa_nil))) (by rfl)) (pw_and1 (pt_cmpR op_gt (pv 5) (pv 3) (nomark _)))))
            (pw_or1 (PW.pt (pw_and (pt_cmpR op_in_seq (pv 8) (pe_lst (pa_cons pe_str (pa_cons pe_str pa_nil))) (by rfl)) (pw_and1 (pt_cmpR op_gt (pv 6) pe_int (nomark _))))))))
          (pss_one (ps_set (i := 8) scDrawn.nd rfl (.inl rfl) (pe_call GP hr (by rfl) gP FP.kp bP .nil pass0 (pa_cons (pv 0) (pa_cons (pe_lst (pa_cons pe_str (pa_cons pe_str pa_nil))) pa_nil))))) pss_nil)
        (pss_one (ps_if (pt_cmpR op_eq (pv 8) pe_str (nomark _))
          (pss_one (ps_expr (pe_bm PySem.F.plainAttrs_list PySem.F.slot_list_append PySem.F.type_list_append mt_append (pv 4) (pa_cons (pe_tup (pa_cons (pv 8) (pa_cons (pe_op op_sub (pe_call GD hr2 (by rfl) gD FD.kp bD .nil pass0 (pa_cons (pv 0) (pa_cons pe_int pa_nil))) pe_int)
            (pa_cons (pe_op op_add pe_int (pe_call GD hr2 (by rfl) gD FD.kp bD .nil pass0 (pa_cons (pv 0) (pa_cons pe_int pa_nil)))) pa_nil)))) pa_nil))))
          (pss_one (ps_if (pt_cmpR op_eq (pv 8) pe_str (nomark _))
            (pss_one (ps_expr (pe_bm PySem.F.plainAttrs_list PySem.F.slot_list_append PySem.F.type_list_append mt_append (pv 4) (pa_cons (pe_tup (pa_cons (pv 8) (pa_cons (pe_call GD hr2 (by rfl) gD FD.kp bD .nil pass0 (pa_cons (pv 0) (pa_cons (pv 7) pa_nil))) pa_nil))) pa_nil))))
            (pss_one (ps_expr (pe_bm PySem.F.plainAttrs_list PySem.F.slot_list_append PySem.F.type_list_append mt_append (pv 4) (pa_cons (pe_tup (pa_cons (pv 8) (pa_cons (pe_call GD hr2 (by rfl) gD FD.kp bD .nil pass0 (pa_cons (pv 0) (pa_cons (pv 7) pa_nil)))
              (pa_cons (pe_op op_sub (pe_op op_sub (pv 7) pe_int) (pe_call GD hr2 (by rfl) gD FD.kp bD .nil pass0 (pa_cons (pv 0) (pa_cons (pe_callB (call_min2 rfl) (by rfl) T.min (by decide +kernel) (pa_cons (pv 7) (pa_cons pe_int pa_nil))) pa_nil)))) pa_nil)))) pa_nil))))))))))))
      (pss_one (ps_ret (pv 4))))), ?_⟩
    refine ⟨(by show 0 ≤ sizeLine; decide), fun l nl => ⟨_, _, _, rfl, ?_⟩⟩
    have e1 : Same H (L2.upd H l (.lst [])) := Same.upd nl
    have hl0 : (L2.upd H l (.lst [])) l = some (.lst []) := upd_same
    have hwl0 := e1 _ _ hwl
    have S0 := S.same e1
    obtain ⟨la, llw, llc⟩ := S.off nl
    have lk : l ∉ [a, lw] := by simp [la, llw]
    have wla : wl ≠ a := by
      obtain ⟨⟨ws, cs, r, u, e1, _⟩, _⟩ := id S
      exact ne_of hwl e1 (by intro z; cases z)
    have wlk : wl ∉ [a, lw] := by simp [wla, nwl]
    generalize L2.upd H l (.lst []) = H1 at e1 hl0 S0 hwl0
    refine ⟨_, rfl, n, rfl, by omega, by omega, ?_⟩
    refine for_range (lo := 0) (n := ((n : Nat) : Int).toNat) (fun i σ G => ∃ (d5 d6 : Int) (v7 v8 : Option V) (vs : List V) (rows : List RowS), σ = [some (.ref a), some (.ref wl), some (.int n), some (.int m), some (.ref l), some (.int d5), some (.int d6), v7, v8] ∧ G l = some (.lst vs) ∧ RowsV G vs rows ∧ RowsG rows ∧ rows.length = i ∧ StA G a lw lc (t + 4 * i) ∧ Kp [a, lw] H G)
      ⟨0, 0, none, none, [], [], rfl, hl0, ⟨rfl, fun i v e => by simp at e⟩, (fun i r e => by simp at e), rfl, S0, Kp.of e1⟩ ?_ ?_
    · rintro i σ G hi ⟨d5, d6, v7, v8, vs, rows, rfl, hGl, hR, hG, hlr, SG, KG⟩
      have hin : i < 10 := by omega
      refine seq_gen fun N hN => ?_
      have rest1 : ∀ (w : Str) G1, w ∈ WORDS → (w ≠ "fraction" → 2 ≤ i) → StA G1 a lw lc (t + 4 * i + 1) → Kp [a, lw] G G1 → N [some (.ref a), some (.ref wl), some (.int n), some (.int m), some (.ref l), some (.int d5), some (.int d6), some (.int (0 + (i : Nat))), some (.str w)] G1 := by
        intro w G1 hw hwi S1 K1
        subst hN
        refine ⟨_, rfl, ?_⟩
        refine in2_read (K := K) (i := 8) (w := w) (x := "hyp") (y := "root") rfl fun b1 G2 _ e2 => ?_
        refine .inr ⟨_, rfl, _, _, rfl, rfl, ?_⟩
        refine ⟨_, rfl, ?_⟩
        refine in2_read (K := K) (i := 8) (w := w) (x := "times") (y := "over") rfl fun b2 G3 _ e3 => ?_
        refine .inr ⟨_, rfl, _, _, rfl, rfl, ?_⟩
        refine ⟨_, _, rfl, ?_⟩
        have S3 := (S1.same e2).same e3
        have K3 : Kp [a, lw] G G3 := K1.trans (Kp.of (e2.trans e3))
        obtain ⟨c5, hc5⟩ : ∃ c : Int, d5 + (if b1 = true then 1 else 0) = c := ⟨_, rfl⟩
        obtain ⟨c6, hc6⟩ : ∃ c : Int, d6 + (if b2 = true then 1 else 0) = c := ⟨_, rfl⟩
        dsimp only
        rw [hc5, hc6]
        refine seq_gen fun N3 hN3 => ?_
        have rest3 : ∀ (w : Str) G1, w ∈ WORDS → (w ≠ "fraction" → 2 ≤ i) → StA G1 a lw lc (t + 4 * i + 2) → Kp [a, lw] G G1 → N3 [some (.ref a), some (.ref wl), some (.int n), some (.int m), some (.ref l), some (.int c5), some (.int c6), some (.int (0 + (i : Nat))), some (.str w)] G1 := by
          intro w G1 hw hwi S1 K1
          subst hN3
          have hl1 := K1 _ _ hGl lk
          have hR1 := hR.kp SG K1
          have vlen : vs.length < sizeLine := by
            have := hR.1
            exact Nat.lt_of_lt_of_le (show vs.length < 10 by omega) (by decide)
          -- the end: a new row
          have fin : ∀ (is : List Int) (G4 : Hp) (p : Addr), RowG (w, is) i → StA G4 a lw lc (t + 4 * (i + 1)) → Kp [a, lw] G G4 → G4 p = none → G4 l = some (.lst vs) ∧ ∃ (d5 d6 : Int) (v7 v8 : Option V) (vs' : List V) (rows' : List RowS), [some (V.ref a), some (V.ref wl), some (V.int n), some (V.int m), some (V.ref l), some (V.int c5), some (V.int c6), some (V.int (0 + (i : Nat))), some (V.str w)] = [some (.ref a), some (.ref wl), some (.int n), some (.int m), some (.ref l), some (.int d5), some (.int d6), v7, v8] ∧
              (L2.upd (L2.upd G4 p (.tup (rowV w is))) l (.lst (vs ++ [.ref p]))) l = some (.lst vs') ∧ RowsV (L2.upd (L2.upd G4 p (.tup (rowV w is))) l (.lst (vs ++ [.ref p]))) vs' rows' ∧ RowsG rows' ∧ rows'.length = i + 1 ∧ StA (L2.upd (L2.upd G4 p (.tup (rowV w is))) l (.lst (vs ++ [.ref p]))) a lw lc (t + 4 * (i + 1)) ∧ Kp [a, lw] H (L2.upd (L2.upd G4 p (.tup (rowV w is))) l (.lst (vs ++ [.ref p]))) := by
            intro is G4 p hg S4 K4 np
            have hl4 := K4 _ _ hGl lk
            have ep : Same G4 (L2.upd G4 p (.tup (rowV w is))) := Same.upd np
            refine ⟨hl4, c5, c6, _, _, vs ++ [.ref p], rows ++ [(w, is)], rfl, upd_same, RowsV.push (r := (w, is)) (ep _ _ hl4) ((hR.kp SG K4).same ep) upd_same, hG.push (hlr ▸ hg), by simp [hlr], (S4.same ep).upd la llw llc, ?_⟩
            intro b o eb hb
            rw [upd_ne (ne_of_none eb nl)]
            exact ep _ _ (K4 _ _ (KG _ _ eb hb) hb)
          have size : ∀ n : Nat, n ≤ 10 → n ≤ sizeLine := fun n h => Nat.le_trans h (by decide)
          refine ⟨_, rfl, rfl, _, rfl, ?_⟩
          rw [decStr]
          by_cases hfr : w = "fraction"
          · rw [decide_eq_true hfr]
            refine iteT ?_
            refine ⟨_, rfl, .inl ⟨rfl, _, .inl (.inl hl1)⟩, ?_⟩
            refine ⟨_, rfl, _, rfl, a, lw, lc, _, 12, rfl, S1, by omega, by decide, by decide, fun z G2 hz0 hz1 S2 K2 => ?_⟩
            refine ⟨_, _, rfl, rfl, _, rfl, a, lw, lc, _, 4, rfl, S2, by omega, by decide, by decide, fun y G3 hy0 hy1 S3 K3 => ?_⟩
            refine ⟨_, _, rfl, rfl, size 3 (by decide), fun p np => ?_⟩
            subst hfr
            obtain ⟨f1, f2⟩ := fin [z - 4, 1 + y] G3 p (rowG_fr (by omega) (by omega) (by omega)) (S3.more (by omega)) ((K1.trans K2).trans K3) np
            exact ⟨l, _, _, rfl, rfl, (Same.upd np) _ _ f1, vlen, f2⟩
          · rw [decide_eq_false hfr]
            refine iteF ?_
            have i2 := hwi hfr
            refine ⟨_, rfl, rfl, _, rfl, ?_⟩
            rw [decStr]
            by_cases hro : w = "root"
            · rw [decide_eq_true hro]
              refine iteT ?_
              refine ⟨_, rfl, .inl ⟨rfl, _, .inl (.inl hl1)⟩, ?_⟩
              refine ⟨_, rfl, _, rfl, _, rfl, a, lw, lc, _, 0 + (i : Int), rfl, S1, by omega, by omega, by omega, fun z G2 hz0 hz1 S2 K2 => ?_⟩
              refine ⟨size 2 (by decide), fun p np => ?_⟩
              subst hro
              obtain ⟨f1, f2⟩ := fin [z] G2 p (rowG_root ⟨hz0, by omega⟩ (by omega)) (S2.more (by omega)) (K1.trans K2) np
              exact ⟨l, _, _, rfl, rfl, (Same.upd np) _ _ f1, vlen, f2⟩
            · rw [decide_eq_false hro]
              refine iteF ?_
              have hpair : w ∈ PAIR := by
                have := (good_words w hw).2.2
                simpa [hfr, hro] using this
              refine ⟨_, rfl, .inl ⟨rfl, _, .inl (.inl hl1)⟩, ?_⟩
              refine ⟨_, rfl, _, rfl, _, rfl, a, lw, lc, _, 0 + (i : Int), rfl, S1, by omega, by omega, by omega, fun z G2 hz0 hz1 S2 K2 => ?_⟩
              refine ⟨_, rfl, _, _, rfl, rfl, _, rfl, _, rfl, _, _, rfl, a, lw, lc, _, _, rfl, S2, by omega, ?_, ?_, fun y G3 hy0 hy1 S3 K3 => ?_⟩
              · split <;> omega
              · split <;> omega
              refine ⟨_, _, rfl, rfl, size 3 (by decide), fun p np => ?_⟩
              have hy2 : y < 0 + (i : Int) := by
                split at hy1 <;> omega
              obtain ⟨f1, f2⟩ := fin [z, 0 + (i : Int) - 1 - y] G3 p (rowG_pair hpair ⟨hz0, by omega⟩ ⟨by omega, by omega⟩ (by omega)) (S3.more (by omega)) ((K1.trans K2).trans K3) np
              exact ⟨l, _, _, rfl, rfl, (Same.upd np) _ _ f1, vlen, f2⟩
        -- the word exchanged or not
        have other : ∀ G4, Same G3 G4 → N3 [some (.ref a), some (.ref wl), some (.int n), some (.int m), some (.ref l), some (.int c5), some (.int c6), some (.int (0 + (i : Nat))), some (.str w)] G4 := fun G4 e4 =>
          rest3 w G4 hw hwi ((S3.same e4).more (by omega)) (K3.trans (Kp.of e4))
        have swap : w ≠ "fraction" → ∀ G4, Same G3 G4 → ∀ D : Ends, D.nx = N3 → (tAsg (tCall (spPick K) [] E0 (tCons (tVar 0) (tCons (tLst (tCons (tC (.str "plus")) (tCons (tC (.str "minus")) tNil))) tNil))) (gName 8)) D [some (.ref a), some (.ref wl), some (.int n), some (.int m), some (.ref l), some (.int c5), some (.int c6), some (.int (0 + (i : Nat))), some (.str w)] G4 := fun hwf G4 e4 D hD => by
          refine ⟨_, rfl, (by show 2 ≤ sizeLine; decide), fun p np => ?_⟩
          have S4 := S3.same e4
          have e5 : Same G4 (L2.upd G4 p (.lst [.str "plus", .str "minus"])) := Same.upd np
          obtain ⟨pa, plw, plc⟩ := S4.off np
          refine ⟨a, lw, lc, _, p, _, rfl, S4.same e5, by omega, upd_same, plw, (by show 0 < 2; omega), (by show 2 ≤ 1000; omega), fun j x G6 hx S6 K6 => ?_⟩
          have k6 : Kp [a, lw] G G6 := (K3.trans (Kp.of (e4.trans e5))).trans K6
          match j, hx with
          | 0, hx =>
            cases hx
            show D.nx _ G6
            rw [hD]
            exact rest3 "plus" G6 (by decide +kernel) (fun _ => hwi hwf) S6 k6
          | 1, hx =>
            cases hx
            show D.nx _ G6
            rw [hD]
            exact rest3 "minus" G6 (by decide +kernel) (fun _ => hwi hwf) S6 k6
          | j + 2, hx => cases hx
        have wf1 : w ∈ (["hyp", "root"] : List Str) → w ≠ "fraction" := fun h z => by
          subst z
          revert h
          decide +kernel
        have wf2 : w ∈ (["times", "over"] : List Str) → w ≠ "fraction" := fun h z => by
          subst z
          revert h
          decide +kernel
        have second : ∀ G4, Same G3 G4 → ∀ (R : Bool → Hp → Prop), (∀ G5, Same G3 G5 → R false G5) → (w ≠ "fraction" → ∀ G5, Same G3 G5 → R true G5) → (tAnd (tTest (tOp (rIn K false) (tVar 8) (tLst (tCons (tC (.str "times")) (tCons (tC (.str "over")) tNil))))) (tTest (tOp (rI0 fun i j => .bl (decide (j < i))) (tVar 6) (tC (.int 3))))) [some (.ref a), some (.ref wl), some (.int n), some (.int m), some (.ref l), some (.int c5), some (.int c6), some (.int (0 + (i : Nat))), some (.str w)] G4 R := fun G4 e4 R r1 r2 => by
          refine in2_read (K := K) (i := 8) (w := w) (x := "times") (y := "over") rfl fun b G5 hb e5 => ⟨_, rfl, ?_⟩
          cases b with
          | true =>
            refine iteT ⟨_, rfl, _, _, rfl, rfl, _, rfl, ?_⟩
            cases decide (3 < c6) with
            | false => exact r1 G5 (e4.trans e5)
            | true => exact r2 (wf2 (hb rfl)) G5 (e4.trans e5)
          | false => exact iteF (r1 G5 (e4.trans e5))
        refine in2_read (K := K) (i := 8) (w := w) (x := "hyp") (y := "root") rfl fun b G4 hb e4 => ⟨_, rfl, ?_⟩
        cases b with
        | true =>
          refine iteT ⟨_, rfl, _, rfl, _, _, rfl, rfl, _, rfl, ?_⟩
          refine ite2 (fun _ => ?_) fun _ => ?_
          · exact iteT (swap (wf1 (hb rfl)) G4 e4 _ rfl)
          · refine second G4 e4 _ ?_ ?_
            · exact fun G5 e5 => iteF (other G5 e5)
            · exact fun hwf G5 e5 => iteT (swap hwf G5 e5 _ rfl)
        | false =>
          refine iteF ?_
          refine second G4 e4 _ ?_ ?_
          · exact fun G5 e5 => iteF (other G5 e5)
          · exact fun hwf G5 e5 => iteT (swap hwf G5 e5 _ rfl)
      -- the word
      refine ⟨_, rfl, _, _, rfl, rfl, _, rfl, ?_⟩
      refine ite2 (fun c => ?_) fun c => ?_
      · have i2 : 2 ≤ i := by
          have := of_decide_eq_true c
          omega
        have hwlG := KG _ _ hwl wlk
        refine ⟨_, rfl, _, rfl, a, lw, lc, _, wl, _, rfl, SG, by omega, hwlG, nwl, (by rw [List.length_map]; decide), (by rw [List.length_map]; decide), fun j x G1 hx S1 K1 => ?_⟩
        obtain ⟨w, hw, rfl⟩ : ∃ w, w ∈ WORDS ∧ x = V.str w := by
          rw [List.getElem?_map] at hx
          cases e : WORDS[j]? with
          | none => rw [e] at hx; cases hx
          | some w => rw [e] at hx; exact ⟨w, List.mem_of_getElem? e, (Option.some.inj hx).symm⟩
        exact rest1 w G1 hw (fun _ => i2) S1 K1
      · exact rest1 "fraction" G (by decide +kernel) (fun h => absurd rfl h) (SG.more (by omega)) (Kp.refl _ _)
    · rintro σ G ⟨d5, d6, v7, v8, vs, rows, rfl, hGl, hR, hG, hlr, SG, KG⟩
      refine ⟨_, rfl, ?_⟩
      exact k l vs rows G nl hGl hR hG (by omega) (SG.more (by omega)) KG
end
end Own
set_option Elab.async false
set_option linter.all false
set_option maxRecDepth 100000
set_option maxHeartbeats 4000000
namespace Own
open PySem PySem.Spec PyProof.Rows L2 LamX
theorem joinL_snoc (S : List Nat) : ∀ (ps : List (List Nat)) (p x : List Nat), TL.joinL S ((p :: ps) ++ [x]) = TL.joinL S (p :: ps) ++ (S ++ x)
  | [], p, x => rfl
  | q :: r, p, x => by
    show p ++ (S ++ TL.joinL S ((q :: r) ++ [x])) = (p ++ (S ++ TL.joinL S (q :: r))) ++ (S ++ x)
    rw [joinL_snoc S r q x]
    simp [List.append_assoc]
def spWritten : Sp := fun vs H Q _ => ∃ l xs rows, vs = [.ref l] ∧ H l = some (.lst xs) ∧ RowsV H xs rows ∧ xs.length ≤ 100 ∧ (∀ r ∈ rows, RowB r) ∧ ∀ H', Same H H' → Q (.str (sg (textL rows))) H'
def spLong : Sp := fun vs H Q _ => ∃ (a lw lc : Addr) (t : Nat), vs = [.ref a] ∧ StA H a lw lc t ∧ t + 200 < 2 ^ 40 ∧
  ∀ l vs rows H', H l = none → H' l = some (.lst vs) → RowsV H' vs rows → RowsG rows → 1 ≤ rows.length → rows.length ≤ 10 → StA H' a lw lc (t + 150) → Kp [a, lw] H H' → Q (.ref l) H'
section
variable {P : Program} {w : World} {K : PySem.W.Frag} {mg : Str → Option Value} {base : Heap} {f fS fD fP fW fO fR fN fI fT fL CL : Addr} {fd2 fdS fdD fdP fdW fdO fdR fdN fdI fdT fdL : FuncData}
abbrev nsWritten : List Str := ["_law_rows", "_law_lines", "_law_row", "_law_line", "_law_whole"]
theorem scWritten : FnScope nsWritten ["_law_rows"] (defScope sWritten) := ⟨rfl, rfl, rfl, by decide +kernel, rfl, by decide +kernel, by decide +kernel⟩
theorem ok_written (F : FnP K "_law_written" sWritten f fd2) (T : Txt K mg) : FnOk P w K mg base CX0 1 f fd2 ["_law_rows"] spWritten := by
  refine F.ok scWritten (fun vs H Q E h => ?_) (fun cdv A outer s H vs Q E hr h => ?_)
  · obtain ⟨l, xs, rows, rfl, _⟩ := h
    rfl
  · obtain ⟨l, xs, rows, rfl, hl, hR, hxl, hB, k⟩ := h
    refine ⟨_, PSs.nox (pss_cons (ps_set (i := 1) scWritten.nd rfl (.inl rfl) (pe_lst pa_nil))
      (pss_cons (ps_for PassesOwn.never rfl (pi_list (pv 0)) (pg_name (i := 2) scWritten.nd rfl (Or.inl rfl))
        (pss_cons (ps_set (i := 3) scWritten.nd rfl (.inl rfl) (pe_ix ix_tup (pv 2) pe_int (fun _ _ => rfl)))
        (pss_cons (ps_for PassesOwn.never rfl (pi_tup (pe_slice sl_tup (pv 2) (po_some pe_int) po_none)) (pg_name (i := 4) scWritten.nd rfl (Or.inl rfl))
          (pss_one (ps_set (i := 3) scWritten.nd rfl (.inl rfl) (pe_op op_add_str (pe_op op_add_str (pv 3) pe_str) (pe_callTy call_str_int (by rfl) T.str (by decide +kernel) (pa_cons (pv 4) pa_nil))))))
        (pss_one (ps_expr (pe_bm PySem.F.plainAttrs_list PySem.F.slot_list_append PySem.F.type_list_append mt_append (pv 1) (pa_cons (pv 3) pa_nil)))))))
      (pss_one (ps_ret (pe_join pe_str (pv 1)))))), ?_⟩
    have big : ∀ n : Nat, n ≤ 10010 → n ≤ sizeLine := fun n h => Nat.le_trans h (by decide)
    refine ⟨big 0 (by decide), fun q nq => ?_⟩
    have e1 : Same H (L2.upd H q (.lst [])) := Same.upd nq
    have hq0 : (L2.upd H q (.lst [])) q = some (.lst []) := upd_same
    generalize L2.upd H q (.lst []) = H1 at e1 hq0
    refine ⟨_, rfl, l, rfl, ⟨_, SqL.of (e1 _ _ hl)⟩, ?_⟩
    refine for_list (K := K) (a := l) (xs := xs) (fun i σ G => ∃ (v2 v3 v4 : Option V), σ = [some (.ref l), some (.ref q), v2, v3, v4] ∧ G q = some (.lst ((rows.take i).map fun r => V.str (sg (lineL r)))) ∧ Same H G)
      ⟨none, none, none, rfl, hq0, e1⟩ (fun i σ G _ ⟨_, _, _, _, _, h⟩ => SqL.of (h _ _ hl)) ?_ ?_
    · rintro i y σ G hi ⟨v2, v3, v4, rfl, hGq, eG⟩
      obtain ⟨r, hri, a, rfl, har⟩ := hR.2 i y hi
      have hBr := hB r (List.mem_of_getElem? hri)
      have haG := eG _ _ har
      refine ⟨_, rfl, a, _, _, .str r.1, rfl, rfl, SqT.of haG, at_nat (k := 0) rfl, ?_⟩
      refine ⟨_, rfl, _, rfl, a, _, rfl, SqT.of haG, notWhole, fun p np => ?_⟩
      rw [cut_tail]
      have e2 : Same G (L2.upd G p (.tup (r.2.map V.int))) := Same.upd np
      have hp : (L2.upd G p (.tup (r.2.map V.int))) p = some (.tup (r.2.map V.int)) := upd_same
      generalize L2.upd G p (.tup (r.2.map V.int)) = G1 at e2 hp
      refine ⟨p, rfl, ⟨_, SqT.of hp⟩, ?_⟩
      refine for_tup (K := K) (a := p) (xs := r.2.map V.int) (fun j σ G2 => ∃ (v4 : Option V), σ = [some (.ref l), some (.ref q), some (.ref a), some (.str (sg (TL.joinL [32] (TL.tl r.1 :: (r.2.take j).map intL)))), v4] ∧ G2 = G1)
        ⟨v4, by show [_, _, _, some (V.str r.1), _] = [_, _, _, some (V.str (sg (TL.tl r.1))), _]; rw [sg_tl], rfl⟩ (fun j σ G2 _ ⟨_, _, e⟩ => by rw [e]; exact SqT.of hp) ?_ ?_
      · rintro j y σ G2 hj ⟨v4, rfl, rfl⟩
        obtain ⟨z, hz, rfl⟩ := ints_at hj
        have hzb : z.natAbs < 2 ^ 150 := Nat.lt_trans (hBr.2.2 z (List.mem_of_getElem? hz)) (by decide)
        have hjl := (List.getElem?_eq_some_iff.mp hz).1
        have hlen : (TL.joinL [32] (TL.tl r.1 :: (r.2.take j).map intL)).length ≤ 200 := lineL_len (r := (r.1, r.2.take j)) ⟨hBr.1, by rw [List.length_take]; have := hBr.2.1; omega, fun x hx => hBr.2.2 x (List.mem_of_mem_take hx)⟩
        have e32 : sg (TL.joinL [32] (TL.tl r.1 :: (r.2.take j).map intL)) ++ (" " : Str) = sg (TL.joinL [32] (TL.tl r.1 :: (r.2.take j).map intL) ++ [32]) := TL.ext_tl (by rw [TL.tl_append]; rfl)
        refine ⟨_, rfl, _, _, rfl, rfl, ?_, _, rfl, z, rfl, log2_small hzb, _, _, rfl, rfl, ?_, ?_⟩
        · rw [sg_len]
          show _ + 1 ≤ sizeLine
          exact big _ (by omega)
        · rw [e32, int_sg, sg_len, sg_len, List.length_append]
          have := intL_len hzb
          refine big _ ?_
          have e0 : ([32] : List Nat).length = 1 := rfl
          rw [e0]
          omega
        · refine ⟨some (.int z), ?_, rfl⟩
          rw [e32, int_sg]
          have ej : sg (TL.joinL [32] (TL.tl r.1 :: (r.2.take j).map intL) ++ [32]) ++ sg (intL z) = sg (TL.joinL [32] (TL.tl r.1 :: (r.2.take (j + 1)).map intL)) := by
            refine TL.ext_tl ?_
            rw [TL.tl_append, tl_sg, tl_sg, tl_sg, List.take_succ, hz, List.map_append]
            show _ = TL.joinL [32] ((TL.tl r.1 :: (r.2.take j).map intL) ++ [intL z])
            rw [joinL_snoc, List.append_assoc]
          rw [ej]
          rfl
      · rintro σ G2 ⟨v4, rfl, rfl⟩
        rw [List.length_map, List.take_length]
        have hq2 := e2 _ _ hGq
        refine ⟨_, rfl, .inl ⟨rfl, _, .inl (.inl hq2)⟩, ?_⟩
        refine ⟨_, rfl, q, _, _, rfl, rfl, hq2, ?_, ?_⟩
        · rw [List.length_map, List.length_take]
          have h1 := (List.getElem?_eq_some_iff.mp hri).1
          have h2 := hR.1
          exact Nat.lt_of_le_of_lt (Nat.min_le_left _ _) (Nat.lt_of_lt_of_le (show i < 100 by omega) (by decide))
        · refine ⟨_, _, _, rfl, ?_, ?_⟩
          · rw [upd_same, List.take_succ, hri, List.map_append]
            rfl
          · intro b o eb
            rw [upd_ne (ne_of_none eb nq)]
            exact (eG.trans e2) _ _ eb
    · rintro σ G ⟨v2, v3, v4, rfl, hGq, eG⟩
      have full : rows.take xs.length = rows := by rw [hR.1, List.take_length]
      rw [full] at hGq
      refine ⟨⟨_, rfl⟩, _, rfl, _, q, rows.map fun r => sg (lineL r), rfl, rfl, .inl (SqL.of ?_), lines_bound hB (hR.1 ▸ hxl), ?_⟩
      · rw [List.map_map]
        exact hGq
      · rw [join_lines]
        exact k G eG
abbrev nsLong : List Str := ["_law_state", "_law_words", "_law_found", "_law_row", "_law_top"]
theorem scLong : FnScope nsLong ["_law_state"] (defScope sLong) := ⟨rfl, rfl, rfl, by decide +kernel, rfl, by decide +kernel, by decide +kernel⟩
theorem ok_long (F : FnP K "_law_long_rows" sLong f fd2) (FR : FnP K "_law_drawn_rows" sDrawn fR fdR) (FP : FnP K "_law_pick" sPick fP fdP) (FD : FnP K "_law_draw" sDraw fD fdD) (FS : FnP K "_law_stirred" sStir fS fdS) (gR : mg "_law_drawn_rows" = some (.ref fR)) (gP : mg "_law_pick" = some (.ref fP)) (gD : mg "_law_draw" = some (.ref fD)) (gS : mg "_law_stirred" = some (.ref fS)) (T : Txt K mg) : FnOk P w K mg base CX0 5 f fd2 ["_law_state"] spLong := by
  have GD : FnOk P w K mg base CX0 2 fD fdD ["_law_state", "_law_size"] spDraw := ok_draw FD FS gS T
  have bD : Binds K fdD ["_law_state", "_law_size"] [] := FD.bindsN fun _ _ _ _ _ _ us hl => match us, hl with | [_, _], _ => rfl
  have GP : FnOk P w K mg base CX0 3 fP fdP ["_law_state", "_law_some"] (spPick K) := ok_pick FP FD FS gD gS T
  have bP : Binds K fdP ["_law_state", "_law_some"] [] := FP.bindsN fun _ _ _ _ _ _ us hl => match us, hl with | [_, _], _ => rfl
  have GR : FnOk P w K mg base CX0 4 fR fdR psDrawn spDrawn := ok_drawn FR FP FD FS gP gD gS T
  have bR : Binds K fdR psDrawn [] := FR.bindsN fun _ _ _ _ _ _ us hl => match us, hl with | [_, _, _, _], _ => rfl
  refine F.ok scLong (fun vs H Q E h => ?_) (fun cdv A outer s H vs Q E hr h => ?_)
  · obtain ⟨a, lw, lc, t, rfl, _⟩ := h
    rfl
  · obtain ⟨a, lw, lc, t, rfl, S, ht, k⟩ := h
    have hr2 : Room 2 (A.deeper (envOfC "_law_long_rows" (defScope sLong) s.heap.objs.size f cdv)) := hr.mono (by decide)
    have hr3 : Room 3 (A.deeper (envOfC "_law_long_rows" (defScope sLong) s.heap.objs.size f cdv)) := hr.mono (by decide)
    refine ⟨_, PSs.nox (pss_cons (ps_set (i := 1) scLong.nd rfl (.inl rfl) (pe_lst (pa_cons pe_str (pa_cons pe_str (pa_cons pe_str (pa_cons pe_str (pa_cons pe_str (pa_cons pe_str (pa_cons pe_str pa_nil)))))))))
      (pss_cons (ps_set (i := 2) scLong.nd rfl (.inl rfl) (pe_lst pa_nil))
      (pss_cons (ps_for PassesOwn.never rfl (pi_list (pe_call GR hr (by rfl) gR FR.kp bR .nil pass0 (pa_cons (pv 0) (pa_cons (pv 1) (pa_cons (pe_op op_add pe_int (pe_call GD hr2 (by rfl) gD FD.kp bD .nil pass0 (pa_cons (pv 0) (pa_cons pe_int pa_nil)))) (pa_cons pe_int pa_nil)))))) (pg_name (i := 3) scLong.nd rfl (Or.inl rfl))
        (pss_cons (ps_if (PW.pt (pw_and (pt_cmpR op_eq (pe_ix ix_tup (pv 3) pe_int (fun _ _ => rfl)) pe_str (nomark _)) (pw_and1 (pt_cmpR op_eq (pe_call GD hr2 (by rfl) gD FD.kp bD .nil pass0 (pa_cons (pv 0) (pa_cons pe_int pa_nil))) pe_int (nomark _)))))
          (pss_cons (ps_set (i := 4) scLong.nd rfl (.inl rfl) (pe_op op_sub (pe_call GD hr2 (by rfl) gD FD.kp bD .nil pass0 (pa_cons (pv 0) (pa_cons (pe_op op_pow pe_int pe_int) pa_nil))) (pe_call GP hr3 (by rfl) gP FP.kp bP .nil pass0 (pa_cons (pv 0) (pa_cons (pe_lst (pa_cons pe_int (pa_cons (pe_op op_pow pe_int pe_int) pa_nil))) pa_nil)))))
          (pss_one (ps_set (i := 3) scLong.nd rfl (.inl rfl) (pe_tup (pa_cons pe_str (pa_cons (pv 4) (pa_cons (pe_op op_add pe_int (pe_call GD hr2 (by rfl) gD FD.kp bD .nil pass0 (pa_cons (pv 0) (pa_cons (pe_op op_pow pe_int pe_int) pa_nil)))) pa_nil))))))) pss_nil)
        (pss_one (ps_expr (pe_bm PySem.F.plainAttrs_list PySem.F.slot_list_append PySem.F.type_list_append mt_append (pv 2) (pa_cons (pv 3) pa_nil))))))
      (pss_one (ps_ret (pv 2)))))), ?_⟩
    have big : ∀ n : Nat, n ≤ 10010 → n ≤ sizeLine := fun n h => Nat.le_trans h (by decide)
    refine ⟨big 7 (by decide), fun wl nwl => ?_⟩
    obtain ⟨wa, wlw, wlc⟩ := S.off nwl
    generalize hgen : L2.upd H wl (.lst [.str "fraction", .str "plus", .str "minus", .str "times", .str "over", .str "hyp", .str "root"]) = H1
    have e1 : Same H H1 := hgen ▸ Same.upd nwl
    have hw0 : H1 wl = some (.lst (WORDS.map V.str)) := by
      rw [← hgen]
      exact upd_same
    have S1 := S.same e1
    refine ⟨big 0 (by decide), fun l nl => ?_⟩
    have e2 : Same H1 (L2.upd H1 l (.lst [])) := Same.upd nl
    have hl0 : (L2.upd H1 l (.lst [])) l = some (.lst []) := upd_same
    have nlH : H l = none := e1.free nl
    obtain ⟨la, llw, llc⟩ := S1.off nl
    have lk : l ∉ [a, lw] := by simp [la, llw]
    have S2 := S1.same e2
    have hw2 := e2 _ _ hw0
    have wk : wl ∉ [a, lw] := by simp [wa, wlw]
    generalize L2.upd H1 l (.lst []) = H2 at e2 hl0 S2 hw2
    refine ⟨_, rfl, _, rfl, _, rfl, a, lw, lc, t, 10, rfl, S2, by omega, by decide, by decide, fun z H3 hz0 hz1 S3 K3 => ?_⟩
    obtain ⟨n, hn⟩ : ∃ n : Nat, 1 + z = (n : Int) := ⟨(1 + z).toNat, by omega⟩
    refine ⟨_, _, rfl, rfl, a, lw, lc, _, wl, n, 9, ?_, S3, by omega, K3 _ _ hw2 wk, wlw, by omega, fun dl vs rows H4 ndl hdl hR hG hrn S4 K4 => ?_⟩
    · dsimp only
      rw [hn]
      rfl
    have K24 : Kp [a, lw] H2 H4 := K3.trans K4
    have hl4 := K24 _ _ hl0 lk
    have nld : l ≠ dl := by
      intro z
      subst z
      rw [K3 _ _ hl0 lk] at ndl
      cases ndl
    refine ⟨dl, rfl, ⟨_, SqL.of hdl⟩, ?_⟩
    have dk : dl ∉ [a, lw] := by
      obtain ⟨⟨ws, cs, r, u, g1, g2, _⟩, _⟩ := id S3
      have h1 : dl ≠ a := fun z => by rw [z] at ndl; rw [g1] at ndl; cases ndl
      have h2 : dl ≠ lw := fun z => by rw [z] at ndl; rw [g2] at ndl; cases ndl
      simp [h1, h2]
    have p25 : (10 : Int) ^ (25 : Int).toNat = 10000000000000000000000000 := by decide +kernel
    have p20 : (10 : Int) ^ (20 : Int).toNat = 100000000000000000000 := by decide +kernel
    refine for_list (K := K) (a := dl) (xs := vs) (fun i σ G => ∃ (v3 v4 : Option V) (us : List V) (rs : List RowS), σ = [some (.ref a), some (.ref wl), some (.ref l), v3, v4] ∧ G l = some (.lst us) ∧ RowsV G us rs ∧ RowsG rs ∧ rs.length = i ∧ StA G a lw lc (t + 60 + 5 * i) ∧ Kp [a, lw] H G ∧ G dl = some (.lst vs) ∧ RowsV G vs rows)
      ⟨none, none, [], [], rfl, hl4, ⟨rfl, fun i v e => by simp at e⟩, (fun i r e => by simp at e), rfl, S4.more (by omega), (Kp.of (e1.trans e2)).trans K24, hdl, hR⟩ (fun i σ G _ ⟨_, _, _, _, _, _, _, _, _, _, _, h, _⟩ => SqL.of h) ?_ ?_
    · rintro i y σ G hi ⟨v3, v4, us, rs, rfl, hGl, hRu, hGu, hlr, SG, KG, hGd, hRG⟩
      obtain ⟨r, hri, ra, rfl, hra⟩ := hRG.2 i y hi
      have hi10 : i < 10 := by
        have h1 := (List.getElem?_eq_some_iff.mp hri).1
        omega
      have gr := hG i r hri
      refine seq_gen fun N hN => ?_
      have rest : ∀ (w : Str) (is : List Int) (b : Addr) G1 v4, RowG (w, is) i → G1 b = some (.tup (rowV w is)) → StA G1 a lw lc (t + 60 + 5 * i + 4) → Kp [a, lw] G G1 → N [some (.ref a), some (.ref wl), some (.ref l), some (.ref b), v4] G1 := by
        intro w is b G1 v4 hg hb S5 K5
        subst hN
        have hl1 := K5 _ _ hGl lk
        refine ⟨_, rfl, .inl ⟨rfl, _, .inl (.inl hl1)⟩, ?_⟩
        refine ⟨_, rfl, l, _, _, rfl, rfl, hl1, ?_, ?_⟩
        · have := hRu.1
          exact Nat.lt_of_lt_of_le (show us.length < 10 by omega) (by decide)
        · have bl : b ≠ l := tup_ne_lst hb hl1
          refine ⟨_, _, us ++ [.ref b], rs ++ [(w, is)], rfl, upd_same, RowsV.push (r := (w, is)) hl1 (hRu.kp SG K5) hb, hGu.push (hlr ▸ hg), by simp [hlr], (S5.upd la llw llc).more (by omega), ?_, ?_, ?_⟩
          · intro c o ec hc
            rw [upd_ne (ne_of_none ec nlH)]
            exact K5 _ _ (KG _ _ ec hc) hc
          · rw [upd_ne nld.symm]
            exact K5 _ _ hGd dk
          · have h2 := hRG.kp SG K5
            refine ⟨h2.1, fun j v e => ?_⟩
            obtain ⟨x, x1, c, x2, x3⟩ := h2.2 j v e
            exact ⟨x, x1, c, x2, by rw [upd_ne (tup_ne_lst x3 hl1)]; exact x3⟩
      refine ⟨_, rfl, ra, _, _, .str r.1, rfl, rfl, SqT.of hra, at_nat (k := 0) rfl, rfl, _, rfl, ?_⟩
      rw [decStr]
      by_cases hfr : r.1 = "fraction"
      · rw [decide_eq_true hfr]
        refine iteT ?_
        refine ⟨_, rfl, a, lw, lc, _, 2, rfl, SG, by omega, by decide, by decide, fun z1 G1 _ _ S5 K5 => ?_⟩
        refine ⟨rfl, _, rfl, ?_⟩
        refine ite2 (fun _ => ?_) fun _ => ?_
        · refine ⟨_, rfl, _, _, rfl, rfl, ⟨by decide, by decide, by decide⟩, a, lw, lc, _, _, rfl, S5, by omega, by rw [p25]; decide, by rw [p25]; decide, fun z2 G2 hz20 hz21 S6 K6 => ?_⟩
          refine ⟨_, rfl, _, _, rfl, rfl, ⟨by decide, by decide, by decide⟩, big 2 (by decide), fun p np => ?_⟩
          have e7 : Same G2 (L2.upd G2 p (.lst [.int 0, .int ((10 : Int) ^ (25 : Int).toNat)])) := Same.upd np
          obtain ⟨pa, plw, plc⟩ := S6.off np
          refine ⟨a, lw, lc, _, p, _, rfl, S6.same e7, by omega, upd_same, plw, (by show 0 < 2; omega), (by show 2 ≤ 1000; omega), fun j x G3 hx S7 K7 => ?_⟩
          have hx2 : ∃ c : Int, x = .int c ∧ 0 ≤ c ∧ c ≤ 10000000000000000000000000 := by
            match j, hx with
            | 0, hx => cases hx; exact ⟨0, rfl, by decide, by decide⟩
            | 1, hx =>
              cases hx
              exact ⟨_, rfl, by rw [p25]; decide, by rw [p25]; decide⟩
            | j + 2, hx => cases hx
          obtain ⟨c, rfl, hc0, hc1⟩ := hx2
          refine ⟨_, _, rfl, rfl, ?_⟩
          rw [p25] at hz21
          have K8 : Kp [a, lw] G G3 := ((K5.trans K6).trans (Kp.of e7)).trans K7
          refine ⟨_, rfl, _, rfl, _, _, rfl, rfl, ⟨by decide, by decide, by decide⟩, a, lw, lc, _, _, rfl, S7, by omega, by rw [p20]; decide, by rw [p20]; decide, fun z3 G4 hz30 hz31 S8 K9 => ?_⟩
          rw [p20] at hz31
          refine ⟨_, _, rfl, rfl, big 3 (by decide), fun q nq => ?_⟩
          have e9 : Same G4 (L2.upd G4 q (.tup [.str "fraction", .int (z2 - c), .int (1 + z3)])) := Same.upd nq
          exact rest "fraction" [z2 - c, 1 + z3] q _ _ (rowG_fr (by omega) (by omega) (by omega)) upd_same ((S8.same e9).more (by omega)) ((K8.trans K9).trans (Kp.of e9))
        · exact rest r.1 r.2 ra G1 _ gr (K5 _ _ hra (SG.offT hra)) (S5.more (by omega)) K5
      · rw [decide_eq_false hfr]
        exact iteF (iteF (rest r.1 r.2 ra G _ gr hra (SG.more (by omega)) (Kp.refl _ _)))
    · rintro σ G ⟨v3, v4, us, rs, rfl, hGl, hRu, hGu, hlr, SG, KG, hGd, hRG⟩
      refine ⟨_, rfl, ?_⟩
      have hvl := hR.1
      exact k l us rs G nlH hGl hRu hGu (by omega) (by omega) (SG.more (by omega)) KG
end
end Own
set_option Elab.async false
set_option linter.all false
set_option maxRecDepth 100000
set_option maxHeartbeats 4000000
namespace Own
open PySem PySem.Spec PyProof.Rows L2 LamX
/-! ### texts bent -/
theorem cut_to {z : Str} {k : Nat} : cutS z none (some (k : Int)) = sg ((TL.tl z).take k) := by
  refine TL.ext_tl ?_
  show ((z.cps.toList.drop (HT.sIx z.length 0 none)).take (HT.sIx z.length z.length (some (k : Int)) - HT.sIx z.length 0 none)) = (TL.tl z).take k
  have e : z.cps.toList.length = z.length := by simp [Str.length]
  rw [HT.sIx_none, HT.sIx_nat, List.drop_zero, Nat.sub_zero]
  by_cases h : k ≤ z.length
  · rw [Nat.min_eq_left h]
  · rw [Nat.min_eq_right (by omega), List.take_of_length_le (by omega), List.take_of_length_le (by show z.cps.toList.length ≤ k; omega)]
theorem cut_from {z : Str} {k : Nat} : cutS z (some (k : Int)) none = sg ((TL.tl z).drop k) := by
  refine TL.ext_tl ?_
  show ((z.cps.toList.drop (HT.sIx z.length 0 (some (k : Int)))).take (HT.sIx z.length z.length none - HT.sIx z.length 0 (some (k : Int)))) = (TL.tl z).drop k
  have e : z.cps.toList.length = z.length := by simp [Str.length]
  rw [HT.sIx_none, HT.sIx_nat]
  by_cases h : k ≤ z.length
  · rw [Nat.min_eq_left h]
    exact List.take_of_length_le (by rw [List.length_drop]; omega)
  · rw [Nat.min_eq_right (by omega), List.drop_of_length_le (by omega), List.drop_of_length_le (by show z.cps.toList.length ≤ k; omega)]
    exact List.take_nil
theorem TextB.sub {n : Nat} {z : Str} {l : List Nat} (h : TextB n z) (hl : l.length ≤ n) (hm : ∀ c ∈ l, c ∈ TL.tl z) : TextB n (sg l) := ⟨by rw [sg_len]; exact hl, fun c hc => h.2 c (hm c hc)⟩
theorem TextB.app {n m : Nat} {x y : Str} (h1 : TextB n x) (h2 : TextB m y) : TextB (n + m) (x ++ y) := by
  refine ⟨?_, fun c hc => ?_⟩
  · have a := h1.1
    have b := h2.1
    rw [TL.len_tl] at a b ⊢
    rw [TL.tl_append, List.length_append]
    omega
  · rw [TL.tl_append] at hc
    rcases List.mem_append.mp hc with q | q
    · exact h1.2 c q
    · exact h2.2 c q
theorem TextB.more {n m : Nat} {x : Str} (h : TextB n x) (hm : n ≤ m) : TextB m x := ⟨Nat.le_trans h.1 hm, h.2⟩
theorem TextB.take {n : Nat} {z : Str} (h : TextB n z) (k : Nat) : TextB (min k n) (sg ((TL.tl z).take k)) := by
  refine ⟨?_, fun c hc => h.2 c (List.mem_of_mem_take hc)⟩
  have := h.1
  rw [TL.len_tl] at this
  rw [sg_len, List.length_take]
  omega
theorem TextB.drop {n : Nat} {z : Str} (h : TextB n z) (k : Nat) : TextB (n - k) (sg ((TL.tl z).drop k)) := by
  refine ⟨?_, fun c hc => h.2 c (List.mem_of_mem_drop hc)⟩
  have := h.1
  rw [TL.len_tl] at this
  rw [sg_len, List.length_drop]
  omega
theorem joinL_len_eq (s : Nat) : ∀ {ps : List (List Nat)}, ps ≠ [] → (TL.joinL [s] ps).length + 1 = (ps.map List.length).sum + ps.length
  | [], h => absurd rfl h
  | [p], _ => by simp [TL.joinL]
  | p :: q :: r, _ => by
    have ih := joinL_len_eq s (ps := q :: r) (by simp)
    show (p ++ ([s] ++ TL.joinL [s] (q :: r))).length + 1 = _
    rw [List.length_append, List.length_append, List.map_cons, List.sum_cons, List.length_cons (as := q :: r)]
    have e1 : ([s] : List Nat).length = 1 := rfl
    omega
theorem joinL_mem (s : Nat) : ∀ {ps : List (List Nat)} {c : Nat}, c ∈ TL.joinL [s] ps → c = s ∨ ∃ p ∈ ps, c ∈ p
  | [], c, h => by cases h
  | [p], c, h => .inr ⟨p, by simp, h⟩
  | p :: q :: r, c, h => by
    have h' : c ∈ p ++ ([s] ++ TL.joinL [s] (q :: r)) := h
    rcases List.mem_append.mp h' with h | h
    · exact .inr ⟨p, by simp, h⟩
    rcases List.mem_append.mp h with h | h
    · exact .inl (List.mem_singleton.mp h)
    · rcases joinL_mem s h with e | ⟨x, hx, hc⟩
      · exact .inl e
      · exact .inr ⟨x, List.mem_cons_of_mem _ hx, hc⟩
theorem spl_sum (s : Nat) : ∀ (l acc : List Nat), ((TL.spl [s] 0 acc l).map List.length).sum + (TL.spl [s] 0 acc l).length = acc.length + l.length + 1
  | [], acc => by
    rw [TL.spl_nil]
    simp
  | x :: r, acc => by
    show (((if TL.pre [s] (x :: r) = true then acc :: TL.spl [s] ([s].length - 1) [] r else TL.spl [s] 0 (acc ++ [x]) r)).map List.length).sum + (if TL.pre [s] (x :: r) = true then acc :: TL.spl [s] ([s].length - 1) [] r else TL.spl [s] 0 (acc ++ [x]) r).length = _
    split
    · have ih := spl_sum s r []
      rw [List.map_cons, List.sum_cons, List.length_cons (as := r), List.length_cons]
      show acc.length + ((TL.spl [s] 0 [] r).map List.length).sum + ((TL.spl [s] 0 [] r).length + 1) = _
      simp at ih
      omega
    · have ih := spl_sum s r (acc ++ [x])
      rw [ih, List.length_append, List.length_cons]
      simp
      omega
/-- pieces put in another order -/
theorem join_perm {n : Nat} {z : Str} {ys : List Str} (h : TextB n z) (hp : ys.Perm (Txt.split z "\n")) : (ys.map (·.length)).sum + ys.length * ("\n" : Str).length ≤ n + 1 ∧ TextB n (Txt.join "\n" ys) := by
  have e1 : ("\n" : Str).length = 1 := rfl
  have hsum : (ys.map (·.length)).sum = ((Txt.split z "\n").map (·.length)).sum := (hp.map _).sum_nat
  have hlen := hp.length_eq
  have t10 : TL.tl ("\n" : Str) = [10] := by decide +kernel
  have st := split_tl (z := z) n10 a10
  have es : ((Txt.split z "\n").map (·.length)) = (TL.spl [10] 0 [] (TL.tl z)).map List.length := by
    rw [← t10, ← st, List.map_map]
    refine List.map_congr_left fun x _ => ?_
    exact TL.len_tl x
  have ec : (Txt.split z "\n").length = (TL.spl [10] 0 [] (TL.tl z)).length := by
    rw [← t10, ← st, List.length_map]
  have k := spl_sum 10 (TL.tl z) []
  have hz := h.1
  rw [TL.len_tl] at hz
  have tot : (ys.map (·.length)).sum + ys.length ≤ n + 1 := by
    rw [hsum, hlen, es, ec, k]
    simp
    simp at hz
    omega
  have yne : ys ≠ [] := fun z0 => by
    rw [z0] at hlen
    have := split_ne (z := z) n10 a10
    exact this (List.length_eq_zero_iff.mp hlen.symm)
  refine ⟨by rw [e1]; omega, ?_, fun c hc => ?_⟩
  · rw [TL.len_tl, tl_joinS, t10]
    have q := joinL_len_eq 10 (ps := ys.map TL.tl) (by simpa using yne)
    rw [List.map_map, List.length_map] at q
    have e2 : (ys.map (List.length ∘ TL.tl)) = ys.map (·.length) := List.map_congr_left fun x _ => (TL.len_tl x).symm
    rw [e2] at q
    omega
  · rw [tl_joinS, t10] at hc
    rcases joinL_mem 10 hc with e | ⟨p, hpm, hcp⟩
    · subst e
      omega
    · obtain ⟨y, hy, rfl⟩ := List.mem_map.mp hpm
      exact (h.part n10 a10 (hp.mem_iff.mp hy)).2 c hcp
theorem erase_perm {l : List Str} {i : Nat} (h : i < l.length) : (l[i] :: l.eraseIdx i).Perm l := by
  rw [List.eraseIdx_eq_take_drop_succ]
  refine List.perm_middle.symm.trans ?_
  rw [← List.drop_eq_getElem_cons h, List.take_append_drop]
def SIGNS : List Str := " " :: "\n" :: "0" :: "1" :: "-" :: "+" :: "t" :: "7" :: "~" :: "x" :: []
theorem signs_ok : ∀ x ∈ SIGNS, x.length ≤ 1 ∧ ∀ c ∈ TL.tl x, c < 1114112 := by decide +kernel
def spBent : Sp := fun vs H Q _ => ∃ (a lw lc : Addr) (t n : Nat) (z : Str), vs = [.ref a, .str z] ∧ StA H a lw lc t ∧ t + 10 < 2 ^ 40 ∧ TextB n z ∧ n ≤ 4000 ∧ ∀ y H', TextB (n + 1) y → StA H' a lw lc (t + 5) → Kp [a, lw] H H' → Q (.str y) H'
section
variable {P : Program} {w : World} {K : PySem.W.Frag} {mg : Str → Option Value} {base : Heap} {f fS fD fP fW fO fR fN fI fT fL CL : Addr} {fd2 fdS fdD fdP fdW fdO fdR fdN fdI fdT fdL : FuncData}
abbrev nsBent : List Str := ["_law_state", "_law_text", "_law_spot", "_law_way", "_law_sign", "_law_lines"]
theorem scBent : FnScope nsBent ["_law_state", "_law_text"] (defScope sBent) := ⟨rfl, rfl, rfl, by decide +kernel, rfl, by decide +kernel, by decide +kernel⟩
theorem ok_bent (F : FnP K "_law_bent" sBent f fd2) (FP : FnP K "_law_pick" sPick fP fdP) (FD : FnP K "_law_draw" sDraw fD fdD) (FS : FnP K "_law_stirred" sStir fS fdS) (gP : mg "_law_pick" = some (.ref fP)) (gD : mg "_law_draw" = some (.ref fD)) (gS : mg "_law_stirred" = some (.ref fS)) (T : Txt K mg) : FnOk P w K mg base CX0 4 f fd2 ["_law_state", "_law_text"] spBent := by
  have GD : FnOk P w K mg base CX0 2 fD fdD ["_law_state", "_law_size"] spDraw := ok_draw FD FS gS T
  have bD : Binds K fdD ["_law_state", "_law_size"] [] := FD.bindsN fun _ _ _ _ _ _ us hl => match us, hl with | [_, _], _ => rfl
  have GP : FnOk P w K mg base CX0 3 fP fdP ["_law_state", "_law_some"] (spPick K) := ok_pick FP FD FS gD gS T
  have bP : Binds K fdP ["_law_state", "_law_some"] [] := FP.bindsN fun _ _ _ _ _ _ us hl => match us, hl with | [_, _], _ => rfl
  refine F.ok scBent (fun vs H Q E h => ?_) (fun cdv A outer s H vs Q E hr h => ?_)
  · obtain ⟨a, lw, lc, t, n, z, rfl, _⟩ := h
    rfl
  · obtain ⟨a, lw, lc, t, n, z, rfl, S, ht, hz, hn, k⟩ := h
    have hr2 : Room 2 (A.deeper (envOfC "_law_bent" (defScope sBent) s.heap.objs.size f cdv)) := hr.mono (by decide)
    refine ⟨_, PSs.nox (pss_cons (ps_par (i := 2) (j := 3) rfl scBent.nd rfl rfl (by decide) rfl rfl (pa_cons (pe_call GD hr2 (by rfl) gD FD.kp bD .nil pass0 (pa_cons (pv 0) (pa_cons (pe_op op_add (pe_callB call_len_str (by rfl) T.len PySem.boot_len (pa_cons (pv 1) pa_nil)) pe_int) pa_nil))) (pa_cons (pe_call GD hr2 (by rfl) gD FD.kp bD .nil pass0 (pa_cons (pv 0) (pa_cons pe_int pa_nil))) pa_nil)) (by rfl))
      (pss_cons (ps_set (i := 4) scBent.nd rfl (.inl rfl) (pe_call GP hr (by rfl) gP FP.kp bP .nil pass0 (pa_cons (pv 0) (pa_cons (pe_lst (pa_cons pe_str (pa_cons pe_str (pa_cons pe_str (pa_cons pe_str (pa_cons pe_str (pa_cons pe_str (pa_cons pe_str (pa_cons pe_str (pa_cons pe_str (pa_cons pe_str pa_nil))))))))))) pa_nil))))
      (pss_cons (ps_if (pt_cmpR op_eq (pv 3) pe_int (nomark _)) (pss_one (ps_ret (pe_op op_add_str (pe_op op_add_str (pe_slice sl_str (pv 1) po_none (po_some (pv 2))) (pv 4)) (pe_slice sl_str (pv 1) (po_some (pv 2)) po_none)))) pss_nil)
      (pss_cons (ps_if (pt_cmpR op_eq (pv 3) pe_int (nomark _)) (pss_one (ps_ret (pe_op op_add_str (pe_slice sl_str (pv 1) po_none (po_some (pv 2))) (pe_slice sl_str (pv 1) (po_some (pe_op op_add (pv 2) pe_int)) po_none)))) pss_nil)
      (pss_cons (ps_if (pt_cmpR op_eq (pv 3) pe_int (nomark _)) (pss_one (ps_ret (pe_op op_add_str (pe_op op_add_str (pe_slice sl_str (pv 1) po_none (po_some (pv 2))) (pv 4)) (pe_slice sl_str (pv 1) (po_some (pe_op op_add (pv 2) pe_int)) po_none)))) pss_nil)
      (pss_cons (ps_set (i := 5) scBent.nd rfl (.inl rfl) (pe_split (pv 1) pe_str))
      (pss_cons (ps_expr (pe_bm PySem.F.plainAttrs_list PySem.F.slot_list_insert PySem.F.type_list_insert mt_insert (pv 5) (pa_cons (pe_call GD hr2 (by rfl) gD FD.kp bD .nil pass0 (pa_cons (pv 0) (pa_cons (pe_callB call_len_seq (by rfl) T.len PySem.boot_len (pa_cons (pv 5) pa_nil)) pa_nil)))
          (pa_cons (pe_bm PySem.F.plainAttrs_list PySem.F.slot_list_pop PySem.F.type_list_pop mt_popAt (pv 5) (pa_cons (pe_call GD hr2 (by rfl) gD FD.kp bD .nil pass0 (pa_cons (pv 0) (pa_cons (pe_callB call_len_seq (by rfl) T.len PySem.boot_len (pa_cons (pv 5) pa_nil)) pa_nil))) pa_nil)) pa_nil))))
      (pss_one (ps_ret (pe_join pe_str (pv 5))))))))))), ?_⟩
    have big : ∀ n : Nat, n ≤ 10010 → n ≤ sizeLine := fun n h => Nat.le_trans h (by decide)
    have hzl := hz.1
    refine ⟨_, rfl, _, rfl, z, rfl, big _ (by omega), _, _, rfl, rfl, a, lw, lc, t, _, rfl, S, by omega, by omega, by omega, fun p0 H1 hp0 hp1 S1 K1 => ?_⟩
    obtain ⟨p, rfl⟩ : ∃ p : Nat, p0 = (p : Int) := ⟨p0.toNat, by omega⟩
    refine ⟨_, rfl, a, lw, lc, _, 4, rfl, S1, by omega, by decide, by decide, fun way H2 hw0 hw1 S2 K2 => ?_⟩
    refine ⟨_, _, rfl, ?_⟩
    refine ⟨_, rfl, big 10 (by decide), fun q nq => ?_⟩
    obtain ⟨qa, qlw, qlc⟩ := S2.off nq
    have e3 : ∀ o, Same H2 (L2.upd H2 q o) := fun o => Same.upd nq
    refine ⟨a, lw, lc, _, q, SIGNS.map V.str, rfl, S2.same (e3 _), by omega, upd_same, qlw, (by rw [List.length_map]; decide), (by rw [List.length_map]; decide), fun j x H3 hx S3 K3 => ?_⟩
    obtain ⟨g, hg, rfl⟩ : ∃ g, g ∈ SIGNS ∧ x = V.str g := by
      rw [List.getElem?_map] at hx
      cases e : SIGNS[j]? with
      | none => rw [e] at hx; cases hx
      | some w => rw [e] at hx; exact ⟨w, List.mem_of_getElem? e, (Option.some.inj hx).symm⟩
    have tg : TextB 1 g := signs_ok g hg
    have K03 : Kp [a, lw] H H3 := ((K1.trans K2).trans (Kp.of (e3 _))).trans K3
    have hpn : p ≤ n := by omega
    have zz : z.length ≤ sizeLine := big _ (by omega)
    have out : ∀ y, TextB (n + 1) y → Q (.str y) H3 := fun y hy => k y H3 hy (S3.more (by omega)) K03
    have t1 := hz.take p
    have t2 := hz.drop p
    have t3 := hz.drop (p + 1)
    have add1 : ((p : Int) + 1) = ((p + 1 : Nat) : Int) := rfl
    refine ⟨_, rfl, rfl, _, rfl, ?_⟩
    rw [dec_int]
    cases h0 : (way == 0) with
    | true =>
      refine iteT ?_
      refine ⟨_, rfl, _, rfl, _, rfl, _, rfl, zz, ?_⟩
      rw [cut_to]
      have b1 := t1.app tg
      refine ⟨_, rfl, _, _, rfl, rfl, big _ (by have := t1.1; have := tg.1; omega), _, rfl, _, rfl, _, rfl, _, rfl, zz, ?_⟩
      rw [cut_from]
      have b2 := b1.app t2
      refine ⟨_, _, rfl, rfl, big _ (by have := b1.1; have := t2.1; omega), ?_⟩
      exact out _ (b2.more (by omega))
    | false =>
      refine iteF ?_
      refine ⟨_, rfl, rfl, _, rfl, ?_⟩
      rw [dec_int]
      cases h1 : (way == 1) with
      | true =>
        refine iteT ?_
        refine ⟨_, rfl, _, rfl, _, rfl, _, rfl, zz, ?_⟩
        rw [cut_to]
        refine ⟨_, rfl, _, rfl, _, _, rfl, rfl, _, rfl, _, rfl, zz, ?_⟩
        dsimp only
        rw [add1, cut_from]
        have b2 := t1.app t3
        refine ⟨_, _, rfl, rfl, big _ (by have := t1.1; have := t3.1; omega), ?_⟩
        exact out _ (b2.more (by omega))
      | false =>
        refine iteF ?_
        refine ⟨_, rfl, rfl, _, rfl, ?_⟩
        rw [dec_int]
        cases h2 : (way == 2) with
        | true =>
          refine iteT ?_
          refine ⟨_, rfl, _, rfl, _, rfl, _, rfl, zz, ?_⟩
          rw [cut_to]
          have b1 := t1.app tg
          refine ⟨_, rfl, _, _, rfl, rfl, big _ (by have := t1.1; have := tg.1; omega), _, rfl, _, rfl, _, _, rfl, rfl, _, rfl, _, rfl, zz, ?_⟩
          dsimp only
          rw [add1, cut_from]
          have b2 := b1.app t3
          refine ⟨_, _, rfl, rfl, big _ (by have := b1.1; have := t3.1; omega), ?_⟩
          exact out _ (b2.more (by omega))
        | false =>
          refine iteF ?_
          have hcnt := hz.count n10 a10
          have hne := split_ne (z := z) n10 a10
          have hpos : 0 < (Txt.split z "\n").length := List.length_pos_iff.mpr hne
          refine ⟨_, rfl, ⟨_, rfl⟩, _, _, rfl, rfl, rfl, big _ (by omega), fun l nl => ?_⟩
          have e4 : Same H3 (L2.upd H3 l (.lst ((Txt.split z "\n").map V.str))) := Same.upd nl
          have hl4 : (L2.upd H3 l (.lst ((Txt.split z "\n").map V.str))) l = some (.lst ((Txt.split z "\n").map V.str)) := upd_same
          obtain ⟨la, llw, llc⟩ := S3.off nl
          have lk : l ∉ [a, lw] := by simp [la, llw]
          have nlH : ∀ b o, H b = some o → b ∉ [a, lw] → b ≠ l := fun b o eb hb => ne_of_none (K03 _ _ eb hb) nl
          have S4 := S3.same e4
          generalize L2.upd H3 l (.lst ((Txt.split z "\n").map V.str)) = H4 at e4 hl4 S4
          refine ⟨_, rfl, .inl ⟨rfl, _, .inl (.inl hl4)⟩, ?_⟩
          refine ⟨_, rfl, _, rfl, l, _, rfl, .inl (SqL.of hl4), a, lw, lc, _, _, rfl, S4, by omega, by rw [List.length_map]; omega, by rw [List.length_map]; omega, fun i H5 hi0 hi1 S5 K5 => ?_⟩
          have hl5 := K5 _ _ hl4 lk
          refine ⟨_, rfl, .inl ⟨rfl, _, .inl (.inl hl5)⟩, ?_⟩
          refine ⟨_, rfl, _, rfl, l, _, rfl, .inl (SqL.of hl5), a, lw, lc, _, _, rfl, S5, by omega, by rw [List.length_map]; omega, by rw [List.length_map]; omega, fun j H6 hj0 hj1 S6 K6 => ?_⟩
          have hl6 := K6 _ _ hl5 lk
          obtain ⟨jn, rfl⟩ : ∃ n : Nat, j = (n : Int) := ⟨j.toNat, by omega⟩
          obtain ⟨inn, rfl⟩ : ∃ n : Nat, i = (n : Int) := ⟨i.toNat, by omega⟩
          rw [List.length_map] at hi1 hj1
          have hjl : jn < (Txt.split z "\n").length := by omega
          refine ⟨l, _, (jn : Int), jn, .str (Txt.split z "\n")[jn], rfl, rfl, hl6, by omega, by omega, ?_, ?_, ?_⟩
          · rw [List.length_map]
            exact seqIndex_of (by omega) (by omega)
          · rw [List.getElem?_map, List.getElem?_eq_getElem hjl]
            rfl
          · refine ⟨l, _, (inn : Int), _, rfl, rfl, upd_same, ?_, by omega, by omega, ?_⟩
            · rw [List.length_eraseIdx]
              split
              · rw [List.length_map]
                exact Nat.lt_of_lt_of_le (show (Txt.split z "\n").length - 1 < 5000 by omega) (by decide)
              · rw [List.length_map]
                exact Nat.lt_of_lt_of_le (show (Txt.split z "\n").length < 5000 by omega) (by decide)
            · have em : ((Txt.split z "\n").map V.str).eraseIdx jn = ((Txt.split z "\n").eraseIdx jn).map V.str := (by rw [List.eraseIdx_eq_take_drop_succ, List.eraseIdx_eq_take_drop_succ, List.map_append, List.map_take, List.map_drop])
              have ey : (((Txt.split z "\n").map V.str).eraseIdx jn).take (inn : Int).toNat ++ [V.str (Txt.split z "\n")[jn]] ++ (((Txt.split z "\n").map V.str).eraseIdx jn).drop (inn : Int).toNat
                  = ((((Txt.split z "\n").eraseIdx jn).take inn ++ [(Txt.split z "\n")[jn]] ++ ((Txt.split z "\n").eraseIdx jn).drop inn)).map V.str := by
                rw [em, ← List.map_take, ← List.map_drop, List.map_append, List.map_append]
                rfl
              rw [ey, upd_upd]
              have perm : (((Txt.split z "\n").eraseIdx jn).take inn ++ [(Txt.split z "\n")[jn]] ++ ((Txt.split z "\n").eraseIdx jn).drop inn).Perm (Txt.split z "\n") := by
                refine List.Perm.trans ?_ (erase_perm hjl)
                rw [List.append_assoc]
                refine List.perm_middle.trans ?_
                show ((Txt.split z "\n")[jn] :: (((Txt.split z "\n").eraseIdx jn).take inn ++ ((Txt.split z "\n").eraseIdx jn).drop inn)).Perm _
                rw [List.take_append_drop]
              obtain ⟨b1, b2⟩ := join_perm hz perm
              refine ⟨⟨_, rfl⟩, _, rfl, _, l, _, rfl, rfl, .inl (SqL.of upd_same), by omega, ?_⟩
              refine k _ _ (b2.more (by omega)) ((S6.upd la llw llc).more (by omega)) fun b o eb hb => ?_
              rw [upd_ne (nlH b o eb hb)]
              exact K6 _ _ (K5 _ _ (e4 _ _ (K03 _ _ eb hb)) hb) hb
end
end Own
set_option Elab.async false
set_option linter.all false
set_option maxRecDepth 100000
set_option maxHeartbeats 4000000
namespace Own
open PySem PySem.Spec PyProof.Rows L2 LamX
/-! ### what the walk asks of the module, all of it -/
def FNS : List (Str × Stmt) := [("is_whole", sWhole), ("whole_text", sWText), ("whole_of", sWOf), ("is_row", sIsRow), ("is_reckoning", sIsReck), ("need_rows", sNeed), ("reckoning_text", sRText), ("row_of_line", sRow), ("reckoning_of", sReck),
  ("_law_begun", sBegun), ("_law_stirred", sStir), ("_law_draw", sDraw), ("_law_pick", sPick), ("_law_caught", sCaught), ("_law_is_whole", sLWhole), ("_law_is_rows", sLRows), ("_law_drawn_rows", sDrawn), ("_law_written", sWritten), ("_law_whole_of", sLWOf),
  ("_law_first_bad_line", sFirst), ("_law_long_rows", sLong), ("_law_bent", sBent), ("_law_read_right", sRight), ("law", sLaw)]
structure All (P : Program) (K : PySem.W.Frag) (mg : Str → Option Value) (CB CL CR fL : Addr) : Prop where
  t : Txt K mg
  c : Cst K mg
  fns : ∀ x st, (x, st) ∈ FNS → ∃ fd, FnP K x st (He.ga K x) fd
  gl : ∀ x st, (x, st) ∈ FNS → mg x = some (.ref (He.ga K x))
  eB : ExcT K mg "BadRows" CB
  cB : ExcC K CB
  xB : PySem.W.exmOne K (.ref CB) (.ref CR) = some true
  eL : SupX.Has P K mg tBL CL fL
  cL : ExcC K CL
  fLd : XfC K CL
  xL : PySem.W.exmOne K (.ref CL) (.ref CR) = some true
  gR : mg "RulerError" = some (.ref CR)
theorem kit_self {K : PySem.W.Frag} (t : Value) : PySem.W.kitOne K t t = some true := by
  unfold PySem.W.kitOne
  rw [if_pos (beq_self_eq_true t)]
theorem scCaught : FnScope ["_law_action", "_law_found", "error"] ["_law_action"] (defScope sCaught) := ⟨rfl, rfl, rfl, by decide +kernel, rfl, by decide +kernel, by decide +kernel⟩
/-- _law_caught(lambda: body), several tables being kept -/
theorem pe_caught {X : Cx} {k : Nat} {c : Addr} {tb fC CR : Addr} {dC : FuncData} {TT : List (Addr × Str)} {params : Arguments} {body : Expr} {scope : Scope} {t : XK → TE} {p lpos pos : Pos} (FC : FnP X.K "_law_caught" sCaught fC dC) (gC : X.mg "_law_caught" = some (.ref fC)) (hg : Gl X "_law_caught") (gR : X.mg "RulerError" = some (.ref CR))
    (TB : TabB X.base X.mg c tb) (hcode : X.env.code = .ref c) (hm : (tb, X.env.qual ++ "<lambda>") ∈ TT) (hun : ∀ p ∈ TT, p.1 = tb → p.2 = X.env.qual ++ "<lambda>") (hr : Room (k + 2) X.A) {sc : Scope} (hsc : X.env.scope = sc) (L : LamS sc scope) (hdef : defaultsOf params X.env = ([], []))
    (hbind : ∀ (q : Str) (cl : List (Str × Addr)) (pm cv ctv : Value), bindArgs (PySem.W.kla_fn "<lambda>" q params body scope cl pm cv ctv) ⟨[], []⟩ = pure [])
    (hbody : ∀ (A : Around) (outer : List Env) (s : Shared) (H : Hp) (E : XK) (f c' : Addr), Room k (A.deeper (lamEnv X scope s.heap.objs.size f c')) → PE (lamCx X A outer s H E scope f c') body (t E)) :
    PE X (.Call (.Name "_law_caught" p) [.Lambda params body scope lpos] [] pos) (tLam TT (TKeep X.K CR) t) := by
  have bC : Binds X.K dC ["_law_action"] [] := FC.bindsN fun _ _ _ _ _ _ us hl => match us, hl with | [_], _ => rfl
  have kp := FC.kp
  obtain ⟨oc, od, dV, kV, doc, pm, an, cdv, ct, osl, rfl, lk, hcd, hdf, _⟩ := FC.ex
  exact pe_lamcall hg gC kp lk hcd bC scCaught rfl (Or.inl rfl) (keep_gives rfl scCaught.nd rfl rfl rfl gR (by decide) (by decide) (by decide) (by decide) (by decide)) TB hcode hm hun hr (hsc ▸ L) hdef hbind hbody
abbrev qRR : Str := ("_law_read_right" : Str) ++ ".<locals>." ++ "<lambda>"
abbrev qLW : Str := ("law" : Str) ++ ".<locals>." ++ "<lambda>"
/-- both tables -/
abbrev TTs (tr tl : Addr) : List (Addr × Str) := [(tr, qRR), (tl, qLW)]
theorem TTs.r {tr tl : Addr} (hne : tr ≠ tl) : ∀ p ∈ TTs tr tl, p.1 = tr → p.2 = qRR := fun p hp e => by
  have : p = (tr, qRR) ∨ p = (tl, qLW) := by simpa using hp
  rcases this with rfl | rfl
  · rfl
  · exact absurd e.symm hne
theorem TTs.l {tr tl : Addr} (hne : tr ≠ tl) : ∀ p ∈ TTs tr tl, p.1 = tl → p.2 = qLW := fun p hp e => by
  have : p = (tr, qRR) ∨ p = (tl, qLW) := by simpa using hp
  rcases this with rfl | rfl
  · exact absurd e hne
  · rfl
theorem code_is {K : PySem.W.Frag} {x qual : Str} {params : Arguments} {body : List Stmt} {scope : Scope} {f : Addr} {cdv : Value} {d : Str × Option Str} (hf : f = He.fAd K d)
    (h : ∃ (oc : Value) (od : Option Addr) (dV kV doc pm : Value) (an : Option Addr) (ct : Value) (osl : Array (Option Value)), K.lookup f = some ⟨oc, od, .func (PySem.W.fnOf x qual params body scope dV kV doc pm an cdv ct), osl⟩) (hc : PySem.W.codeIn K cdv qual = true) : cdv = .ref (He.codeOf K d) := by
  obtain ⟨oc, od, dV, kV, doc, pm, an, ct, osl, lk⟩ := h
  obtain ⟨c, rfl⟩ := He.codeIn_ref hc
  have e : He.codeOf K d = c := He.codeOf_eq (by rw [← hf]; exact lk) rfl
  rw [e]
end Own
set_option Elab.async false
set_option linter.all false
set_option maxRecDepth 100000
set_option maxHeartbeats 4000000
namespace Own
open PySem PySem.Spec PyProof.Rows L2 LamX PySem.StrLaws
/-! ### the words of a text, its lines' words -/
def sub (l : List Nat) : List Nat := l.map fun c => if c = 10 then 32 else c
theorem repl_sub : ∀ l : List Nat, replL [10] [32] l = sub l
  | [] => replL_nil
  | c :: r => by
    have ih := repl_sub r
    by_cases h : c = 10
    · subst h
      rw [replL_hit (by simp) rfl]
      show [32] ++ replL [10] [32] r = _
      rw [ih]
      rfl
    · rw [replL_miss, ih]
      · show c :: sub r = (if c = 10 then 32 else c) :: sub r
        rw [if_neg h]
      · intro q
        have q2 : [c] = [10] := q
        injection q2 with q3 _
        exact h q3
theorem pre32 (c : Nat) (r : List Nat) : TL.pre [32] (c :: r) = decide (c = 32) := by
  show ((c :: r).take 1 == [32]) = _
  rw [Bool.eq_iff_iff]
  simp
theorem pre10 (c : Nat) (r : List Nat) : TL.pre [10] (c :: r) = decide (c = 10) := by
  show ((c :: r).take 1 == [10]) = _
  rw [Bool.eq_iff_iff]
  simp
theorem spl_app32 : ∀ (x a y : List Nat), TL.spl [32] 0 a (x ++ 32 :: y) = TL.spl [32] 0 a x ++ TL.spl [32] 0 [] y
  | [], a, y => by
    rw [List.nil_append, TL.spl_hit (by rw [pre32]; rfl), TL.spl_nil]
    rfl
  | c :: x, a, y => by
    by_cases h : c = 32
    · subst h
      rw [List.cons_append, TL.spl_hit (by rw [pre32]; rfl), TL.spl_hit (by rw [pre32]; rfl)]
      show a :: TL.spl [32] 0 [] (x ++ 32 :: y) = a :: TL.spl [32] 0 [] x ++ _
      rw [spl_app32 x [] y]
      rfl
    · rw [List.cons_append, TL.spl_miss (by rw [pre32]; exact decide_eq_false h), TL.spl_miss (by rw [pre32]; exact decide_eq_false h)]
      exact spl_app32 x (a ++ [c]) y
theorem words_flat : ∀ (l acc : List Nat), (TL.spl [10] 0 acc l).flatMap (TL.spl [32] 0 []) = TL.spl [32] 0 [] (acc ++ sub l)
  | [], acc => by
    rw [TL.spl_nil]
    show TL.spl [32] 0 [] acc ++ [] = TL.spl [32] 0 [] (acc ++ [])
    rw [List.append_nil, List.append_nil]
  | c :: r, acc => by
    by_cases h : c = 10
    · subst h
      rw [TL.spl_hit (by rw [pre10]; rfl)]
      show TL.spl [32] 0 [] acc ++ (TL.spl [10] 0 [] r).flatMap (TL.spl [32] 0 []) = TL.spl [32] 0 [] (acc ++ 32 :: sub r)
      rw [words_flat r [], spl_app32]
      rfl
    · rw [TL.spl_miss (by rw [pre10]; exact decide_eq_false h), words_flat r (acc ++ [c])]
      show _ = TL.spl [32] 0 [] (acc ++ (if c = 10 then 32 else c) :: sub r)
      rw [if_neg h]
      simp
theorem tl_repl (z : Str) : TL.tl (Txt.replace z "\n" " ") = sub (TL.tl z) := by
  have e := replace_list (x := z) (y := ("\n" : Str)) (z := (" " : Str)) (by decide)
  have e10 : ("\n" : Str).cps.toList = [10] := by decide +kernel
  have e32 : (" " : Str).cps.toList = [32] := by decide +kernel
  rw [e10, e32, repl_sub] at e
  exact e
theorem repl_text {n : Nat} {z : Str} (h : TextB n z) : TextB n (Txt.replace z "\n" " ") := by
  refine ⟨?_, fun c hc => ?_⟩
  · have := h.1
    rw [TL.len_tl] at this ⊢
    rw [tl_repl]
    unfold sub
    rw [List.length_map]
    exact this
  · rw [tl_repl] at hc
    obtain ⟨d, hd, rfl⟩ := List.mem_map.mp hc
    have := h.2 d hd
    split
    · omega
    · exact this
/-- a word of a line is a word of the text -/
theorem word_in {z l w : Str} (hl : l ∈ Txt.split z "\n") (hw : w ∈ Txt.split l " ") : w ∈ Txt.split (Txt.replace z "\n" " ") " " := by
  have t10 : TL.tl ("\n" : Str) = [10] := by decide +kernel
  have t32 : TL.tl (" " : Str) = [32] := by decide +kernel
  have m1 : TL.tl l ∈ TL.spl [10] 0 [] (TL.tl z) := by
    rw [← t10, ← split_tl n10 a10]
    exact List.mem_map_of_mem hl
  have m2 : TL.tl w ∈ TL.spl [32] 0 [] (TL.tl l) := by
    rw [← t32, ← split_tl n32 a32]
    exact List.mem_map_of_mem hw
  have m3 : TL.tl w ∈ TL.spl [32] 0 [] (sub (TL.tl z)) := by
    have e := words_flat (TL.tl z) []
    rw [List.nil_append] at e
    rw [← e]
    exact List.mem_flatMap.mpr ⟨_, m1, m2⟩
  rw [← tl_repl, ← t32, ← split_tl n32 a32] at m3
  obtain ⟨w2, h2, e2⟩ := List.mem_map.mp m3
  rw [← TL.ext_tl e2]
  exact h2
theorem first_bad (os : List (Option RowS)) : ∀ n : Nat, (∀ (j : Nat) o, j < n → os[j]? = some o → itemOk o j = true) ∨ ∃ (i : Nat) (o : Option RowS), os[i]? = some o ∧ itemOk o i = false ∧ ∀ (j : Nat) o', j < i → os[j]? = some o' → itemOk o' j = true
  | 0 => .inl fun j o h => absurd h (Nat.not_lt_zero j)
  | n + 1 => by
    rcases first_bad os n with h | h
    · cases e : os[n]? with
      | none =>
        left
        intro j o hj hjo
        by_cases hjn : j = n
        · subst hjn
          rw [e] at hjo
          cases hjo
        · exact h j o (by omega) hjo
      | some o =>
        cases hb : itemOk o n with
        | false => exact .inr ⟨n, o, e, hb, h⟩
        | true =>
          left
          intro j o' hj hjo
          by_cases hjn : j = n
          · subst hjn
            rw [e] at hjo
            cases hjo
            exact hb
          · exact h j o' (by omega) hjo
    · exact .inr h
theorem bad_or (os : List (Option RowS)) : (∀ (j : Nat) o, os[j]? = some o → itemOk o j = true) ∨ ∃ (i : Nat) (o : Option RowS), os[i]? = some o ∧ itemOk o i = false ∧ ∀ (j : Nat) o', j < i → os[j]? = some o' → itemOk o' j = true := by
  rcases first_bad os os.length with h | h
  · exact .inl fun j o hj => h j o (List.getElem?_eq_some_iff.mp hj).1 hj
  · exact .inr h
/-! ### equal lists of rows -/
def rd (r : RowS) : PyData := .tuple ((rowV r.1 r.2).map fd)
theorem fok_row {r : RowS} (h : fok (.str r.1) = true) : (rowV r.1 r.2).all fok = true := by
  unfold rowV
  rw [List.all_cons, h, fok_ints]
  rfl
theorem dp_rows {K : PySem.W.Frag} {H : Hp} : ∀ {vs : List V} {rows : List RowS}, RowsV H vs rows → (∀ r ∈ rows, fok (.str r.1) = true) → DpAll K H vs (rows.map rd) ∧ PyData.canLayAll0 (rows.map rd) = true ∧ PyData.depthAll (rows.map rd) ≤ 1
  | [], [], _, _ => ⟨.nil, rfl, Nat.zero_le _⟩
  | [], r :: rows, h, _ => by cases h.1
  | v :: vs, [], h, _ => by cases h.1
  | v :: vs, r :: rows, h, hf => by
    obtain ⟨r0, e0, a, rfl, ha⟩ := h.2 0 v rfl
    cases e0
    have tail : RowsV H vs rows := ⟨Nat.succ.inj h.1, fun i v e => h.2 (i + 1) v e⟩
    obtain ⟨d1, d2, d3⟩ := dp_rows (K := K) tail fun x hx => hf x (List.mem_cons_of_mem _ hx)
    obtain ⟨b1, b2, b3⟩ := dp_flat (K := K) (H := H) (fok_row (hf r (List.mem_cons_self ..)))
    refine ⟨.cons (.tup (SqT.of ha) b1) d1, ?_, ?_⟩
    · show (PyData.canLayAll0 ((rowV r.1 r.2).map fd) && PyData.canLayAll0 (rows.map rd)) = true
      rw [b2, d2]
      rfl
    · show max (PyData.depthAll ((rowV r.1 r.2).map fd) + 1) (PyData.depthAll (rows.map rd)) ≤ 1
      rw [b3]
      omega
theorem rows_eq {K : PySem.W.Frag} {H : Hp} {a b : Addr} {vs us : List V} {rows : List RowS} (ha : SqL K H a vs) (hb : SqL K H b us) (hv : RowsV H vs rows) (hu : RowsV H us rows) (hf : ∀ r ∈ rows, fok (.str r.1) = true) :
    ∃ d e, Dp K H (.ref a) d ∧ Dp K H (.ref b) e ∧ SeqAt.shaped d = true ∧ SeqAt.shaped e = true ∧ PyData.eqv d e = true := by
  obtain ⟨d1, d2, d3⟩ := dp_rows (K := K) hv hf
  obtain ⟨e1, _, _⟩ := dp_rows (K := K) hu hf
  have sh : SeqAt.shaped (.list (rows.map rd)) = true := by
    show (PyData.canLayAll0 (rows.map rd) && decide (PyData.depthAll (rows.map rd) + 1 ≤ 64)) = true
    rw [d2, decide_eq_true (by omega)]
    rfl
  exact ⟨_, _, .lst ha d1, .lst hb e1, sh, sh, SeqAt.eqv_refl _ d2⟩
end Own
set_option Elab.async false
set_option linter.all false
set_option maxRecDepth 100000
set_option maxHeartbeats 400000
namespace Own
open PySem PySem.Spec PyProof.Rows L2 LamX
def spRight (tr tl : Addr) : Sp := fun vs H Q _ => ∃ z, vs = [.str z] ∧ TextB 5000 z ∧ Tabs (TTs tr tl) H ∧ ∀ H', ExtN H H' → Tabs (TTs tr tl) H' → Q (.bl true) H'
def rrScope : Scope := match (defBody sRight).getD 0 (.Pass ⟨0, 0, 0, 0⟩) with
  | .If (.Compare (.ListComp _ _ sc _) _ _ _) _ _ _ => sc
  | _ => default
section
variable {P : Program} {w : World} {K : PySem.W.Frag} {mg : Str → Option Value} {base : Heap} {CB CL CR fL : Addr}
abbrev nsRight : List Str := ["_law_text", "_law_rows", "_law_bad", "_law_caught_here", "_law_word"]
theorem scRight : FnScope nsRight ["_law_text"] (defScope sRight) := ⟨rfl, rfl, rfl, by decide +kernel, rfl, by decide +kernel, by decide +kernel⟩
theorem ok_right {fd2 : FuncData} (F : FnP K "_law_read_right" sRight (He.ga K "_law_read_right") fd2) (hf : He.ga K "_law_read_right" = He.fAd K ("_law_read_right", none)) (Z : All P K mg CB CL CR fL) {tr tl : Addr} (hne : tr ≠ tl) (TB : TabB base mg (He.codeOf K ("_law_read_right", none)) tr) :
    FnOkT P w K mg base CX0 8 (He.ga K "_law_read_right") fd2 ["_law_text"] (spRight tr tl) := by
  have T := Z.t
  obtain ⟨dF, FF⟩ := Z.fns "_law_first_bad_line" sFirst (by simp [FNS])
  obtain ⟨dO, FO⟩ := Z.fns "_law_whole_of" sLWOf (by simp [FNS])
  obtain ⟨dLR, FLR⟩ := Z.fns "_law_is_rows" sLRows (by simp [FNS])
  obtain ⟨dLW, FLW⟩ := Z.fns "_law_is_whole" sLWhole (by simp [FNS])
  obtain ⟨dRo, FRo⟩ := Z.fns "reckoning_of" sReck (by simp [FNS])
  obtain ⟨dRl, FRl⟩ := Z.fns "row_of_line" sRow (by simp [FNS])
  obtain ⟨dWo, FWo⟩ := Z.fns "whole_of" sWOf (by simp [FNS])
  obtain ⟨dIr, FIr⟩ := Z.fns "is_row" sIsRow (by simp [FNS])
  obtain ⟨dW, FW⟩ := Z.fns "is_whole" sWhole (by simp [FNS])
  obtain ⟨dC, FC⟩ := Z.fns "_law_caught" sCaught (by simp [FNS])
  have gl := Z.gl
  have GF : FnOk P w K mg base CX0 3 _ dF ["_law_text"] spFirst := ok_first FF FO FLR FLW T (gl _ sLWhole (by simp [FNS])) (gl _ sLRows (by simp [FNS])) (gl _ sLWOf (by simp [FNS]))
  have bF : Binds K dF ["_law_text"] [] := FF.bindsN fun _ _ _ _ _ _ us hl => match us, hl with | [_], _ => rfl
  have GRo : FnOk P w K mg base (L2.CX P w) 5 _ dRo ["text"] (spReckOf K CL) := ok_reckof FRo FRl FWo FIr FW T Z.c (gl _ sWhole (by simp [FNS])) (gl _ sWOf (by simp [FNS])) (gl _ sIsRow (by simp [FNS])) (gl _ sRow (by simp [FNS])) Z.eL
  have bRo : Binds K dRo ["text"] [] := FRo.bindsN fun _ _ _ _ _ _ us hl => match us, hl with | [_], _ => rfl
  have GLW : FnOk P w K mg base CX0 1 _ dLW ["_law_value"] (spWhole K) := ok_lwhole FLW T
  have bLW : Binds K dLW ["_law_value"] [] := FLW.bindsN fun _ _ _ _ _ _ us hl => match us, hl with | [_], _ => rfl
  have gF := gl "_law_first_bad_line" sFirst (by simp [FNS])
  have gRo := gl "reckoning_of" sReck (by simp [FNS])
  have gLW := gl "_law_is_whole" sLWhole (by simp [FNS])
  have gC := gl "_law_caught" sCaught (by simp [FNS])
  refine FunD.okT F scRight (fun vs H Q E h => ?_) (fun cdv A outer s H vs Q E hlk hcd hr h => ?_)
  · obtain ⟨z, rfl, _⟩ := h
    rfl
  · have ec := code_is hf hlk hcd
    subst ec
    obtain ⟨z, rfl, hz, hT, k⟩ := h
    have hr1 : Room 1 (A.deeper (envOfC "_law_read_right" (defScope sRight) s.heap.objs.size (He.ga K "_law_read_right") (.ref (He.codeOf K ("_law_read_right", none))))) := hr.mono (by decide)
    have hr3 : Room 3 (A.deeper (envOfC "_law_read_right" (defScope sRight) s.heap.objs.size (He.ga K "_law_read_right") (.ref (He.codeOf K ("_law_read_right", none))))) := hr.mono (by decide)
    have hr5 : Room 5 (A.deeper (envOfC "_law_read_right" (defScope sRight) s.heap.objs.size (He.ga K "_law_read_right") (.ref (He.codeOf K ("_law_read_right", none))))) := hr.mono (by decide)
    refine ⟨_, psst_cons (pst_ifT (ptt_long hr.units rfl (pet_splitC (CwR.pet_replC (pv 0))) T.len (by decide +kernel) (by decide +kernel) (by rfl) (by decide +kernel) (by decide +kernel) (by decide +kernel) (by decide +kernel)) (PSsT.of (pss_one (ps_ret pe_bl))) (PSsT.of pss_nil))
      (PSsT.of (PSs.nox (pss_cons (ps_asg (pe_call GF hr3 (by rfl) gF FF.kp bF .nil pass0 (pa_cons (pv 0) pa_nil)) (pg_tup rfl (pgs_cons (pg_name (i := 1) scRight.nd rfl (Or.inl rfl)) (pgs_cons (pg_name (i := 2) scRight.nd rfl (Or.inl rfl)) pgs_nil))))
      (pss_cons (ps_if (pt_cmpR op_isN (pv 2) pe_non (nomark _)) (pss_one (ps_ret (pe_cmpR (op_eqD hr.units) (pe_call GRo hr5 (by rfl) gRo FRo.kp bRo .nil passL (pa_cons (pv 0) pa_nil)) (pv 1) (nomark _)))) pss_nil)
      (pss_cons (ps_set (i := 3) scRight.nd rfl (.inl rfl) (pe_caught (k := 5) FC gC (by rfl) Z.gR TB rfl List.mem_cons_self (TTs.r hne) hr (sc := defScope sRight) rfl (lamS_by (by decide +kernel)) rfl (fun _ _ _ _ _ => rfl)
          (fun A' outer' s' H' E' f' c' hrr => pe_call GRo hrr (by rfl) gRo FRo.kp bRo .nil (passes_call (takes_of rfl rfl rfl rfl) fun _ _ _ _ h => h) (pa_cons (pv 0) pa_nil))))
      (pss_one (ps_ret (pe_and (pe_callB call_isD (by rfl) T.isi boot_isinstance (pa_cons (pv 3) (pa_cons (pe_glob (v := .ref CL) (by rfl) Z.eL.gC rfl) pa_nil)))
        (pe_and (pe_cmpR op_eq (pe_kf (pv 3)) (pv 2) (nomark _)) (pe_one (pe_call GLW hr1 (by rfl) gLW FLW.kp bLW .nil pass0 (pa_cons (pe_kf (pv 3)) pa_nil)))))))))))), ?_⟩
    have hrp := repl_text hz
    have zl := hz.1
    refine ⟨_, rfl, z, rfl, ?_, _, rfl, rfl, ?_, fun p np => ?_⟩
    · have e1 : (" " : Str).length = 1 := rfl
      rw [e1]
      omega
    · have := hrp.1
      exact Nat.le_trans (show _ ≤ 6000 by omega) (by decide)
    refine ⟨p, _, rfl, upd_same, fun y hy => ?_, ?_⟩
    · have b := hrp.part n32 a32 hy
      exact ⟨Nat.le_trans b.1 (by decide), b.fok⟩
    have e1 : Same H (L2.upd H p (.lst ((Txt.split (Txt.replace z "\n" " ") " ").map V.str))) := Same.upd np
    generalize L2.upd H p (.lst ((Txt.split (Txt.replace z "\n" " ") " ").map V.str)) = H1 at e1
    have T1 := hT.ext e1
    cases hlong : (Txt.split (Txt.replace z "\n" " ") " ").any fun y => decide ((30 : Int) < (y.length : Int)) with
    | true => exact iteT (k H1 (ExtN.of e1) T1)
    | false =>
    have hw : ∀ l ∈ Txt.split z "\n", ∀ w ∈ Txt.split l " ", w.length ≤ 30 := fun l hl w hw => by
      have m := word_in hl hw
      rw [List.any_eq_false] at hlong
      have := hlong w m
      simp at this
      omega
    refine iteF ?_
    rcases bad_or (osOf z) with ok | ⟨i, o, hio, hbo, hlt⟩
    · refine ⟨_, rfl, z, rfl, hz, hw, (fun i o h1 h2 _ => by rw [ok i o h1] at h2; cases h2), fun _ t l vs rows H2 ht hl hos hR hfk e2 => ?_⟩
      refine ⟨t, _, rfl, SqT.of ht, rfl, _, _, rfl, _, _, rfl, rfl, ?_⟩
      refine ⟨_, rfl, rfl, _, rfl, ?_⟩
      rw [decide_eq_true rfl]
      refine iteT ?_
      refine ⟨_, rfl, .str z, rfl, .inr ⟨z, rfl, hz, hw, (fun i o h1 h2 _ => by rw [ok i o h1] at h2; cases h2), fun _ l3 vs3 rows3 H3 _ hl3 hos3 hR3 e3 => ?_⟩⟩
      have er : rows3 = rows := by
        have : rows3.map some = rows.map some := hos3.symm.trans hos
        exact (List.map_inj_right (fun _ _ h => Option.some.inj h)).mp this
      subst er
      obtain ⟨d, e, q1, q2, q3, q4, q5⟩ := rows_eq (K := K) (SqL.of hl3) (SqL.of (e3 _ _ hl)) hR3 (hR.same e3) fun r hr => (hfk r hr).1
      refine ⟨_, rfl, d, e, q1, q2, q3, q4, ?_⟩
      rw [q5]
      exact k H3 (ExtN.of ((e1.trans e2).trans e3)) (T1.ext (e2.trans e3))
    · have nok : ¬ (∀ (j : Nat) o, (osOf z)[j]? = some o → itemOk o j = true) := fun h => by
        rw [h i o hio] at hbo
        cases hbo
      refine ⟨_, rfl, z, rfl, hz, hw, fun i2 o2 h1 h2 h3 t l H2 ht e2 => ?_, fun h => absurd h nok⟩
      have ei : i2 = i := by
        by_cases c1 : i2 < i
        · rw [hlt i2 o2 c1 h1] at h2
          cases h2
        · by_cases c2 : i < i2
          · rw [h3 i o c2 hio] at hbo
            cases hbo
          · omega
      subst ei
      refine ⟨t, _, rfl, SqT.of ht, rfl, _, _, rfl, _, _, rfl, rfl, ?_⟩
      refine ⟨_, rfl, rfl, _, rfl, ?_⟩
      rw [decide_eq_false (fun z => by cases z)]
      refine iteF ?_
      have T2 := T1.ext e2
      refine ⟨T2, fun H3 e3 T3 => ?_⟩
      refine ⟨_, rfl, .str z, rfl, .inr ⟨z, rfl, hz, hw, fun i4 o4 g1 g2 g3 d H4 hd e4 => ?_, fun h => absurd h nok⟩⟩
      have ei4 : i4 = i2 := by
        by_cases c1 : i4 < i2
        · rw [hlt i4 o4 c1 g1] at g2
          cases g2
        · by_cases c2 : i2 < i4
          · rw [g3 i2 o c2 hio] at hbo
            cases hbo
          · omega
      subst ei4
      refine ⟨true, Z.xL, fun _ ea na => ?_, fun z => by cases z⟩
      have e5 : Same H4 (L2.upd H4 ea (Caught (.ref CL) (some d) ea)) := Same.upd na
      have hea : (L2.upd H4 ea (Caught (.ref CL) (some d) ea)) ea = some (Caught (.ref CL) (some d) ea) := upd_same
      have hd5 := e5 _ _ hd
      generalize L2.upd H4 ea (Caught (.ref CL) (some d) ea) = H5 at e5 hea hd5
      have lk : List.lookup ("at" : Str) [(("at" : Str), V.int (i4 : Nat))] = some (.int (i4 : Nat)) := by simp [List.lookup]
      refine ⟨_, rfl, ea, CL, d, _, .ref CL, .ref CL, true, rfl, hea, hd5, Z.cL, .own CL, kit_self _, _, rfl, ?_⟩
      refine iteT ?_
      refine ⟨_, rfl, ea, CL, d, _, _, rfl, hea, Z.fLd, Z.eL.noN, hd5, lk, _, rfl, rfl, _, rfl, ?_⟩
      rw [decide_eq_true rfl]
      refine iteT ?_
      refine ⟨_, rfl, ea, CL, d, _, _, rfl, hea, Z.fLd, Z.eL.noN, hd5, lk, .int (i4 : Nat), true, false, rfl, Kind.int _, ?_⟩
      exact k H5 (((ExtN.of (e1.trans e2)).trans e3).trans (ExtN.of (e4.trans e5))) ((T3.ext e4).ext e5)
end
end Own
set_option Elab.async false
set_option linter.all false
set_option maxRecDepth 100000
set_option maxHeartbeats 400000
namespace Own
open PySem PySem.Spec PyProof.Rows L2 LamX
/-! ### reading back what was written -/
theorem words_free : ∀ w ∈ (("fraction" : Str) :: "root" :: PAIR), 32 ∉ TL.tl w ∧ 10 ∉ TL.tl w ∧ ∀ c ∈ TL.tl w, c < 1114112 := by decide +kernel
theorem t10 : TL.tl ("\n" : Str) = [10] := by decide +kernel
theorem t32 : TL.tl (" " : Str) = [32] := by decide +kernel
theorem parts_free {r : RowS} (h : r.1 ∈ (("fraction" : Str) :: "root" :: PAIR)) {s : Nat} (hs : s = 32 ∨ s = 10) : ∀ p ∈ partsS r, s ∉ TL.tl p := by
  intro p hp
  rcases List.mem_cons.mp hp with rfl | hp
  · have := words_free _ h
    rcases hs with rfl | rfl
    · exact this.1
    · exact this.2.1
  · obtain ⟨z, _, rfl⟩ := List.mem_map.mp hp
    rw [tl_sg]
    exact intL_free (by omega)
theorem lineL_free {r : RowS} (h : r.1 ∈ (("fraction" : Str) :: "root" :: PAIR)) : 10 ∉ lineL r := fun m => by
  have e : lineL r = TL.joinL [32] ((partsS r).map TL.tl) := by
    have := congrArg TL.tl (join_parts r)
    rw [tl_joinS, t32] at this
    exact this.symm
  rw [e] at m
  rcases joinL_mem 32 m with q | ⟨p, hp, hc⟩
  · omega
  · obtain ⟨x, hx, rfl⟩ := List.mem_map.mp hp
    exact parts_free h (.inr rfl) x hx hc
theorem split_line {r : RowS} (h : r.1 ∈ (("fraction" : Str) :: "root" :: PAIR)) : Txt.split (sg (lineL r)) " " = partsS r := by
  rw [← join_parts]
  exact TL.split_join t32 a32 (by simp [partsS]) (parts_free h (.inl rfl))
theorem split_text {rows : List RowS} (hne : rows ≠ []) (h : ∀ r ∈ rows, r.1 ∈ (("fraction" : Str) :: "root" :: PAIR)) : Txt.split (sg (textL rows)) "\n" = rows.map fun r => sg (lineL r) := by
  rw [← join_lines]
  refine TL.split_join t10 a10 (by simpa using hne) fun p hp => ?_
  obtain ⟨r, hr, rfl⟩ := List.mem_map.mp hp
  rw [tl_sg]
  exact lineL_free (h r hr)
theorem parseAll_ints : ∀ is : List Int, parseAll (is.map fun z => sg (intL z)) = some is
  | [] => rfl
  | z :: r => by
    have ih := parseAll_ints r
    show parseAll (sg (intL z) :: r.map fun z => sg (intL z)) = _
    unfold parseAll
    rw [ih, tl_sg, parse_intL]
theorem rowOf_line {r : RowS} (h : r.1 ∈ (("fraction" : Str) :: "root" :: PAIR)) : rowOf (sg (lineL r)) = some r := by
  have e := split_line h
  have e2 : (parseAll (r.2.map fun z => sg (intL z))).map (fun is => ((r.1, is) : RowS)) = some r := by rw [parseAll_ints]; rfl
  unfold rowOf
  rw [e]
  exact e2
theorem osOf_text {rows : List RowS} (hne : rows ≠ []) (h : ∀ r ∈ rows, r.1 ∈ (("fraction" : Str) :: "root" :: PAIR)) : osOf (sg (textL rows)) = rows.map some := by
  unfold osOf
  rw [split_text hne h, List.map_map]
  exact List.map_congr_left fun r hr => rowOf_line (h r hr)
theorem intL_30 {z : Int} (h : z.natAbs < 2 ^ 90) : (intL z).length ≤ 30 := by
  have k : (TL.numL z.natAbs).length ≤ 28 := TL.numL_len (by decide) (Nat.lt_of_lt_of_le h (by decide +kernel))
  unfold intL
  split
  · rw [List.length_cons]
    omega
  · omega
theorem words_30 {rows : List RowS} (hne : rows ≠ []) (h : ∀ r ∈ rows, r.1 ∈ (("fraction" : Str) :: "root" :: PAIR) ∧ RowB r) : ∀ l ∈ Txt.split (sg (textL rows)) "\n", ∀ w ∈ Txt.split l " ", w.length ≤ 30 := by
  intro l hl w hw
  rw [split_text hne fun r hr => (h r hr).1] at hl
  obtain ⟨r, hr, rfl⟩ := List.mem_map.mp hl
  rw [split_line (h r hr).1] at hw
  rcases List.mem_cons.mp hw with rfl | hw
  · exact Nat.le_trans (h r hr).2.1 (by decide)
  · obtain ⟨z, hz, rfl⟩ := List.mem_map.mp hw
    rw [sg_len]
    exact intL_30 ((h r hr).2.2.2 z hz)
theorem text_bound {rows : List RowS} (hl : rows.length ≤ 10) (h : ∀ r ∈ rows, r.1 ∈ (("fraction" : Str) :: "root" :: PAIR) ∧ RowB r) : TextB 2500 (sg (textL rows)) := by
  refine ⟨?_, fun c hc => ?_⟩
  · rw [sg_len]
    unfold textL
    have k := joinL_len 10 (rows.map lineL)
    have k2 := sum_bound (c := 200) (l := (rows.map lineL).map List.length) fun x hx => by
      rw [List.map_map, List.mem_map] at hx
      obtain ⟨r, hr, rfl⟩ := hx
      exact lineL_len (h r hr).2
    rw [List.length_map, List.length_map] at k2
    rw [List.length_map] at k
    have : rows.length * 200 ≤ 2000 := by omega
    omega
  · rw [tl_sg] at hc
    rcases joinL_mem 10 hc with q | ⟨p, hp, hcp⟩
    · omega
    · obtain ⟨r, hr, rfl⟩ := List.mem_map.mp hp
      have e : lineL r = TL.joinL [32] ((partsS r).map TL.tl) := by
        have := congrArg TL.tl (join_parts r)
        rw [tl_joinS, t32] at this
        exact this.symm
      rw [e] at hcp
      rcases joinL_mem 32 hcp with q | ⟨p, hp, hc2⟩
      · omega
      · obtain ⟨x, hx, rfl⟩ := List.mem_map.mp hp
        rcases List.mem_cons.mp hx with rfl | hx
        · exact (words_free _ (h r hr).1).2.2 c hc2
        · obtain ⟨z, _, rfl⟩ := List.mem_map.mp hx
          rw [tl_sg] at hc2
          by_cases hlt : c < 45 ∨ 57 < c
          · exact absurd hc2 (intL_free hlt)
          · omega
theorem reck_ok {rows : List RowS} (hne : rows ≠ []) (h : RowsG rows) : reckOk (rows.map some) = true := by
  unfold reckOk
  have e1 : (rows.map some).isEmpty = false := by
    cases rows with
    | nil => exact absurd rfl hne
    | cons _ _ => rfl
  rw [e1, Bool.not_false, Bool.true_and, List.all_eq_true]
  rintro ⟨x, j⟩ hx
  rw [List.mem_zipIdx_iff_getElem?] at hx
  rw [List.getElem?_map] at hx
  cases e : rows[j]? with
  | none => rw [e] at hx; cases hx
  | some y =>
    rw [e] at hx
    have hx2 : some y = x := by simpa using hx
    show itemOk x j = true
    rw [← hx2]
    exact (h j y e).1
theorem os_ok {rows : List RowS} (h : RowsG rows) : ∀ (j : Nat) o, (rows.map some)[j]? = some o → itemOk o j = true := by
  intro j o e
  rw [List.getElem?_map] at e
  cases q : rows[j]? with
  | none => rw [q] at e; cases e
  | some y =>
    rw [q] at e
    cases e
    exact (h j y q).1
theorem PSsT.nox {X : Cx} {st : List Stmt} {t : TS} (h : PSsT X.nox st t) : PSsT X st t := fun pins s σ H D h0 I hw =>
  wpAny_mono (h pins s σ H D h0 (I.wish _) hw) (fun _ _ q => q.unwish) fun _ _ z => False.elim z
theorem StA.extN {H H' : Hp} {a lw lc : Addr} {t : Nat} (S : StA H a lw lc t) (e : ExtN H H') : StA H' a lw lc t := by
  obtain ⟨⟨ws, cs, r, u, h1, h2, h3, h4⟩, ne⟩ := S
  exact ⟨⟨ws, cs, r, u, e _ _ h1 (fun _ q => by cases q), e _ _ h2 (fun _ q => by cases q), e _ _ h3 (fun _ q => by cases q), h4⟩, ne⟩
theorem Tabs.kp {TT : List (Addr × Str)} {H H' : Hp} {a lw lc : Addr} {t : Nat} (T : Tabs TT H) (S : StA H a lw lc t) (k : Kp [a, lw] H H') : Tabs TT H' := by
  obtain ⟨⟨ws, cs, r, u, g1, g2, _⟩, _⟩ := S
  intro p hp
  obtain ⟨ps, h1, h2, h3⟩ := T p hp
  have off : ∀ {b : Addr} {o : HO}, H b = some o → (∀ kvs, o ≠ .dK kvs) → (∀ xs, o ≠ .lst xs) → b ∉ [a, lw] := fun {b o} hb n1 n2 => by
    have q1 : b ≠ a := ne_of hb g1 (n1 _)
    have q2 : b ≠ lw := ne_of hb g2 (n2 _)
    simp [q1, q2]
  refine ⟨ps, k _ _ h1 (off h1 (fun _ z => by cases z) (fun _ z => by cases z)), h2, fun pos cv hc => ?_⟩
  obtain ⟨c, e1, e2⟩ := h3 pos cv hc
  exact ⟨c, e1, k _ _ e2 (off e2 (fun _ z => by cases z) (fun _ z => by cases z))⟩
end Own
set_option Elab.async false
set_option linter.all false
set_option maxRecDepth 100000
set_option maxHeartbeats 1000000
namespace Own
open PySem PySem.Spec PyProof.Rows L2 LamX
/-- the odd values -/
inductive OddR (H : Hp) : V → Prop
  | non : OddR H .non
  | int (z : Int) : OddR H (.int z)
  | bl (b : Bool) : OddR H (.bl b)
  | nil {a : Addr} (h : H a = some (.lst [])) : OddR H (.ref a)
  | one {a : Addr} {z : Str} (h : H a = some (.lst [.str z])) : OddR H (.ref a)
  | dict {a : Addr} {kvs : List (Key × V)} (h : H a = some (.dK kvs)) : OddR H (.ref a)
  | tup {a : Addr} {z : Str} {i j : Int} (h : H a = some (.tup [.str z, .int i, .int j])) : OddR H (.ref a)
theorem OddR.ext {H H' : Hp} (e : ExtN H H') {x : V} (h : OddR H x) : OddR H' x := by
  cases h with
  | non => exact .non
  | int z => exact .int z
  | bl b => exact .bl b
  | nil h => exact .nil (e _ _ h fun _ q => by cases q)
  | one h => exact .one (e _ _ h fun _ q => by cases q)
  | dict h => exact .dict (e _ _ h fun _ q => by cases q)
  | tup h => exact .tup (e _ _ h fun _ q => by cases q)
theorem OddR.kp {H0 H H' : Hp} {a lw : Addr} {x : V} (h : OddR H x) (n : ∀ r, x = .ref r → H0 r = none) (ha : H0 a ≠ none) (hw : H0 lw ≠ none) (K' : Kp [a, lw] H H') : OddR H' x := by
  have go : ∀ {r : Addr} {o : HO}, H0 r = none → H r = some o → H' r = some o := fun {r o} hr ho => K' r o ho (by
    intro m
    rcases List.mem_cons.mp m with e | m
    · exact ha (e ▸ hr)
    · exact hw (List.mem_singleton.mp m ▸ hr))
  cases h with
  | non => exact .non
  | int z => exact .int z
  | bl b => exact .bl b
  | nil h => exact .nil (go (n _ rfl) h)
  | one h => exact .one (go (n _ rfl) h)
  | dict h => exact .dict (go (n _ rfl) h)
  | tup h => exact .tup (go (n _ rfl) h)
theorem OddR.noStr {K : PySem.W.Frag} {H : Hp} {x : V} (h : OddR H x) : ∃ t : String, TyX K H x (.type t) ∧ kitB t "str" = some false := by
  cases h with
  | non => exact ⟨"NoneType", .base .non, by decide +kernel⟩
  | int z => exact ⟨"int", .base (.int z), by decide +kernel⟩
  | bl b => exact ⟨"bool", .base (.bl b), by decide +kernel⟩
  | nil h => exact ⟨"list", .base (.lst h), by decide +kernel⟩
  | one h => exact ⟨"list", .base (.lst h), by decide +kernel⟩
  | dict h => exact ⟨"dict", .base (.dK h), by decide +kernel⟩
  | tup h => exact ⟨"tuple", .base (.tup h), by decide +kernel⟩
theorem OddR.bad {K : PySem.W.Frag} {H : Hp} {x : V} (h : OddR H x) : (∃ t : String, TyX K H x (.type t) ∧ kitB t "list" = some false ∧ kitB t "tuple" = some false) ∨
    ∃ a vs os, x = .ref a ∧ (H a = some (.lst vs) ∨ H a = some (.tup vs)) ∧ ItemsV H vs os ∧ vs.length ≤ 10000 ∧ reckOk os = false := by
  cases h with
  | non => exact .inl ⟨"NoneType", .base .non, by decide +kernel, by decide +kernel⟩
  | int z => exact .inl ⟨"int", .base (.int z), by decide +kernel, by decide +kernel⟩
  | bl b => exact .inl ⟨"bool", .base (.bl b), by decide +kernel, by decide +kernel⟩
  | dict h => exact .inl ⟨"dict", .base (.dK h), by decide +kernel, by decide +kernel⟩
  | nil h => exact .inr ⟨_, [], [], rfl, .inl h, ⟨rfl, fun i v e => by simp at e⟩, by decide, rfl⟩
  | one h =>
    refine .inr ⟨_, _, [none], rfl, .inl h, ⟨rfl, fun i v e => ?_⟩, by show 1 ≤ 10000; decide, rfl⟩
    match i, e with
    | 0, e => cases e; exact ⟨none, rfl, .inl ⟨_, rfl⟩⟩
    | i + 1, e => simp at e
  | tup h =>
    refine .inr ⟨_, _, [none, none, none], rfl, .inr h, ⟨rfl, fun i v e => ?_⟩, by show 3 ≤ 10000; decide, rfl⟩
    match i, e with
    | 0, e => cases e; exact ⟨none, rfl, .inl ⟨_, rfl⟩⟩
    | 1, e => cases e; exact ⟨none, rfl, .inr ⟨_, rfl⟩⟩
    | 2, e => cases e; exact ⟨none, rfl, .inr ⟨_, rfl⟩⟩
    | i + 3, e => simp at e
def spLaw (K : PySem.W.Frag) (tr tl : Addr) : Sp := fun vs H Q _ => ∃ (a : Addr) (ns : List Int), vs = [.ref a] ∧ SqL K H a (ns.map V.int) ∧ ns.length ≤ 63 ∧ H tr = some (.tbl #[]) ∧ H tl = some (.tbl #[]) ∧ ∀ H', Q (.bl true) H'
section
variable {P : Program} {w : World} {K : PySem.W.Frag} {mg : Str → Option Value} {base : Heap} {CB CL CR fL : Addr}
abbrev nsLaw : List Str := ["_law_script", "_law_state", "_law_turn", "_law_rows", "_law_text", "_law_step", "_law_bent_here", "_law_odd", "_law_caught_here"]
theorem scLaw : FnScope nsLaw ["_law_script"] (defScope sLaw) := ⟨rfl, rfl, rfl, by decide +kernel, rfl, by decide +kernel, by decide +kernel⟩
theorem ok_law {fd2 : FuncData} (F : FnP K "law" sLaw (He.ga K "law") fd2) (hf : He.ga K "law" = He.fAd K ("law", none)) (hfr : He.ga K "_law_read_right" = He.fAd K ("_law_read_right", none)) (Z : All P K mg CB CL CR fL) {tr tl : Addr} (hne : tr ≠ tl)
    (TR : TabB base mg (He.codeOf K ("_law_read_right", none)) tr) (TBL : TabB base mg (He.codeOf K ("law", none)) tl) : FnOk P w K mg base CX0 10 (He.ga K "law") fd2 ["_law_script"] (spLaw K tr tl) := by
  have T := Z.t
  have gl := Z.gl
  obtain ⟨dB, FB⟩ := Z.fns "_law_begun" sBegun (by simp [FNS])
  obtain ⟨dSt, FSt⟩ := Z.fns "_law_stirred" sStir (by simp [FNS])
  obtain ⟨dD, FD⟩ := Z.fns "_law_draw" sDraw (by simp [FNS])
  obtain ⟨dP, FP⟩ := Z.fns "_law_pick" sPick (by simp [FNS])
  obtain ⟨dC, FC⟩ := Z.fns "_law_caught" sCaught (by simp [FNS])
  obtain ⟨dDr, FDr⟩ := Z.fns "_law_drawn_rows" sDrawn (by simp [FNS])
  obtain ⟨dLg, FLg⟩ := Z.fns "_law_long_rows" sLong (by simp [FNS])
  obtain ⟨dWr, FWr⟩ := Z.fns "_law_written" sWritten (by simp [FNS])
  obtain ⟨dBe, FBe⟩ := Z.fns "_law_bent" sBent (by simp [FNS])
  obtain ⟨dRr, FRr⟩ := Z.fns "_law_read_right" sRight (by simp [FNS])
  obtain ⟨dRo, FRo⟩ := Z.fns "reckoning_of" sReck (by simp [FNS])
  obtain ⟨dRl, FRl⟩ := Z.fns "row_of_line" sRow (by simp [FNS])
  obtain ⟨dWo, FWo⟩ := Z.fns "whole_of" sWOf (by simp [FNS])
  obtain ⟨dIr, FIr⟩ := Z.fns "is_row" sIsRow (by simp [FNS])
  obtain ⟨dW, FW⟩ := Z.fns "is_whole" sWhole (by simp [FNS])
  obtain ⟨dRt, FRt⟩ := Z.fns "reckoning_text" sRText (by simp [FNS])
  obtain ⟨dNr, FNr⟩ := Z.fns "need_rows" sNeed (by simp [FNS])
  obtain ⟨dIg, FIg⟩ := Z.fns "is_reckoning" sIsReck (by simp [FNS])
  obtain ⟨dWt, FWt⟩ := Z.fns "whole_text" sWText (by simp [FNS])
  have gB := gl "_law_begun" sBegun (by simp [FNS])
  have gSt := gl "_law_stirred" sStir (by simp [FNS])
  have gD := gl "_law_draw" sDraw (by simp [FNS])
  have gP := gl "_law_pick" sPick (by simp [FNS])
  have gC := gl "_law_caught" sCaught (by simp [FNS])
  have gDr := gl "_law_drawn_rows" sDrawn (by simp [FNS])
  have gLg := gl "_law_long_rows" sLong (by simp [FNS])
  have gWr := gl "_law_written" sWritten (by simp [FNS])
  have gBe := gl "_law_bent" sBent (by simp [FNS])
  have gRr := gl "_law_read_right" sRight (by simp [FNS])
  have gRo := gl "reckoning_of" sReck (by simp [FNS])
  have gRl := gl "row_of_line" sRow (by simp [FNS])
  have gWo := gl "whole_of" sWOf (by simp [FNS])
  have gIr := gl "is_row" sIsRow (by simp [FNS])
  have gW := gl "is_whole" sWhole (by simp [FNS])
  have gRt := gl "reckoning_text" sRText (by simp [FNS])
  have gNr := gl "need_rows" sNeed (by simp [FNS])
  have gIg := gl "is_reckoning" sIsReck (by simp [FNS])
  have gWt := gl "whole_text" sWText (by simp [FNS])
  have GB : FnOk P w K mg base CX0 1 _ dB ["_law_script"] (spBegun K) := ok_begun FB T
  have bB : Binds K dB ["_law_script"] [] := FB.bindsN fun _ _ _ _ _ _ us hl => match us, hl with | [_], _ => rfl
  have GLg : FnOk P w K mg base CX0 5 _ dLg ["_law_state"] spLong := ok_long FLg FDr FP FD FSt gDr gP gD gSt T
  have bLg : Binds K dLg ["_law_state"] [] := FLg.bindsN fun _ _ _ _ _ _ us hl => match us, hl with | [_], _ => rfl
  have GWr : FnOk P w K mg base CX0 1 _ dWr ["_law_rows"] spWritten := ok_written FWr T
  have bWr : Binds K dWr ["_law_rows"] [] := FWr.bindsN fun _ _ _ _ _ _ us hl => match us, hl with | [_], _ => rfl
  have GBe : FnOk P w K mg base CX0 4 _ dBe ["_law_state", "_law_text"] spBent := ok_bent FBe FP FD FSt gP gD gSt T
  have bBe : Binds K dBe ["_law_state", "_law_text"] [] := FBe.bindsN fun _ _ _ _ _ _ us hl => match us, hl with | [_, _], _ => rfl
  have GRr : FnOkT P w K mg base CX0 8 _ dRr ["_law_text"] (spRight tr tl) := ok_right FRr hfr Z hne TR
  have bRr : Binds K dRr ["_law_text"] [] := FRr.bindsN fun _ _ _ _ _ _ us hl => match us, hl with | [_], _ => rfl
  have GRo : FnOk P w K mg base (L2.CX P w) 5 _ dRo ["text"] (spReckOf K CL) := ok_reckof FRo FRl FWo FIr FW T Z.c gW gWo gIr gRl Z.eL
  have bRo : Binds K dRo ["text"] [] := FRo.bindsN fun _ _ _ _ _ _ us hl => match us, hl with | [_], _ => rfl
  have kRo := kb_one FRo (p := "text") fun _ _ _ _ _ _ _ => rfl
  have GRt : FnOk P w K mg base (L2.CX P w) 5 _ dRt ["rows"] (spRText K CB) := ok_rtext FRt FNr FWt FIg FIr FW T Z.c gW gIr gIg gNr gWt Z.eB
  have bRt : Binds K dRt ["rows"] [] := FRt.bindsN fun _ _ _ _ _ _ us hl => match us, hl with | [_], _ => rfl
  have kRt := kb_one FRt (p := "rows") fun _ _ _ _ _ _ _ => rfl
  have GP : FnOk P w K mg base CX0 3 _ dP ["_law_state", "_law_some"] (spPick K) := ok_pick FP FD FSt gD gSt T
  have bP : Binds K dP ["_law_state", "_law_some"] [] := FP.bindsN fun _ _ _ _ _ _ us hl => match us, hl with | [_, _], _ => rfl
  refine FunD.okL F scLaw rfl (fun vs H Q E h => ?_) (fun cdv A outer s H vs Q E hlk hcd hr h => ?_)
  · obtain ⟨a, ns, rfl, _⟩ := h
    rfl
  · have ec := code_is hf hlk hcd
    subst ec
    obtain ⟨sa, ns, rfl, hS, hl, hTr, hTl, k⟩ := h
    have hr1 : Room 1 (A.deeper (envOfC "law" (defScope sLaw) s.heap.objs.size (He.ga K "law") (.ref (He.codeOf K ("law", none))))) := hr.mono (by decide)
    have hr3 : Room 3 (A.deeper (envOfC "law" (defScope sLaw) s.heap.objs.size (He.ga K "law") (.ref (He.codeOf K ("law", none))))) := hr.mono (by decide)
    have hr4 : Room 4 (A.deeper (envOfC "law" (defScope sLaw) s.heap.objs.size (He.ga K "law") (.ref (He.codeOf K ("law", none))))) := hr.mono (by decide)
    have hr5 : Room 5 (A.deeper (envOfC "law" (defScope sLaw) s.heap.objs.size (He.ga K "law") (.ref (He.codeOf K ("law", none))))) := hr.mono (by decide)
    have hr7 : Room 7 (A.deeper (envOfC "law" (defScope sLaw) s.heap.objs.size (He.ga K "law") (.ref (He.codeOf K ("law", none))))) := hr.mono (by decide)
    have hr8 : Room 8 (A.deeper (envOfC "law" (defScope sLaw) s.heap.objs.size (He.ga K "law") (.ref (He.codeOf K ("law", none))))) := hr.mono (by decide)
    refine ⟨_, PSsT.nox (psst_cons (PST.of (ps_set (i := 1) scLaw.nd rfl (.inl rfl) (pe_call GB hr1 (by rfl) gB FB.kp bB .nil pass0 (pa_cons (pv 0) pa_nil))))
      (psst_cons (pst_forT PassesOwn.never rfl (pi_range1 (by rfl) T.range (pa_cons (pe_op op_add pe_int (pe_callB (call_min2 rfl) (by rfl) T.min (by decide +kernel) (pa_cons (pe_callB call_len_seq (by rfl) T.len PySem.boot_len (pa_cons (pv 0) pa_nil)) (pa_cons pe_int pa_nil)))) pa_nil)) (pg_name (i := 2) scLaw.nd rfl (Or.inl rfl))
        (psst_cons (PST.of (ps_set (i := 3) scLaw.nd rfl (.inl rfl) (pe_call GLg hr5 (by rfl) gLg FLg.kp bLg .nil pass0 (pa_cons (pv 1) pa_nil))))
        (psst_cons (PST.of (ps_set (i := 4) scLaw.nd rfl (.inl rfl) (pe_call GWr hr1 (by rfl) gWr FWr.kp bWr .nil pass0 (pa_cons (pv 3) pa_nil))))
        (psst_cons (PST.of (ps_if (PW.pt (pw_or (pt_cmpR op_ne (pe_kw0 GRt hr5 (by rfl) gRt FRt.kp kRt passL (pk_cons (pe_tupleOf (by rfl) T.tuple (pv 3)) pk_nil)) (pv 4) (nomark _))
            (pw_or1 (pt_cmpR (op_neD hr.units) (pe_kw0 GRo hr5 (by rfl) gRo FRo.kp kRo passL (pk_cons (pv 4) pk_nil)) (pv 3) (nomark _))))) (pss_one (ps_ret pe_bl)) pss_nil))
        (psstT_one (pst_forT PassesOwn.never rfl (pi_range1 (by rfl) T.range (pa_cons pe_int pa_nil)) (pg_name (i := 5) scLaw.nd rfl (Or.inl rfl))
          (psst_cons (PST.of (ps_set (i := 6) scLaw.nd rfl (.inl rfl) (pe_call GBe hr4 (by rfl) gBe FBe.kp bBe .nil pass0 (pa_cons (pv 1) (pa_cons (pv 4) pa_nil)))))
          (psstT_one (pst_ifT (PWT.ptt (pwt_or (ptt_not (ptt_val (pet_callT GRr hr8 (by rfl) gRr FRr.kp bRr .nil pass0 (pa_cons (pv 6) pa_nil))))
              (pwt_or1 (ptt_not (ptt_val (pet_callT GRr hr8 (by rfl) gRr FRr.kp bRr .nil pass0 (pa_cons (pe_call GBe hr4 (by rfl) gBe FBe.kp bBe .nil pass0 (pa_cons (pv 1) (pa_cons (pv 6) pa_nil))) pa_nil)))))))
            (PSsT.of (pss_one (ps_ret pe_bl))) (PSsT.of pss_nil))))))))))
      (psst_cons (pst_ifT (PWT.ptt (pwt_or (ptt_not (ptt_val (pet_callT GRr hr8 (by rfl) gRr FRr.kp bRr .nil pass0 (pa_cons pe_str pa_nil)))) (pwt_or (ptt_not (ptt_val (pet_callT GRr hr8 (by rfl) gRr FRr.kp bRr .nil pass0 (pa_cons pe_str pa_nil))))
          (pwt_or1 (ptt_not (ptt_val (pet_callT GRr hr8 (by rfl) gRr FRr.kp bRr .nil pass0 (pa_cons pe_str pa_nil)))))))) (PSsT.of (pss_one (ps_ret pe_bl))) (PSsT.of pss_nil))
      (PSsT.of (pss_cons (ps_set (i := 7) scLaw.nd rfl (.inr rfl) (pe_call GP hr3 (by rfl) gP FP.kp bP .nil pass0 (pa_cons (pv 1) (pa_cons (pe_lst (pa_cons pe_non (pa_cons pe_int (pa_cons (pe_lst pa_nil) (pa_cons (pe_lst (pa_cons pe_str pa_nil)) (pa_cons pe_bl (pa_cons pe_dnewK (pa_cons (pe_tup (pa_cons pe_str (pa_cons pe_int (pa_cons pe_int pa_nil)))) pa_nil)))))))) pa_nil))))
      (pss_cons (ps_set (i := 8) scLaw.nd rfl (.inl rfl) (pe_caught (k := 5) FC gC (by rfl) Z.gR TBL rfl (List.mem_cons_of_mem _ List.mem_cons_self) (TTs.l hne) hr7 (sc := defScope sLaw) rfl (lamS_by (by decide +kernel)) rfl (fun _ _ _ _ _ => rfl)
          (fun A' outer' s' H' E' f' c' hrr => pe_call GRo hrr (by rfl) gRo FRo.kp bRo .nil (passes_call (takes_of rfl rfl rfl rfl) fun _ _ _ _ h => h) (pa_cons (pv 7) pa_nil))))
      (pss_cons (ps_if (PW.pt (pw_or (pt_not (pt_val (pe_callB call_isD (by rfl) T.isi boot_isinstance (pa_cons (pv 8) (pa_cons (pe_glob (v := .ref CL) (by rfl) Z.eL.gC rfl) pa_nil))))) (pw_or1 (pt_cmpR op_notN (pe_kf (pv 8)) pe_non (nomark _))))) (pss_one (ps_ret pe_bl)) pss_nil)
      (pss_one (ps_ret (pe_callB call_isX (by rfl) T.isi boot_isinstance (pa_cons (pe_caught (k := 5) FC gC (by rfl) Z.gR TBL rfl (List.mem_cons_of_mem _ List.mem_cons_self) (TTs.l hne) hr7 (sc := defScope sLaw) rfl (lamS_by (by decide +kernel)) rfl (fun _ _ _ _ _ => rfl)
          (fun A' outer' s' H' E' f' c' hrr => pe_call GRt hrr (by rfl) gRt FRt.kp bRt .nil (passes_call (takes_of rfl rfl rfl rfl) fun _ _ _ _ h => h) (pa_cons (pv 7) pa_nil))) (pa_cons (pe_glob (v := .ref CB) (by rfl) Z.eB.g rfl) pa_nil)))))))))))), ?_⟩
    refine ⟨_, rfl, sa, ns, rfl, hS, hl, fun a lw lc H1 na nw nc S1 e1 => ?_⟩
    have T1 : Tabs (TTs tr tl) H1 := fun p hp => by
      have : p = (tr, qRR) ∨ p = (tl, qLW) := by simpa using hp
      rcases this with rfl | rfl
      · exact TabS.nil (e1 _ _ hTr)
      · exact TabS.nil (e1 _ _ hTl)
    refine ⟨_, rfl, sa, _, rfl, .inl (e1.seq hS), _, _, rfl, _, _, rfl, rfl, _, rfl, ?_, ?_, ?_⟩
    · omega
    · rw [List.length_map]
      omega
    generalize hn : ((2 : Int) + (if (6 : Int) < ((ns.map V.int).length : Nat) then 6 else (((ns.map V.int).length : Nat) : Int))).toNat = n
    have hn8 : n ≤ 8 := by
      rw [← hn]
      split <;> omega
    refine for_range (lo := 0) (n := n) (fun i σ G => ∃ (v2 v3 v4 v5 v6 : Option V), σ = [some (.ref sa), some (.ref a), v2, v3, v4, v5, v6, none, none] ∧ StA G a lw lc (200 * i) ∧ Tabs (TTs tr tl) G)
      ⟨none, none, none, none, none, rfl, S1, T1⟩ ?_ ?_
    · rintro i σ G hi ⟨v2, v3, v4, v5, v6, rfl, SG, TG⟩
      refine ⟨_, rfl, a, lw, lc, _, rfl, SG, by omega, fun l vs rows H2 nl2 hl2 hR hG h1 h10 S2 K2 => ?_⟩
      have T2 := Tabs.kp TG SG K2
      have hne : rows ≠ [] := fun z => by rw [z] at h1; simp at h1
      have all : ∀ r ∈ rows, r.1 ∈ (("fraction" : Str) :: "root" :: PAIR) ∧ RowB r := fun r hr => by
        obtain ⟨j, hj⟩ := List.getElem?_of_mem hr
        have g := hG j r hj
        exact ⟨g.2.2.2, g.2.1⟩
      have afk : ∀ r ∈ rows, fok (.str r.1) = true := fun r hr => by
        obtain ⟨j, hj⟩ := List.getElem?_of_mem hr
        exact (hG j r hj).2.2.1
      have hvl : vs.length ≤ 10 := by have := hR.1; omega
      refine ⟨_, rfl, l, vs, rows, rfl, hl2, hR, by omega, fun r hr => (all r hr).2, fun H3 e3 => ?_⟩
      refine ⟨_, rfl, .inl ⟨l, _, rfl, SqL.of (e3 _ _ hl2), fun q nq => ?_⟩⟩
      have e4 : Same H3 (L2.upd H3 q (.tup vs)) := Same.upd nq
      have hq : (L2.upd H3 q (.tup vs)) q = some (.tup vs) := upd_same
      generalize L2.upd H3 q (.tup vs) = H4 at e4 hq
      refine ⟨rfl, .ref q, rfl, .inr (.inr ⟨q, vs, rows, rfl, hq, (hR.same e3).same e4, by omega, fun r hr => (all r hr).2, reck_ok hne hG, fun H5 e5 => ?_⟩)⟩
      refine ⟨_, rfl, rfl, _, rfl, ?_⟩
      rw [decide_eq_true rfl]
      refine iteF ?_
      have eos := osOf_text hne fun r hr => (all r hr).1
      have tb := text_bound h10 all
      refine ⟨_, rfl, rfl, .str (sg (textL rows)), rfl, .inr ⟨_, rfl, tb.more (by omega), words_30 hne all, (fun j o g1 g2 _ => ?_), fun _ l6 vs6 rows6 H6 _ hl6 hos6 hR6 e6 => ?_⟩⟩
      · rw [eos] at g1
        rw [os_ok hG j o g1] at g2
        cases g2
      have er : rows6 = rows := (List.map_inj_right (fun _ _ h => Option.some.inj h)).mp (hos6.symm.trans eos)
      subst er
      have e26 := ((e3.trans e4).trans e5).trans e6
      obtain ⟨d, e, q1, q2, q3, q4, q5⟩ := rows_eq (K := K) (SqL.of hl6) (SqL.of (e26 _ _ hl2)) hR6 (hR.same e26) afk
      refine ⟨_, rfl, d, e, q1, q2, q3, q4, _, rfl, ?_⟩
      rw [q5]
      refine iteF ?_
      have S6 := S2.same e26
      have T6 := T2.ext e26
      clear q1 q2 q3 q4 q5 hl6 hR6 hos6 nq hq hl2 nl2
      refine ⟨4, rfl, by decide, by decide, ?_⟩
      refine for_range (lo := 0) (n := 4) (fun j σ G2 => ∃ (v5 v6 : Option V), σ = [some (.ref sa), some (.ref a), some (.int (0 + (i : Nat))), some (.ref l), some (.str (sg (textL rows6))), v5, v6, none, none] ∧ StA G2 a lw lc (200 * i + 150 + 10 * j) ∧ Tabs (TTs tr tl) G2)
        ⟨_, _, rfl, S6, T6⟩ ?_ ?_
      · rintro j σ G2 hj ⟨v5, v6, rfl, SG2, TG2⟩
        refine ⟨_, rfl, _, rfl, a, lw, lc, _, 2500, _, rfl, SG2, by omega, tb, by decide, fun y G3 hy S3 K3 => ?_⟩
        have T3 := Tabs.kp TG2 SG2 K3
        refine ⟨_, rfl, y, rfl, hy.more (by omega), T3, fun G4 e4 T4 => ⟨_, rfl, ?_⟩⟩
        refine iteF ?_
        have S4 := S3.extN e4
        refine ⟨_, rfl, _, rfl, a, lw, lc, _, 2501, _, rfl, S4, by omega, hy, by decide, fun y2 G5 hy2 S5 K5 => ?_⟩
        have T5 := Tabs.kp T4 S4 K5
        refine ⟨y2, rfl, hy2.more (by omega), T5, fun G6 e6 T6 => ⟨_, rfl, ?_⟩⟩
        refine iteF ?_
        exact ⟨_, _, rfl, (S5.extN e6).more (by omega), T6⟩
      · rintro σ G2 ⟨v5, v6, rfl, SG2, TG2⟩
        exact ⟨_, _, _, _, _, rfl, SG2.more (by omega), TG2⟩
    · rintro σ G ⟨v2, v3, v4, v5, v6, rfl, SG, TG⟩
      have tiny : ∀ x ∈ (["", "fraction 1 1\n", "fraction -0 1"] : List Str), x.length ≤ 5000 ∧ ∀ c ∈ TL.tl x, c < 1114112 := by decide +kernel
      refine ⟨"", rfl, tiny _ (by simp), TG, fun G1 e1 T1 => ⟨_, rfl, ?_⟩⟩
      refine iteF ?_
      refine ⟨"fraction 1 1\n", rfl, tiny _ (by simp), T1, fun G2 e2 T2 => ⟨_, rfl, ?_⟩⟩
      refine iteF ?_
      refine ⟨"fraction -0 1", rfl, tiny _ (by simp), T2, fun G3 e3 T3 => ⟨_, rfl, ?_⟩⟩
      refine iteF ?_
      have S3 := ((SG.extN e1).extN e2).extN e3
      refine ⟨_, rfl, (by show 0 ≤ sizeLine; decide), fun l1 n1 => ⟨(by show 1 ≤ sizeLine; decide), fun l2 n2 d1 n3 => ⟨(by show 3 ≤ sizeLine; decide), fun t1 n4 => ⟨(by show 7 ≤ sizeLine; decide), fun LP nP => ?_⟩⟩⟩⟩
      have s1 := Same.upd (o := .lst []) n1
      have s2 := Same.upd (o := .lst [.str "fraction 1 1"]) n2
      have s3 := Same.upd (o := .dK []) n3
      have s4 := Same.upd (o := .tup [.str "fraction", .int 1, .int 1]) n4
      have s5 := Same.upd (o := .lst [.non, .int 4, .ref l1, .ref l2, .bl true, .ref d1, .ref t1]) nP
      have k1 := ((s2.trans s3).trans s4).trans s5 _ _ (upd_same (a := l1))
      have k2 := (s3.trans s4).trans s5 _ _ (upd_same (a := l2))
      have k3 := s4.trans s5 _ _ (upd_same (a := d1))
      have k4 := s5 _ _ (upd_same (a := t1))
      have m2 := s1.free n2
      have m3 := (s1.trans s2).free n3
      have m4 := ((s1.trans s2).trans s3).free n4
      have m5 := (((s1.trans s2).trans s3).trans s4).free nP
      have sAll := (((s1.trans s2).trans s3).trans s4).trans s5
      obtain ⟨ga, gw⟩ : G3 a ≠ none ∧ G3 lw ≠ none := by
        obtain ⟨⟨ws, cs, r, u, h1, h2, _⟩, _⟩ := id S3
        exact ⟨by rw [h1]; simp, by rw [h2]; simp⟩
      refine ⟨a, lw, lc, _, LP, _, rfl, S3.same sAll, by omega, upd_same, fun z => gw (z ▸ m5), (by show 0 < 7; decide), (by show 7 ≤ 1000; decide), fun i x G7 hx S7 K7 => ?_⟩
      have hx1 := List.mem_of_getElem? hx
      have odd : OddR G7 x := by
        refine OddR.kp (H0 := G3) (a := a) (lw := lw) ?_ ?_ ga gw K7
        · simp only [List.mem_cons, List.not_mem_nil, or_false] at hx1
          rcases hx1 with rfl | rfl | rfl | rfl | rfl | rfl | rfl
          · exact .non
          · exact .int _
          · exact .nil k1
          · exact .one k2
          · exact .bl _
          · exact .dict k3
          · exact .tup k4
        · intro r hr
          subst hr
          simp only [List.mem_cons, List.not_mem_nil, or_false, V.ref.injEq, reduceCtorEq, false_or] at hx1
          rcases hx1 with rfl | rfl | rfl | rfl
          · exact n1
          · exact m2
          · exact m3
          · exact m4
      have T7 : Tabs (TTs tr tl) G7 := Tabs.kp (T3.ext sAll) (S3.same sAll) K7
      clear hx hx1 K7 sAll k1 k2 k3 k4 s1 s2 s3 s4 s5 m2 m3 m4 m5
      -- the first one
      refine ⟨T7, fun H8 e8 T8 => ?_⟩
      obtain ⟨t, ty, ek⟩ := (odd.ext e8).noStr (K := K)
      refine ⟨_, rfl, x, rfl, .inl ⟨t, ty, ek, fun d H9 hd e9 => ⟨true, Z.xL, fun _ ea na => ?_, fun z => by cases z⟩⟩⟩
      have e10 : Same H9 (L2.upd H9 ea (Caught (.ref CL) (some d) ea)) := Same.upd na
      have hea : (L2.upd H9 ea (Caught (.ref CL) (some d) ea)) ea = some (Caught (.ref CL) (some d) ea) := upd_same
      have odd10 := (odd.ext e8).ext (ExtN.of (e9.trans e10))
      have T10 := (T8.ext e9).ext e10
      have hd10 := e10 _ _ hd
      generalize L2.upd H9 ea (Caught (.ref CL) (some d) ea) = H10 at e10 hea odd10 T10 hd10
      have lk : List.lookup ("at" : Str) [(("at" : Str), V.non)] = some .non := by simp [List.lookup]
      refine ⟨_, rfl, ea, CL, d, _, .ref CL, .ref CL, true, rfl, hea, hd10, Z.cL, .own CL, kit_self _, true, rfl, ?_⟩
      refine iteF ?_
      refine ⟨_, rfl, ea, CL, d, _, _, rfl, hea, Z.fLd, Z.eL.noN, hd10, lk, rfl, _, rfl, ?_⟩
      rw [decide_eq_true rfl]
      refine iteF ?_
      -- the second one
      refine ⟨T10, fun H11 e11 T11 => ?_⟩
      have fin : ∀ H12, Same H11 H12 → ∃ b, PySem.W.exmOne K (.ref CB) (.ref CR) = some b ∧ (b = true → ∀ a, H12 a = none → rIsX K [.ref a, .ref CB] (L2.upd H12 a (Caught (.ref CB) none a)) Q) ∧ (b = false → False) := fun H12 _ =>
        ⟨true, Z.xB, fun _ ea na => ⟨ea, CB, none, .ref CB, .ref CB, true, rfl, upd_same, rfl, Z.cB, .own CB, kit_self _, k _⟩, fun z => by cases z⟩
      rcases (odd10.ext e11).bad (K := K) with ⟨t2, ty2, g1, g2⟩ | ⟨oa, ovs, oos, rfl, hov, hoi, hol, hok⟩
      · exact ⟨_, rfl, x, rfl, .inl ⟨t2, ty2, g1, g2, fin H11 (Same.refl _)⟩⟩
      · exact ⟨_, rfl, .ref oa, rfl, .inr (.inl ⟨oa, ovs, oos, rfl, hov, hoi, hol, hok, fun H12 e12 => fin H12 e12⟩)⟩
end
end Own
set_option Elab.async false
set_option linter.all false
set_option maxRecDepth 100000
set_option maxHeartbeats 0
namespace Own
open PySem PySem.Spec PyProof.Rows L2 LamX
/-! ### the head: what the top has left -/
def dF (q : Str × Stmt) : He.DefD := ⟨(q.1, none), q.1, q.1, defArgs q.2, defBody q.2, defScope q.2, [], []⟩
def fn : List He.DefD := FNS.map dF
def clsBody : Stmt → List Stmt
  | .ClassDef (body := b) .. => b
  | _ => []
abbrev sInit : Stmt := (clsBody (top 3)).getD 0 (.Pass ⟨0, 0, 0, 0⟩)
abbrev qInit : Str := "BadLine.__init__"
def ini : List (He.Defn × InitW) := [(("BadLine", some "__init__"), some (("__init__" : Str), qInit, defArgs sInit, FuncBody.stmts (defBody sInit), defScope sInit, mainGlobals, [("__class__" : Str)], builtinsNs))]
def fa : List He.Fa := [.free "isinstance", .free "int", .free "bool", .free "str", .free "tuple", .free "abs", .free "len", .free "range", .free "list", .free "divmod", .free "min", .free "enumerate", .free "super",
  .glo "BadRows", .glo "BadLine", .glo "RulerError", .glo "PAIRED", .int "PIECE" 64, .str "DIGITS" "0123456789", .exc "BadRows", .exm "BadRows" "RulerError" true, .exm "BadLine" "RulerError" true] ++ FNS.map fun q => He.Fa.glo q.1
def excCB (K : PySem.W.Frag) (D : Addr) : Bool := He.eqO (PySem.W.findIn K (.ref D) "__getattribute__") (some (some (.builtin "BaseException.__getattribute__"))) && (He.eqO (PySem.W.findIn K (.ref D) "__getattr__") (some none) && (decide (PySem.W.subIn K (.ref D) (.type "BaseException") = some true) &&
  (PySem.W.hasDictIn K D && (He.eqO (PySem.W.findIn K (.ref D) "__class__") (some (some (.builtin "object.__class__"))) && (He.eqO (PySem.W.specialIn K (.builtin "object.__class__") "__get__") (some (some (.builtin "getset_descriptor.__get__"))) &&
  (decide (PySem.W.takesIn K (.builtin "object.__class__") = some true) && decide (PySem.W.mroIn K D (.type "object") = some true)))))))
theorem excC_of {K : PySem.W.Frag} {D : Addr} (h : excCB K D = true) : ExcC K D := by
  obtain ⟨h1, h⟩ := He.ba h
  obtain ⟨h2, h⟩ := He.ba h
  obtain ⟨h3, h⟩ := He.ba h
  obtain ⟨h4, h⟩ := He.ba h
  obtain ⟨h5, h⟩ := He.ba h
  obtain ⟨h6, h⟩ := He.ba h
  obtain ⟨h7, h8⟩ := He.ba h
  exact ⟨He.eqO_ok h1, He.eqO_ok h2, of_decide_eq_true h3, h4, He.eqO_ok h5, He.eqO_ok h6, of_decide_eq_true h7, of_decide_eq_true h8⟩
abbrev PRG : Program := PySem.Challenge.pw_rulerchest_k65_texts_of_reckonings
def tf : List He.Defn := [("_law_read_right", none), ("law", none)]
def ex (K : PySem.W.Frag) : Bool := supB K tBL PRG.main.file && (excCB K (He.ga K "BadRows") && (excCB K (He.ga K "BadLine") && (xfB K (He.ga K "BadLine") && (He.tupB K "PAIRED" [.str "plus", .str "minus", .str "times", .str "over", .str "hyp"] &&
  decide ((He.cT K ("_law_read_right", none)).2 ≠ (He.cT K ("law", none)).2)))))
abbrev LW : PySem.W.OpenLaw := PySem.Challenge.rw_rulerchest_k65_texts_of_reckonings
abbrev RW : PySem.W.OpenRow := PySem.W.OpenLaw.row PySem.Challenge.rw_rulerchest_k65_texts_of_reckonings
abbrev hk : PySem.W.Hook := hookY 5 fa fn tf ex ini
def ob (s : PySem.W.SharedT) : AlY := obsY 5 fa fn tf ex ini (HandSHeadRun.getT s)
theorem ob_eq (s : PySem.W.SharedT) : ob s = hk.obs s.abs := obsY_eq (HandSHeadRun.getT_eq s)
def loose : List Str := (["RulerError", "BadRows", "BadLine", "DIGITS", "PIECE", "PAIRED"] : List Str) ++ (FNS.map (·.1)).dropLast
theorem run (w : World) : HandSHeadRun.RunEq RW (PySem.W.view RW.prog [33]) hk ob 6000 loose w := by
  intro os
  kernel_rfl
theorem facts {w : World} {K : PySem.W.Frag} {h : Heap} {mg : Str → Option Value} {f : Addr} (X : K.In h) (G : h.Ns mainGlobals mg) (hfa : mg ("law" : Str) = some (.ref f)) (c : SaysY fa fn tf ex ini w h K) : LawAtS LW w K CX0 10 63 "_law_script" mg f h := by
  have d := c.x.t.d
  have fr : ∀ x : Str, He.Fa.free x ∈ fa → mg x = none := fun x hx => He.free_ok X G (d.facts hx)
  have gl0 : ∀ x : Str, He.Fa.glo x ∈ fa → mg x = some (.ref (He.ga K x)) := fun x hx => He.glo_ok X G (d.facts hx)
  have gl : ∀ x st, (x, st) ∈ FNS → mg x = some (.ref (He.ga K x)) := fun x st hx => gl0 x (List.mem_append_right _ (List.mem_map.mpr ⟨_, hx, rfl⟩))
  have df : ∀ x st, (x, st) ∈ FNS → ∃ fd, FnP K x st (He.ga K x) fd := fun x st hx => d.defs (d := dF (x, st)) (List.mem_map.mpr ⟨_, hx, rfl⟩)
  obtain ⟨m1, m⟩ := He.ba c.x.more
  obtain ⟨m2, m⟩ := He.ba m
  obtain ⟨m3, m⟩ := He.ba m
  obtain ⟨m4, m⟩ := He.ba m
  obtain ⟨m5, m6⟩ := He.ba m
  obtain ⟨dL, FL⟩ := df "law" sLaw (by simp [FNS])
  have e := hfa.symm.trans (gl "law" sLaw (by simp [FNS]))
  cases e
  obtain ⟨x1, x2, x3, x4⟩ := He.exc_ok (d.facts (f := .exc "BadRows") (by simp [fa]))
  have sup : SupX.Has PRG K mg tBL (He.ga K "BadLine") (He.fAd K ("BadLine", some "__init__")) :=
    has_of (qual := qInit) m1 (gl0 _ (by simp [fa])) (fr _ (by simp [fa])) (beq_self_eq_true _) (by kernel_rfl) (c.i _ List.mem_cons_self) ⟨by decide +kernel, by decide +kernel⟩ rfl rfl rfl rfl (fun _ _ _ _ _ _ _ _ _ => rfl) (fun _ => ⟨_, rfl⟩)
  have Z : All PRG K mg (He.ga K "BadRows") (He.ga K "BadLine") (He.ga K "RulerError") (He.fAd K ("BadLine", some "__init__")) :=
    { t := ⟨fr _ (by simp [fa]), fr _ (by simp [fa]), fr _ (by simp [fa]), fr _ (by simp [fa]), fr _ (by simp [fa]), fr _ (by simp [fa]), fr _ (by simp [fa]), fr _ (by simp [fa]), fr _ (by simp [fa]), fr _ (by simp [fa]), fr _ (by simp [fa]), fr _ (by simp [fa])⟩
      c := ⟨He.int_ok X G (d.facts (f := .int "PIECE" 64) (by simp [fa])), He.str_ok X G (d.facts (f := .str "DIGITS" "0123456789") (by simp [fa])), _, gl0 "PAIRED" (by simp [fa]), fun H => He.tupB_ok m5 H⟩
      fns := df, gl := gl, eB := ⟨gl0 _ (by simp [fa]), x1, x2, x3, x4⟩, cB := excC_of m2, xB := He.exm_ok (d.facts (f := .exm "BadRows" "RulerError" true) (by simp [fa])), eL := sup, cL := excC_of m3, fLd := xfB_ok m4
      xL := He.exm_ok (d.facts (f := .exm "BadLine" "RulerError" true) (by simp [fa])), gR := gl0 _ (by simp [fa]) }
  have b := FunD.bindsA (ps := ["_law_script"]) FL fun _ _ _ _ _ _ us hl => match us, hl with | [_], _ => rfl
  have t1 : (("_law_read_right" : Str), (none : Option Str)) ∈ tf := List.mem_cons_self
  have t2 : (("law" : Str), (none : Option Str)) ∈ tf := List.mem_cons_of_mem _ List.mem_cons_self
  have both : ∀ {p : Addr × Addr}, p ∈ [He.cT K ("_law_read_right", none), He.cT K ("law", none)] → ∃ q ∈ tf, p = He.cT K q := fun {p} hp => by
    rcases List.mem_cons.mp hp with e | hp
    · exact ⟨_, t1, e⟩
    · exact ⟨_, t2, List.mem_singleton.mp hp⟩
  refine ⟨dL, [He.cT K ("_law_read_right", none), He.cT K ("law", none)], spLaw K (He.cT K ("_law_read_right", none)).2 (He.cT K ("law", none)).2, fun p hp => ?_, fun p hp => ?_, fun p hp => ?_, fun s v => b s [v] rfl,
    fun H a ns hl _ hT hS => ⟨a, ns, rfl, hS, hl, hT _ List.mem_cons_self, hT _ (List.mem_cons_of_mem _ List.mem_cons_self), fun _ => rfl⟩, fun base hK hG hTB => ?_⟩
  · obtain ⟨q, hq, rfl⟩ := both hp
    exact c.x.empty _ hq
  · obtain ⟨q, hq, rfl⟩ := both hp
    exact c.x.out _ hq
  · obtain ⟨q, hq, rfl⟩ := both hp
    exact PySem.W.codeHd_of_K X (c.x.hd _ hq)
  · exact ok_law FL rfl rfl Z (of_decide_eq_true m6) (hTB _ List.mem_cons_self) (hTB _ (List.mem_cons_of_mem _ List.mem_cons_self))
end Own
open PySem PySem.W PySem.Calls PyProof.Rows
theorem PySem.Challenge.cw_rulerchest_k65_texts_of_reckonings_holds : PySem.Challenge.rw_rulerchest_k65_texts_of_reckonings.Holds := by
  w_on; o_law
  refine HandSHeadRun.head_any (r := OpenLaw.row PySem.Challenge.rw_rulerchest_k65_texts_of_reckonings) (q := view (OpenLaw.row PySem.Challenge.rw_rulerchest_k65_texts_of_reckonings).prog [33]) (H := Own.hk) (ob := Own.ob) (M := 6000) (loose := Own.loose) (d := HandSHeadRun.topDef (OpenLaw.row PySem.Challenge.rw_rulerchest_k65_texts_of_reckonings).prog 33) (kwd := []) Own.ob_eq
    (by kernel_rfl) (fun s => by kernel_rfl) Own.run (by kernel_rfl) (by kernel_rfl) (by rfl) (by first | assumption | decide +kernel) (by kernel_rfl) (by decide +kernel) ⟨rfl, rfl, rfl, rfl, rfl, by decide +kernel⟩ ?hw ?hc
  case hw => w_witness2
  case hc =>
    refine LamX.walk_ofTsE (l := PySem.Challenge.rw_rulerchest_k65_texts_of_reckonings) (n := 63) (k := 10) (x := "_law_script") (CX := fun _ => L2.CX0) rfl (by decide) (by kernel_rfl) ⟨rfl, by decide, by decide⟩ ?F (fun _ _ _ _ _ z => z)
    intro w mg fa h Y G hmg0
    obtain ⟨K, KX, c⟩ := Y
    have hmg : mg ("law" : PySem.Str) = some (.ref fa) := by
      have e : (HandSHeadRun.topDef (OpenLaw.row PySem.Challenge.rw_rulerchest_k65_texts_of_reckonings).prog 33).name = ("law" : PySem.Str) := by kernel_rfl
      rw [← e]
      exact hmg0
    exact ⟨K, KX, Own.facts KX G hmg c⟩
#print axioms PySem.Challenge.cw_rulerchest_k65_texts_of_reckonings_holds
