import PyProof.Rows.All
import Wide.All
import OpenK.AllK
import Wide.FinOn
import HandS.Conv
import HandS.Flow
import HandS.Replace
import HandS.ReplaceLit
import HandS.Defaults
import KE.GoesEnum
import HandS.Iter
import HandS.Walk
import KE.KStateDown
import KE.KMathG
import HandS.ForMost
import HandS.Ends
import HandS.Exc
import HandS.ExcOwn
import HandS.ExcIs
import HandS.TryOnly
import HandS.Lambda
import HandS.EndBits
import HandS.EndTab
import HandS.IsInst
import HandS.Gcd
import HandS.Wide
import HandS.WideMore
import HandS.WordsExc
import HandS.SortRule
import HandS.TupLe
import HandS.NamedTupSort
import KE.KSortTupAny
import HandS.RaiseMore
import PyProof.ReprRoads
import HandS.HeadWalk
import HandS.Steps
import HandS.Text
import HandS.More
import HandS.Dict
import HandS.HeadHook4
import HandS.TupAny
import HandS.Strs
import HandS.Codes
import HandS.Style
import HandS.DeepEq
import Lean
import KE.KNestM
import HandS.Head0
import HandS.Head1
import HandS.Head2
import HandS.Head3
import PySem.Challenge.RW_rulerchest_k15_all_chests_by_three_sets
set_option Elab.async false
set_option linter.all false
set_option maxRecDepth 100000
set_option maxHeartbeats 4000000
namespace Own
open PySem PySem.Spec PyProof.Rows L2
/-! ### rules for code that runs when a token is out -/
/-- a def's promise, kept where a token is out at its call -/
structure FnOkT (P : Program) (w : World) (K : PySem.W.Frag) (mg : Str → Option Value) (base : Heap) (CX : CXT) (k : Nat) (f : Addr) (fd : FuncData) (ps : List Str) (sp : Sp) : Prop where
  len : ∀ vs H Q E, sp vs H Q E → vs.length = ps.length
  run : ∀ (A : Around) (outer : List Env) (s : Shared) (H : Hp) (args : Args) (us : List Value) (vs : List V) (Q : VK) (E : XK), 1 ≤ s.toks → Room k A → Env0 P w K mg base A outer s H → BindsTo s fd args (ps.zip us) → Vals vs us → sp vs H Q E →
    codeAny (model P w) A (.call (.ref f) args) (CR CX outer P w H s Q E) s
/-- the step into the body -/
theorem run_bodyT {CX : CXT} {P : Program} {w : World} {K : PySem.W.Frag} {mg : Str → Option Value} {base : Heap} {k : Nat} {f : Addr} {qual : Str} {body : List Stmt} {scope : Scope} {cdv : Value} {N ps : List Str} (S : FnScope N ps scope)
    {A : Around} {outer : List Env} {s s1 : Shared} {H : Hp} {us : List Value} {vs : List V} {Q : VK} {E : XK} (hr : Room (k + 1) A) (e0 : Env0 P w K mg base A outer s H) (hl : vs.length = ps.length) (r : Vals vs us)
    (x : InCallC s (envOfC qual scope s.heap.objs.size f cdv).locals (bindL (envOfC qual scope s.heap.objs.size f cdv).kindOf (ps.zip us) fun _ => none) (envOfC qual scope s.heap.objs.size f cdv).cells (bindC (envOfC qual scope s.heap.objs.size f cdv).kindOf (ps.zip us) fun _ => none) s1)
    (ht : 1 ≤ s1.toks) (hb : ∃ t, PSsT (cxOf CX P w K mg base N qual scope f cdv A outer s H E) body t ∧ t { nx := fun _ H' => Q .non H', rt := Q } (start N vs) H) :
    codeAny (model P w) A (.func body (envOfC qual scope s.heap.objs.size f cdv)) (CR CX outer P w H s Q E) s1 := by
  obtain ⟨t, hbt, hq⟩ := hb
  have J0 : Inv (cxOf CX P w K mg base N qual scope f cdv A outer s H E) [] (start N vs) H s1 := inv_start S hr.hd e0 hl r x
  refine codeAny_func (wpAny_mono (hbt [] s1 (start N vs) H _ ht J0 hq) (fun fl s2 h2 => ?_) fun _ _ z => z)
  cases fl with
  | ret u => obtain ⟨v, σ2, H2, J, rv, q⟩ := h2; exact ⟨v, H2, J.os, J.bare, J.base, J.hok, rv, q⟩
  | next => obtain ⟨σ2, H2, J, q⟩ := h2; exact ⟨.non, H2, J.os, J.bare, J.base, J.hok, rfl, q⟩
  | brk => obtain ⟨_, _, _, q⟩ := h2; exact False.elim q
  | cont => obtain ⟨_, _, _, q⟩ := h2; exact False.elim q
theorem kinds_of {N ps : List Str} {scope : Scope} (S : FnScope N ps scope) (n : Nat) (us : List Value) : ∀ y ∈ ps.zip us, scope.names.lookup y.1 = some .local ∨ (scope.names.lookup y.1 = some .cell ∧ ((cellsFrom n scope.names []).lookup y.1).isSome = true) := fun y hy => by
  cases S.par y.1 (List.of_mem_zip (a := y.1) (b := y.2) hy).1 with
  | inl q => exact .inl q
  | inr q => exact .inr ⟨q, PySem.W.cellsFrom_some _ _ _ (.inl q)⟩
/-- a def that wants a token at its call -/
theorem FunD.okT {CX : CXT} {P : Program} {w : World} {K : PySem.W.Frag} {mg : Str → Option Value} {base : Heap} {x qual : Str} {params : Arguments} {body : List Stmt} {scope : Scope} {dvs : List V} {kws : List (Str × V)} {f : Addr} {fd : FuncData} {N ps : List Str} {k : Nat} {sp : Sp}
    (F : FunD K x qual params body scope dvs kws f fd) (S : FnScope N ps scope) (len : ∀ vs H Q E, sp vs H Q E → vs.length = ps.length)
    (hbody : ∀ (cdv : Value) (A : Around) (outer : List Env) (s : Shared) (H : Hp) (vs : List V) (Q : VK) (E : XK), (∃ (oc : Value) (od : Option Addr) (dV kV doc pm : Value) (an : Option Addr) (ct : Value) (osl : Array (Option Value)), K.lookup f = some ⟨oc, od, .func (PySem.W.fnOf x qual params body scope dV kV doc pm an cdv ct), osl⟩) → PySem.W.codeIn K cdv qual = true → Room k (A.deeper (envOfC qual scope s.heap.objs.size f cdv)) → sp vs H Q E →
      ∃ t, PSsT (cxOf CX P w K mg base N qual scope f cdv A outer s H E) body t ∧ t { nx := fun _ H' => Q .non H', rt := Q } (start N vs) H) : FnOkT P w K mg base CX (k + 1) f fd ps sp := by
  obtain ⟨oc, od, dV, kV, doc, pm, an, cdv, ct, osl, rfl, lk, hcd, _, _⟩ := F.ex
  refine ⟨len, fun A outer s H args us vs Q E ht hr e0 hb r hsp => ?_⟩
  have inH : K.In s.heap := e0.mod.kin.keeps fun b o e => (e0.bs b o e).1
  have nl : s.heap.NoLimit := e0.mod.nolimit.keeps fun b o e => (e0.bs b o e).1
  refine codeAny_call_function hr.depth (inH _ _ lk) rfl S.co S.gen rfl (PySem.W.codeRec_of inH hcd) (hb _ _ _ _ ?_)
  refine wpAny_mono (PySem.wpAny_toks (wpAny_newFunctionEnv_cells (Q := fun env s1 => env = envOfC qual scope s.heap.objs.size f cdv ∧ InCallC s (envOfC qual scope s.heap.objs.size f cdv).locals (bindL (envOfC qual scope s.heap.objs.size f cdv).kindOf (ps.zip us) fun _ => none) (envOfC qual scope s.heap.objs.size f cdv).cells (bindC (envOfC qual scope s.heap.objs.size f cdv).kindOf (ps.zip us) fun _ => none) s1) S.kind (kinds_of S _ _) fun env he s1 xx => ?_)) (fun env s1 h1 => ?_) fun _ _ z => z.2
  · subst he
    exact ⟨rfl, xx⟩
  · obtain ⟨hk, rfl, xx⟩ := h1
    exact ⟨nl.keeps xx.toInCall.keep, run_bodyT S hr e0 (len _ _ _ _ hsp) r xx (Nat.le_trans ht hk) (hbody _ _ _ _ _ _ _ _ ⟨_, _, _, _, _, _, _, _, _, lk⟩ hcd (hr.deeper _) hsp)⟩
/-- the parameters bound, the first one a plain local name: a token is out -/
theorem bind_tok {M : Model} {A : Around} {E : Value → Shared → Prop} {env : Env} {s0 : Shared} (g : Str × Value → PUnit → Sem (ForInStep PUnit)) (hg : ∀ n v u, g (n, v) u = (do storeName env n v; pure (.yield ⟨⟩))) (hk : env.scope.kind = .function)
    {n : Str} {v : Value} {r : List (Str × Value)} {s : Shared} {Q : PUnit → Shared → Prop} (x : InCallC s0 env.locals (fun _ => none) env.cells (fun _ => none) s) (hn : env.kindOf n = some .local)
    (hr : ∀ y ∈ r, env.kindOf y.1 = some .local ∨ (env.kindOf y.1 = some .cell ∧ (env.cells.lookup y.1).isSome = true))
    (h : ∀ s', 1 ≤ s'.toks → InCallC s0 env.locals (bindL env.kindOf ((n, v) :: r) fun _ => none) env.cells (bindC env.kindOf ((n, v) :: r) fun _ => none) s' → Q ⟨⟩ s') : wpAny M A (forIn ((n, v) :: r) ⟨⟩ g) Q E s := by
  rw [List.forIn_cons, hg]
  refine wpAny_bind (wpAny_bind (wpAny_storeName_local hn x.toInCall.ns (fun h1 hn1 sb => wpAny_pure ?_) (by rw [hk]; rfl)))
  have x1 : InCallC s0 env.locals (fun y => if y = n then some v else none) env.cells (fun _ => none) ({ s with heap := h1, toks := s.toks + 1 } : Shared) := by
    refine ⟨⟨?_, hn1, fun b o e => ?_, x.toInCall.fresh⟩, fun m c hc => ?_, x.apart, x.above⟩
    · obtain ⟨hh, tk, rfl⟩ := x.toInCall.same
      exact ⟨h1, _, rfl⟩
    · exact sb.extBut b o (Nat.ne_of_lt (Nat.lt_of_lt_of_le (Heap.lt_size e) x.toInCall.fresh)) (x.toInCall.keep b o e)
    · exact (x.cell m c hc).sameBut sb (Nat.ne_of_gt (x.above m c (mem_of_lookup hc)))
  refine wpAny_mono (PySem.wpAny_toks_of (n := 1) (show 1 ≤ s.toks + 1 by omega) (wpAny_bindParams (Q := fun _ s' => InCallC s0 env.locals (bindL env.kindOf ((n, v) :: r) fun _ => none) env.cells (bindC env.kindOf ((n, v) :: r) fun _ => none) s') g hg hk r _ _ _ x1 hr fun s' x2 => ?_)) (fun u s' q => h s' q.1 q.2) fun _ _ z => z.2
  unfold bindL bindC
  rw [if_pos hn, if_pos hn]
  exact x2
theorem newEnv_tok {M : Model} {A : Around} {E : Value → Shared → Prop} {s : Shared} {scope : Scope} {globals : Addr} {n : Str} {v : Value} {r : List (Str × Value)} {qual : Str} {func : Option Addr} {code : Value} {builtins : Addr} {Q : Env → Shared → Prop}
    (hk : scope.kind = .function) (h1 : scope.names.lookup n = some .local)
    (hkind : ∀ x ∈ r, scope.names.lookup x.1 = some .local ∨ (scope.names.lookup x.1 = some .cell ∧ ((cellsFrom (s.heap.objs.size + 1) scope.names []).lookup x.1).isSome = true))
    (hQ : ∀ env, env = newEnv scope s.heap.objs.size globals (cellsFrom (s.heap.objs.size + 1) scope.names []) qual func code none builtins →
      ∀ s', 1 ≤ s'.toks → InCallC s env.locals (bindL env.kindOf ((n, v) :: r) fun _ => none) env.cells (bindC env.kindOf ((n, v) :: r) fun _ => none) s' → Q env s') :
    wpAny M A (newFunctionEnv scope globals [] ((n, v) :: r) qual func code none builtins) Q E s := by
  simp only [newFunctionEnv, Option.isSome_none, Bool.false_eq_true, if_false]
  refine wpAny_bind (wpAny_alloc (wpAny_bind (wpAny_layCells _ (fun name kind cells => by cases e : kind == NameKind.cell <;> simp [e]) _ _ _ _ ?_)))
  have lay := cellsFrom_ok scope.names (s.heap.push { cls := .type "frame", data := .dict #[] }) (s.heap.objs.size + 1) [] ⟨fun _ _ hm => (nomatch hm), List.Pairwise.nil⟩ (by rw [Heap.size_push]; exact Nat.le_refl _)
  rw [Heap.size_push] at lay
  have ez : ({ s with heap := s.heap.push { cls := .type "frame", data := .dict #[] } } : Shared).heap.objs.size = s.heap.objs.size + 1 := Heap.size_push ..
  rw [ez]
  refine wpAny_bind (bind_tok (s0 := s) (env := newEnv scope s.heap.objs.size globals (cellsFrom (s.heap.objs.size + 1) scope.names []) qual func code none builtins) _ (fun _ _ _ => rfl) hk ?_ h1 hkind fun s' ht x => wpAny_pure (hQ _ rfl s' ht x))
  exact ⟨⟨⟨_, _, rfl⟩, (Heap.Ns.new s.heap (.type "frame")).keeps (pushCells_keeps _ _), fun b o e => pushCells_keeps _ _ b o (Heap.get?_push_of_some _ e), Nat.le_refl _⟩, fun m c hc => (lay.empty m c (mem_of_lookup hc)).1, lay.apart, fun m c hm => (lay.empty m c hm).2⟩
/-- a def whose first parameter is a plain local name: a token is out in its body -/
theorem FunD.okL {CX : CXT} {P : Program} {w : World} {K : PySem.W.Frag} {mg : Str → Option Value} {base : Heap} {x qual p : Str} {params : Arguments} {body : List Stmt} {scope : Scope} {dvs : List V} {kws : List (Str × V)} {f : Addr} {fd : FuncData} {N ps : List Str} {k : Nat} {sp : Sp}
    (F : FunD K x qual params body scope dvs kws f fd) (S : FnScope N (p :: ps) scope) (hp : scope.names.lookup p = some .local) (len : ∀ vs H Q E, sp vs H Q E → vs.length = (p :: ps).length)
    (hbody : ∀ (cdv : Value) (A : Around) (outer : List Env) (s : Shared) (H : Hp) (vs : List V) (Q : VK) (E : XK), (∃ (oc : Value) (od : Option Addr) (dV kV doc pm : Value) (an : Option Addr) (ct : Value) (osl : Array (Option Value)), K.lookup f = some ⟨oc, od, .func (PySem.W.fnOf x qual params body scope dV kV doc pm an cdv ct), osl⟩) → PySem.W.codeIn K cdv qual = true → Room k (A.deeper (envOfC qual scope s.heap.objs.size f cdv)) → sp vs H Q E →
      ∃ t, PSsT (cxOf CX P w K mg base N qual scope f cdv A outer s H E) body t ∧ t { nx := fun _ H' => Q .non H', rt := Q } (start N vs) H) : FnOk P w K mg base CX (k + 1) f fd (p :: ps) sp := by
  obtain ⟨oc, od, dV, kV, doc, pm, an, cdv, ct, osl, rfl, lk, hcd, _, _⟩ := F.ex
  refine ⟨len, fun A outer s H args us vs Q E hr e0 hb r hsp => ?_⟩
  have inH : K.In s.heap := e0.mod.kin.keeps fun b o e => (e0.bs b o e).1
  have nl : s.heap.NoLimit := e0.mod.nolimit.keeps fun b o e => (e0.bs b o e).1
  refine codeAny_call_function hr.depth (inH _ _ lk) rfl S.co S.gen rfl (PySem.W.codeRec_of inH hcd) (hb _ _ _ _ ?_)
  have hl := len _ _ _ _ hsp
  cases us with
  | nil =>
    rw [r.length] at hl
    cases hl
  | cons u us =>
    refine newEnv_tok (n := p) (v := u) (r := ps.zip us) S.kind hp (fun y hy => kinds_of S _ (u :: us) y (List.mem_cons_of_mem _ hy)) fun env he s1 ht xx => ?_
    subst he
    exact ⟨nl.keeps xx.toInCall.keep, run_bodyT S hr e0 hl r xx ht (hbody _ _ _ _ _ _ _ _ ⟨_, _, _, _, _, _, _, _, _, lk⟩ hcd (hr.deeper _) hsp)⟩
/-! ### tests and statements, a token out -/
def PTT (X : Cx) (e : Expr) (t : TT) : Prop :=
  ∀ (pins : List (Addr × Obj)) (s : Shared) (σ : L2.St) (H : Hp) (Q : Bool → Hp → Prop), 1 ≤ s.toks → Inv X pins σ H s → t σ H Q → wpAny (model X.prog X.w) X.A (isTrue e X.env (eval e X.env)) (TP X pins σ Q) X.xe s
def PWT (X : Cx) (e : Expr) (t : TT) : Prop :=
  ∀ (whole : Sem Value) (pins : List (Addr × Obj)) (s : Shared) (σ : L2.St) (H : Hp) (Q : Bool → Hp → Prop), 1 ≤ s.toks → Inv X pins σ H s → t σ H Q → wpAny (model X.prog X.w) X.A (isTrue e X.env whole) (TP X pins σ Q) X.xe s
/-- the state grows its tokens -/
theorem thnT {α : Type} {t : Sem α} {Q Q' : α → Shared → Prop} {M : Model} {A : Around} {E : Value → Shared → Prop} {s : Shared} (h0 : 1 ≤ s.toks) (h : wpAny M A t Q E s) (hQ : ∀ a s', 1 ≤ s'.toks → Q a s' → Q' a s') : wpAny M A t Q' E s :=
  wpAny_mono (PySem.wpAny_toks_of h0 h) (fun a s' q => hQ a s' q.1 q.2) fun _ _ z => z.2
section
variable {X : Cx} {a b e : Expr} {rest : List Expr} {te : TE} {tA tB2 : TT} {t u : TS} {pos p : Pos}
theorem PTT.of (h : PT X e tA) : PTT X e tA := fun pins s σ H Q _ I q => h.run pins s σ H Q I q
theorem PWT.ptt (h : PWT X e tA) : PTT X e tA := h _
theorem ptt_val (h : PET X e te) (he : ∀ whole, isTrue e X.env whole = (do let v ← whole; standAt e.pos; holding [v] (truthy v)) := by intro _; rfl) : PTT X e (tB te) := by
  intro pins s σ H Q h0 I hw
  refine isTrue_plain (thn (h pins s σ H _ h0 I hw) fun v s1 q => ?_) (he _)
  obtain ⟨y, H1, I1, r1, d, rfl, q⟩ := q
  cases r1
  exact wpAny_truthy_bool ⟨H1, I1, q⟩
theorem ptt_not (ha : PTT X a tA) : PTT X (.UnaryOp .Not a pos) (tNot tA) := fun pins s σ H Q h0 I h => isTrue_not (ha pins s σ H (fun c H1 => Q (!c) H1) h0 I h)
theorem pwt_or1 (ha : PTT X a tA) : PWT X (.BoolOp .Or [a] pos) tA := by
  intro wh pins s σ H Q h0 I h
  refine isTrue_or (thn (ha pins s σ H Q h0 I h) fun c s1 q => ?_)
  cases c with
  | false => exact isTrue_or_nil q
  | true => exact q
theorem pwt_or (ha : PTT X a tA) (hb : PWT X (.BoolOp .Or (b :: rest) pos) tB2) : PWT X (.BoolOp .Or (a :: b :: rest) pos) (tOr tA tB2) := by
  intro wh pins s σ H Q h0 I h
  refine isTrue_or (thnT h0 (ha pins s σ H _ h0 I h) fun c s1 h1 q => ?_)
  obtain ⟨H1, I1, q1⟩ := q
  cases c with
  | true => exact ⟨H1, I1, q1⟩
  | false => exact hb wh pins s1 σ H1 Q h1 I1 q1
theorem pst_ifT {c : Expr} {sa sb : List Stmt} {tc : TT} (hc : PTT X c tc) (ha : PSsT X sa t) (hb : PSsT X sb u) : PST X (.If c sa sb pos) (tIfS tc t u) := by
  intro pins s σ H D h0 I h
  refine wpAny_If (thnT h0 (hc pins s σ H _ h0 I h) fun d s1 h1 q => ?_)
  obtain ⟨H1, I1, q1⟩ := q
  cases d with
  | true => exact ha pins s1 σ H1 D h1 I1 q1
  | false => exact hb pins s1 σ H1 D h1 I1 q1
theorem psstT_nil : PSsT X [] tNext := PSsT.of pss_nil
theorem psstT_one {st : Stmt} (h : PST X st t) : PSsT X [st] t := psst_cons h psstT_nil
/-- f(e, ..), f wanting a token -/
theorem pet_callT {CX : CXT} {k : Nat} {f : Addr} {fd : FuncData} {ps : List Str} {sp : Sp} {dvs : List V} {ds : List Value} {E : XK} {x : Str} {es : List Expr} {ta : TA} (F : FnOkT X.prog X.w X.K X.mg X.base CX k f fd ps sp) (hr : Room k X.A) (hg : Gl X x) (hm : X.mg x = some (.ref f))
    (hk : PySem.W.keepIn X.K (.ref f) = true) (hb : Binds X.K fd ps ds) (hd : Vals dvs ds) (hx : Passes CX X E) (ha : PA X (e :: es) ta) (hdb : (x == ("__debug__" : Str)) = false := by decide)
    (he : starEach (e :: es) X.env = (false, eval e X.env) :: starEach es X.env := by rfl) (hpl : (backTo pos (starEach es X.env)).any (·.1) = false := by rfl) : PET X (.Call (.Name x p) (e :: es) [] pos) (tCall sp dvs E ta) := by
  intro pins s σ H Q h0 I h
  refine wpAny_Call_Name_kw (ld_glob I hg hm ?_ hdb)
  refine PySem.W.callWith_K (h₀ := X.base) I.ok.mod.kin hk (thnT h0 (ha.run pos pins s σ H _ I h) fun us s1 h1 ⟨vs, H1, I1, r, q⟩ => ⟨I1.kIn, ?_⟩) he hpl
  have r2 : Vals (vs ++ dvs) (us ++ ds) := r.append hd
  have hl : (us ++ ds).length = ps.length := r2.length ▸ F.len _ _ _ _ q
  refine wpAny_call (codeAny_mono (F.run X.A X.stack s1 H1 ⟨us, []⟩ (us ++ ds) (vs ++ dvs) Q E h1 hr I1.env0 (hb s1 us I1.kIn hl) r2 q) fun res s2 hq => ?_)
  cases res with
  | error er => exact hx pins σ H1 s1 er s2 I1 hq
  | ok fl =>
    cases fl with
    | ret v => exact I1.after hq
    | next => exact False.elim hq
    | brk => exact False.elim hq
    | cont => exact False.elim hq
/-- for, its body wanting a token -/
theorem pst_forT {tg iter : Expr} {body : List Stmt} {wi : TI} {g : TG} {tb : TS} (hp : PassesOwn (model X.prog X.w) X.A X.env X.xe) (hc : X.calm = true) (hi : PI X tg iter wi) (hg : PG X tg g) (hb : PSsT X body tb)
    (hs : ∀ x, foldedSetIterable iter X.env x = pure x := by intro _; rfl) : PST X (.For tg iter body [] pos) (tFor wi g tb) := by
  intro pins s σ H D h0 I h
  refine wpAny_For (thnT h0 (hi.run pins s σ H _ I h) fun v sa ha h1 => thnT ha h1 fun itv sb hb2 h2 => ?_) hs
  obtain ⟨it, fp, tn, Jf, Hb, e, Ib, T, stb, fb, W, ⟨n0, wn0⟩, turn⟩ := h2
  subst e
  have fix : ∀ {G : Hp}, (∀ c ∈ fp, G c = none) → ∀ c ∈ fp, FpOk X pins G c := fun hn c hcm => ⟨hn c hcm, (fb c hcm).2⟩
  refine codeAny_forLoop_any (fun n s' => 1 ≤ s'.toks ∧ ∃ i τ G, Inv X pins τ G s' ∧ tn i s'.heap ∧ (∀ c ∈ fp, G c = none) ∧ W i n τ G) ?_ n0 ⟨hb2, 0, σ, Hb, Ib, stb, fun c hcm => (fb c hcm).1, wn0⟩
  rintro n sc ⟨hto, i, τ, G, Ic, stc, frc, wc⟩
  rcases turn i n τ G wc with ⟨stop, qn⟩ | ⟨go, N, hN, step⟩
  · refine wpAny_passesOwn hp (thn (T.done X rfl rfl rfl hc i pins sc τ G X.xe Ic (fix frc) stc stop) fun r sd hd => ?_)
    obtain ⟨rfl, Id⟩ := hd
    exact wpAny_execs_nil ⟨τ, G, Id, qn⟩
  · refine wpAny_passesOwn hp (thnT hto (T.item X rfl rfl rfl hc i pins sc τ G X.xe Ic (fix frc) stc go) fun r sd td hd => ?_)
    obtain ⟨w, rfl, hd⟩ := hd
    refine wpAny_passesOwn hp (thnT td hd fun _ se te he => ?_)
    obtain ⟨y, Ge, Ie, re, ye, ste, fre⟩ := he
    have Ip := Ie.pinned (fix fre) (T.obj _ _ ste)
    refine wpAny_passesOwn hp (thnT te (hg.run _ se τ Ge y w _ Ip re (step y Ge ye)) fun _ sf tf hf => ?_)
    obtain ⟨τf, Gf, If, qf⟩ := hf
    refine wpAny_passesOwn hp (thnT tf (hb _ sf τf Gf _ tf If qf) fun fl sg tg2 qg => ?_)
    have back : ∀ {τg : L2.St} {Gg : Hp}, Inv X (pins ++ pinsAt fp se.heap) τg Gg sg → N τg Gg → ∃ m, m < n ∧ (1 ≤ sg.toks ∧ ∃ i τ' G', Inv X pins τ' G' sg ∧ tn i sg.heap ∧ (∀ c ∈ fp, G' c = none) ∧ W i m τ' G') := fun {τg Gg} Ig ng => by
      obtain ⟨m, hm, wm⟩ := hN τg Gg ng
      have pinned : ∀ c ∈ fp, ∀ o, se.heap.get? c = some o → sg.heap.get? c = some o ∧ Gg c = none := fun c hcm o eo => by
        have z := Ig.pin (c, o) (List.mem_append_right _ (List.mem_append_right _ (mem_pinsAt hcm eo)))
        exact ⟨z.1, z.2.1⟩
      refine ⟨m, hm, tg2, i + 1, τg, Gg, Ig.unpinned, T.keep _ _ _ ste fun c hcm o eo => (pinned c hcm o eo).1, fun c hcm => ?_, wm⟩
      obtain ⟨o, eo, _⟩ := T.obj _ _ ste c hcm
      exact (pinned c hcm o eo).2
    cases fl with
    | next =>
      obtain ⟨τg, Gg, Ig, ng⟩ := qg
      exact back Ig ng
    | cont =>
      obtain ⟨τg, Gg, Ig, ng⟩ := qg
      exact back Ig ng
    | brk =>
      obtain ⟨τg, Gg, Ig, qz⟩ := qg
      exact ⟨τg, Gg, Ig.unpinned, qz⟩
    | ret v =>
      obtain ⟨xv, τg, Gg, Ig, rv, qz⟩ := qg
      exact ⟨xv, τg, Gg, Ig.unpinned, rv, qz⟩
end
end Own
set_option Elab.async false
set_option linter.all false
set_option maxRecDepth 100000
set_option maxHeartbeats 4000000
namespace Own
open PySem PySem.Spec PyProof.Rows L2
/-! ### enumerate over a tuple, and over what is a list or a tuple -/
section
open PySem (wpAny_stack_any)
theorem meets_enum1 {v : Value} {o : Obj} {G : Heap → Prop} (B : Begins v o G) :
    Meets (Builtin.«enumerate.__new__» ⟨[.type "enumerate", v], []⟩) (fun _ R s => G s.heap ∧
      R (.ok (.ret (.ref (s.heap.push o).objs.size))) { s with heap := (s.heap.push o).push { cls := .type "enumerate", data := .fields #[.none, .bool false, .ref s.heap.objs.size, rawInt 0, .none, .none] } }) := by
  refine Meets.of_wp fun prog w A R s h => ?_
  obtain ⟨hp, gg, dd, tk, os⟩ := s
  obtain ⟨hG, hR⟩ := h
  have hsub := sub_enumerate
  have q1 : ∀ {A2 : Around} {E : Value → Shared → Prop} {Q : Value → Shared → Prop}, Q (.ref hp.objs.size) ⟨hp.push o, gg, dd, tk, os⟩ → wpAny (model prog w) A2 (pyIter v) Q E ⟨hp, gg, dd, tk, os⟩ := fun q => B.iter prog w _ _ ⟨hp, gg, dd, tk, os⟩ _ hG q
  wp_walk using q1
  refine wpAny_stack_any fun st => wpAny_pure ?_
  split
  · rename_i c _ _ _ _ _
    cases (c == Value.type "enumerate") with
    | false => wp_walk using q1; exact ⟨_, rfl, hR⟩
    | true => wp_walk using q1; exact ⟨_, rfl, hR⟩
  · wp_walk using q1
    exact ⟨_, rfl, hR⟩
theorem call_enum_tuple {prog : Program} {w : World} {A : Around} {E : Value → Shared → Prop} {s : Shared} {l : Addr} {items : Array Value} {Q : Value → Shared → Prop} (hT : s.heap.IsTuple l items)
    (h : ∀ h', IsEnum h' (s.heap.objs.size + 1) s.heap.objs.size 0 .none → h'.IsTupleIter s.heap.objs.size l 0 → (∀ b o, s.heap.get? b = some o → h'.get? b = some o) → Q (.ref (s.heap.objs.size + 1)) { s with heap := h' }) :
    wpAny (model prog w) A (call (.type "enumerate") [.ref l]) Q E s := by
  refine callType_new F.called_enumerate (by decide) (F.typeCall_enumerate_1 _) (F.newCall_enumerate_1 _) (fun obj => F.args_object_init_2 obj _) F.entry_enumerate_new (meets_enum1 (begins_tuple l items)) ⟨hT, ?_⟩
  have hz : (s.heap.push { cls := .type "tuple_iterator", data := .fields #[.ref l, .int 0 0] }).objs.size = s.heap.objs.size + 1 := Heap.size_push ..
  show _ ∧ _
  rw [hz]
  have atE := Heap.get?_push_size (s.heap.push { cls := .type "tuple_iterator", data := .fields #[.ref l, .int 0 0] }) (o := { cls := .type "enumerate", data := .fields #[.none, .bool false, .ref s.heap.objs.size, rawInt 0, .none, .none] }) rfl
  rw [hz] at atE
  exact ⟨⟨_, atE, rfl⟩, h _ atE ⟨_, Heap.get?_push_of_some _ (Heap.get?_push_size _ rfl), rfl, rfl⟩ fun b o x => Heap.get?_push_of_some _ (Heap.get?_push_of_some _ x)⟩
end
theorem next_enum_tupEnd {prog : Program} {w : World} {A : Around} {E : Value → Shared → Prop} {s : Shared} {e it l : Addr} {i : Nat} {items : Array Value} {old : Value} {Q : Option Value → Shared → Prop} (hh : A.handled = none)
    (he : IsEnum s.heap e it i old) (hit : s.heap.IsTupleIter it l i) (hl : s.heap.IsTuple l items) (hx : items[i]? = none) (hQ : ∀ h', Heap.ExtBut it s.heap h' → Q none { s with heap := h' }) : wpAny (model prog w) A (pyNext (.ref e)) Q E s := by
  have ty : s.TypeIs (.ref e) "enumerate" := ⟨_, he, rfl⟩
  unfold pyNext
  refine wpAny_bind (wpAny_attempt (wpAny_callSpecial?_slot (name := Str.ofString "__next__") ty F.slot_enumerate_next (wpAny_call_entry F.slot_enumerate_next ty F.entry_enumerate_next ?_ (F.args_enumerate_next_1 _))))
  show wpAny _ _ (field (.ref e) 2 >>= _) _ _ s
  refine wpAny_bind (wpAny_field he rfl (x := .ref it) rfl (wpAny_bind (wpAny_nextOf_tuple_end (show A.in1.handled = none from hh) hit hl hx fun h1 x he1 hx1 => ?_)))
  obtain ⟨o, ho, hc⟩ := hx1
  exact wpAny_bind (wpAny_isInstance (T := "StopIteration") (b := true) ⟨o, ho, hc⟩ isSubtype_stop (wpAny_pure (hQ _ he1)))
def IteT (K : PySem.W.Frag) (a : Addr) : It :=
  ⟨fun i H => ∃ (xs : List V) (x : V), SqT K H a xs ∧ xs[i]? = some x, fun i H v H' => ∃ T x, v = .ref T ∧ H T = none ∧ H' = L2.upd H T (.tup [.int (i : Nat), x]) ∧ ∀ xs, SqT K H a xs → xs[i]? = some x, fun i H => ∃ xs : List V, SqT K H a xs ∧ xs.length ≤ i⟩
theorem turn_enumT {P : Program} {w : World} {K : PySem.W.Frag} {elts : List Expr} {kk : Nat} {tpos : Pos} (a e it : Addr) :
    Turn P w K (.Tuple elts kk tpos) (IteT K a) [e, it] e (fun i h => (∃ old, IsEnum h e it ((i : Nat) : Int) old) ∧ h.IsTupleIter it a i ∧ e ≠ it) := by
  have two : ∀ {b : Addr}, b ∈ [e, it] → b = e ∨ b = it := fun hb => by simpa using hb
  refine ⟨by simp, fun i h st b hb => ?_, fun i h h' st k => ?_, ?_, ?_, fun A i s Q E st h => ?_⟩
  · obtain ⟨⟨old, he⟩, ⟨o, ho, hc, hd⟩, _⟩ := st
    cases two hb with
    | inl z => subst z; exact ⟨_, he, fun v q => nomatch q⟩
    | inr z => subst z; exact ⟨o, ho, fun v q => by rw [hd] at q; cases q⟩
  · obtain ⟨⟨old, he⟩, hi, hne⟩ := st
    exact ⟨⟨old, k e (by simp) _ he⟩, hi.at fun o q => k it (by simp) o q, hne⟩
  · intro X hP hw hK hc i pins s σ H E I hf st hg
    subst hP hw hK
    obtain ⟨⟨old, he⟩, hit, hne⟩ := st
    obtain ⟨xs, x, hq, hx⟩ := hg
    obtain ⟨its, rv, p, hz⟩ := I.tuple hq
    have pT : s.heap.IsTuple a its.toArray := p
    have eN : e ≠ a := fun z => by
      obtain ⟨o, ho, hcl, _⟩ := pT
      subst z
      rw [he] at ho
      cases ho
      injection hcl with q
      revert q
      decide
    have iN : a ≠ it := fun z => by
      obtain ⟨o, ho, hcl, _⟩ := pT
      obtain ⟨o2, ho2, hcl2, _⟩ := hit
      subst z
      rw [ho] at ho2
      cases ho2
      rw [hcl] at hcl2
      injection hcl2 with q
      revert q
      decide
    have el : e < s.heap.objs.size := Heap.lt_size he
    have il : it < s.heap.objs.size := by
      obtain ⟨_, q, _⟩ := hit
      exact Heap.lt_size q
    have hlen := (List.getElem?_eq_some_iff.mp hx).1
    have hn := rv.length
    refine wpAny_pyNext_enum_itemC (Draws.tuple (A := X.A.in1) (show X.A.in1.handled = none from I.ok.hd hc) it a iN its.toArray) he ⟨hit, pT⟩ (by simp; omega) hne (by simp [hne, eN]) fun u h1 tk hu ho hst hT hsz hk => ?_
    refine ⟨_, rfl, wpAny_letOwnedTupleGo_enum (s := { s with heap := h1, toks := tk + 1 }) ho fun h2 he2 sb => ?_⟩
    have hT2 : h2.get? s.heap.objs.size = some { cls := .type "tuple", data := .seq #[.int i tk, u] } := (sb.2 _ (Nat.ne_of_gt el)).trans hT
    have ru : RelV x u := by
      obtain ⟨u2, hu2, r2⟩ := rv.get hx
      have : its.toArray[i]? = its[i]? := by simp
      rw [this, hu2] at hu
      cases hu
      exact r2
    have I1 : Inv X pins σ (L2.upd H s.heap.objs.size (.tup [.int (i : Nat), x])) { s with heap := h2, toks := tk + 1 } :=
      I.turnedNew (ch := [e, it]) (fun b ob hb q => (sb.2 b (fun z => hb (by simp [z]))).trans (hk b ob (fun z => hb (by simp [z])) (fun z => hb (by simp [z])) q)) hf (Nat.le_refl _)
        ⟨by show 2 ≤ sizeLine; decide, [.int i tk, u], .cons ⟨_, rfl⟩ (.cons ru .nil), ⟨_, hT2, rfl, _, rfl⟩⟩
    refine ⟨.ref s.heap.objs.size, _, I1, rfl, ⟨_, x, rfl, I.hok.fresh (Nat.le_refl _), rfl, fun ys hy => by rw [I.tuple_inj hy hq]; exact hx⟩, ⟨⟨u, ?_⟩, hst.1.at fun o q => (sb.2 it (Ne.symm hne)).trans q, hne⟩, fun b hb => ?_⟩
    · have e1 : ((i + 1 : Nat) : Int) = (i : Int) + 1 := by omega
      rw [e1]
      exact he2
    · have lt : b < s.heap.objs.size := by
        cases two hb with
        | inl z => subst z; exact el
        | inr z => subst z; exact il
      rw [upd_ne (Nat.ne_of_lt lt)]
      exact (hf b hb).1
  · intro X hP hw hK hc i pins s σ H E I hf st hg
    subst hP hw hK
    obtain ⟨⟨old, he⟩, hit, hne⟩ := st
    obtain ⟨xs, hq, hx⟩ := hg
    obtain ⟨its, rv, p, hz⟩ := I.tuple hq
    obtain ⟨f0, f1, f2, f3, f4, f5⟩ := hf it (by simp)
    have pT : s.heap.IsTuple a its.toArray := p
    have hl := rv.length
    exact next_enum_tupEnd (I.ok.hd hc) he hit pT (by simp; omega) fun h1 eb => ⟨rfl, I.turned (t' := s.toks) (fun b o hb q => eb b o hb q) f0 f1 f3 f4 f5⟩
  · obtain ⟨⟨old, he⟩, _⟩ := st
    exact wpAny_pyIter_enum he h
/-- enumerate(e), e a list or a tuple -/
def iEnumS (K : PySem.W.Frag) (ta : TA) : TI := fun σ H R => ta σ H fun vs H1 => ∃ a, vs = [.ref a] ∧ ((∃ xs, SqL K H1 a xs ∧ R (Ite K a) H1) ∨ ∃ xs, SqT K H1 a xs ∧ R (IteT K a) H1)
theorem pi_enumS {X : Cx} {e : Expr} {ta : TA} {p pos tpos : Pos} {elts : List Expr} {kk : Nat} (hg : Gl X "enumerate") (hm : X.mg "enumerate" = none) (ha : PA X [e] ta) (hs : starEach [e] X.env = [(false, eval e X.env)] := by rfl) :
    PI X (.Tuple elts kk tpos) (.Call (.Name "enumerate" p) [e] [] pos) (iEnumS X.K ta) := by
  refine ⟨fun pins s σ H R I h => ?_⟩
  refine Call_ (ld_blt I hg hm boot_enumerate (PyProof.Rows.callWith_type1 (thn (ha.run pos pins s σ H _ I h) fun us s1 h1 => ?_) hs rfl))
  obtain ⟨vs, H1, I1, r1, a, rfl, q⟩ := h1
  match us, r1 with
  | [_], .cons r .nil =>
    cases r
    have low : ∀ b ∈ [s1.heap.objs.size + 1, s1.heap.objs.size], s1.heap.objs.size ≤ b := fun b hb => by
      have : b = s1.heap.objs.size + 1 ∨ b = s1.heap.objs.size := by simpa using hb
      omega
    rcases q with ⟨xs, hq, q⟩ | ⟨xs, hq, q⟩
    · obtain ⟨its, rv, pl, hz⟩ := I1.list hq
      refine call_enumerate_list pl.isList fun h2 he hit hsz hk => wpAny_pyIter_enum he ?_
      exact ⟨s1.heap.objs.size + 1, [s1.heap.objs.size + 1, s1.heap.objs.size], _, _, H1, rfl, I1.kept (t' := s1.toks) hk, turn_enum a _ _, ⟨⟨.none, he⟩, hit, Nat.succ_ne_self _⟩, fun b hb => I1.fpOk (low b hb) (I1.hok.fresh (low b hb)), q⟩
    · obtain ⟨its, rv, pl, hz⟩ := I1.tuple hq
      refine call_enum_tuple (show s1.heap.IsTuple a its.toArray from pl) fun h2 he hit hk => wpAny_pyIter_enum he ?_
      exact ⟨s1.heap.objs.size + 1, [s1.heap.objs.size + 1, s1.heap.objs.size], _, _, H1, rfl, I1.kept (t' := s1.toks) hk, turn_enumT a _ _, ⟨⟨.none, he⟩, hit, Nat.succ_ne_self _⟩, fun b hb => I1.fpOk (low b hb) (I1.hok.fresh (low b hb)), q⟩
theorem walk_enumT {K : PySem.W.Frag} {a : Addr} {xs : List V} : Walk (IteT K a) xs.length (fun H => SqT K H a xs) (YPair (fun i => some (.int (i : Nat))) (fun i => xs[i]?)) := by
  refine ⟨fun i _ hi q => ⟨xs, xs[i], q, by simp [hi]⟩, fun _ q => ⟨xs, q, Nat.le_refl _⟩, fun i H v H' _ q y => ?_⟩
  obtain ⟨T, x, e1, e2, e3, e4⟩ := y
  exact ⟨T, _, x, e1, e2, e3, rfl, e4 xs q⟩
end Own
set_option Elab.async false
set_option linter.all false
set_option maxRecDepth 100000
set_option maxHeartbeats 4000000
namespace Own
open PySem PySem.Spec PyProof.Rows L2 LamX
/-! ### a caught error that is kept as a value -/
/-- an exception object of the class cls (own dict at d) stands at a -/
def Caught (cls : Value) (d : Option Addr) (a : Addr) : HO := .ext fun h => ∃ oe : Obj, h.get? a = some oe ∧ Zc cls d oe ∧ ∃ vs, oe.data = .fields vs
theorem caught_ok {P : Program} {w : World} {H : Hp} {h : Heap} {a : Addr} {cls : Value} {d : Option Addr} {oe : Obj} (e : h.get? a = some oe) (z : Zc cls d oe) (k : ∃ vs, oe.data = .fields vs) : ObjOk P w H h a (Caught cls d a) :=
  ⟨⟨oe, e, z, k⟩, ⟨oe, e⟩, fun _ _ ⟨o1, e1, z1, k1⟩ st => ⟨o1, st _ e1, z1, k1⟩⟩
section
variable {X : Cx} {pins : List (Addr × Obj)}
/-- a new address gets known: nothing of the entry, no cell, no pin stands there -/
theorem note_new {σ : L2.St} {H : Hp} {s : Shared} {a : Addr} {u : HO} (I : Inv X pins σ H s) (na : H a = none) (n0 : X.s_0.heap.get? a = none) (nL : a ≠ X.env.locals) (nC : ∀ x c, X.env.cells.lookup x = some c → c ≠ a) (nP : ∀ p ∈ X.pn ++ pins, p.1 ≠ a)
    (new : ObjOk X.prog X.w (upd H a u) s.heap a u) : Inv X pins σ (upd H a u) s := by
  have apart : ∀ {b : Addr} {o : Obj}, X.s_0.heap.get? b = some o → b ≠ a := fun {b o} e z => by
    rw [z, n0] at e
    cases e
  refine ⟨I.ok, I.os, I.bare, ?_, I.loc, I.cell, ?_, ?_, ?_, ?_, I.len⟩
  · refine ⟨I.base.keep, I.base.slot, fun b o e n hx => ?_, I.base.there, fun b xs e => ?_, fun b o xs e => ?_, fun b ps e => ?_⟩
    · rw [upd_ne (apart e)]
      exact I.base.free b o e n hx
    · have q := I.base.tups b xs e
      rw [upd_ne (ne_of_none q na)]
      exact q
    · have q := I.base.frzs b o xs e
      rw [upd_ne (ne_of_none q na)]
      exact q
    · obtain ⟨more, q⟩ := I.base.tbls b ps e
      exact ⟨more, by rw [upd_ne (ne_of_none q na)]; exact q⟩
  · rw [upd_ne nL.symm]
    exact I.free
  · intro x c e
    rw [upd_ne (nC x c e)]
    exact I.freeC x c e
  · intro p hp
    obtain ⟨h1, h2, h3⟩ := I.pin p hp
    exact ⟨h1, by rw [upd_ne (nP p hp)]; exact h2, h3⟩
  · intro b o e
    by_cases hb : b = a
    · subst hb
      rw [upd_same] at e
      cases e
      exact new
    · rw [upd_ne hb] at e
      exact (I.hok b o e).stay (fun c v _ q => q) (fun c q => by rw [upd_ne (ne_of_none q na)]; exact q) fun c xs q => by rw [upd_ne (ne_of_none q na)]; exact q
/-- what is wished of an error that the clause takes and keeps -/
def wKeep (K : PySem.W.Frag) (c : Value) (i : Nat) (ts : Addr → Value → Option Addr → TS) (D : Ends) : WX := fun cls d σ H =>
  ∃ b, PySem.W.exmOne K cls c = some b ∧ (b = true → ∀ a, H a = none → ts a cls d { nx := fun σ' H' => H' a = none → D.nx (σ'.set i none) (upd H' a (Caught cls d a)), rt := fun _ _ => False } (σ.set i (some (.ref a))) H) ∧ (b = false → False)
/-- try: body / except x as n: suite, the error being known behind it; every error is of that class -/
theorem ps_try_keep {x n : Str} {c : Value} {i : Nat} {body suite : List Stmt} {b0 : Stmt} {np pos pos1 : Pos} {tb : WX → TS} {ts : Addr → Value → Option Addr → TS}
    (hs : X.stack = X.env :: X.outer) (hex : X.ex = []) (hf : X.env.frame = some X.env.locals) (hN : X.N.Nodup) (hi : X.N[i]? = some n) (hln : X.env.kindOf n = some .local) (hc : Names X x c)
    (hb : ∀ (W : WX) (pn : List (Addr × Obj)) (xe : Value → Shared → Prop), Takes (X.tr pn xe) W → PassesOwn (model X.prog X.w) X.A X.env xe → PSs (X.tr pn xe) body (tb W))
    (hsu : ∀ (a : Addr) (oe : Obj) (cls : Value) (d : Option Addr) (pn : List (Addr × Obj)), Zc cls d oe → (∃ vs, oe.data = .fields vs) → PSs (X.suite a ((a, oe) :: pn)) (b0 :: suite) (ts a cls d)) :
    PS X (.Try body [.ExceptHandler (some (.Name x np)) (some n) (b0 :: suite) pos1] [] [] pos) (fun D σ H => tb (wKeep X.K c i ts D) D σ H) := by
  constructor
  intro pins s σ H D I h
  have ok := I.ok
  have frm : X.A.frames = some (X.env :: X.outer) := ok.frames.trans (congrArg some hs)
  refine wpAny_Try_except (wpAny_mono (hb (wKeep X.K c i ts D) (X.pn ++ pins) (fun e t1 => wpAny (model X.prog X.w) X.A (noteFrame e X.env) (fun _ t2 => wpAny (model X.prog X.w) X.A (setFlight e none) (fun _ t3 =>
    wpAny (model X.prog X.w) X.A (handleBy e X.env [.ExceptHandler (some (.Name x np)) (some n) (b0 :: suite) pos1]) (SP X pins D) X.xe t3) X.xe t2) X.xe t1) (fun u t hx => ?_) PassesOwn.looking |>.run [] s σ H D (I.toTry _) h) (fun fl t hq => ?_) (fun _ _ he => he))
  · obtain ⟨a, B, s2, p2, σ2, H2, cls, d, rfl, Jt, nb, up, sky, na, os, ag, b, hb1, hyes, hno⟩ := hx
    have J : Inv X pins σ2 H2 s2 := Jt.ofTry ok
    rw [hs] at sky
    refine Sky.land Zc.steady frm hf sky fun h3 fl3 up3 => ?_
    have J3 : Inv X pins σ2 H2 { t with heap := h3 } := J.landed nb fl3.1 (up.trans up3) os ag
    obtain ⟨oe3, vs3, he3, hz3, hd3⟩ := fl3.there
    have out : a ∉ frs (X.env :: X.outer) := fun hm => by
      obtain ⟨_, o1, e1, no⟩ := fl3.2.2.1.mem hm
      rw [he3] at e1
      cases e1
      exact no _ hd3
    have nL : a ≠ X.env.locals := fun z => out (List.mem_filterMap.mpr ⟨X.env, List.mem_cons_self, by rw [hf, z]⟩)
    have nF : a ∉ X.fs := fun hm => by
      obtain ⟨e1, he1, q⟩ := List.mem_filterMap.mp hm
      exact out (List.mem_filterMap.mpr ⟨e1, List.mem_cons_of_mem _ he1, q⟩)
    -- nothing stood at a when the body was entered
    have nB : B.get? a = none := fl3.2.1
    have n2 : s2.heap.get? a = none := by
      cases q : s2.heap.get? a with
      | none => rfl
      | some o =>
        have z := nb a o q (by rw [hs]; exact out)
        rw [nB] at z
        cases z
    have n0 : X.s_0.heap.get? a = none := by
      cases q : X.s_0.heap.get? a with
      | none => rfl
      | some o =>
        obtain ⟨o1, q1⟩ := J.base.there a o q (by rw [hex]; exact List.not_mem_nil)
        rw [n2] at q1
        cases q1
    have nC : ∀ y c, X.env.cells.lookup y = some c → c ≠ a := fun y c e z => by
      obtain ⟨v, o, q, _⟩ := J.cell y c e
      rw [z, n2] at q
      cases q
    have nP : ∀ p ∈ X.pn ++ pins, p.1 ≠ a := fun p hp z => by
      have q := (J.pin p hp).1
      rw [z, n2] at q
      cases q
    refine wpAny_handleBy_cons (codeAny_handlers_test ?_) (fun z => nomatch z)
    have inS := J3.suite he3 hd3 na nL nF
    have asked : ∀ {Q E : Value → Shared → Prop}, Q c { t with heap := h3 } → wpAny (model X.prog X.w) (X.A.mark (some (.ref a))) (eval (.Name x np) X.env) Q E { t with heap := h3 } := fun {Q E} q => by
      obtain ⟨hg, hdbg, hm⟩ := hc
      rcases hm with hm | ⟨hm, hv, hnn⟩
      · exact ld_glob (X := X.suite a ((a, oe3) :: (X.pn ++ pins))) inS hg hm q hdbg
      · exact ld_blt (X := X.suite a ((a, oe3) :: (X.pn ++ pins))) inS hg hm hv q hnn hdbg
    have kind : PySem.W.Looks (model X.prog X.w) h3 (typeOf (.ref a)) cls := fun A Q E s k q => wpAny_typeOf_ref (k _ _ he3) (by rw [hz3.1]; exact q)
    refine asked ((PySem.W.exm_one (M := model X.prog X.w) (J3.kIn) kind hb1).here ?_)
    cases b with
    | false => exact (hno rfl).elim
    | true =>
      refine codeAny_handlers_suite_as (HandSPX.lands_againZ fl3 fun h4 fl4 up4 => ?_)
      have J4 : Inv X pins σ2 H2 { t with heap := h4 } := J.landed nb fl4.1 ((up.trans up3).trans up4) os ag
      obtain ⟨oe4, vs4, he4, hz4, hd4⟩ := fl4.there
      refine store_ok (X := X.suite a ((a, oe4) :: (X.pn ++ pins))) (v := .ref a) (J4.suite he4 hd4 na nL nF) hN hi (.inl hln) rfl (fun s5 S5 => ?_) (.inr hln)
      refine wpAny_mono ((hsu a oe4 cls d (X.pn ++ pins) hz4 ⟨_, hd4⟩).run [] s5 _ H2 _ S5 (hyes rfl a na)) (fun fl s6 hsp => ?_) (fun _ _ z => False.elim z)
      cases fl with
      | next =>
        obtain ⟨σ6, H6, S6, q6⟩ := hsp
        refine gone_ok (X := X.suite a ((a, oe4) :: (X.pn ++ pins))) S6 hN hi hln fun s7 S7 => ?_
        obtain ⟨e7, n7, _⟩ := S7.pin (a, oe4) (List.mem_append.mpr (.inl List.mem_cons_self))
        exact ⟨_, _, note_new (S7.unsuite ok) n7 n0 nL nC nP (caught_ok e7 hz4 ⟨_, hd4⟩), q6 n7⟩
      | brk =>
        obtain ⟨_, _, _, q6⟩ := hsp
        exact False.elim q6
      | cont =>
        obtain ⟨_, _, _, q6⟩ := hsp
        exact False.elim q6
      | ret u =>
        obtain ⟨_, _, _, _, _, q6⟩ := hsp
        exact False.elim q6
  · cases fl with
    | next =>
      obtain ⟨σ2, H2, J, q⟩ := hq
      exact wpAny_execs_nil ⟨σ2, H2, J.ofTry ok, q⟩
    | brk =>
      obtain ⟨σ2, H2, J, q⟩ := hq
      exact ⟨σ2, H2, J.ofTry ok, q⟩
    | cont =>
      obtain ⟨σ2, H2, J, q⟩ := hq
      exact ⟨σ2, H2, J.ofTry ok, q⟩
    | ret u =>
      obtain ⟨v, σ2, H2, J, r, q⟩ := hq
      exact ⟨v, σ2, H2, J.ofTry ok, r, q⟩
end
theorem tk_len {X : Cx} {W : WX} (tk : Takes X W) {n : Nat} (hn : X.N.length = n) : Takes X (fun cls d σ H => σ.length = n → W cls d σ H) := fun u s' ⟨a, B, sI, pins, σ, H, cls, d, e, I, h1, h2, h3, h4, h5, h6, w⟩ =>
  tk u s' ⟨a, B, sI, pins, σ, H, cls, d, e, I, h1, h2, h3, h4, h5, h6, w (I.len.trans hn)⟩
/-- isinstance(e, c), e an error that was caught and kept, c an own class; or a value of a known kind -/
def rIsX (K : PySem.W.Frag) : List V → Hp → VK → Prop := fun xs H Q => ∃ (a D : Addr) (dd : Option Addr) (c : V) (cv : Value) (b : Bool), xs = [.ref a, c] ∧ H a = some (Caught (.ref D) dd a) ∧ dd = none ∧ ExcC K D ∧ ClsV c cv ∧ PySem.W.kitOne K (.ref D) cv = some b ∧ Q (.bl b) H
theorem call_isX {X : Cx} : CallR X (.builtin "isinstance") (rIsX X.K) := by
  intro pins s σ H xs us Q I r h
  obtain ⟨a, D, dd, c, cv, b, rfl, ha, rfl, C, k, e, q⟩ := h
  obtain ⟨u1, u2, rfl, r1, r2⟩ := vals2 r
  have e2 := k.eq r2
  subst e2
  cases (show u1 = Value.ref a from r1)
  obtain ⟨⟨oe, ho, hz, vs, hv⟩, _, _⟩ := I.hok a _ ha
  have J : PySem.W.InstAt s.heap a oe D none := by
    obtain ⟨oc, od, oda, osl⟩ := oe
    obtain ⟨h1, h2⟩ := hz
    dsimp only at h1 h2 hv
    subst h1 h2 hv
    exact ⟨ho, rfl, rfl, trivial⟩
  exact PySem.W.kia_one (PySem.W.handS_kitx_exc C.hg C.hk C.hs C.hd C.ha C.hn C.ht C.hm) I.kIn J e (fun z => nomatch z) fun tk => ⟨.bl b, H, I.tok tk, rfl, q⟩
/-- f(e, ..) by either of two readings -/
theorem CallR.either {X : Cx} {f : Value} {r1 r2 : List V → Hp → VK → Prop} (h1 : CallR X f r1) (h2 : CallR X f r2) : CallR X f (fun xs H Q => r1 xs H Q ∨ r2 xs H Q) := by
  intro pins s σ H xs us Q I r h
  rcases h with h | h
  · exact h1 pins s σ H xs us Q I r h
  · exact h2 pins s σ H xs us Q I r h
/-! ### the law's own catcher: found = None; try: action() / except E as error: found = error; return found -/
def TKeep (K : PySem.W.Frag) (CS : Addr) : (XK → Hp → VK → Prop) → Hp → VK → Prop := fun tl H Q =>
  tl (fun cls d H' => ∃ b, PySem.W.exmOne K cls (.ref CS) = some b ∧ (b = true → ∀ a, H' a = none → Q (.ref a) (upd H' a (Caught cls d a))) ∧ (b = false → False)) H (fun _ H' => ∃ v, (some (some V.non) : Option (Option V)) = some (some v) ∧ Q v H')
theorem keep_gives {X : Cx} {Ng : List Str} {x a e n f q : Str} {sg : Scope} {g CS : Addr} {cdg : Value} {k1 : Nat} {p1 p2 p3 p4 p5 p6 p7 p8 p9 p10 p11 p12 p13 p14 : Pos}
    (hN : Ng = [a, f, n]) (nd : Ng.Nodup) (hlf : sg.names.lookup f = some .local) (hln : sg.names.lookup n = some .local) (hge : sg.names.lookup e = some .globalImplicit) (hme : X.mg e = some (.ref CS)) (hde : (e == ("__debug__" : Str)) = false)
    (hdf : (f == ("__debug__" : Str)) = false) (hcf : (f == ("__classdict__" : Str)) = false) (hdn : (n == ("__debug__" : Str)) = false) (hcn : (n == ("__classdict__" : Str)) = false) :
    GivesTo X Ng x sg g cdg [.Assign [.Name f p1] (.Constant .none k1 p2) p3, .Try [.Expr (.Call (.Name a p4) [] [] p5) p6] [.ExceptHandler (some (.Name e p7)) (some n) [.Assign [.Name f p8] (.Name n p9) p10] p11] [] [] p12, .Return (some (.Name f p13)) p14] a q (TKeep X.K CS) := by
  subst hN
  intro fa c' s H Q tl act hc h
  have hgl : Gl (cxOf C8.CX0 X.prog X.w X.K X.mg X.base [a, f, n] x sg g cdg X.A X.stack s H C8.E0).nox e := hge
  refine ⟨_, pss_cons (ps_set (X := (cxOf C8.CX0 X.prog X.w X.K X.mg X.base [a, f, n] x sg g cdg X.A X.stack s H C8.E0).nox) (i := 1) nd rfl (Or.inl hlf) pe_non (hf := Or.inr hlf))
    (pss_cons (ps_try_keep (X := (cxOf C8.CX0 X.prog X.w X.K X.mg X.base [a, f, n] x sg g cdg X.A X.stack s H C8.E0).nox) (i := 2) (c := .ref CS)
      (tb := fun W D σ H => ∃ Ech : XK, (∀ cls d σ' H', Ech cls d H' → σ'.length = 3 → W cls d σ' H') ∧ σ[0]? = some (some (.ref fa)) ∧ H c' = some (CodeO c' q) ∧ tl Ech H fun _ H1 => D.nx σ H1)
      (ts := fun a cls d => tAsg (tVar 2) (gName 1))
      rfl rfl rfl nd rfl hln ⟨hgl, hde, .inl hme⟩ (fun W pn xe tk _ => ?_) (fun a oe cls d pn _ _ => pss_one (ps_set (i := 1) nd rfl (Or.inl hlf) (pe_var rfl (Or.inl hln) hdn hcn) (hf := Or.inr hlf))))
    (pss_one (ps_ret (pe_var (i := 1) rfl (Or.inl hlf) hdf hcf)))), ?_⟩
  · refine ⟨fun pins s' σ H' D I h' => ?_⟩
    obtain ⟨Ech, hW, h1, h2, h3⟩ := h'
    have tk2 := tk_len tk (n := 3) rfl
    exact (pss_one (ps_expr (pos := p6) (act (fun cls d σ H => σ.length = 3 → W cls d σ H) pn xe Ech p4 p5 tk2 hW))).run pins s' σ H' D I ⟨h1, h2, h3⟩
  · refine ⟨fun cls d H' => ∃ b, PySem.W.exmOne X.K cls (.ref CS) = some b ∧ (b = true → ∀ a, H' a = none → Q (.ref a) (upd H' a (Caught cls d a))) ∧ (b = false → False), fun cls d σ' H' hE hl => ?_, rfl, hc, h⟩
    obtain ⟨b, e1, e2, e3⟩ := hE
    refine ⟨b, e1, fun hb a na => ?_, e3⟩
    match σ', hl with
    | [u1, u2, u3], _ => exact ⟨_, rfl, fun na => ⟨_, rfl, e2 hb a na⟩⟩
end Own
set_option Elab.async false
set_option linter.all false
set_option maxRecDepth 100000
set_option maxHeartbeats 4000000
namespace Own
open PySem PySem.Spec PyProof.Rows L2 LamX
/-! ### f(k = v, ..), all by keywords -/
section
variable {X : Cx} {CX : CXT} {k : Nat} {f : Addr} {fd : FuncData} {ps ks : List Str} {sp : Sp} {E : XK} {x : Str} {p pos : Pos} {kws : List Keyword} {tk : TA} {g : List Value → List Value → List Value} {gV : List V → List V → List V}
def tCallK0 (m : Nat) (sp : Sp) (gV : List V → List V → List V) (E : XK) (tk : TA) : TE := fun σ H Q => tk σ H fun zs H2 => zs.length = m ∧ sp (gV [] zs) H2 Q E
theorem pe_kw0 (F : FnOk X.prog X.w X.K X.mg X.base CX k f fd ps sp) (hr : Room k X.A) (hg : Gl X x) (hm : X.mg x = some (.ref f)) (hk : PySem.W.keepIn X.K (.ref f) = true) (hb : KBn X.K fd ps 0 ks g gV) (hx : Passes CX X E) (hkw : PK X kws tk)
    (hall : (backToKw pos (keywordEach kws X.env)).all (·.1.isSome) = true := by rfl) (hks : (backToKw pos (keywordEach kws X.env)).filterMap (·.1) = ks := by rfl) (hdb : (x == ("__debug__" : Str)) = false := by decide)
    (hpl : ((backTo pos (starEach [] X.env)).any (·.1) || (backToKw pos (keywordEach kws X.env)).any (·.1.isNone)) = false := by rfl) : PE X (.Call (.Name x p) [] kws pos) (tCallK0 ks.length sp gV E tk) := by
  constructor
  intro pins s σ H Q I h
  refine wpAny_Call_Name_kw (ld_glob I hg hm (PySem.W.callWith_KW0 (h₀ := X.base) I.ok.mod.kin hk hall (thn (hkw.run pos pins s σ H _ I h) fun ws s2 ⟨zs, H2, I2, rz, l2, q2⟩ => ⟨I2.kIn, ?_⟩) hpl) hdb)
  rw [hks]
  exact run_fnN (us := []) (vs := []) F hr hb hx I2 .nil rz rfl l2 q2
end
theorem kb_one {K : PySem.W.Frag} {x qual : Str} {params : Arguments} {body : List Stmt} {scope : Scope} {kws : List (Str × V)} {f : Addr} {fd : FuncData} {p : Str} (F : FunD K x qual params body scope [] kws f fd)
    (h : ∀ (kV doc pm : Value) (an : Option Addr) (cdv ct u : Value), bindArgs (PySem.W.fnOf x qual params body scope .none kV doc pm an cdv ct) ⟨[], [(p, u)]⟩ = pure [(p, u)]) : KBn K fd [p] 0 [p] (fun _ ws => ws) (fun _ zs => zs) := by
  obtain ⟨oc, od, dV, kV, doc, pm, an, cdv, ct, osl, rfl, lk, hcd, hD, hK⟩ := F.ex
  refine ⟨fun s us ws X l1 l2 => ?_, fun _ r => r⟩
  match us, ws, l1, l2 with
  | [], [u], _, _ =>
    rcases hD with ⟨_, rfl⟩ | ⟨e, _⟩
    · exact .of_eq (h kV doc pm an cdv ct u)
    · exact absurd rfl e
/-- len of a list, a tuple, the written part told by its own name -/
theorem call_lenK {X : Cx} {K : PySem.W.Frag} (hK : X.K = K) : CallR X (.builtin "len") (fun xs H Q => ∃ p ys, xs = [.ref p] ∧ (SqL K H p ys ∨ SqT K H p ys) ∧ Q (.int (List.length ys)) H) := by
  subst hK
  exact call_len_seq
end Own
set_option Elab.async false
set_option linter.all false
set_option maxRecDepth 100000
set_option maxHeartbeats 400000
namespace SrtT
open PySem PySem.SeqAt PyProof.Rows Srt
/-! ### sorting tuples of texts, empty ones among them -/
abbrev kc (x : Str) : Int ⊕ List Nat := Sum.inr x.cps.toList
/-- a tuple of these texts stands at v -/
def IsTs (h : Heap) (v : Value) (ss : List Str) : Prop := ∃ a o its n, v = .ref a ∧ h.get? a = some o ∧ o.cls = .type "tuple" ∧ o.data = .seq its n ∧ StrsAre its.toList ss
theorem items_of : ∀ {vs : List Value} {ss : List Str} {i : Nat}, StrsAre vs ss → tupItems (fun _ => true) i vs = some (ss.map kc)
  | _, _, i, .nil => rfl
  | _, _, i, .cons x t h => by
    show (if (fun _ => true) i = true then (tupItems (fun _ => true) (i + 1) _).map (Sum.inr _ :: ·) else none) = _
    rw [if_pos rfl, items_of h]
    rfl
def ltT (a b : List Str) : Bool := lexLt itemOrd (a.map kc) (b.map kc)
theorem ltT_irrefl (a : List Str) : ltT a a = false := lex_irrefl _
theorem ltT_swo {α : Type} (k : α → List Str) : SrtO.Swo fun v u => ltT (k v) (k u) := by
  refine ⟨fun x y h => ?_, fun x y z h1 h2 => ?_⟩
  · cases e : ltT (k y) (k x) with
    | false => rfl
    | true =>
      have q := lex_trans (O := itemOrd) _ _ _ h e
      have r := ltT_irrefl (k x)
      unfold ltT at r
      rw [q] at r
      cases r
  · cases e : ltT (k z) (k x) with
    | false => rfl
    | true =>
      rcases lex_negTrans (O := itemOrd) _ ((k y).map kc) _ e with q | q
      · have h2' : lexLt itemOrd ((k z).map kc) ((k y).map kc) = false := h2
        rw [q] at h2'
        cases h2'
      · have h1' : lexLt itemOrd ((k y).map kc) ((k x).map kc) = false := h1
        rw [q] at h1'
        cases h1'
theorem kc_inj {x y : Str} (h : kc x = kc y) : x = y := by
  have e : x.cps.toList = y.cps.toList := Sum.inr.inj h
  have c : x.cps = y.cps := Array.toList_inj.mp e
  cases x
  cases y
  exact congrArg _ c
theorem ltT_total {a b : List Str} (h1 : ltT a b = false) (h2 : ltT b a = false) : a = b := by
  have e := lex_total (O := itemOrd) _ _ h1 h2
  exact (List.map_inj_right fun _ _ h => kc_inj h).mp e
section
variable {prog : Program} {w : World} {A : Around} {E : Value → Shared → Prop} {s : Shared}
/-! by the kind of tuples -/
theorem cmp_tup {vs : List Value} {k : Value → List Str} (hp : ∀ v ∈ vs, IsTs s.heap v (k v)) : SrtO.Cmp prog w A s (tuples' true) (fun p => p.1 ∈ vs) (SrtO.lt2 fun v u => ltT (k v) (k u)) := by
  intro p q hm hm'
  obtain ⟨a, o, its, n, e, ho, hc, hd, hs⟩ := hp _ hm
  obtain ⟨a', o', its', n', e', ho', hc', hd', hs'⟩ := hp _ hm'
  show wpAny (model prog w) A (keyLt' (tuples' true) p.1 q.1) (fun r s' => s' = s ∧ r = ltT (k p.1) (k q.1)) (fun _ _ => False) s
  generalize k p.1 = ss at hs
  generalize k q.1 = ts at hs'
  rw [e, e']
  exact PySem.W.kat_lt ho hd ho' hd' (tup_lex _ _ 0 _ _ (items_of hs) (items_of hs') (by rw [Array.length_toList, Array.length_toList]) ⟨rfl, rfl⟩)
/-! by the kind of one type -/
theorem strs_at : ∀ {vs : List Value} {ss : List Str} {j : Nat} (h : StrsAre vs ss) (hj : j < vs.length), ∃ x t, ss[j]? = some x ∧ vs[j] = .str x t
  | _, _, j, .nil, hj => absurd hj (Nat.not_lt_zero _)
  | _, _, 0, .cons x t h, _ => ⟨x, t, rfl, rfl⟩
  | _, _, j + 1, .cons x t h, hj => by
    obtain ⟨y, u, e1, e2⟩ := strs_at (j := j) h (Nat.lt_of_succ_lt_succ hj)
    exact ⟨y, u, e1, e2⟩
theorem strs_len : ∀ {vs : List Value} {ss : List Str}, StrsAre vs ss → vs.length = ss.length
  | _, _, .nil => rfl
  | _, _, .cons x t h => congrArg (· + 1) (strs_len h)
def eAt (a b : List Str) (j : Nat) : Bool := (a.getD j "") == (b.getD j "")
def rAt (a b : List Str) (j : Nat) : Bool := decide ((a.getD j "").cps.toList < (b.getD j "").cps.toList)
theorem lexAt_lt : ∀ (k : Nat) (a b : List Str) (i : Nat), i ≤ a.length → i ≤ b.length → k = min a.length b.length - i → Ob.lexAt (eAt a b) (rAt a b) (decide (a.length < b.length)) i k = ltT (a.drop i) (b.drop i)
  | 0, a, b, i, ha, hb, hk => by
    rw [Ob.lexAt_zero]
    by_cases h : a.length ≤ b.length
    · have e : i = a.length := by omega
      subst e
      rw [List.drop_length]
      by_cases h2 : a.length < b.length
      · rw [decide_eq_true h2, List.drop_eq_getElem_cons h2]
        rfl
      · rw [decide_eq_false h2]
        have e2 : a.length = b.length := by omega
        rw [e2, List.drop_length]
        rfl
    · have e : i = b.length := by omega
      subst e
      rw [List.drop_length, List.drop_eq_getElem_cons (by omega : b.length < a.length), decide_eq_false (by omega)]
      rfl
  | k + 1, a, b, i, ha, hb, hk => by
    have h1 : i < a.length := by omega
    have h2 : i < b.length := by omega
    rw [Ob.lexAt_succ, List.drop_eq_getElem_cons h1, List.drop_eq_getElem_cons h2, lexAt_lt k a b (i + 1) (by omega) (by omega) (by omega)]
    have ga : a.getD i "" = a[i] := by simp [h1]
    have gb : b.getD i "" = b[i] := by simp [h2]
    unfold eAt rAt
    rw [ga, gb]
    unfold ltT
    rw [List.map_cons, List.map_cons]
    by_cases e : a[i] = b[i]
    · rw [e, if_pos (by simp)]
      exact (lex_self (O := itemOrd) _ _ _).symm
    · rw [if_neg (by simpa using e), lex_diff (O := itemOrd) fun z => e (kc_inj z)]
      rfl
theorem call_ltT {a b : Addr} {dd dd2 : Option Addr} {its its2 : Array Value} {n n2 : Nat} {sl sl2 : Array (Option Value)} {ss ts : List Str} {Q : Value → Shared → Prop} (ga : s.heap.get? a = some { cls := .type "tuple", dict := dd, data := .seq its n, slots := sl })
    (gb : s.heap.get? b = some { cls := .type "tuple", dict := dd2, data := .seq its2 n2, slots := sl2 }) (ia : StrsAre its.toList ss) (ib : StrsAre its2.toList ts) (h : Q (.bool (ltT ss ts)) s) : wpAny (model prog w) A (call (.builtin "tuple.__lt__") [.ref a, .ref b]) Q E s := by
  have l1 := strs_len ia
  have l2 := strs_len ib
  rw [Array.length_toList] at l1 l2
  refine wpAny_call (codeAny_call_builtin PySem.F.slot_tuple_lt.plain PySem.F.entry_tuple_lt (PySem.F.slot_tuple_lt.check _ _ _ _ _ _ _ _ ⟨_, ga, rfl⟩ (PySem.F.args_tuple_lt_2 _ _) ?_))
  refine wpAny_mono (Ob.tuple_ltAt a b its its2 n n2 dd dd2 sl sl2 (eAt ss ts) (rAt ss ts) prog w _ (wants Q E) s ⟨ga, gb, ?_, ?_, ?_⟩) (fun fin s' q => ?_) fun _ _ z => z
  · intro j h1 h2
    obtain ⟨x, t, e1, e2⟩ := strs_at (j := j) ia (by simpa using h1)
    obtain ⟨y, u, e3, e4⟩ := strs_at (j := j) ib (by simpa using h2)
    rw [Array.getElem_toList] at e2 e4
    rw [e2, e4]
    have q : eAt ss ts j = (x == y) := by
      unfold eAt
      rw [List.getD_eq_getElem?_getD, List.getD_eq_getElem?_getD, e1, e3]
      rfl
    rw [q]
    exact SeqAt.EqAt.str_str x t y u
  · intro j h1 h2 _
    obtain ⟨x, t, e1, e2⟩ := strs_at (j := j) ia (by simpa using h1)
    obtain ⟨y, u, e3, e4⟩ := strs_at (j := j) ib (by simpa using h2)
    rw [Array.getElem_toList] at e2 e4
    rw [e2, e4]
    have q : rAt ss ts j = decide (x.cps.toList < y.cps.toList) := by
      unfold rAt
      rw [List.getD_eq_getElem?_getD, List.getD_eq_getElem?_getD, e1, e3]
      rfl
    rw [q]
    exact fun prog w E Q h => (PyProof.Rows.lt_str h : wpAny (model prog w) _ (compareOp .Lt (.str x t) (.str y u)) Q E s)
  · have q := lexAt_lt (min ss.length ts.length) ss ts 0 (Nat.zero_le _) (Nat.zero_le _) rfl
    rw [l1, l2, q, List.drop_zero, List.drop_zero]
    exact h
  · cases fin with
    | done f => exact q
    | again c => exact q
theorem lt_one {v u : Value} {ss ts : List Str} {Q : Bool → Shared → Prop} (hu : A.units < cLine) (hv : IsTs s.heap v ss) (hw : IsTs s.heap u ts) (h : Q (ltT ss ts) s) : wpAny (model prog w) A (keyLt' oneType' v u) Q E s := by
  obtain ⟨a, ⟨cls, dd, data, sl⟩, its, n, rfl, ga, hc, hd, ia⟩ := hv
  obtain ⟨b, ⟨cls2, dd2, data2, sl2⟩, its2, n2, rfl, gb, hc2, hd2, ib⟩ := hw
  simp only at hc hd hc2 hd2
  subst hc hd hc2 hd2
  rw [keyLt'_oneType, oneLt'_eq]
  simp only [if_true]
  refine wpAny_bind (wpAny_cRoomFor hu ?_)
  refine wpAny_bind (wpAny_callSpecialIfBound?_slot ⟨_, ga, rfl⟩ PySem.F.slot_tuple_lt (call_ltT ga gb ia ib ?_))
  exact wpAny_truthy_bool h
theorem cmp_one {vs : List Value} {k : Value → List Str} (hu : A.units < cLine) (hp : ∀ v ∈ vs, IsTs s.heap v (k v)) : SrtO.Cmp prog w A s oneType' (fun p => p.1 ∈ vs) (SrtO.lt2 fun v u => ltT (k v) (k u)) := by
  intro p q hm hm'
  exact lt_one (Q := fun r s' => s' = s ∧ r = ltT (k p.1) (k q.1)) (E := fun _ _ => False) hu (hp _ hm) (hp _ hm') ⟨rfl, rfl⟩
/-! the kinds -/
theorem firsts_of : ∀ {vs : List Value} {k : Value → List Str}, (∀ v ∈ vs, IsTs s.heap v (k v)) → (∀ v ∈ vs, k v ≠ []) → ∃ fs, PySem.W.KatTups s.heap vs fs ∧ fs.length = vs.length ∧ ∀ f ∈ fs, ∃ x t, f = .str x t
  | [], _, _, _ => ⟨[], PySem.W.KatTups.nil, rfl, fun f h => by cases h⟩
  | v :: vs, k, h, hn => by
    obtain ⟨fs, h1, h2, h3⟩ := firsts_of (vs := vs) (fun v m => h v (List.mem_cons_of_mem _ m)) fun v m => hn v (List.mem_cons_of_mem _ m)
    have n := hn v List.mem_cons_self
    obtain ⟨a, o, its, z, rfl, ho, hc, hd, hs⟩ := h v List.mem_cons_self
    generalize k (Value.ref a) = ss at hs n
    obtain ⟨l⟩ := its
    cases hs with
    | nil => exact absurd rfl n
    | cons x t r =>
      refine ⟨.str x t :: fs, PySem.W.KatTups.cons ho hc hd rfl h1, by rw [List.length_cons, List.length_cons, h2], fun f hf => ?_⟩
      rcases List.mem_cons.mp hf with rfl | hf
      · exact ⟨x, t, rfl⟩
      · exact h3 f hf
theorem firsts_any : ∀ (vs : List Value) {k : Value → List Str} {Q : List (Option Value) → Shared → Prop}, (∀ v ∈ vs, IsTs s.heap v (k v)) → (∀ bs, Q bs s) → wpAny (model prog w) A (vs.mapM firstOfTuple') Q E s
  | [], _, Q, _, h => by
    rw [List.mapM_nil]
    exact wpAny_pure (h _)
  | v :: vs, k, Q, hv, h => by
    rw [List.mapM_cons]
    obtain ⟨a, o, its, n, rfl, ho, hc, hd, hs⟩ := hv v List.mem_cons_self
    refine wpAny_bind ?_
    rw [PySem.W.kas_first_eq]
    refine wpAny_bind (PySem.W.Looks.here (show PySem.W.Looks (model prog w) s.heap (typeOf (.ref a)) o.cls from (PySem.W.Looks.ld ho).andThen .now) ?_)
    rw [hc, if_neg (by first | decide | simp)]
    refine wpAny_bind (listItems_at ho hd (wpAny_pure ?_))
    exact wpAny_bind (firsts_any vs (k := k) (fun v m => hv v (List.mem_cons_of_mem _ m)) fun bs => wpAny_pure (h _))
theorem kind_one {v : Value} {r : List Value} {k : Value → List Str} {Q : SortKind → Shared → Prop} (hv : ∀ u ∈ v :: r, IsTs s.heap u (k u)) (h0 : k v = []) (h : Q oneType' s) : wpAny (model prog w) A (keyKind' (v :: r).toArray) Q E s := by
  rw [PyProof.Rows.kat_kind_eq, List.mapM_toArray, map_eq_pure_bind, List.mapM_cons]
  obtain ⟨a, o, its, n, e, ho, hc, hd, hs⟩ := hv v List.mem_cons_self
  rw [h0] at hs
  subst e
  refine wpAny_bind (wpAny_bind (wpAny_bind ?_))
  rw [PySem.W.kas_first_eq]
  refine wpAny_bind (PySem.W.Looks.here (show PySem.W.Looks (model prog w) s.heap (typeOf (.ref a)) o.cls from (PySem.W.Looks.ld ho).andThen .now) ?_)
  rw [hc, if_neg (by first | decide | simp)]
  refine wpAny_bind (listItems_at ho hd (wpAny_pure ?_))
  have e0 : its[0]? = none := by
    obtain ⟨l⟩ := its
    cases hs
    rfl
  rw [e0]
  refine wpAny_bind (firsts_any r (k := k) (fun v m => hv v (List.mem_cons_of_mem _ m)) fun bs => wpAny_pure (wpAny_pure ?_))
  rw [if_neg (by simp), if_neg (by simp)]
  rw [oneTypeOnly'_eq, List.mapM_toArray, map_eq_pure_bind]
  refine wpAny_bind (wpAny_bind (wpAny_bind (PySem.W.kas_mapM (r := Value.type "tuple") _ (fun v hm Q' hq => ?_) (wpAny_pure ?_))))
  · obtain ⟨a2, o2, its2, n2, rfl, ho2, hc2, hd2, hs2⟩ := hv v hm
    refine PySem.W.Looks.here (show PySem.W.Looks (model prog w) s.heap (typeOf (.ref a2)) o2.cls from (PySem.W.Looks.ld ho2).andThen .now) ?_
    rw [hc2]
    exact hq
  · have hall : ((List.map (fun _ => Value.type "tuple") (Value.ref a :: r)).toArray.all fun x => x == Value.type "tuple") = true := by
      simp only [List.all_toArray, List.all_map, List.all_eq_true]
      intro _ _
      rfl
    have h1 : (List.map (fun _ => Value.type "tuple") (Value.ref a :: r)).toArray[0]? = some (Value.type "tuple") := by simp
    rw [h1]
    simp only [hall, if_true]
    exact wpAny_pure (wpAny_pure h)
theorem IsTs.keeps {h h' : Heap} {v : Value} {ss : List Str} (x : IsTs h v ss) (k : ∀ b o, h.get? b = some o → o.cls = .type "tuple" → h'.get? b = some o) : IsTs h' v ss := by
  obtain ⟨a, o, its, n, e, ho, hc, hd, hs⟩ := x
  exact ⟨a, o, its, n, e, k _ _ ho hc, hc, hd, hs⟩
theorem tups_sortable {a : Addr} {vs : List Value} {k : Value → List Str} (hu : A.units < cLine) (h2 : 2 ≤ vs.length) (hp : ∀ v ∈ vs, IsTs s.heap v (k v)) (sh : (∀ v ∈ vs, k v ≠ []) ∨ ∃ v r, vs = v :: r ∧ k v = []) (ha : ∀ o, s.heap.get? a = some o → o.cls ≠ .type "tuple") :
    SrtO.SortableO prog w A s a vs fun v u => ltT (k v) (k u) := by
  intro h' keep
  have hp' : ∀ v ∈ vs, IsTs h' v (k v) := fun v hm => (hp v hm).keeps fun b o e c => keep b o (fun z => by subst z; exact ha o e c) e
  rcases sh with ne | ⟨v, r, rfl, h0⟩
  · obtain ⟨fs, h1, h3, h4⟩ := firsts_of (s := { s with heap := h' }) hp' ne
    refine ⟨tuples' true, fun Q E hq => ?_, cmp_tup (s := { s with heap := h' }) hp'⟩
    refine PySem.W.kat_kind (T := .type "str") h1 (by omega) (fun f hm => ?_) (by rfl) ?_
    · obtain ⟨x, t, rfl⟩ := h4 f hm
      exact PySem.W.Looks.now
    · have e : (Value.type "str" != Value.type "tuple") = true := by first | decide +kernel | rfl | decide
      rw [e]
      exact hq
  · exact ⟨oneType', fun Q E hq => kind_one (s := { s with heap := h' }) hp' h0 hq, cmp_one (s := { s with heap := h' }) hu hp'⟩
end
end SrtT
namespace L2
open PySem PySem.Spec PyProof.Rows
/-- sorted(xs), xs a list of tuples of texts of any length (k says which): none of them is empty, or the first one is -/
def rSortedTs (K : PySem.W.Frag) : List V → Hp → VK → Prop := fun vs H Q => ∃ (a : Addr) (xs : List V) (k : V → List Str), vs = [V.ref a] ∧ SqL K H a xs ∧ (∀ x ∈ xs, ∃ t, x = V.ref t ∧ SqT K H t ((k x).map V.str)) ∧ ((∀ x ∈ xs, k x ≠ []) ∨ ∃ x r, xs = x :: r ∧ k x = []) ∧
  ∀ ys p, SrtO.Srtd (fun x y => SrtT.ltT (k x) (k y)) ys → ys.Perm xs → H p = none → Q (.ref p) (upd H p (.lst ys))
theorem strs_of : ∀ {ss : List Str} {its : List Value}, Vals (ss.map V.str) its → StrsAre its ss
  | [], _, r => by cases r; exact .nil
  | x :: ss, _, r => by
    cases r with
    | cons r1 r2 =>
      obtain ⟨t, rfl⟩ := r1
      exact .cons _ _ (strs_of r2)
section
variable {X : Cx}
theorem cr_sortedTs (hu : X.A.units + 64 < cLine) : CallR X (.builtin "sorted") (rSortedTs X.K) := by
  intro pins s σ H vs us Q I r h
  obtain ⟨a, xs, k, rfl, hs, hx, sh, q⟩ := h
  obtain ⟨its, rv, hl, hz⟩ := I.list hs
  obtain ⟨u, rfl, ru⟩ := vals1 r
  obtain rfl : u = Value.ref a := ru
  obtain ⟨e1, e2⟩ := refs_back rv fun x m => by
    obtain ⟨t, e, _⟩ := hx x m
    exact ⟨t, e⟩
  have all : ∀ v ∈ its, SrtT.IsTs s.heap v (k (backV v)) := fun v hv => by
    obtain ⟨t, rfl⟩ := e2 v hv
    have hm : V.ref t ∈ xs := by rw [e1]; exact List.mem_map.mpr ⟨_, hv, rfl⟩
    obtain ⟨t', e, ht⟩ := hx _ hm
    cases e
    obtain ⟨its2, r2, ⟨o, ho, hc, n, hd⟩, _⟩ := I.tuple ht
    exact ⟨t, o, its2.toArray, n, rfl, ho, hc, hd, strs_of r2⟩
  have sh' : (∀ v ∈ its, k (backV v) ≠ []) ∨ ∃ v r, its = v :: r ∧ k (backV v) = [] := by
    rcases sh with ne | ⟨x, r, ex, h0⟩
    · exact .inl fun v hv => ne _ (by rw [e1]; exact List.mem_map.mpr ⟨_, hv, rfl⟩)
    · cases its with
      | nil =>
        rw [ex] at e1
        cases e1
      | cons v r2 =>
        rw [ex, List.map_cons] at e1
        injection e1 with e3 _
        exact .inr ⟨v, r2, rfl, by rw [← e3]; exact h0⟩
  refine SrtO.sorted_ord (SrtT.ltT_swo fun v => k (backV v)) hl.isList (by rw [← rv.length]; exact hz) (fun h2 h₁ a' ha kk => ?_) fun out h1 h2 => ?_
  · refine SrtT.tups_sortable (s := { s with heap := h₁ }) (show X.A.units + 1 + 1 < cLine by omega) h2 (fun v hv => (all v hv).keeps fun b o e _ => (kk b o e).2) sh' fun o e => ?_
    have e' : some o = some (seqObj "list" its.toArray 0) := e.symm.trans ha
    cases e'
    intro c
    exact absurd (Value.type.inj c) (by decide)
  · have h3 : ∀ u ∈ out, ∃ a, u = Value.ref a := fun u hu => e2 u (h2.perm.mem_iff.mp hu)
    obtain ⟨n, hn⟩ := PyProof.Rows.sortedAll_at s.heap its out.toArray
    have hb : (out.map backV).Perm xs := by
      rw [e1]
      exact h2.perm.map backV
    have hd : s.heap.objs.size ≤ s.heap.objs.size + 1 := Nat.le_succ _
    refine ⟨.ref (s.heap.objs.size + 1), upd H (s.heap.objs.size + 1) (.lst (out.map backV)), I.laid (t' := s.toks) (fun b o e => PyProof.Rows.sortedAll_old e) hd ⟨?_, out, n, vals_back h3, hn⟩, rfl, q _ _ (SrtO.srtd_map h1) hb (I.hok.fresh hd)⟩
    rw [hb.length_eq]
    exact hz
end
end L2
set_option Elab.async false
set_option linter.all false
set_option maxRecDepth 100000
set_option maxHeartbeats 400000
namespace L2
open PySem PySem.Spec PyProof.Rows
/-! ### repr -/
/-- the text of a flat value -/
def flatT : V → Option Str
  | .non => some "None"
  | .bl b => some (if b then "True" else "False")
  | .int i => some (toString i)
  | _ => none
/-- repr of None, a truth value, a number -/
def rRepr0 : List V → Hp → VK → Prop := fun vs H Q => ∃ (x : V) (z : Str), vs = [x] ∧ flatT x = some z ∧ (∀ i, x = .int i → i.natAbs.log2 < 1920) ∧ Q (.str z) H
/-- repr of data of any depth, nothing being written just now -/
def rReprD (K : PySem.W.Frag) : List V → Hp → VK → Prop := fun vs H Q => ∃ (a : Addr) (d : PyData), vs = [.ref a] ∧ Dp K H (.ref a) d ∧ d.showable = true ∧ d.hasDict = false ∧ d.depth ≤ 64 ∧ d.shown.length ≤ sizeLine ∧ Q (.str d.shown) H
section
variable {X : Cx}
theorem call_repr0 : CallR X (.builtin "repr") rRepr0 := by
  intro pins s σ H xs us Q I r h
  obtain ⟨x, z, rfl, hz, hi, q⟩ := h
  obtain ⟨u, rfl, ru⟩ := vals1 r
  cases x with
  | non =>
    cases ru
    cases hz
    exact P.repr_of_none ⟨.str _, H, I.tok _, ⟨_, rfl⟩, q⟩
  | bl b =>
    cases ru
    cases hz
    exact P.repr_of_bool ⟨.str _, H, I.tok _, ⟨_, rfl⟩, q⟩
  | int i =>
    obtain ⟨t, rfl⟩ := ru
    cases hz
    exact P.repr_of_int (hi i rfl) ⟨.str _, H, I.tok _, ⟨_, rfl⟩, q⟩
  | str _ => cases hz
  | byt _ => cases hz
  | flt _ => cases hz
  | ref _ => cases hz
  | ty _ => cases hz
theorem call_reprD (hg : X.A.guards = some []) (hu : X.A.units + 100 < cLine) : CallR X (.builtin "repr") (rReprD X.K) := by
  intro pins s σ H xs us Q I r h
  obtain ⟨a, d, rfl, hd, h1, h2, h3, h4, q⟩ := h
  obtain ⟨u, rfl, ru⟩ := vals1 r
  cases ru
  obtain ⟨as, rd⟩ := Dp.reads I d _ _ hd rfl
  exact repr_of_reads' rd h1 (PyData.noDict_hsm h2) hg (by omega) (fun _ _ e => e) (fun h' u tk hk => ⟨.str _, H, I.kept (t' := tk) hk, ⟨u, rfl⟩, q⟩) h4
end
end L2
set_option Elab.async false
set_option linter.all false
set_option maxRecDepth 100000
set_option maxHeartbeats 400000
namespace Own
open PySem PySem.Spec PyProof.Rows L2 LamX
/-! ### a law that asks for the repr of lists: nothing is being written at its call -/
/-- a def's promise, kept where no repr is under way at its call -/
structure FnOkG (P : Program) (w : World) (K : PySem.W.Frag) (mg : Str → Option Value) (base : Heap) (CX : CXT) (k : Nat) (f : Addr) (fd : FuncData) (ps : List Str) (sp : Sp) : Prop where
  len : ∀ vs H Q E, sp vs H Q E → vs.length = ps.length
  run : ∀ (A : Around) (outer : List Env) (s : Shared) (H : Hp) (args : Args) (us : List Value) (vs : List V) (Q : VK) (E : XK), A.guards = some [] → Room k A → Env0 P w K mg base A outer s H → BindsTo s fd args (ps.zip us) → Vals vs us → sp vs H Q E →
    codeAny (model P w) A (.call (.ref f) args) (CR CX outer P w H s Q E) s
theorem FunD.okG {CX : CXT} {P : Program} {w : World} {K : PySem.W.Frag} {mg : Str → Option Value} {base : Heap} {x qual p : Str} {params : Arguments} {body : List Stmt} {scope : Scope} {dvs : List V} {kws : List (Str × V)} {f : Addr} {fd : FuncData} {N ps : List Str} {k : Nat} {sp : Sp}
    (F : FunD K x qual params body scope dvs kws f fd) (S : FnScope N (p :: ps) scope) (hp : scope.names.lookup p = some .local) (len : ∀ vs H Q E, sp vs H Q E → vs.length = (p :: ps).length)
    (hbody : ∀ (cdv : Value) (A : Around) (outer : List Env) (s : Shared) (H : Hp) (vs : List V) (Q : VK) (E : XK), (∃ (oc : Value) (od : Option Addr) (dV kV doc pm : Value) (an : Option Addr) (ct : Value) (osl : Array (Option Value)), K.lookup f = some ⟨oc, od, .func (PySem.W.fnOf x qual params body scope dV kV doc pm an cdv ct), osl⟩) → PySem.W.codeIn K cdv qual = true → (A.deeper (envOfC qual scope s.heap.objs.size f cdv)).guards = some [] →
      Room k (A.deeper (envOfC qual scope s.heap.objs.size f cdv)) → sp vs H Q E → ∃ t, PSsT (cxOf CX P w K mg base N qual scope f cdv A outer s H E) body t ∧ t { nx := fun _ H' => Q .non H', rt := Q } (start N vs) H) : FnOkG P w K mg base CX (k + 1) f fd (p :: ps) sp := by
  obtain ⟨oc, od, dV, kV, doc, pm, an, cdv, ct, osl, rfl, lk, hcd, _, _⟩ := F.ex
  refine ⟨len, fun A outer s H args us vs Q E hg hr e0 hb r hsp => ?_⟩
  have inH : K.In s.heap := e0.mod.kin.keeps fun b o e => (e0.bs b o e).1
  have hl := len _ _ _ _ hsp
  refine codeAny_call_function hr.depth (inH _ _ lk) rfl S.co S.gen rfl (PySem.W.codeRec_of inH hcd) (hb _ _ _ _ ?_)
  match us, r.length with
  | [], z => rw [z] at hl; cases hl
  | u :: us, _ =>
    refine newEnv_tok (n := p) (v := u) (r := ps.zip us) S.kind hp (fun y hy => kinds_of S _ (u :: us) y (List.mem_cons_of_mem _ hy)) fun env he s1 ht xx => ?_
    subst he
    exact ⟨(e0.mod.nolimit.keeps fun b o e => (e0.bs b o e).1).keeps xx.toInCall.keep, run_bodyT S hr e0 hl r xx ht (hbody _ _ _ _ _ _ _ _ ⟨_, _, _, _, _, _, _, _, _, lk⟩ hcd hg (hr.deeper _) hsp)⟩
/-! ### the end -/
section
variable {P : Program} {w : World} {K : PySem.W.Frag} {mg mb : Str → Option Value} {a : Addr} {T : List Addr} {h : Heap} {vs : List Value} {ns : List Int}
/-- the abstract heap at the law's call: the tables, and the script where it is not written -/
def H0 (K : PySem.W.Frag) (T : List Addr) (a : Addr) (vs : List Value) (ns : List Int) : Hp := fun b =>
  if b ∈ T then some (.tbl #[]) else if b = a ∧ K.lookup b = none then some (.frz { cls := .type "list", data := .seq vs.toArray } (.lst (ns.map V.int))) else none
theorem H0_tab {b : Addr} (hb : b ∈ T) : H0 K T a vs ns b = some (.tbl #[]) := if_pos hb
theorem H0_cases (b : Addr) : (b ∈ T ∧ H0 K T a vs ns b = some (.tbl #[])) ∨ (b ∉ T ∧ b = a ∧ K.lookup b = none ∧ H0 K T a vs ns b = some (.frz { cls := .type "list", data := .seq vs.toArray } (.lst (ns.map V.int)))) ∨ (b ∉ T ∧ ¬ (b = a ∧ K.lookup b = none) ∧ H0 K T a vs ns b = none) := by
  by_cases m : b ∈ T
  · exact .inl ⟨m, if_pos m⟩
  · by_cases e : b = a ∧ K.lookup b = none
    · exact .inr (.inl ⟨m, e.1, e.2, (if_neg m).trans (if_pos e)⟩)
    · exact .inr (.inr ⟨m, e, (if_neg m).trans (if_neg e)⟩)
/-- what is neither a plain list nor an empty record is not tracked -/
theorem H0_off {b : Addr} {o : Obj} (tab : ∀ b ∈ T, h.get? b = some { cls := .none, data := .fields #[] }) (ha : h.get? a = some { cls := .type "list", data := .seq vs.toArray }) (e : h.get? b = some o) (n1 : ∀ vs n, o.data ≠ .seq vs n) (n2 : o.data ≠ .fields #[]) : H0 K T a vs ns b = none := by
  rcases H0_cases (K := K) (T := T) (a := a) (vs := vs) (ns := ns) b with ⟨m, _⟩ | ⟨_, rfl, _, _⟩ | ⟨_, _, q⟩
  · have := e.symm.trans (tab b m)
    cases this
    exact absurd rfl n2
  · have := e.symm.trans ha
    cases this
    exact absurd rfl (n1 _ _)
  · exact q
theorem H0_ok (tab : ∀ b ∈ T, h.get? b = some { cls := .none, data := .fields #[] }) (ha : h.get? a = some { cls := .type "list", data := .seq vs.toArray }) (hi : IntsAre vs ns) (hl : ns.length ≤ sizeLine) : HOk P w (H0 K T a vs ns) h := by
  intro b u z
  rcases H0_cases (K := K) (T := T) (a := a) (vs := vs) (ns := ns) b with ⟨m, q⟩ | ⟨_, rfl, _, q⟩ | ⟨_, _, q⟩
  · cases q.symm.trans z
    exact tab b m
  · cases q.symm.trans z
    exact ⟨ha, by rw [List.length_map]; exact hl, vs, _, vals_ints hi, ha⟩
  · cases q.symm.trans z
theorem H0_list (nT : ∀ b ∈ T, h.get? b = some { cls := .none, data := .fields #[] }) (KX : K.In h) (ha : h.get? a = some { cls := .type "list", data := .seq vs.toArray }) (hi : IntsAre vs ns) (hl : ns.length ≤ sizeLine) : SqL K (H0 K T a vs ns) a (ns.map V.int) := by
  cases hk : K.lookup a with
  | some o =>
    cases (KX a o hk).symm.trans ha
    exact .inr ⟨_, vs.toArray, _, hk, rfl, rfl, rfl, by rw [List.size_toArray, hi.length]; exact hl, by simpa using vals_ints hi⟩
  | none =>
    have m : a ∉ T := fun m => by
      have := ha.symm.trans (nT a m)
      cases this
    exact .inl (.inr ⟨_, (if_neg m).trans (if_pos ⟨rfl, hk⟩)⟩)
end
section
variable {P : Program} {w : World} {K : PySem.W.Frag} {mg mb : Str → Option Value} {CX : CXT} {k : Nat} {fa a : Addr} {cs : List (Addr × Addr)} {fd : FuncData} {x : Str} {sp : Sp} {s₁ : Shared} {vs : List Value} {ns : List Int}
theorem law_callG (KX : K.In s₁.heap) (hns : s₁.heap.Ns mainGlobals mg) (hb : s₁.heap.Ns builtinsNs mb) (hbb : ∀ x : Str, x ≠ "__name__" → mb x = bootBuiltins x) (hlim : s₁.heap.NoLimit) (hg : s₁.gens = #[])
    (hT : ∀ p ∈ cs, s₁.heap.get? p.2 = some { cls := .none, data := .fields #[] }) (nT : ∀ p ∈ cs, K.lookup p.2 = none) (C : ∀ p ∈ cs, PySem.W.CodeHd s₁.heap p.1 p.2)
    (hbm : ∃ (bm : Addr) (ob : Obj), mg "__builtins__" = some (.ref bm) ∧ bm ≠ builtinsNs ∧ s₁.heap.get? bm = some ob ∧ ob.cls = .type "module" ∧ ob.dict = some builtinsNs ∧ ob.data = .plain)
    (ha : s₁.heap.get? a = some { cls := .type "list", data := .seq vs.toArray }) (hi : IntsAre vs ns) (hl : ns.length ≤ sizeLine) (hr : Room k callerA)
    (F : ∀ base : Heap, K.In base → base.Ns mainGlobals mg → (∀ p ∈ cs, TabB base mg p.1 p.2) → FnOkG P w K mg base CX k fa fd [x] sp) (hbind : ∀ (s : Shared) (u : Value), BindsTo s fd ⟨[u], []⟩ [(x, u)])
    (hsp : ∀ H : Hp, (∀ p ∈ cs, H p.2 = some (.tbl #[])) → SqL K H a (ns.map V.int) → sp [.ref a] H (fun v _ => v = .bl true) fun _ _ _ => False) (hCX : ∀ H e s', CX [] H s₁ (fun _ _ _ => False) e s' → False) :
    codeAny (model P w) callerA (.call (.ref fa) ⟨[.ref a], []⟩) (fun r s' => r = .ok (.ret (.bool true)) ∧ OldK s₁.heap s'.heap ∧ s'.os = s₁.os ∧ AllBare s'.gens) s₁ := by
  have tab : ∀ b ∈ cs.map (·.2), s₁.heap.get? b = some { cls := .none, data := .fields #[] } := fun b m => by
    obtain ⟨p, hp, rfl⟩ := List.mem_map.mp m
    exact hT p hp
  have here : ∀ p ∈ cs, H0 K (cs.map (·.2)) a vs ns p.2 = some (.tbl #[]) := fun p hp => H0_tab (List.mem_map.mpr ⟨p, hp, rfl⟩)
  have off : ∀ {b : Addr} {o : Obj}, s₁.heap.get? b = some o → (∀ vs n, o.data ≠ .seq vs n) → o.data ≠ .fields #[] → H0 K (cs.map (·.2)) a vs ns b = none := fun e n1 n2 => H0_off tab ha e n1 n2
  have kin : ∀ b o, K.lookup b = some o → H0 K (cs.map (·.2)) a vs ns b = none := fun b o e => by
    rcases H0_cases (K := K) (T := cs.map (·.2)) (a := a) (vs := vs) (ns := ns) b with ⟨m, _⟩ | ⟨_, _, n, _⟩ | ⟨_, _, q⟩
    · obtain ⟨p, hp, rfl⟩ := List.mem_map.mp m
      rw [nT p hp] at e
      cases e
    · rw [n] at e
      cases e
    · exact q
  have hok : HOk P w (H0 K (cs.map (·.2)) a vs ns) s₁.heap := H0_ok tab ha hi hl
  have old : ∀ {b : Addr} {o : Obj}, s₁.heap.get? b = some o → H0 K (cs.map (·.2)) a vs ns b ≠ none → (∃ p ∈ cs, b = p.2) ∨ ∃ ob xs, H0 K (cs.map (·.2)) a vs ns b = some (.frz ob (.lst xs)) := fun {b o} _ ne => by
    rcases H0_cases (K := K) (T := cs.map (·.2)) (a := a) (vs := vs) (ns := ns) b with ⟨m, _⟩ | ⟨_, _, _, q⟩ | ⟨_, _, q⟩
    · obtain ⟨p, hp, e⟩ := List.mem_map.mp m
      exact .inl ⟨p, hp, e.symm⟩
    · exact .inr ⟨_, _, q⟩
    · exact absurd q ne
  have lst := H0_list (K := K) (T := cs.map (·.2)) tab KX ha hi hl
  generalize H0 K (cs.map (·.2)) a vs ns = H at here off kin hok old lst
  have dic : ∀ {b : Addr} {m : Str → Option Value}, s₁.heap.Ns b m → (hidT s₁.heap H).Ns b m := fun {b m} z => by
    obtain ⟨o, es, ep, e, d, r⟩ := z
    exact ⟨o, es, ep, hidT_get e (off e (fun _ _ q => by rw [d] at q; cases q) fun q => by rw [d] at q; cases q), d, r⟩
  have kb : K.In (hidT s₁.heap H) := fun b o e => hidT_get (KX b o e) (kin b o e)
  have lim : (hidT s₁.heap H).NoLimit := by
    obtain ⟨mc, h1, h2⟩ := hlim
    exact ⟨mc, dic h1, h2⟩
  have tabs : ∀ p ∈ cs, TabB (hidT s₁.heap H) mg p.1 p.2 := fun p hp => by
    refine ⟨?_, ?_, fun z => ?_⟩
    · obtain ⟨o, us, file, tf, flags, tg, inF, text, tt, e1, r1, r2, r3, rs⟩ := C p hp
      refine ⟨o, us, file, tf, flags, tg, inF, text, tt, hidT_get e1 (off e1 (fun _ _ q => by rw [r2] at q; cases q) fun q => ?_), r1, r2, r3, rs⟩
      rw [r2] at q
      cases q
      simp at r3
    · obtain ⟨bm, ob, b1, b2, b3, b4, b5, b6⟩ := hbm
      refine ⟨bm, ob, b1, b2, fun q => ?_, fun q => ?_, hidT_get b3 (off b3 (fun _ _ q => by rw [b6] at q; cases q) fun q => by rw [b6] at q; cases q), b4, b5, b6⟩
      · obtain ⟨o, es, ep, e, hd, _⟩ := hns
        rw [q, e] at b3
        cases b3
        rw [hd] at b6
        cases b6
      · rw [q, hT p hp] at b3
        cases b3
        cases b6
    · obtain ⟨o, es, ep, e, hd, _⟩ := hns
      rw [z, hT p hp] at e
      cases e
      cases hd
  have env : Env0 P w K mg (hidT s₁.heap H) callerA [] s₁ H :=
    { frames := rfl, mod := ⟨kb, dic hns, ⟨mb, dic hb, hbb⟩, lim⟩, bs := fun b o e => of_hidT e, bsz := Nat.le_of_eq (hidT_size _ _), funs := trivial, frf := (fun b m => by cases m), hok := hok, bare := .of_eq hg }
  refine codeAny_mono ((F _ kb (dic hns) tabs).run callerA [] s₁ H ⟨[.ref a], []⟩ [.ref a] [.ref a] _ _ rfl hr env (hbind s₁ (.ref a)) (.cons rfl .nil) (hsp H here lst)) fun r s' z => ?_
  match r, z with
  | .error e, z => exact (hCX H e s' z).elim
  | .ok .next, z => exact False.elim z
  | .ok .brk, z => exact False.elim z
  | .ok .cont, z => exact False.elim z
  | .ok (.ret u), z =>
    obtain ⟨v, H', os, bare, un, hok', ru, rfl⟩ := z
    cases ru
    have more : ∀ p ∈ cs, ∃ m : Array Value, s'.heap.get? p.2 = some { cls := .none, data := .fields m } := fun p hp => by
      obtain ⟨m, z⟩ := un.tbls p.2 #[] (here p hp)
      exact ⟨_, hok' p.2 _ z⟩
    have rest : ∀ b o, s₁.heap.get? b = some o → (∀ p ∈ cs, b ≠ p.2) → s'.heap.get? b = some o := fun b o e nb => by
      by_cases q : H b = none
      · exact un.keep b o e q (by intro z; cases z) (by intro z; cases z)
      · rcases old e q with ⟨p, hp, z⟩ | ⟨ob, xs, z⟩
        · exact absurd z (nb p hp)
        · have z1 := (hok b _ z).1
          cases z1.symm.trans e
          exact (hok' b _ (un.frzs b _ _ z)).1
    refine ⟨rfl, ⟨fun b o e => ?_, fun b o e => ?_⟩, os, bare⟩
    · by_cases q : ∃ p ∈ cs, b = p.2
      · obtain ⟨p, hp, rfl⟩ := q
        obtain ⟨m, hm⟩ := more p hp
        cases (hT p hp).symm.trans e
        exact .inr (.inl ⟨((C p hp).tab (hT p hp)).isCodeTable, rfl, #[], m, rfl, by rw [Array.empty_append]; exact hm⟩)
      · exact .inl (rest b o e fun p hp z => q ⟨p, hp, z⟩)
    · by_cases q : ∃ p ∈ cs, b = p.2
      · obtain ⟨p, hp, rfl⟩ := q
        obtain ⟨m, hm⟩ := more p hp
        exact ⟨_, hm⟩
      · exact ⟨o, rest b o e fun p hp z => q ⟨p, hp, z⟩⟩
/-- what is known of the law's promise at the head's heap -/
def LawAtG (l : PySem.W.OpenLaw) (w : World) (K : PySem.W.Frag) (CX : CXT) (k n : Nat) (x : Str) (mg : Str → Option Value) (fa : Addr) (h : Heap) : Prop :=
  ∃ (fd : FuncData) (cs : List (Addr × Addr)) (sp : Sp), (∀ p ∈ cs, h.get? p.2 = some { cls := .none, data := .fields #[] }) ∧ (∀ p ∈ cs, K.lookup p.2 = none) ∧ (∀ p ∈ cs, PySem.W.CodeHd h p.1 p.2) ∧ (∀ (s : Shared) (u : Value), BindsTo s fd ⟨[u], []⟩ [(x, u)]) ∧
    (∀ (H : Hp) (a : Addr) (ns : List Int), ns.length ≤ n → (∀ z ∈ ns, Builtin.Int.intBits z ≤ 1048576) → (∀ p ∈ cs, H p.2 = some (.tbl #[])) → SqL K H a (ns.map V.int) → sp [.ref a] H (fun v _ => v = .bl true) fun _ _ _ => False) ∧
    ∀ base : Heap, K.In base → base.Ns mainGlobals mg → (∀ p ∈ cs, TabB base mg p.1 p.2) → FnOkG l.prog w K mg base CX k fa fd [x] sp
theorem walk_ofG {l : PySem.W.OpenLaw} {n k : Nat} {q : Program} {loose : List Str} {XP : (Str → Option Value) → Heap → Prop} {YP : World → Heap → Prop} {d : DefRec} {CX : World → CXT} {x : Str} (hn : l.most = some n) (hn2 : n ≤ sizeLine) (hdf : d.params.defaults = []) (hr : Room k callerA)
    (F : ∀ (w : World) (mg : Str → Option Value) (fa : Addr) (h : Heap), YP w h → h.Ns mainGlobals mg → mg d.name = some (.ref fa) → ∃ K : PySem.W.Frag, K.In h ∧ LawAtG l w K (CX w) k n x mg fa h)
    (hCX : ∀ (w : World) (H : Hp) (s : Shared) (e : Value) (s' : Shared), CX w [] H s (fun _ _ _ => False) e s' → False) : PySem.W.WalkO q loose XP YP l.row.toRowW d [] (fun f vs => PySem.call f vs) := by
  refine Att.attach_callB hn hdf fun w s₀ s₁ mg mb fa o pm cd doc a vs ns G Y ho hd hcd hmg hobj hints hlen hbits hg => ?_
  obtain ⟨K, KX, fd, cs, sp, hT, nT, C, hb, hsp, hF⟩ := F w mg fa _ Y G.T.g hmg
  exact law_callG KX G.T.g G.T.b G.T.builtins G.T.nolimit hg hT nT C G.T.bmain hobj hints (Nat.le_trans hlen hn2) hr hF hb (fun H hH hS => hsp H a ns hlen hbits hH hS) fun H e s' => hCX w H s₁ e s'
end
end Own
set_option Elab.async false
set_option linter.all false
set_option maxRecDepth 100000
set_option maxHeartbeats 400000
namespace Own
open PySem PySem.Spec PyProof.Rows L2
/-! ### two lists, item by item -/
inductive F2 {α β : Type} (R : α → β → Prop) : List α → List β → Prop
  | nil : F2 R [] []
  | cons {a : α} {b : β} {as : List α} {bs : List β} : R a b → F2 R as bs → F2 R (a :: as) (b :: bs)
section
variable {α β : Type} {R R' : α → β → Prop}
theorem F2.mono (h : ∀ a b, R a b → R' a b) : ∀ {as : List α} {bs : List β}, F2 R as bs → F2 R' as bs
  | _, _, .nil => .nil
  | _, _, .cons h1 h2 => .cons (h _ _ h1) (h2.mono h)
theorem F2.snoc : ∀ {as : List α} {bs : List β} {a : α} {b : β}, F2 R as bs → R a b → F2 R (as ++ [a]) (bs ++ [b])
  | _, _, _, _, .nil, h => .cons h .nil
  | _, _, _, _, .cons h1 h2, h => .cons h1 (h2.snoc h)
theorem F2.app : ∀ {as as' : List α} {bs bs' : List β}, F2 R as bs → F2 R as' bs' → F2 R (as ++ as') (bs ++ bs')
  | _, _, _, _, .nil, h => h
  | _, _, _, _, .cons h1 h2, h => .cons h1 (h2.app h)
theorem F2.len : ∀ {as : List α} {bs : List β}, F2 R as bs → as.length = bs.length
  | _, _, .nil => rfl
  | _, _, .cons _ h => congrArg (· + 1) h.len
theorem F2.at_ : ∀ {as : List α} {bs : List β} {i : Nat} {a : α}, F2 R as bs → as[i]? = some a → ∃ b, bs[i]? = some b ∧ R a b
  | _, _, 0, _, .cons h _, e => by cases e; exact ⟨_, rfl, h⟩
  | _, _, i + 1, _, .cons _ h, e => h.at_ (i := i) e
theorem F2.at' : ∀ {as : List α} {bs : List β} {i : Nat} {b : β}, F2 R as bs → bs[i]? = some b → ∃ a, as[i]? = some a ∧ R a b
  | _, _, 0, _, .cons h _, e => by cases e; exact ⟨_, rfl, h⟩
  | _, _, i + 1, _, .cons _ h, e => h.at' (i := i) e
theorem F2.left : ∀ {as : List α} {bs : List β} {a : α}, F2 R as bs → a ∈ as → ∃ b ∈ bs, R a b
  | _, _, _, .cons h r, m => by
    rcases List.mem_cons.mp m with rfl | m
    · exact ⟨_, List.mem_cons_self, h⟩
    · obtain ⟨b, hb, q⟩ := r.left m
      exact ⟨b, List.mem_cons_of_mem _ hb, q⟩
theorem F2.right : ∀ {as : List α} {bs : List β} {b : β}, F2 R as bs → b ∈ bs → ∃ a ∈ as, R a b
  | _, _, _, .cons h r, m => by
    rcases List.mem_cons.mp m with rfl | m
    · exact ⟨_, List.mem_cons_self, h⟩
    · obtain ⟨a, ha, q⟩ := r.right m
      exact ⟨a, List.mem_cons_of_mem _ ha, q⟩
theorem F2.map_eq {f : β → α} : ∀ {as : List α} {bs : List β}, F2 (fun a b => a = f b) as bs → as = bs.map f
  | _, _, .nil => rfl
  | _, _, .cons h r => by rw [h, r.map_eq]; rfl
theorem F2.of_map {f : β → α} : ∀ {bs : List β}, (∀ b ∈ bs, R (f b) b) → F2 R (bs.map f) bs
  | [], _ => .nil
  | b :: bs, h => .cons (h b List.mem_cons_self) (F2.of_map fun c hc => h c (List.mem_cons_of_mem _ hc))
/-- the left one rearranged: so is the right one -/
theorem F2.perm {as as' : List α} (p : as'.Perm as) : ∀ {bs : List β}, F2 R as bs → ∃ bs', bs'.Perm bs ∧ F2 R as' bs' := by
  induction p with
  | nil => intro bs h; cases h; exact ⟨[], .nil, .nil⟩
  | cons x p ih =>
    intro bs h
    cases h with
    | cons h1 h2 =>
      obtain ⟨b, pb, q⟩ := ih h2
      exact ⟨_ :: b, pb.cons _, .cons h1 q⟩
  | swap x y l =>
    intro bs h
    cases h with
    | cons h1 h2 =>
      cases h2 with
      | cons h3 h4 => exact ⟨_, .swap _ _ _, .cons h3 (.cons h1 h4)⟩
  | trans p1 p2 ih1 ih2 =>
    intro bs h
    obtain ⟨b1, q1, f1⟩ := ih2 h
    obtain ⟨b2, q2, f2⟩ := ih1 f1
    exact ⟨b2, q2.trans q1, f2⟩
end
theorem take_snoc {α : Type} {l : List α} {i : Nat} {x : α} (h : l[i]? = some x) : l.take (i + 1) = l.take i ++ [x] := by
  rw [List.take_succ, h]
  rfl
theorem same_upd {H : Hp} {a : Addr} {o : HO} (h : H a = none) : Same H (L2.upd H a o) := fun b u e => by
  rw [upd_ne (ne_of_none e h)]
  exact e
/-! ### comprehensions that change nothing but what they make -/
section
variable {It0 : It} {G : Hp → Prop} {Y : Nat → Hp → V → Hp → Prop} {tt : TT} {te : TE} {m : Nat} {σ : L2.St} {H1 : Hp} {D : Addr} {Qd : Hp → Prop}
/-- what is made stands to c x as rel says -/
theorem lc_rel {β : Type} {xs : List V} {p : V → Bool} {c : V → β} {rel : Hp → V → β → Prop} (w : Walk It0 xs.length G (YAt xs)) (hD : H1 D = none) (hz : xs.length < sizeLine) (hG : ∀ H', Same H1 H' → G H') (rs : ∀ {H H' y b}, Same H H' → rel H y b → rel H' y b)
    (ru : ∀ {H y b l}, H D = some (.lst l) → rel H y b → ∀ l', rel (upd H D (.lst l')) y b)
    (h2 : ∀ v, wipe ((wipe σ [m]).set m (some v)) [m] = wipe σ [m])
    (ht : ∀ x H', x ∈ xs → Same H1 H' → ∀ R : Bool → Hp → Prop, (∀ H'', Same H' H'' → R (p x) H'') → tt ((wipe σ [m]).set m (some x)) H' R)
    (he : ∀ x H', x ∈ xs → p x = true → Same H1 H' → ∀ R : V → Hp → Prop, (∀ y H'', Same H' H'' → rel H'' y (c x) → R y H'') → te ((wipe σ [m]).set m (some x)) H' R)
    (hd : ∀ H' ys, Same H1 H' → H' D = some (.lst ys) → F2 (rel H') ys ((xs.filter p).map c) → Qd H') :
    ∃ W : Nat → Nat → Hp → Prop, (∃ m, W 0 m (upd H1 D (.lst []))) ∧ ∀ i k H, W i k H →
      (It0.stop i H ∧ Qd H) ∨ (It0.go i H ∧ ∃ Nx : Hp → Prop, (∀ H', Nx H' → ∃ k', k' < k ∧ W (i + 1) k' H') ∧ ∀ x H', It0.yld i H x H' → gName m x (wipe σ [m]) H' fun σ2 H2 => wipe σ2 [m] = wipe σ [m] ∧ tt σ2 H2 fun b H3 =>
        if b = true then te σ2 H3 fun y H4 => ∃ acc, H4 D = some (.lst acc) ∧ acc.length < sizeLine ∧ Nx (upd H4 D (.lst (acc ++ [y]))) else Nx H3) := by
  refine lc_it w (fun i H => Same H1 H ∧ ∃ ys, H D = some (.lst ys) ∧ F2 (rel H) ys (((xs.take i).filter p).map c)) ⟨same_upd hD, [], upd_same, .nil⟩ (fun i H _ q => hG H q.1) ?_ ?_
  · rintro i x H H' hi ⟨sH, ys, eD, f⟩ ⟨rfl, hx⟩
    have mx : x ∈ xs := List.mem_of_getElem? hx
    have et := take_snoc hx
    refine ⟨h2 x, ht x H' mx sH _ fun H2 s2 => ?_⟩
    cases e : p x with
    | false =>
      rw [if_neg Bool.false_ne_true]
      refine ⟨sH.trans s2, ys, s2 _ _ eD, ?_⟩
      rw [et, List.filter_append, List.filter_cons_of_neg (by rw [e]; exact Bool.false_ne_true), List.filter_nil, List.append_nil]
      exact f.mono fun _ _ q => rs s2 q
    | true =>
      rw [if_pos rfl]
      refine he x H2 mx e (sH.trans s2) _ fun y H3 s3 ry => ?_
      have e3 := s3 _ _ (s2 _ _ eD)
      refine ⟨ys, e3, ?_, ?_⟩
      · have l1 := f.len
        rw [List.length_map] at l1
        have l2 := List.length_filter_le p (xs.take i)
        rw [List.length_take] at l2
        omega
      · refine ⟨fun b o hb => ?_, ys ++ [y], upd_same, ?_⟩
        · have nb : b ≠ D := fun z => by rw [z, hD] at hb; cases hb
          rw [upd_ne nb]
          exact s3 _ _ (s2 _ _ (sH _ _ hb))
        · rw [et, List.filter_append, List.filter_cons_of_pos e, List.filter_nil, List.map_append]
          exact (f.mono fun _ _ q => ru e3 (rs s3 (rs s2 q)) _).snoc (ru e3 ry _)
  · rintro H ⟨sH, ys, eD, f⟩
    rw [List.take_length] at f
    exact hd H ys sH eD f
/-- a filter -/
theorem lc_filt {xs : List V} {p : V → Bool} (w : Walk It0 xs.length G (YAt xs)) (hD : H1 D = none) (hz : xs.length < sizeLine) (hG : ∀ H', Same H1 H' → G H') (hm : m < σ.length)
    (ht : ∀ x H', x ∈ xs → Same H1 H' → ∀ R : Bool → Hp → Prop, (∀ H'', Same H' H'' → R (p x) H'') → tt ((wipe σ [m]).set m (some x)) H' R)
    (hd : ∀ H', Same H1 H' → H' D = some (.lst (xs.filter p)) → Qd H') :
    ∃ W : Nat → Nat → Hp → Prop, (∃ m, W 0 m (upd H1 D (.lst []))) ∧ ∀ i k H, W i k H →
      (It0.stop i H ∧ Qd H) ∨ (It0.go i H ∧ ∃ Nx : Hp → Prop, (∀ H', Nx H' → ∃ k', k' < k ∧ W (i + 1) k' H') ∧ ∀ x H', It0.yld i H x H' → gName m x (wipe σ [m]) H' fun σ2 H2 => wipe σ2 [m] = wipe σ [m] ∧ tt σ2 H2 fun b H3 =>
        if b = true then tVar m σ2 H3 fun y H4 => ∃ acc, H4 D = some (.lst acc) ∧ acc.length < sizeLine ∧ Nx (upd H4 D (.lst (acc ++ [y]))) else Nx H3) := by
  refine lc_rel (p := p) (c := fun x => x) (rel := fun _ y x => y = x) w hD hz hG (fun _ q => q) (fun _ q _ => q) (fun v => ?_) ht (fun x H' mx _ _ R k => ⟨x, ?_, k x H' (Same.refl _) rfl⟩) fun H' ys sH eD f => hd H' sH ?_
  · show ((σ.set m none).set m (some v)).set m none = σ.set m none
    rw [List.set_set, List.set_set]
  · show ((σ.set m none).set m (some x))[m]? = _
    rw [List.getElem?_set_self (by rw [List.length_set]; exact hm)]
  · rw [eD, f.map_eq (f := fun x => x), List.map_id', List.map_id']
end
end Own
set_option Elab.async false
set_option linter.all false
set_option maxRecDepth 100000
set_option maxHeartbeats 400000
namespace Own
open PySem PySem.Spec PyProof.Rows L2
/-! ### lists of flat values against [] -/
def fd : V → PyData
  | .bl b => .bool b
  | .int i => .int i
  | .str x => .str x
  | _ => .none
def fok : V → Bool
  | .non => true
  | .bl _ => true
  | .int _ => true
  | .str x => x.cps.all (· < 0x110000)
  | _ => false
theorem dp_flat1 {K : PySem.W.Frag} {H : Hp} : ∀ {x : V}, fok x = true → Dp K H x (fd x) ∧ (fd x).canLay0 = true ∧ (fd x).depth = 0
  | .non, _ => ⟨.non, rfl, rfl⟩
  | .bl b, _ => ⟨.bl b, rfl, rfl⟩
  | .int i, _ => ⟨.int i, rfl, rfl⟩
  | .str x, h => ⟨.str x, h, rfl⟩
theorem dp_flat {K : PySem.W.Frag} {H : Hp} : ∀ {xs : List V}, xs.all fok = true → DpAll K H xs (xs.map fd) ∧ PyData.canLayAll0 (xs.map fd) = true ∧ PyData.depthAll (xs.map fd) = 0
  | [], _ => ⟨.nil, rfl, rfl⟩
  | x :: r, h => by
    rw [List.all_cons, Bool.and_eq_true] at h
    obtain ⟨a1, a2, a3⟩ := dp_flat1 (K := K) (H := H) h.1
    obtain ⟨b1, b2, b3⟩ := dp_flat (K := K) (H := H) h.2
    refine ⟨.cons a1 b1, ?_, ?_⟩
    · show ((fd x).canLay0 && PyData.canLayAll0 (r.map fd)) = true
      rw [a2, b2]
      rfl
    · show max (fd x).depth (PyData.depthAll (r.map fd)) = 0
      rw [a3, b3]
      rfl
theorem shaped_flat (K : PySem.W.Frag) (H : Hp) {xs : List V} (h : xs.all fok = true) : SeqAt.shaped (.list (xs.map fd)) = true := by
  obtain ⟨_, a, b⟩ := dp_flat (K := K) (H := H) h
  show (PyData.canLayAll0 (xs.map fd) && decide (PyData.depthAll (xs.map fd) + 1 ≤ 64)) = true
  rw [a, b]
  rfl
theorem eqv_nil2 (xs : List V) : PyData.eqv (.list (xs.map fd)) (.list []) = xs.isEmpty := by
  cases xs <;> rfl
theorem ne_nil {K : PySem.W.Frag} {H : Hp} {a b : Addr} {xs : List V} {Q : VK} (ha : SqL K H a xs) (hb : SqL K H b []) (hf : xs.all fok = true) (q : Q (.bl (!xs.isEmpty)) H) : rNeD K (.ref a) (.ref b) H Q :=
  ⟨_, _, .lst ha (dp_flat hf).1, .lst hb .nil, shaped_flat K H hf, rfl, by rw [eqv_nil2]; exact q⟩
theorem eq_nil {K : PySem.W.Frag} {H : Hp} {a b : Addr} {xs : List V} {Q : VK} (ha : SqL K H a xs) (hb : SqL K H b []) (hf : xs.all fok = true) (q : Q (.bl xs.isEmpty) H) : rEqD K (.ref a) (.ref b) H Q :=
  ⟨_, _, .lst ha (dp_flat hf).1, .lst hb .nil, shaped_flat K H hf, rfl, by rw [eqv_nil2]; exact q⟩
theorem cut_drop {xs : List V} {k : Nat} (h : k ≤ xs.length) : cutV xs (some (k : Int)) none = xs.drop k := by
  show (xs.drop (HT.sIx xs.length 0 (some (k : Int)))).take (HT.sIx xs.length xs.length none - HT.sIx xs.length 0 (some (k : Int))) = _
  rw [HT.sIx_none, HT.sIx_nat, Nat.min_eq_left h]
  exact List.take_of_length_le (by rw [List.length_drop]; exact Nat.le_refl _)
theorem decStr {x y : Str} : decide (V.str x = V.str y) = decide (x = y) := by
  rw [Bool.eq_iff_iff]
  simp
theorem at_nat {xs : List V} {k : Nat} {v : V} (h : xs[k]? = some v) : atI xs ((k : Nat) : Int) = some v := atI_nat h
theorem inV_str (w : Str) : ∀ xs : List Str, inV (.str w) (xs.map V.str) = decide (w ∈ xs)
  | [] => rfl
  | x :: r => by
    show ((x == w) || inV (.str w) (r.map V.str)) = _
    rw [inV_str w r]
    by_cases h : x = w
    · subst h
      simp
    · have h2 : ¬ w = x := fun z => h z.symm
      have h3 : (x == w) = false := by simpa using h
      rw [h3]
      simp [h2]
theorem fok_ints (is : List Int) : (is.map V.int).all fok = true := by
  rw [List.all_map, List.all_eq_true]
  intro _ _
  rfl

theorem seqT {K : PySem.W.Frag} {H H' : Hp} {a : Addr} {xs : List V} (e : Same H H') (h : SqT K H a xs) : SqT K H' a xs := by
  rcases h with (h | ⟨o, h⟩) | h
  · exact .inl (.inl (e _ _ h))
  · exact .inl (.inr ⟨o, e _ _ h⟩)
  · exact .inr h
/-- .. != [], .. == [] behind a list of flat values -/
theorem tail_ne {K : PySem.W.Frag} {σ : L2.St} {H : Hp} {D : Addr} {xs : List V} {Q : VK} (hD : H D = some (.lst xs)) (hf : xs.all fok = true) (k : ∀ H', Same H H' → Q (.bl (!xs.isEmpty)) H') : tLst tNil σ H fun y H2 => rNeD K (.ref D) y H2 Q := by
  refine ⟨(by show 0 ≤ sizeLine; decide), fun q nq => ?_⟩
  have s := same_upd (o := .lst []) nq
  exact ne_nil (SqL.of (s _ _ hD)) (SqL.of upd_same) hf (k _ s)
theorem tail_eq {K : PySem.W.Frag} {σ : L2.St} {H : Hp} {D : Addr} {xs : List V} {Q : VK} (hD : H D = some (.lst xs)) (hf : xs.all fok = true) (k : ∀ H', Same H H' → Q (.bl xs.isEmpty) H') : tLst tNil σ H fun y H2 => rEqD K (.ref D) y H2 Q := by
  refine ⟨(by show 0 ≤ sizeLine; decide), fun q nq => ?_⟩
  have s := same_upd (o := .lst []) nq
  exact eq_nil (SqL.of (s _ _ hD)) (SqL.of upd_same) hf (k _ s)
theorem all_filter {xs : List V} {p : V → Bool} (h : xs.all fok = true) : (xs.filter p).all fok = true := by
  rw [List.all_eq_true] at h ⊢
  exact fun x hx => h x (List.mem_filter.mp hx).1
theorem filter_any {xs : List V} {p : V → Bool} : (!(xs.filter p).isEmpty) = xs.any p := by
  induction xs with
  | nil => rfl
  | cons x r ih =>
    cases e : p x with
    | true => simp [e]
    | false =>
      rw [List.filter_cons_of_neg (by rw [e]; exact Bool.false_ne_true), ih]
      simp [e]
/-- [x for x in t if T] != [], t a tuple -/
theorem any_ne {K : PySem.W.Frag} {σ : L2.St} {H : Hp} {Q : VK} {a : Addr} {xs : List V} {p : V → Bool} {tt : TT} {m : Nat} (hs : SqT K H a xs) (hf : xs.all fok = true) (hz : xs.length < sizeLine) (hm : m < σ.length)
    (ht : ∀ x H', x ∈ xs → Same H H' → ∀ R : Bool → Hp → Prop, (∀ H'', Same H' H'' → R (p x) H'') → tt ((wipe σ [m]).set m (some x)) H' R) (k : ∀ H', Same H H' → Q (.bl (xs.any p)) H') :
    ∃ b, V.ref a = .ref b ∧ (∃ ys, SqT K H b ys) ∧ ∀ D, H D = none → ∃ W : Nat → Nat → Hp → Prop, (∃ m, W 0 m (L2.upd H D (.lst []))) ∧ ∀ i k H, W i k H →
      ((Itt K b).stop i H ∧ tLst tNil σ H fun y H2 => rNeD K (.ref D) y H2 Q) ∨ ((Itt K b).go i H ∧ ∃ Nx : Hp → Prop, (∀ H', Nx H' → ∃ k', k' < k ∧ W (i + 1) k' H') ∧ ∀ x H', (Itt K b).yld i H x H' → gName m x (wipe σ [m]) H' fun σ2 H2 => wipe σ2 [m] = wipe σ [m] ∧ tt σ2 H2 fun b H3 =>
        if b = true then tVar m σ2 H3 fun y H4 => ∃ acc, H4 D = some (.lst acc) ∧ acc.length < sizeLine ∧ Nx (L2.upd H4 D (.lst (acc ++ [y]))) else Nx H3) := by
  refine ⟨a, rfl, ⟨_, hs⟩, fun D nD => lc_filt (p := p) walk_tup nD hz (fun H' s => seqT s hs) hm ht fun H' s eD => ?_⟩
  exact tail_ne eD (all_filter hf) fun H'' s2 => by
    rw [filter_any]
    exact k H'' (s.trans s2)
/-! ### within a comprehension's block: K told -/
section
variable {X : Cx} {K : PySem.W.Frag}
theorem op_inK (h : X.K = K) : OpR X (compareOp .In) (rIn K false) := h ▸ op_in_seq
theorem op_notInK (h : X.K = K) : OpR X (compareOp .NotIn) (rIn K true) := h ▸ op_notIn_seq
theorem ix_tupK (h : X.K = K) : IxR X (rIxT K) := h ▸ ix_tup
theorem op_eqDK (h : X.K = K) (hu : X.A.units + 64 < cLine) : OpR X (compareOp .Eq) (rEqD K) := h ▸ op_eqD hu
theorem op_neDK (h : X.K = K) (hu : X.A.units + 64 < cLine) : OpR X (compareOp .NotEq) (rNeD K) := h ▸ op_neD hu
end
end Own
set_option Elab.async false
set_option linter.all false
set_option maxRecDepth 100000
set_option maxHeartbeats 400000
namespace L2
open PySem PySem.Spec PyProof.Rows
/-! ### d.get(k, x) of a written dict -/
section
variable {X : Cx} {d : Addr} {es : Array DictEntry} {n : Nat}
theorem mt_get_kd (D : KDict X.K X.w d es n) : MtR X "dict.get" (fun x xs H Q => ∃ (z : Str) (dv : V), x = .ref d ∧ xs = [.str z, dv] ∧ ((∃ u0 v0, PySem.W.nsIn X.K d z = some (some u0) ∧ RelV v0 u0 ∧ Q v0 H) ∨ (PySem.W.nsIn X.K d z = some none ∧ Q dv H))) := by
  intro pins s σ H x xs v us Q I rx rs h
  obtain ⟨z, dv, rfl, rfl, h⟩ := h
  cases rx
  obtain ⟨u1, u2, rfl, r1, r2⟩ := vals2 rs
  obtain ⟨t, rfl⟩ := r1
  have hm := PySem.W.mapOf_K (prog := X.prog) (w := X.w) I.kIn D.at_ D.lit
  refine call_meetsIn PySem.F.slot_dict_get hm.typeIs PySem.F.entry_dict_get (PySem.F.args_dict_get_3 _ _ _) (meets_dict_get_default (PySem.strKind X.prog X.w) d (PySem.strKind_is X.prog X.w z t) D.low u2) ⟨_, hm, ?_⟩
  rcases h with ⟨u0, v0, e, r, q⟩ | ⟨e, q⟩
  · rw [PySem.W.find_K D.at_ e]
    exact ⟨v0, H, I.tok _, r, q⟩
  · rw [PySem.W.find_K D.at_ e]
    exact ⟨dv, H, I.tok _, r2, q⟩
/-- o.get(e, f), o a written dict -/
def tGetK (K : PySem.W.Frag) (d : Addr) (td : TE) (t : TA) : TE := fun σ H Q => td σ H fun x H1 => x = .ref d ∧ t σ H1 fun xs H2 => ∃ (z : Str) (dv : V), xs = [.str z, dv] ∧ ((∃ u0 v0, PySem.W.nsIn K d z = some (some u0) ∧ RelV v0 u0 ∧ Q v0 H2) ∨ (PySem.W.nsIn K d z = some none ∧ Q dv H2))
theorem pe_getK {o e : Expr} {ex : List Expr} {apos cpos : Pos} {td : TE} {t : TA} (D : KDict X.K X.w d es n) (ho : PE X o td) (ha : PA X (e :: ex) t) (hbase : attributeBase o "get" X.env (eval o X.env) = eval o X.env := by rfl)
    (hfew : ((backTo cpos (starEach (e :: ex) X.env)).all (fun x => !x.1) && (backToKw cpos (keywordEach [] X.env)).all (fun x => x.1.isSome)
      && decide ((e :: ex).length + ([] : List Keyword).length + (if ([] : List Keyword).isEmpty then 0 else 1) < 30)) = true := by rfl)
    (hline : (apos.endLine == cpos.line) = true := by rfl) (hs : starEach (e :: ex) X.env = (false, eval e X.env) :: starEach ex X.env := by rfl) (hplain : (backTo cpos (starEach ex X.env)).any (·.1) = false := by rfl) :
    PE X (.Call (.Attribute o "get" apos) (e :: ex) [] cpos) (tGetK X.K d td t) := by
  refine ⟨fun pins s σ H Q I h => ?_⟩
  refine wpAny_Call_method hbase hfew hline PySem.F.plainAttrs_dict PySem.F.slot_dict_get PySem.F.type_dict_get (thn (ho.run pins s σ H _ I h) fun u s1 q => ?_)
  obtain ⟨x, H1, I1, rx, rfl, q1⟩ := q
  cases rx
  have hm := PySem.W.mapOf_K (prog := X.prog) (w := X.w) I1.kIn D.at_ D.lit
  refine ⟨hm.typeIs, hm.noDict, ?_⟩
  have hA := ha.run cpos pins s1 σ H1 _ I1 q1
  rw [hs] at hA ⊢
  refine Calls.callWith_builtin (by show (false || (backTo cpos (starEach ex X.env)).any (·.1)) = false; rw [hplain] <;> rfl) (Calls.evalArgs_plain ?_)
  exact thn hA fun us s2 q2 => by
    obtain ⟨vs, H2, I2, r2, z, dv, e2, q3⟩ := q2
    exact mt_get_kd D pins s2 σ H2 (.ref d) vs (.ref d) us Q I2 rfl r2 ⟨z, dv, rfl, e2, q3⟩
end
end L2
set_option Elab.async false
set_option linter.all false
set_option maxRecDepth 100000
set_option maxHeartbeats 400000
namespace Own
open PySem PySem.Spec PyProof.Rows L2
/-! ### chests, in plain words -/
def TOOLS : List Str := "compass" :: "corner" :: "disc" :: "dividers" :: "gauge" :: "halver" :: "rims" :: "square" :: "strip" :: []
def GREAT : List Str := "compass" :: "corner" :: "disc" :: "rims" :: []
def MIDDLE : List Str := "dividers" :: "gauge" :: "halver" :: "strip" :: []
def WORDS : List Str := "fractions" :: "middle" :: "all" :: []
def rk (c : List Str) : Nat := if c.any (fun t => decide (t ∈ GREAT)) then 2 else if c.any (fun t => decide (t ∈ MIDDLE)) then 1 else 0
/-- the law's own rank -/
def lrk (c : List Str) : Nat := if c.any (fun t => decide (t ∈ GREAT)) then 2 else if c.any (fun t => decide (t ≠ "square")) then 1 else 0
def sLt (x y : Str) : Bool := decide (x.cps.toList < y.cps.toList)
/-- is_chest, from the last one on -/
def chestB : Str → List V → Bool
  | _, [] => true
  | last, .str t :: r => decide (t ∈ TOOLS) && (sLt last t && chestB t r)
  | _, _ :: _ => false
theorem rk_le (c : List Str) : rk c ≤ 2 := by
  unfold rk
  split
  · exact Nat.le_refl _
  · split <;> omega
theorem tools_kinds : ∀ t ∈ TOOLS, t ∉ GREAT → (t ∈ MIDDLE ↔ t ≠ "square") := by decide +kernel
theorem rk_lrk {c : List Str} (h : ∀ t ∈ c, t ∈ TOOLS) : rk c = lrk c := by
  unfold rk lrk
  by_cases g : c.any (fun t => decide (t ∈ GREAT)) = true
  · rw [if_pos g, if_pos g]
  · rw [if_neg g, if_neg g]
    have e : c.any (fun t => decide (t ∈ MIDDLE)) = c.any (fun t => decide (t ≠ "square")) := by
      rw [Bool.eq_iff_iff, List.any_eq_true, List.any_eq_true]
      have ng : ∀ t ∈ c, t ∉ GREAT := fun t ht z => g (List.any_eq_true.mpr ⟨t, ht, decide_eq_true z⟩)
      refine exists_congr fun t => and_congr_right fun ht => ?_
      rw [decide_eq_true_iff, decide_eq_true_iff]
      exact tools_kinds t (h t ht) (ng t ht)
    rw [e]
/-- both -/
def joint (a b : List Str) : List Str := TOOLS.filter fun t => decide (t ∈ a) || decide (t ∈ b)
theorem joint_sub (a b : List Str) : (joint a b).Sublist TOOLS := List.filter_sublist
theorem joint_any {a b : List Str} (ha : ∀ t ∈ a, t ∈ TOOLS) (hb : ∀ t ∈ b, t ∈ TOOLS) (p : Str → Bool) : (joint a b).any p = (a.any p || b.any p) := by
  rw [Bool.eq_iff_iff, Bool.or_eq_true, List.any_eq_true, List.any_eq_true, List.any_eq_true]
  constructor
  · rintro ⟨t, ht, hp⟩
    obtain ⟨_, h2⟩ := List.mem_filter.mp ht
    rw [Bool.or_eq_true, decide_eq_true_iff, decide_eq_true_iff] at h2
    rcases h2 with h2 | h2
    · exact .inl ⟨t, h2, hp⟩
    · exact .inr ⟨t, h2, hp⟩
  · rintro (⟨t, ht, hp⟩ | ⟨t, ht, hp⟩)
    · exact ⟨t, List.mem_filter.mpr ⟨ha t ht, by simp [ht]⟩, hp⟩
    · exact ⟨t, List.mem_filter.mpr ⟨hb t ht, by simp [ht]⟩, hp⟩
theorem rk_joint {a b : List Str} (ha : ∀ t ∈ a, t ∈ TOOLS) (hb : ∀ t ∈ b, t ∈ TOOLS) : rk (joint a b) = max (rk a) (rk b) := by
  unfold rk
  rw [joint_any ha hb, joint_any ha hb]
  cases a.any (fun t => decide (t ∈ GREAT)) <;> cases b.any (fun t => decide (t ∈ GREAT)) <;> cases a.any (fun t => decide (t ∈ MIDDLE)) <;> cases b.any (fun t => decide (t ∈ MIDDLE)) <;> rfl
theorem tools_up : TOOLS.Pairwise fun x y => sLt x y = true := by decide +kernel
theorem tools_first : ∀ t ∈ TOOLS, sLt "" t = true := by decide +kernel
theorem chest_from : ∀ {c : List Str} {last : Str}, (∀ t ∈ c, t ∈ TOOLS ∧ sLt last t = true) → (c.Pairwise fun x y => sLt x y = true) → chestB last (c.map V.str) = true
  | [], _, _, _ => rfl
  | t :: r, last, h, p => by
    obtain ⟨h1, h2⟩ := h t List.mem_cons_self
    obtain ⟨p1, p2⟩ := List.pairwise_cons.mp p
    show (decide (t ∈ TOOLS) && (sLt last t && chestB t (r.map V.str))) = true
    rw [decide_eq_true h1, h2, chest_from (fun u hu => ⟨(h u (List.mem_cons_of_mem _ hu)).1, p1 u hu⟩) p2]
    rfl
theorem chest_sub {c : List Str} (h : c.Sublist TOOLS) : chestB "" (c.map V.str) = true :=
  chest_from (fun t ht => ⟨h.subset ht, tools_first t (h.subset ht)⟩) (tools_up.sublist h)
theorem chest_bad : ∀ {c : List Str} {last : Str} {b : V} {r : List V}, (∀ t, b = .str t → t ∉ TOOLS) → chestB last (c.map V.str ++ b :: r) = false
  | [], last, b, r, h => by
    cases b with
    | str t =>
      show (decide (t ∈ TOOLS) && _) = false
      rw [decide_eq_false (h t rfl)]
      rfl
    | _ => rfl
  | t :: c, last, b, r, h => by
    show (decide (t ∈ TOOLS) && (sLt last t && chestB t (c.map V.str ++ b :: r))) = false
    rw [chest_bad h, Bool.and_false, Bool.and_false]
end Own
set_option Elab.async false
set_option linter.all false
set_option maxRecDepth 100000
set_option maxHeartbeats 400000
namespace Own
open PySem PySem.Spec PyProof.Rows L2
/-! ### all chests, in their order -/
/-- all sublists of an ascending list, in the order of tuples -/
def lexG {α : Type} : List α → List (List α)
  | [] => [[]]
  | t :: r => [] :: ((lexG r).map (t :: ·) ++ (lexG r).tail)
theorem lexG_map {α β : Type} (f : α → β) : ∀ ts : List α, lexG (ts.map f) = (lexG ts).map (List.map f)
  | [] => rfl
  | t :: r => by
    show [] :: ((lexG (r.map f)).map (f t :: ·) ++ (lexG (r.map f)).tail) = _
    rw [lexG_map f r]
    have e : lexG (t :: r) = [] :: ((lexG r).map (t :: ·) ++ (lexG r).tail) := rfl
    rw [e, List.map_cons, List.map_append, List.map_map, List.map_map, List.map_tail]
    rfl
theorem lexG_head {α : Type} (ts : List α) : ∃ l, lexG ts = [] :: l := by
  cases ts with
  | nil => exact ⟨[], rfl⟩
  | cons t r => exact ⟨_, rfl⟩
theorem lexG_mem {α : Type} : ∀ {ts : List α} {c : List α}, c ∈ lexG ts → c.Sublist ts
  | [], c, h => by
    rw [List.mem_singleton.mp h]
    exact List.Sublist.refl _
  | t :: r, c, h => by
    rcases List.mem_cons.mp h with rfl | h
    · exact List.nil_sublist _
    · rcases List.mem_append.mp h with h | h
      · obtain ⟨d, hd, rfl⟩ := List.mem_map.mp h
        exact (lexG_mem hd).cons₂ t
      · exact (lexG_mem (List.mem_of_mem_tail h)).cons t
theorem lexG_tail {α : Type} {ts : List α} {c : List α} (h : c ∈ (lexG ts).tail) : c ≠ [] := by
  cases ts with
  | nil => cases h
  | cons t r =>
    rintro rfl
    have h2 : [] ∈ (lexG r).map (t :: ·) ++ (lexG r).tail := h
    rcases List.mem_append.mp h2 with h2 | h2
    · obtain ⟨d, _, e⟩ := List.mem_map.mp h2
      cases e
    · exact lexG_tail h2 rfl
abbrev ltI (a b : Str) : Bool := PyProof.Rows.itemOrd.blt (SrtT.kc a) (SrtT.kc b)
theorem ltI_eq (a b : Str) : ltI a b = sLt a b := rfl
theorem ltT_head {t u : Str} {c d : List Str} (h : sLt t u = true) : SrtT.ltT (t :: c) (u :: d) = true := by
  show lexLt itemOrd (SrtT.kc t :: c.map SrtT.kc) (SrtT.kc u :: d.map SrtT.kc) = true
  exact lex_true.mpr (.inl h)
theorem ltT_tail {t : Str} {c d : List Str} : SrtT.ltT (t :: c) (t :: d) = SrtT.ltT c d := lex_self _ _ _
theorem ltT_nil {c : List Str} (h : c ≠ []) : SrtT.ltT [] c = true := by
  cases c with
  | nil => exact absurd rfl h
  | cons t r => rfl
theorem lexG_up : ∀ {ts : List Str}, (ts.Pairwise fun x y => sLt x y = true) → (lexG ts).Pairwise fun x y => SrtT.ltT x y = true
  | [], _ => List.pairwise_singleton _ _
  | t :: r, h => by
    obtain ⟨h1, h2⟩ := List.pairwise_cons.mp h
    have ih := lexG_up h2
    have ne : ∀ c ∈ (lexG r).map (t :: ·) ++ (lexG r).tail, c ≠ [] := fun c hc => by
      rcases List.mem_append.mp hc with hc | hc
      · obtain ⟨d, _, rfl⟩ := List.mem_map.mp hc
        simp
      · exact lexG_tail hc
    refine List.pairwise_cons.mpr ⟨fun c hc => ltT_nil (ne c hc), List.pairwise_append.mpr ⟨?_, ?_, ?_⟩⟩
    · exact List.pairwise_map.mpr (ih.imp fun q => by rw [ltT_tail]; exact q)
    · obtain ⟨l, e⟩ := lexG_head r
      rw [e] at ih ⊢
      exact (List.pairwise_cons.mp ih).2
    · intro a ha b hb
      obtain ⟨d, _, rfl⟩ := List.mem_map.mp ha
      have hb1 := lexG_mem (List.mem_of_mem_tail hb)
      cases b with
      | nil => exact absurd rfl (lexG_tail hb)
      | cons u v => exact ltT_head (h1 u (hb1.subset List.mem_cons_self))
/-- a strictly ascending list and a sorted one with the same items are the same -/
theorem sorted_uniq : ∀ {l m : List (List Str)}, (m.Pairwise fun x y => SrtT.ltT x y = true) → (l.Pairwise fun x y => SrtT.ltT y x = false) → l.Perm m → l = m
  | [], m, _, _, p => (List.nil_perm.mp p).symm
  | x :: l, [], _, _, p => absurd p.symm (by simp)
  | x :: l, y :: m, hm, hl, p => by
    obtain ⟨m1, m2⟩ := List.pairwise_cons.mp hm
    obtain ⟨l1, l2⟩ := List.pairwise_cons.mp hl
    have e : x = y := by
      rcases List.mem_cons.mp (p.mem_iff.mpr (List.mem_cons_self (a := y) (l := m))) with e | hy
      · exact e.symm
      · rcases List.mem_cons.mp (p.mem_iff.mp (List.mem_cons_self (a := x) (l := l))) with e | hx
        · exact e
        · have a := l1 y hy
          have b := m1 x hx
          rw [a] at b
          cases b
    subst e
    rw [sorted_uniq m2 l2 (List.Perm.cons_inv p)]
/-! #### by numbers -/
def nums : List Nat := [0, 1, 2, 3, 4, 5, 6, 7, 8]
def ch (c : List Nat) : List Str := c.map fun i => TOOLS.getD i ""
theorem ch_nums : ch nums = TOOLS := by decide +kernel
def lexN : List (List Nat) := lexG nums
theorem lex_ch : lexN.map ch = lexG TOOLS := by
  have := lexG_map (fun i => TOOLS.getD i "") nums
  have e : nums.map (fun i => TOOLS.getD i "") = TOOLS := ch_nums
  rw [e] at this
  exact this.symm
def addN (cs : List (List Nat)) (i : Nat) : List (List Nat) := cs ++ cs.map (· ++ [i])
def allN (n : Nat) : List (List Nat) := (List.range n).foldl addN [[]]
def rkN (c : List Nat) : Nat := if c.any (fun i => decide (i ∈ [0, 1, 2, 6])) then 2 else if c.any (fun i => decide (i ≠ 7)) then 1 else 0
def putN (lots : List (List (List Nat))) (c : List Nat) : List (List (List Nat)) := lots.modify (rkN c) (· ++ [c])
def rowN (i : Nat) (lots : List (List (List Nat))) (r : Nat) : List (List (List Nat)) := ((lots.getD r []).map (· ++ [i])).foldl putN lots
def turnN (lots : List (List (List Nat))) (i : Nat) : List (List (List Nat)) := [2, 1, 0].foldl (rowN i) lots
def lotsN (n : Nat) : List (List (List Nat)) := (List.range n).foldl turnN [[[]], [], []]
theorem all_perm : (allN 9).Perm lexN := by decide +kernel
theorem lots_len : (lotsN 9).map List.length = [2, 30, 480] := by decide +kernel
theorem lots_perm : ∀ r ∈ [0, 1, 2], ((lotsN 9).getD r []).Perm (lexN.filter fun c => rkN c == r) := by decide +kernel
end Own
set_option Elab.async false
set_option linter.all false
set_option maxRecDepth 100000
set_option maxHeartbeats 400000
namespace Own
open PySem PySem.Spec PyProof.Rows L2
/-! ### deeds and drawings, in plain words -/
def LET : List Nat := ("abcdefghijklmnopqrstuvwxyz" : Str).cps.toList
def LEDI : List Nat := ("abcdefghijklmnopqrstuvwxyz" ++ "0123456789" : Str).cps.toList
def NameOk (z : Str) : Prop := z.length ≤ 8 ∧ z ≠ "" ∧ (∀ c ∈ z.cps.toList.head?, c ∈ LET) ∧ ∀ c ∈ z.cps.toList, c ∈ LEDI
instance (z : Str) : Decidable (NameOk z) := by
  unfold NameOk
  exact inferInstance
def FORM : List (Str × Nat × Nat) := ("meet", 4, 0) :: ("upright", 5, 0) :: ("gauge", 2, 0) :: ("dividers", 4, 0) :: ("halver", 5, 0) :: ("strip", 5, 0) :: ("disc", 2, 1) :: ("rims", 4, 1) :: ("corner", 4, 1) :: ("compass", 4, 1) :: ("circles", 4, 1) :: []
def OTHL : List (Str × Str) := ("meet", "") :: ("upright", "square") :: ("circles", "compass") :: []
def toolS (w : Str) : Str := (OTHL.lookup w).getD w
structure Deed where
  word : Str
  names : List Str
  way : List Int
def Deed.vs (d : Deed) : List V := .str d.word :: (d.names.map V.str ++ d.way.map V.int)
/-- a right deed -/
def DeedOk (d : Deed) : Prop := ∃ m k, (d.word, m, k) ∈ FORM ∧ d.names.length = m ∧ (∀ z ∈ d.names, NameOk z) ∧ d.way.length = k ∧ ∀ z ∈ d.way, 1 ≤ z ∧ z ≤ 2
/-- names once each -/
def once (ns : List Str) : List Str := ns.foldl (fun l x => if x ∈ l then l else l ++ [x]) []
theorem once_from : ∀ (ns l : List Str) (x : Str), x ∈ ns.foldl (fun l x => if x ∈ l then l else l ++ [x]) l ↔ x ∈ l ∨ x ∈ ns
  | [], l, x => by simp
  | y :: ns, l, x => by
    rw [List.foldl_cons, once_from ns]
    by_cases h : y ∈ l
    · rw [if_pos h, List.mem_cons]
      constructor
      · rintro (a | a)
        · exact .inl a
        · exact .inr (.inr a)
      · rintro (a | rfl | a)
        · exact .inl a
        · exact .inl h
        · exact .inr a
    · rw [if_neg h, List.mem_append, List.mem_singleton, List.mem_cons]
      constructor
      · rintro ((a | a) | a)
        · exact .inl a
        · exact .inr (.inl a)
        · exact .inr (.inr a)
      · rintro (a | a | a)
        · exact .inl (.inl a)
        · exact .inl (.inr a)
        · exact .inr a
theorem once_mem (ns : List Str) (x : Str) : x ∈ once ns ↔ x ∈ ns := by
  unfold once
  rw [once_from]
  simp
theorem once_len : ∀ (ns l : List Str), (ns.foldl (fun l x => if x ∈ l then l else l ++ [x]) l).length ≤ l.length + ns.length
  | [], l => by simp
  | y :: ns, l => by
    rw [List.foldl_cons]
    have := once_len ns (if y ∈ l then l else l ++ [y])
    rw [List.length_cons]
    split at this
    · rename_i h
      rw [if_pos h]
      omega
    · rename_i h
      rw [if_neg h]
      rw [List.length_append, List.length_singleton] at this
      omega
/-- a drawing, judged from the known names on (none: no step at all) -/
def drawB : List Str → List (Option (Str × Deed)) → Bool
  | _, [] => true
  | _, none :: _ => false
  | kn, some (n, d) :: r => decide (n ∉ kn) && (d.names.all (fun z => decide (z ∈ kn)) && drawB (kn ++ [n]) r)
theorem form_facts : ∀ t ∈ FORM, t.1 ≠ "" ∧ fok (.str t.1) = true ∧ t.2.1 ≤ 5 ∧ t.2.2 ≤ 1 := by decide +kernel
end Own
set_option Elab.async false
set_option linter.all false
set_option maxRecDepth 100000
set_option maxHeartbeats 400000
namespace Own
open PySem PySem.Spec PyProof.Rows L2
/-! ### the law's lots, stage by stage -/
def stage (i k : Nat) : List (List (List Nat)) := ([2, 1, 0].take k).foldl (rowN i) (lotsN i)
theorem st_lt : ∀ i ∈ List.range 9, ∀ k ∈ List.range 3, ∀ c ∈ (stage i k).getD (2 - k) [], ∀ e ∈ c, e < i := by decide +kernel
theorem st_len : ∀ i ∈ List.range 9, ∀ k ∈ List.range 3, (stage i k).length = 3 ∧ ∀ r ∈ List.range 3, ((stage i k).getD r []).length ≤ 512 := by decide +kernel
theorem st_cl : ∀ i ∈ List.range 9, ∀ k ∈ List.range 3, ∀ c ∈ (stage i k).getD (2 - k) [], c.length ≤ 512 := by decide +kernel
theorem st_next (i : Nat) : stage i 3 = lotsN (i + 1) := by
  unfold stage lotsN
  rw [List.range_succ, List.foldl_append]
  rfl
theorem st_zero (i : Nat) : stage i 0 = lotsN i := rfl
theorem st_step {i k : Nat} (hk : k < 3) : stage i (k + 1) = rowN i (stage i k) (2 - k) := by
  have e : k = 0 ∨ k = 1 ∨ k = 2 := by omega
  rcases e with rfl | rfl | rfl <;> rfl
theorem lots_head : ((lotsN 9).getD 0 []).head? = some [] ∧ (∀ c ∈ (lotsN 9).getD 1 [], c ≠ []) ∧ (∀ c ∈ (lotsN 9).getD 2 [], c ≠ []) ∧ (lotsN 9).length = 3 := by decide +kernel
theorem put_get {X : List (List (List Nat))} {c : List Nat} {r : Nat} (h : rkN c < X.length) : (putN X c).getD r [] = if r = rkN c then X.getD r [] ++ [c] else X.getD r [] := by
  unfold putN
  rw [List.getD_eq_getElem?_getD, List.getD_eq_getElem?_getD, List.getElem?_modify]
  by_cases e : rkN c = r
  · have hr : r < X.length := e ▸ h
    rw [List.getElem?_eq_getElem hr, if_pos e.symm]
    show (if rkN c = r then X[r] ++ [c] else X[r]) = X[r] ++ [c]
    rw [if_pos e]
  · rw [if_neg (fun z => e z.symm)]
    cases X[r]? with
    | none => rfl
    | some y =>
      show (if rkN c = r then y ++ [c] else y) = y
      rw [if_neg e]
theorem put_len (X : List (List (List Nat))) (c : List Nat) : (putN X c).length = X.length := by
  unfold putN
  rw [List.length_modify]
theorem rkN_le (c : List Nat) : rkN c ≤ 2 := by
  unfold rkN
  split
  · exact Nat.le_refl _
  · split <;> omega
theorem puts_len : ∀ (l : List (List Nat)) (X : List (List (List Nat))), (l.foldl putN X).length = X.length
  | [], _ => rfl
  | c :: l, X => by
    rw [List.foldl_cons, puts_len l, put_len]
theorem puts_get : ∀ (l : List (List Nat)) (X : List (List (List Nat))) (r : Nat), X.length = 3 → ((l.foldl putN X).getD r []).length ≤ (X.getD r []).length + l.length
  | [], _, _, _ => Nat.le_refl _
  | c :: l, X, r, h => by
    rw [List.foldl_cons]
    have h1 := puts_get l (putN X c) r (by rw [put_len]; exact h)
    rw [put_get (by have := rkN_le c; omega)] at h1
    rw [List.length_cons]
    split at h1
    · rw [List.length_append, List.length_singleton] at h1
      omega
    · omega
theorem tools_pairs : ∀ i ∈ nums, ∀ e ∈ nums, e < i → sLt (TOOLS.getD e "") (TOOLS.getD i "") = true := by decide +kernel
end Own
set_option Elab.async false
set_option linter.all false
set_option maxRecDepth 100000
set_option maxHeartbeats 4000000
namespace Own
open PySem PySem.Spec PyProof.Rows L2 LamX
/-! ### the text -/
def top (i : Nat) : Stmt := PySem.Challenge.pw_rulerchest_k15_all_chests_by_three_sets.main.body.getD i (.Pass ⟨0, 0, 0, 0⟩)
abbrev sWhole : Stmt := top 13
abbrev sName : Stmt := top 15
abbrev sLowest : Stmt := top 19
abbrev sRowsOf : Stmt := top 53
abbrev cTower : Stmt := top 54
abbrev sNeedT : Stmt := top 55
abbrev cNumber : Stmt := top 59
abbrev sFrac : Stmt := top 60
abbrev sSheet : Stmt := top 62
abbrev sDeed : Stmt := top 67
abbrev sNeedD : Stmt := top 68
abbrev sNames : Stmt := top 69
abbrev sTool : Stmt := top 70
abbrev sDrawing : Stmt := top 71
abbrev sChest : Stmt := top 76
abbrev sNeedC : Stmt := top 77
abbrev sNeedW : Stmt := top 78
abbrev sRank : Stmt := top 79
abbrev sSet : Stmt := top 80
abbrev sJoint : Stmt := top 81
abbrev sNoMore : Stmt := top 82
abbrev sAll : Stmt := top 83
abbrev sWith : Stmt := top 84
abbrev sLeast : Stmt := top 85
abbrev sBarred : Stmt := top 86
abbrev sBegun : Stmt := top 88
abbrev sStir : Stmt := top 89
abbrev sDraw : Stmt := top 90
abbrev sPick : Stmt := top 91
abbrev sShuf : Stmt := top 92
abbrev sLName : Stmt := top 93
abbrev sCaught : Stmt := top 94
abbrev sForms : Stmt := top 95
abbrev sHasWay : Stmt := top 96
abbrev sLDeed : Stmt := top 97
abbrev sLTools : Stmt := top 98
abbrev sLRank : Stmt := top 99
abbrev sLChest : Stmt := top 100
abbrev sOdd : Stmt := top 101
abbrev sLots : Stmt := top 102
abbrev sBarR : Stmt := top 103
abbrev sLaw : Stmt := top 104
abbrev FnP (K : PySem.W.Frag) (x : Str) (st : Stmt) (f : Addr) (fd : FuncData) : Prop := FunD K x x (defArgs st) (defBody st) (defScope st) [] [] f fd
/-! ### kinds of values -/
/-- isinstance(x, int) is i, isinstance(x, bool) is b -/
def Kind (K : PySem.W.Frag) (H : Hp) (x : V) (i b : Bool) : Prop := ∃ t : String, TyX K H x (.type t) ∧ kitB t "int" = some i ∧ kitB t "bool" = some b
theorem Kind.int {K : PySem.W.Frag} {H : Hp} (z : Int) : Kind K H (.int z) true false := ⟨"int", .base (.int z), by decide +kernel, by decide +kernel⟩
theorem Kind.bl {K : PySem.W.Frag} {H : Hp} (z : Bool) : Kind K H (.bl z) true true := ⟨"bool", .base (.bl z), by decide +kernel, by decide +kernel⟩
theorem Kind.non {K : PySem.W.Frag} {H : Hp} : Kind K H .non false false := ⟨"NoneType", .base .non, by decide +kernel, by decide +kernel⟩
theorem Kind.str {K : PySem.W.Frag} {H : Hp} (z : Str) : Kind K H (.str z) false false := ⟨"str", .base (.str z), by decide +kernel, by decide +kernel⟩
theorem Kind.lst {K : PySem.W.Frag} {H : Hp} {a : Addr} {xs : List V} (e : H a = some (.lst xs)) : Kind K H (.ref a) false false := ⟨"list", .base (.lst e), by decide +kernel, by decide +kernel⟩
theorem Kind.tup {K : PySem.W.Frag} {H : Hp} {a : Addr} {xs : List V} (e : H a = some (.tup xs)) : Kind K H (.ref a) false false := ⟨"tuple", .base (.tup e), by decide +kernel, by decide +kernel⟩
theorem Kind.dict {K : PySem.W.Frag} {H : Hp} {a : Addr} {kvs : List (Key × V)} (e : H a = some (.dK kvs)) : Kind K H (.ref a) false false := ⟨"dict", .base (.dK e), by decide +kernel, by decide +kernel⟩
/-! ### what the walk asks of the module -/
structure Txt (K : PySem.W.Frag) (mg : Str → Option Value) : Prop where
  isi : mg "isinstance" = none
  int : mg "int" = none
  bool : mg "bool" = none
  str : mg "str" = none
  tuple : mg "tuple" = none
  abs : mg "abs" = none
  len : mg "len" = none
  range : mg "range" = none
  list : mg "list" = none
  min : mg "min" = none
  max : mg "max" = none
  enum : mg "enumerate" = none
  sorted : mg "sorted" = none
  dict : mg "dict" = none
  repr : mg "repr" = none
def spWhole (K : PySem.W.Frag) : Sp := fun vs H Q _ => ∃ x i b, vs = [x] ∧ Kind K H x i b ∧ Q (.bl (i && !b)) H
section
variable {P : Program} {w : World} {K : PySem.W.Frag} {mg : Str → Option Value} {base : Heap} {f : Addr} {fd : FuncData}
theorem scWhole : FnScope ["value"] ["value"] (defScope sWhole) := ⟨rfl, rfl, rfl, by decide +kernel, rfl, by decide +kernel, by decide +kernel⟩
theorem ok_whole (F : FnP K "is_whole" sWhole f fd) (T : Txt K mg) : FnOk P w K mg base CX0 1 f fd ["value"] (spWhole K) := by
  refine F.ok scWhole (fun vs H Q E h => ?_) (fun cdv A outer s H vs Q E hr h => ?_)
  · obtain ⟨x, i, b, rfl, _⟩ := h
    rfl
  · obtain ⟨x, i, b, rfl, ⟨t, ty, e1, e2⟩, k⟩ := h
    refine ⟨_, PSs.nox (pss_one (ps_ret (pe_and (pe_callB call_isi (by rfl) T.isi boot_isinstance (pa_cons (pv 0) (pa_cons (pe_bltn (v := .ty "int") (by rfl) T.int boot_int rfl) pa_nil)))
      (pe_one (pe_not (pe_callB call_isi (by rfl) T.isi boot_isinstance (pa_cons (pv 0) (pa_cons (pe_bltn (v := .ty "bool") (by rfl) T.bool boot_bool rfl) pa_nil)))))))), ?_⟩
    refine ⟨_, rfl, x, .ty "int", .type t, .type "int", i, rfl, .ty _, ty, kit_ty e1, i, rfl, ?_⟩
    cases i with
    | false =>
      refine iteF ?_
      exact k
    | true =>
      refine iteT ?_
      exact ⟨_, rfl, x, .ty "bool", .type t, .type "bool", b, rfl, .ty _, ty, kit_ty e2, b, rfl, k⟩
end
end Own
set_option Elab.async false
set_option linter.all false
set_option maxRecDepth 100000
set_option maxHeartbeats 4000000
namespace Own
open PySem PySem.Spec PyProof.Rows L2 LamX
theorem yes_if {σ : L2.St} {H : Hp} {A B : Hp → Prop} (h : A H) : tYes σ H (fun b H3 => if b = true then A H3 else B H3) := by
  show if true = true then A H else B H
  rw [if_pos rfl]
  exact h
/-! ### the law's draws: a state of two lists and two wholes -/
def stK (lw lc : Addr) (r u : Int) : List (Key × V) := [(.inr "wide", .ref lw), (.inr "cells", .ref lc), (.inr "rest", .int r), (.inr "turn", .int u)]
theorem stK_wide (lw lc : Addr) (r u : Int) : valV (stK lw lc r u) (.inr "wide") = some (.ref lw) := by kernel_rfl
theorem stK_cells (lw lc : Addr) (r u : Int) : valV (stK lw lc r u) (.inr "cells") = some (.ref lc) := by kernel_rfl
theorem stK_rest (lw lc : Addr) (r u : Int) : valV (stK lw lc r u) (.inr "rest") = some (.int r) := by kernel_rfl
theorem stK_turn (lw lc : Addr) (r u : Int) : valV (stK lw lc r u) (.inr "turn") = some (.int u) := by kernel_rfl
theorem stK_putRest (lw lc : Addr) (r u z : Int) : putK (stK lw lc r u) (.inr "rest") (.int z) = stK lw lc z u := by kernel_rfl
theorem stK_putTurn (lw lc : Addr) (r u z : Int) : putK (stK lw lc r u) (.inr "turn") (.int z) = stK lw lc r z := by kernel_rfl
theorem stK_new (lw lc : Addr) : mergeK [] (stK lw lc 0 0) = stK lw lc 0 0 := by kernel_rfl
theorem dget_k {H : Hp} {a : Addr} {kvs : List (Key × V)} (k : Key) {v : V} (h : H a = some (.dK kvs)) (e : valV kvs k = some v) : DGet H a (kV k) (some v) := e ▸ DGet.k h
theorem dput_k {H : Hp} {a : Addr} {kvs kvs' : List (Key × V)} (k : Key) {v : V} (h : H a = some (.dK kvs)) (hl : kvs.length < sizeLine) (e : putK kvs k v = kvs') : DPut H a (kV k) v (upd H a (.dK kvs')) := e ▸ DPut.k h hl
/-- the state at a, its turns being at most t -/
structure StA (H : Hp) (a lw lc : Addr) (t : Nat) : Prop where
  ex : ∃ (ws cs : List Int) (r u : Int), H a = some (.dK (stK lw lc r u)) ∧ H lw = some (.lst (ws.map V.int)) ∧ H lc = some (.lst (cs.map V.int)) ∧ 0 ≤ r ∧ 0 ≤ u ∧ u ≤ t ∧ (∀ z ∈ ws, 0 ≤ z) ∧ ws.length ≤ 63
  ne : lw ≠ lc
/-- all that was tracked is as it was, but for what stands at xs -/
def Kp (xs : List Addr) (H H' : Hp) : Prop := ∀ b o, H b = some o → b ∉ xs → H' b = some o
theorem Kp.refl (xs : List Addr) (H : Hp) : Kp xs H H := fun _ _ h _ => h
theorem Kp.trans {xs : List Addr} {H H1 H2 : Hp} (a : Kp xs H H1) (b : Kp xs H1 H2) : Kp xs H H2 := fun c o h n => b c o (a c o h n) n
theorem Kp.of {xs : List Addr} {H H' : Hp} (e : Same H H') : Kp xs H H' := fun b o h _ => e b o h
theorem Kp.upd {xs : List Addr} {H : Hp} {a : Addr} {o : HO} (h : a ∈ xs) : Kp xs H (L2.upd H a o) := fun b u e n => by
  rw [upd_ne (fun z => n (by rw [z]; exact h))]
  exact e
theorem Same.upd {H : Hp} {a : Addr} {o : HO} (h : H a = none) : Same H (L2.upd H a o) := fun b u e => by
  rw [upd_ne (ne_of_none e h)]
  exact e
theorem Kp.weak {xs ys : List Addr} {H H' : Hp} (a : Kp xs H H') (h : ∀ b ∈ xs, b ∈ ys) : Kp ys H H' := fun b o e n => a b o e fun z => n (h b z)
theorem StA.same {H H' : Hp} {a lw lc : Addr} {t : Nat} (S : StA H a lw lc t) (e : Same H H') : StA H' a lw lc t := by
  obtain ⟨⟨ws, cs, r, u, h1, h2, h3, h4⟩, ne⟩ := S
  exact ⟨⟨ws, cs, r, u, e _ _ h1, e _ _ h2, e _ _ h3, h4⟩, ne⟩
theorem StA.more {H : Hp} {a lw lc : Addr} {t t' : Nat} (S : StA H a lw lc t) (h : t ≤ t') : StA H a lw lc t' := by
  obtain ⟨⟨ws, cs, r, u, h1, h2, h3, h4, h5, h6, h7⟩, ne⟩ := S
  exact ⟨⟨ws, cs, r, u, h1, h2, h3, h4, h5, by omega, h7⟩, ne⟩
def spBegun (K : PySem.W.Frag) : Sp := fun vs H Q _ => ∃ (s : Addr) (ns : List Int), vs = [.ref s] ∧ SqL K H s (ns.map V.int) ∧ ns.length ≤ 63 ∧
  ∀ a lw lc H', H a = none → H lw = none → H lc = none → StA H' a lw lc 0 → Same H H' → Q (.ref a) H'
def spStir : Sp := fun vs H Q _ => ∃ (a lw lc : Addr) (t : Nat), vs = [.ref a] ∧ StA H a lw lc t ∧ t < 2 ^ 40 ∧
  ∀ z H', 0 ≤ z → StA H' a lw lc (t + 1) → Kp [a] H H' → Q (.int z) H'
def spDraw : Sp := fun vs H Q _ => ∃ (a lw lc : Addr) (t : Nat) (n : Int), vs = [.ref a, .int n] ∧ StA H a lw lc t ∧ t < 2 ^ 40 ∧ 0 < n ∧ n < 2 ^ 128 ∧
  ∀ z H', 0 ≤ z → z < n → StA H' a lw lc (t + 1) → Kp [a, lw] H H' → Q (.int z) H'
def spPick (K : PySem.W.Frag) : Sp := fun vs H Q _ => ∃ (a lw lc : Addr) (t : Nat) (l : Addr) (xs : List V), vs = [.ref a, .ref l] ∧ StA H a lw lc t ∧ t < 2 ^ 40 ∧ H l = some (.lst xs) ∧ l ≠ lw ∧ 0 < xs.length ∧ xs.length ≤ 1000 ∧
  ∀ (i : Nat) x H', xs[i]? = some x → StA H' a lw lc (t + 1) → Kp [a, lw] H H' → Q x H'
section
variable {P : Program} {w : World} {K : PySem.W.Frag} {mg : Str → Option Value} {base : Heap} {f fS fD : Addr} {fd fdS fdD : FuncData}
theorem scBegun : FnScope ["_law_script", "_law_wide", "_law_cell"] ["_law_script"] (defScope sBegun) := ⟨rfl, rfl, rfl, by decide +kernel, rfl, by decide +kernel, by decide +kernel⟩
theorem ok_begun (F : FnP K "_law_begun" sBegun f fd) (T : Txt K mg) : FnOk P w K mg base CX0 1 f fd ["_law_script"] (spBegun K) := by
  refine F.ok scBegun (fun vs H Q E h => ?_) (fun cdv A outer s H vs Q E hr h => ?_)
  · obtain ⟨x, i, rfl, _⟩ := h
    rfl
  · obtain ⟨x, ns, rfl, hS, hl, k⟩ := h
    refine ⟨_, PSs.nox (pss_cons (ps_setLc (i := 1) (own := [("_law_cell", 2)]) (g := gName 2) (by rfl) scBegun.nd rfl rfl (sw_true rfl rfl rfl (by decide +kernel)) (pi_list (pv 0)) (blkOk_by (own := [("_law_cell", 2)]) (N := ["_law_script", "_law_wide", "_law_cell"]) (sc := defScope sBegun) (by decide +kernel))
        (fun _ _ _ _ _ => pg_name (i := 2) scBegun.nd rfl (Or.inl rfl))
        (fun _ _ _ _ _ => pts_one (pt_cmpR op_ge (pe_callB call_abs (by rfl) T.abs (by decide +kernel) (pa_cons (pv 2) pa_nil)) (pe_op op_pow pe_int pe_int) (nomark _)))
        (fun _ _ _ _ _ => pe_op op_sub (pe_callB call_abs (by rfl) T.abs (by decide +kernel) (pa_cons (pv 2) pa_nil)) (pe_op op_pow pe_int pe_int)))
      (pss_one (ps_ret (pe_disp (pps_cons pe_str (pv 1) (pps_cons pe_str (pe_lc (own := [("_law_cell", 2)]) (g := gName 2) (tt := tYes) (by rfl) scBegun.nd (pi_list (pv 0)) (blkOk_by (own := [("_law_cell", 2)]) (N := ["_law_script", "_law_wide", "_law_cell"]) (sc := defScope sBegun) (by decide +kernel))
        (fun _ _ _ _ _ => pg_name (i := 2) scBegun.nd rfl (Or.inl rfl)) (fun _ _ _ _ _ => pts_nil) (fun _ _ _ _ _ => pe_callB call_abs (by rfl) T.abs (by decide +kernel) (pa_cons (pv 2) pa_nil)))
        (pps_cons pe_str pe_int (pps_cons pe_str pe_int pps_nil)))) (by rfl) (by rfl) (fun z => by cases z) (by decide))))), ?_⟩
    refine ⟨_, rfl, x, rfl, ⟨_, hS⟩, fun lw nw => ?_⟩
    have sw : ∀ o, Same H (L2.upd H lw o) := fun o => Same.upd nw
    refine lc_list (K := K) (a := x) (xs := ns.map V.int) (fun i H1 => ∃ ws : List Int, H1 = L2.upd H lw (.lst (ws.map V.int)) ∧ (∀ z ∈ ws, 0 ≤ z) ∧ ws.length ≤ i) ⟨[], rfl, (fun z hz => by cases hz), Nat.le_refl _⟩ (fun i H1 _ ⟨ws, e, _⟩ => by rw [e]; exact (sw _).seq hS) ?_ ?_
    · rintro i y H1 hi ⟨ws, rfl, h0, hw⟩
      obtain ⟨z, hz, rfl⟩ : ∃ z, ns[i]? = some z ∧ y = V.int z := by
        rw [List.getElem?_map] at hi
        cases e : ns[i]? with
        | none =>
          rw [e] at hi
          cases hi
        | some z =>
          rw [e] at hi
          exact ⟨z, rfl, (Option.some.inj hi).symm⟩
      have hin : i < 63 := Nat.lt_of_lt_of_le (List.getElem?_eq_some_iff.mp hz).1 hl
      refine ⟨rfl, _, rfl, z, rfl, _, _, rfl, rfl, ⟨by decide, by decide, by decide⟩, _, _, rfl, rfl, _, rfl, ?_⟩
      refine ite2 (fun hc => ?_) fun _ => ⟨ws, rfl, h0, by omega⟩
      refine ⟨_, rfl, z, rfl, _, _, rfl, rfl, ⟨by decide, by decide, by decide⟩, _, _, rfl, rfl, _, upd_same, (by rw [List.length_map]; exact Nat.lt_of_le_of_lt (Nat.le_trans hw (Nat.le_of_lt hin)) (by decide)), ?_⟩
      refine ⟨ws ++ [(if z < 0 then -z else z) - 10 ^ (18 : Int).toNat], ?_, fun q hq => ?_, by simp; omega⟩
      · rw [upd_upd, List.map_append]
        all_goals rfl
      · rcases List.mem_append.mp hq with m | m
        · exact h0 q m
        · have hc' := of_decide_eq_true hc
          rw [List.mem_singleton] at m
          subst m
          omega
    · rintro H1 ⟨ws, rfl, h0, hw⟩
      intro a na
      have nL : a ≠ lw := fun z => by
        rw [z, upd_same] at na
        cases na
      have na0 : H a = none := by
        rw [upd_ne nL] at na
        exact na
      have s1 : Same H (L2.upd (L2.upd H lw (.lst (ws.map V.int))) a (.dK [])) := (sw _).trans (Same.upd na)
      refine ⟨_, rfl, ?_⟩
      refine ⟨_, rfl, x, rfl, ⟨_, s1.seq hS⟩, fun lc nc => ?_⟩
      have sc : ∀ o, Same (L2.upd (L2.upd H lw (.lst (ws.map V.int))) a (.dK [])) (L2.upd (L2.upd (L2.upd H lw (.lst (ws.map V.int))) a (.dK [])) lc o) := fun o => Same.upd nc
      refine lc_list (K := K) (a := x) (xs := ns.map V.int) (fun i H1 => ∃ cs : List Int, H1 = L2.upd (L2.upd (L2.upd H lw (.lst (ws.map V.int))) a (.dK [])) lc (.lst (cs.map V.int)) ∧ cs.length = i) ⟨[], rfl, rfl⟩ (fun i H1 _ ⟨cs, e, _⟩ => by rw [e]; exact (s1.trans (sc _)).seq hS) ?_ ?_
      · rintro i y H1 hi ⟨cs, rfl, hcs⟩
        obtain ⟨z, hz, rfl⟩ : ∃ z, ns[i]? = some z ∧ y = V.int z := by
          rw [List.getElem?_map] at hi
          cases e : ns[i]? with
          | none =>
            rw [e] at hi
            cases hi
          | some z =>
            rw [e] at hi
            exact ⟨z, rfl, (Option.some.inj hi).symm⟩
        have hin : i < 63 := Nat.lt_of_lt_of_le (List.getElem?_eq_some_iff.mp hz).1 hl
        refine ⟨rfl, ?_⟩
        refine yes_if ?_
        refine ⟨_, rfl, z, rfl, _, upd_same, (by rw [List.length_map, hcs]; exact Nat.lt_trans hin (by decide)), ?_⟩
        exact ⟨cs ++ [if z < 0 then -z else z], by rw [upd_upd, List.map_append]; all_goals rfl, by simp [hcs]⟩
      · rintro H1 ⟨cs, rfl, hcs⟩
        have nLC : lw ≠ lc := ne_of_none (by rw [upd_ne nL.symm]; exact upd_same) nc
        have nAC : a ≠ lc := ne_of_none upd_same nc
        have hlw : ws.length ≤ 63 := by
          rw [List.length_map] at hw
          omega
        refine ⟨by rw [upd_ne nAC]; exact upd_same, stK lw lc 0 0, rfl, (by show 4 ≤ 15; decide), ?_⟩
        rw [stK_new]
        have nc0 : H lc = none := (s1.free nc)
        refine k a lw lc _ na0 nw nc0 ⟨⟨ws, cs, 0, 0, upd_same, ?_, ?_, Int.le_refl _, Int.le_refl _, Int.le_refl _, h0, hlw⟩, nLC⟩ ?_
        · rw [upd_ne nL.symm, upd_ne nLC, upd_ne nL.symm, upd_same]
        · rw [upd_ne nAC.symm, upd_same]
        · intro b o e
          rw [upd_ne (ne_of_none e na0)]
          exact (s1.trans (sc _)) b o e
end
end Own
set_option Elab.async false
set_option linter.all false
set_option maxRecDepth 100000
set_option maxHeartbeats 4000000
namespace Own
open PySem PySem.Spec PyProof.Rows L2 LamX
section
variable {P : Program} {w : World} {K : PySem.W.Frag} {mg : Str → Option Value} {base : Heap} {f fS fD : Addr} {fd fdS fdD : FuncData}
theorem ints_at {ns : List Int} {i : Nat} {y : V} (h : (ns.map V.int)[i]? = some y) : ∃ z, ns[i]? = some z ∧ y = V.int z := by
  rw [List.getElem?_map] at h
  cases e : ns[i]? with
  | none =>
    rw [e] at h
    cases h
  | some z =>
    rw [e] at h
    exact ⟨z, rfl, (Option.some.inj h).symm⟩
theorem scStir : FnScope ["_law_state", "_law_turn", "_law_found", "_law_prime", "_law_blend", "_law_cell"] ["_law_state"] (defScope sStir) := ⟨rfl, rfl, rfl, by decide +kernel, rfl, by decide +kernel, by decide +kernel⟩
def primes : List Int := [2147483647, 2147483629, 2147483587, 2147483579]
theorem ok_stir (F : FnP K "_law_stirred" sStir f fd) (T : Txt K mg) : FnOk P w K mg base CX0 1 f fd ["_law_state"] spStir := by
  refine F.ok scStir (fun vs H Q E h => ?_) (fun cdv A outer s H vs Q E hr h => ?_)
  · obtain ⟨a, lw, lc, t, rfl, _⟩ := h
    rfl
  · obtain ⟨a, lw, lc, t, rfl, S, ht, k⟩ := h
    have hu := hu_of hr
    refine ⟨_, PSs.nox (pss_cons (ps_par (i := 1) (j := 2) rfl scStir.nd rfl rfl (by decide) rfl rfl (pa_cons (pe_op op_add (pe_dget hu (pv 0) pe_str (fun _ _ => rfl)) pe_int) (pa_cons pe_int pa_nil)) (by rfl))
      (pss_cons (ps_dput hu (pv 0) pe_str (pv 1) rfl)
      (pss_cons (ps_for PassesOwn.never rfl (pi_list (pe_lst (pa_cons pe_int (pa_cons pe_int (pa_cons pe_int (pa_cons pe_int pa_nil)))))) (pg_name (i := 3) scStir.nd rfl (Or.inl rfl))
        (pss_cons (ps_set (i := 4) scStir.nd rfl (Or.inl rfl) (pe_op op_add (pe_op op_mul pe_int (pv 1)) (pe_op op_fdiv (pv 3) pe_int)))
        (pss_cons (ps_for PassesOwn.never rfl (pi_list (pe_dget hu (pv 0) pe_str (fun _ _ => rfl))) (pg_name (i := 5) scStir.nd rfl (Or.inl rfl))
          (pss_one (ps_set (i := 4) scStir.nd rfl (Or.inl rfl) (pe_op op_mod (pe_callTy call_int1 (by rfl) T.int boot_int (pa_cons (pe_op op_add (pe_op op_add (pe_op op_mul (pv 4) pe_int) (pv 5)) (pv 1)) pa_nil)) (pv 3)))))
        (pss_one (ps_set (i := 2) scStir.nd rfl (Or.inl rfl) (pe_op op_add (pe_op op_mul (pv 2) pe_int) (pe_op op_mod (pe_callTy call_int1 (by rfl) T.int boot_int (pa_cons (pe_op op_pow (pv 4) pe_int) pa_nil)) (pv 3))))))))
      (pss_one (ps_ret (pv 2)))))), ?_⟩
    obtain ⟨⟨ws, cs, r, u, h1, h2, h3, hr0, hu0, hut, hw0, hwl⟩, ne⟩ := S
    refine ⟨_, rfl, a, _, rfl, dget_k (.inr "turn") h1 (stK_turn ..), _, _, rfl, rfl, _, _, rfl, ?_⟩
    refine ⟨_, rfl, _, rfl, a, _, rfl, dput_k (.inr "turn") h1 (by show 4 < sizeLine; decide) (stK_putTurn ..), ?_⟩
    have nlw : lw ≠ a := ne_of h2 h1 (by intro z; cases z)
    have nlc : lc ≠ a := ne_of h3 h1 (by intro z; cases z)
    refine ⟨(by show 4 ≤ sizeLine; decide), fun p hp => ?_⟩
    have npa : p ≠ a := (ne_of_none upd_same hp).symm
    have npw : p ≠ lw := (ne_of_none (by rw [upd_ne nlw]; exact h2) hp).symm
    have npc : p ≠ lc := (ne_of_none (by rw [upd_ne nlc]; exact h3) hp).symm
    have hp0 : H p = none := by
      rw [upd_ne npa] at hp
      exact hp
    have np0 : SqL K (L2.upd (L2.upd H a (.dK (stK lw lc r (u + 1)))) p (.lst (primes.map V.int))) p (primes.map V.int) := SqL.of upd_same
    have atA : (L2.upd (L2.upd H a (.dK (stK lw lc r (u + 1)))) p (.lst (primes.map V.int))) a = some (.dK (stK lw lc r (u + 1))) := by rw [upd_ne npa.symm, upd_same]
    have atC : (L2.upd (L2.upd H a (.dK (stK lw lc r (u + 1)))) p (.lst (primes.map V.int))) lc = some (.lst (cs.map V.int)) := by rw [upd_ne npc.symm, upd_ne nlc]; exact h3
    refine ⟨p, rfl, ⟨_, np0⟩, for_list (K := K) (a := p) (xs := primes.map V.int) (fun i σ H1 => ∃ (z : Int) (v3 v4 v5 : Option V), σ = [some (.ref a), some (.int (u + 1)), some (.int z), v3, v4, v5] ∧ 0 ≤ z ∧ H1 = L2.upd (L2.upd H a (.dK (stK lw lc r (u + 1)))) p (.lst (primes.map V.int)))
      ⟨0, none, none, none, rfl, Int.le_refl _, rfl⟩ (fun i σ H1 _ ⟨_, _, _, _, _, _, e⟩ => by rw [e]; exact np0) ?_ ?_⟩
    · rintro i y σ H1 hi ⟨z, v3, v4, v5, rfl, hz, rfl⟩
      obtain ⟨q, hq, rfl⟩ := ints_at hi
      have hq2 : 2000000000 < q ∧ q < 3000000000 := by
        match i, hq with
        | 0, hq => cases hq; exact ⟨by decide, by decide⟩
        | 1, hq => cases hq; exact ⟨by decide, by decide⟩
        | 2, hq => cases hq; exact ⟨by decide, by decide⟩
        | 3, hq => cases hq; exact ⟨by decide, by decide⟩
        | j + 4, hq => cases hq
      refine ⟨_, rfl, _, _, rfl, rfl, .inl ⟨by decide, by decide⟩, _, rfl, _, _, rfl, rfl, ⟨by decide, by decide⟩, _, _, rfl, rfl, ?_⟩
      refine ⟨_, rfl, a, _, rfl, dget_k (.inr "cells") atA (stK_cells ..), lc, rfl, ⟨_, SqL.of atC⟩, ?_⟩
      refine for_list (K := K) (a := lc) (xs := cs.map V.int) (fun i σ H1 => ∃ (b : Int) (v5 : Option V), σ = [some (.ref a), some (.int (u + 1)), some (.int z), some (.int q), some (.int b), v5] ∧ 0 ≤ b ∧ b < 2 ^ 60 ∧ H1 = L2.upd (L2.upd H a (.dK (stK lw lc r (u + 1)))) p (.lst (primes.map V.int)))
        ⟨48271 * (u + 1) + q / 37, v5, rfl, by omega, by omega, rfl⟩ (fun i σ H1 _ ⟨_, _, _, _, _, e⟩ => by rw [e]; exact SqL.of atC) ?_ ?_
      · rintro j y σ H1 hj ⟨b, v5, rfl, hb0, hb1, rfl⟩
        obtain ⟨c, hc, rfl⟩ := ints_at hj
        refine ⟨_, rfl, _, _, rfl, rfl, .inr ⟨by decide, by decide⟩, _, rfl, _, _, rfl, rfl, _, rfl, _, _, rfl, rfl, .inl ⟨_, rfl, _, rfl, _, _, rfl, rfl, (by omega), ?_⟩⟩
        have m1 := Int.emod_nonneg (b * 69621 + c + (u + 1)) (show q ≠ 0 by omega)
        have m2 := Int.emod_lt_of_pos (b * 69621 + c + (u + 1)) (show 0 < q by omega)
        exact ⟨_, _, rfl, m1, by omega, rfl⟩
      · rintro σ H1 ⟨b, v5, rfl, hb0, hb1, rfl⟩
        refine ⟨_, rfl, _, _, rfl, rfl, .inr ⟨by decide, by decide⟩, _, rfl, _, _, rfl, rfl, ⟨by decide, by decide, by omega⟩, .inl ⟨_, rfl, _, rfl, _, _, rfl, rfl, (by omega), _, _, rfl, rfl, ?_⟩⟩
        have m1 := Int.emod_nonneg (b ^ (5 : Int).toNat) (show q ≠ 0 by omega)
        exact ⟨_, _, _, _, rfl, by omega, rfl⟩
    · rintro σ H1 ⟨z, v3, v4, v5, rfl, hz, rfl⟩
      refine ⟨_, rfl, ?_⟩
      refine k z _ hz ⟨⟨ws, cs, r, u + 1, atA, ?_, atC, hr0, by omega, by omega, hw0, hwl⟩, ne⟩ fun b o e nb => ?_
      · rw [upd_ne npw.symm, upd_ne nlw]
        exact h2
      · have nb2 : b ≠ a := fun z => nb (List.mem_singleton.mpr z)
        rw [upd_ne (ne_of_none e hp0), upd_ne nb2]
        exact e
end
end Own
set_option Elab.async false
set_option linter.all false
set_option maxRecDepth 100000
set_option maxHeartbeats 4000000
namespace Own
open PySem PySem.Spec PyProof.Rows L2 LamX
section
variable {P : Program} {w : World} {K : PySem.W.Frag} {mg : Str → Option Value} {base : Heap} {f fS fD : Addr} {fd fdS fdD : FuncData}
theorem dpAll_ints {H : Hp} : ∀ ws : List Int, DpAll K H (ws.map V.int) (ws.map PyData.int)
  | [] => .nil
  | z :: r => .cons (.int z) (dpAll_ints r)
theorem shaped_ints : ∀ ws : List Int, SeqAt.shaped (.list (ws.map PyData.int)) = true := by
  intro ws
  have h : ∀ l : List Int, PyData.canLayAll0 (l.map PyData.int) = true ∧ PyData.depthAll (l.map PyData.int) = 0 := by
    intro l
    induction l with
    | nil => exact ⟨rfl, rfl⟩
    | cons z r ih =>
      refine ⟨?_, ?_⟩
      · show (true && PyData.canLayAll0 (r.map PyData.int)) = true
        rw [ih.1]
        rfl
      · show max 0 (PyData.depthAll (r.map PyData.int)) = 0
        rw [ih.2]
        rfl
  show (PyData.canLayAll0 (ws.map PyData.int) && decide (PyData.depthAll (ws.map PyData.int) + 1 ≤ 64)) = true
  rw [(h ws).1, (h ws).2]
  rfl
theorem eqv_nil (ws : List Int) : PyData.eqv (.list (ws.map PyData.int)) (.list []) = ws.isEmpty := by
  cases ws <;> rfl
theorem scDraw : FnScope ["_law_state", "_law_room", "_law_found"] ["_law_state", "_law_room"] (defScope sDraw) := ⟨rfl, rfl, rfl, by decide +kernel, rfl, by decide +kernel, by decide +kernel⟩
theorem ok_draw (F : FnP K "_law_draw" sDraw f fd) (FS : FnP K "_law_stirred" sStir fS fdS) (gS : mg "_law_stirred" = some (.ref fS)) (T : Txt K mg) : FnOk P w K mg base CX0 2 f fd ["_law_state", "_law_room"] spDraw := by
  have GS : FnOk P w K mg base CX0 1 fS fdS ["_law_state"] spStir := ok_stir FS T
  have bS : Binds K fdS ["_law_state"] [] := FS.bindsN fun _ _ _ _ _ _ us hl => match us, hl with | [_], _ => rfl
  refine F.ok scDraw (fun vs H Q E h => ?_) (fun cdv A outer s H vs Q E hr h => ?_)
  · obtain ⟨a, lw, lc, t, n, rfl, _⟩ := h
    rfl
  · obtain ⟨a, lw, lc, t, n, rfl, S, ht, hn0, hn1, k⟩ := h
    have hu := hu_of hr
    refine ⟨_, PSs.nox (pss_cons (ps_if (pt_cmpR op_eq (pe_dget hu (pv 0) pe_str (fun _ _ => rfl)) pe_int (nomark _))
        (pss_one (ps_dput hu (pv 0) pe_str (pe_ifExp (pt_cmpR (op_neD hr.units) (pe_dget hu (pv 0) pe_str (fun _ _ => rfl)) (pe_lst pa_nil) (nomark _))
          (pe_bm PySem.F.plainAttrs_list PySem.F.slot_list_pop PySem.F.type_list_pop mt_popAt (pe_dget hu (pv 0) pe_str (fun _ _ => rfl)) (pa_cons pe_int pa_nil))
          (pe_call GS hr (by rfl) gS FS.kp bS .nil pass0 (pa_cons (pv 0) pa_nil))) rfl)) pss_nil)
      (pss_cons (ps_set (i := 2) scDraw.nd rfl (Or.inl rfl) (pe_op op_mod (pe_callTy call_int1 (by rfl) T.int boot_int (pa_cons (pe_dget hu (pv 0) pe_str (fun _ _ => rfl)) pa_nil)) (pv 1)))
      (pss_cons (ps_dput hu (pv 0) pe_str (pe_op op_fdivW (pe_dget hu (pv 0) pe_str (fun _ _ => rfl)) (pv 1)) rfl)
      (pss_one (ps_ret (pv 2)))))), ?_⟩
    -- what comes behind the first if
    have rest : ∀ H1, StA H1 a lw lc (t + 1) → Kp [a, lw] H H1 → ∀ x y : Option V, (tSeq (tAsg (tOp (rI (fun _ j => 0 < j) fun i j => .int (i % j)) (tCB (fun xs H Q => (∃ i, xs = [.int i] ∧ Q (.int i) H) ∨ ∃ k, xs = [.bl k] ∧ Q (.int (if k then 1 else 0)) H) (tCons (tDGet (tVar 0) (tC (.str "rest"))) tNil)) (tVar 1)) (gName 2))
        (tSeq (sDPut (tVar 0) (tC (.str "rest")) (tOp (rI CDivW fun i j => .int (i / j)) (tDGet (tVar 0) (tC (.str "rest"))) (tVar 1))) (tRet (tVar 2)))) { nx := fun _ H' => Q .non H', rt := Q } [some (.ref a), some (.int n), none] H1 := by
      intro H1 S1 K1 x y
      obtain ⟨⟨ws, cs, r, u, h1, h2, h3, hr0, hu0, hut, hw0, hwl⟩, ne⟩ := S1
      refine ⟨_, rfl, a, _, rfl, dget_k (.inr "rest") h1 (stK_rest ..), .inl ⟨_, rfl, _, rfl, _, _, rfl, rfl, hn0, ?_⟩⟩
      refine ⟨_, rfl, a, _, rfl, dget_k (.inr "rest") h1 (stK_rest ..), _, rfl, _, _, rfl, rfl, wide_div (b := 128) hn0 (by omega) (by decide) (by decide), _, rfl, a, _, rfl, dput_k (.inr "rest") h1 (by show 4 < sizeLine; decide) (stK_putRest ..), _, rfl, ?_⟩
      have nlw : lw ≠ a := ne_of h2 h1 (by intro z; cases z)
      have nlc : lc ≠ a := ne_of h3 h1 (by intro z; cases z)
      refine k _ _ (Int.emod_nonneg _ (by omega)) (Int.emod_lt_of_pos _ hn0) ⟨⟨ws, cs, r / n, u, upd_same, by rw [upd_ne nlw]; exact h2, by rw [upd_ne nlc]; exact h3, Int.ediv_nonneg hr0 (by omega), hu0, hut, hw0, hwl⟩, ne⟩ (K1.trans (Kp.upd (by simp)))
    obtain ⟨⟨ws, cs, r, u, h1, h2, h3, hr0, hu0, hut, hw0, hwl⟩, ne⟩ := id S
    have nlw : lw ≠ a := ne_of h2 h1 (by intro z; cases z)
    have nlc : lc ≠ a := ne_of h3 h1 (by intro z; cases z)
    refine ⟨_, rfl, a, _, rfl, dget_k (.inr "rest") h1 (stK_rest ..), rfl, _, rfl, ?_⟩
    refine ite2 (fun _ => ?_) (fun _ => rest H (S.more (Nat.le_succ t)) (Kp.refl _ _) none none)
    refine ⟨_, rfl, a, _, rfl, dget_k (.inr "wide") h1 (stK_wide ..), (by show 0 ≤ sizeLine; decide), fun p hp => ?_⟩
    have se : Same H (L2.upd H p (.lst [])) := Same.upd hp
    refine ⟨_, _, .lst (SqL.of (se _ _ h2)) (dpAll_ints ws), .lst (SqL.of upd_same) .nil, shaped_ints ws, rfl, _, rfl, ?_⟩
    rw [eqv_nil]
    have S1 := S.same se
    cases ws with
    | nil =>
      refine iteF ?_
      refine ⟨_, rfl, a, lw, lc, t, rfl, S1, ht, fun z H' hz S2 K2 => ?_⟩
      obtain ⟨⟨ws, cs, r, u, h1, h2, h3, hr0, hu0, hut, hw0, hwl⟩, ne⟩ := id S2
      have nlw : lw ≠ a := ne_of h2 h1 (by intro z; cases z)
      have nlc : lc ≠ a := ne_of h3 h1 (by intro z; cases z)
      refine ⟨_, rfl, a, _, rfl, dput_k (.inr "rest") h1 (by show 4 < sizeLine; decide) (stK_putRest ..), ?_⟩
      exact rest _ ⟨⟨ws, cs, z, u, upd_same, by rw [upd_ne nlw]; exact h2, by rw [upd_ne nlc]; exact h3, hz, hu0, hut, hw0, hwl⟩, ne⟩ (((Kp.of se).trans (K2.weak (by simp))).trans (Kp.upd (by simp))) none none
    | cons q ws =>
      refine iteT ?_
      have h1' := se _ _ h1
      have h2' := se _ _ h2
      refine ⟨_, rfl, a, _, rfl, dget_k (.inr "wide") h1' (stK_wide ..), .inl ⟨rfl, _, .inl (.inl h2')⟩, lw, _, 0, 0, .int q, rfl, rfl, h2', by decide, by decide, ?_, rfl, ?_⟩
      · unfold seqIndex?
        simp
      · have S3 : StA (L2.upd (L2.upd (L2.upd H p (.lst [])) lw (.lst (ws.map V.int))) a (.dK (stK lw lc q u))) a lw lc (t + 1) := by
          refine ⟨⟨ws, cs, q, u, upd_same, ?_, ?_, hw0 q List.mem_cons_self, hu0, by omega, fun z hz => hw0 z (List.mem_cons_of_mem _ hz), by rw [List.length_cons] at hwl; omega⟩, ne⟩
          · rw [upd_ne nlw, upd_same]
          · rw [upd_ne nlc, upd_ne ne.symm]
            exact se _ _ h3
        refine ⟨_, rfl, a, _, rfl, dput_k (.inr "rest") (by rw [upd_ne nlw.symm]; exact h1') (by show 4 < sizeLine; decide) (stK_putRest ..), ?_⟩
        exact rest _ S3 (((Kp.of se).trans (Kp.upd (by simp))).trans (Kp.upd (by simp))) none none
theorem scPick : FnScope ["_law_state", "_law_some"] ["_law_state", "_law_some"] (defScope sPick) := ⟨rfl, rfl, rfl, by decide +kernel, rfl, by decide +kernel, by decide +kernel⟩
theorem ok_pick (F : FnP K "_law_pick" sPick f fd) (FD : FnP K "_law_draw" sDraw fD fdD) (FS : FnP K "_law_stirred" sStir fS fdS) (gD : mg "_law_draw" = some (.ref fD)) (gS : mg "_law_stirred" = some (.ref fS)) (T : Txt K mg) : FnOk P w K mg base CX0 3 f fd ["_law_state", "_law_some"] (spPick K) := by
  have GD : FnOk P w K mg base CX0 2 fD fdD ["_law_state", "_law_room"] spDraw := ok_draw FD FS gS T
  have bD : Binds K fdD ["_law_state", "_law_room"] [] := FD.bindsN fun _ _ _ _ _ _ us hl => match us, hl with | [_, _], _ => rfl
  refine F.ok scPick (fun vs H Q E h => ?_) (fun cdv A outer s H vs Q E hr h => ?_)
  · obtain ⟨a, lw, lc, t, l, xs, rfl, _⟩ := h
    rfl
  · obtain ⟨a, lw, lc, t, l, xs, rfl, S, ht, hl, nl, h0, h1, k⟩ := h
    refine ⟨_, PSs.nox (pss_one (ps_ret (pe_ix ix_list (pv 1) (pe_call GD hr (by rfl) gD FD.kp bD .nil pass0 (pa_cons (pv 0) (pa_cons (pe_callB call_len_seq (by rfl) T.len PySem.boot_len (pa_cons (pv 1) pa_nil)) pa_nil))) (fun _ _ => rfl)))), ?_⟩
    refine ⟨_, rfl, _, rfl, _, rfl, l, _, rfl, .inl (SqL.of hl), a, lw, lc, t, _, rfl, S, ht, by omega, by omega, fun z H' hz0 hz1 S' K' => ?_⟩
    obtain ⟨⟨ws, cs, r, u, e1, _⟩, _⟩ := id S
    have na : l ≠ a := ne_of hl e1 (by intro z; cases z)
    have hl' := K' l _ hl (by simp [na, nl])
    obtain ⟨j, rfl⟩ : ∃ j : Nat, z = (j : Int) := ⟨z.toNat, by omega⟩
    have hj : j < xs.length := by omega
    refine ⟨l, _, _, xs[j], rfl, rfl, SqL.of hl', atI_nat (List.getElem?_eq_getElem hj), ?_⟩
    exact k j _ H' (List.getElem?_eq_getElem hj) S' K'
end
end Own
set_option Elab.async false
set_option linter.all false
set_option maxRecDepth 100000
set_option maxHeartbeats 400000
namespace Own
open PySem PySem.Spec PyProof.Rows L2 LamX
/-! ### chests -/
/-- the module's constants -/
structure Cst (K : PySem.W.Frag) (mg : Str → Option Value) : Prop where
  letters : ∃ t, mg "LETTERS" = some (.str "abcdefghijklmnopqrstuvwxyz" t)
  digits : ∃ t, mg "DIGITS" = some (.str "0123456789" t)
  tools : ∃ p, mg "TOOLS" = some (.ref p) ∧ ∀ H, SqT K H p (TOOLS.map V.str)
  words : ∃ p, mg "WORDS" = some (.ref p) ∧ ∀ H, SqT K H p (WORDS.map V.str)
  wordsT : ∀ p, mg "WORDS" = some (.ref p) → ∃ o, K.lookup p = some o ∧ o.cls = .type "tuple" ∧ o.dict = none
  great : ∃ p, mg "GREAT_chests" = some (.ref p) ∧ ∀ H, SqT K H p (GREAT.map V.str)
  middle : ∃ p, mg "MIDDLE" = some (.ref p) ∧ ∀ H, SqT K H p (MIDDLE.map V.str)
theorem str_kind {K : PySem.W.Frag} {H : Hp} : ∀ {y : V}, fok y = true → (∃ z, y = .str z ∧ TyX K H y (.type "str")) ∨ ((∀ z, y ≠ .str z) ∧ ∃ t : String, TyX K H y (.type t) ∧ kitB t "str" = some false)
  | .non, _ => .inr ⟨(fun _ z => by cases z), "NoneType", .base .non, by decide +kernel⟩
  | .bl b, _ => .inr ⟨(fun _ z => by cases z), "bool", .base (.bl b), by decide +kernel⟩
  | .int i, _ => .inr ⟨(fun _ z => by cases z), "int", .base (.int i), by decide +kernel⟩
  | .str x, _ => .inl ⟨x, rfl, .base (.str x)⟩
theorem flat_strs (c : List Str) : (c.map V.str).all flatV = true := by
  rw [List.all_map, List.all_eq_true]
  intro _ _
  rfl
theorem chest_step {last : Str} {y : V} {r : List V} (h : (∀ z, y ≠ .str z) ∨ ∃ t, y = .str t ∧ (decide (t ∈ TOOLS) = false ∨ sLt last t = false)) : chestB last (y :: r) = false := by
  rcases h with h | ⟨t, rfl, h | h⟩
  · cases y with
    | str z => exact absurd rfl (h z)
    | _ => rfl
  · show (decide (t ∈ TOOLS) && _) = false
    rw [h]
    rfl
  · show (decide (t ∈ TOOLS) && (sLt last t && _)) = false
    rw [h, Bool.false_and, Bool.and_false]
def spIsChest (K : PySem.W.Frag) : Sp := fun vs H Q _ => ∃ x : V, vs = [x] ∧ ((∃ t : String, TyX K H x (.type t) ∧ kitB t "tuple" = some false ∧ Q (.bl false) H) ∨ ∃ a ys, x = .ref a ∧ H a = some (.tup ys) ∧ ys.all fok = true ∧ Q (.bl (chestB "" ys)) H)
def spRank (K : PySem.W.Frag) : Sp := fun vs H Q _ => ∃ (a : Addr) (c : List Str), vs = [.ref a] ∧ H a = some (.tup (c.map V.str)) ∧ (c.map V.str).all fok = true ∧ c.length ≤ 1000 ∧ ∀ H', Same H H' → Q (.int (rk c)) H'
section
variable {P : Program} {w : World} {K : PySem.W.Frag} {mg : Str → Option Value} {base : Heap} {f fI CB : Addr} {fd2 fdI : FuncData}
theorem scChest : FnScope ["value", "last", "tool"] ["value"] (defScope sChest) := ⟨rfl, rfl, rfl, by decide +kernel, rfl, by decide +kernel, by decide +kernel⟩
theorem ok_ischest (F : FnP K "is_chest" sChest f fd2) (T : Txt K mg) (C : Cst K mg) : FnOk P w K mg base CX0 1 f fd2 ["value"] (spIsChest K) := by
  obtain ⟨pt, hpt, seqT0⟩ := C.tools
  refine F.ok scChest (fun vs H Q E h => ?_) (fun cdv A outer s H vs Q E hr h => ?_)
  · obtain ⟨x, rfl, _⟩ := h
    rfl
  · obtain ⟨x, rfl, k⟩ := h
    refine ⟨_, PSs.nox (pss_cons (ps_if (pt_not (pt_val (pe_callB call_isi (by rfl) T.isi boot_isinstance (pa_cons (pv 0) (pa_cons (pe_bltn (v := .ty "tuple") (by rfl) T.tuple (by decide +kernel) rfl) pa_nil))))) (pss_one (ps_ret pe_bl)) pss_nil)
      (pss_cons (ps_set (i := 1) scChest.nd rfl (.inl rfl) pe_str)
      (pss_cons (ps_for PassesOwn.never rfl (pi_tup (pv 0)) (pg_name (i := 2) scChest.nd rfl (Or.inl rfl))
        (pss_cons (ps_if (PW.pt (pw_or (pt_not (pt_val (pe_callB call_isi (by rfl) T.isi boot_isinstance (pa_cons (pv 2) (pa_cons (pe_bltn (v := .ty "str") (by rfl) T.str (by decide +kernel) rfl) pa_nil)))))
            (pw_or (pt_cmpR op_notIn_seq (pv 2) (pe_glob (v := .ref pt) (by rfl) hpt rfl) (by rfl)) (pw_or1 (pt_cmpR op_le_str (pv 2) (pv 1) (nomark _)))))) (pss_one (ps_ret pe_bl)) pss_nil)
        (pss_one (ps_set (i := 1) scChest.nd rfl (.inl rfl) (pv 2)))))
      (pss_one (ps_ret pe_bl))))), ?_⟩
    rcases k with ⟨t, ty, e1, k⟩ | ⟨a, ys, rfl, hs, hf, k⟩
    · refine ⟨_, rfl, x, .ty "tuple", .type t, .type "tuple", false, rfl, .ty _, ty, kit_ty e1, false, rfl, ?_⟩
      refine iteT ?_
      exact k
    · have tyT : TyX K H (.ref a) (.type "tuple") := .base (.tup hs)
      have hs : SqT K H a ys := SqT.of hs
      refine ⟨_, rfl, .ref a, .ty "tuple", .type "tuple", .type "tuple", true, rfl, .ty _, tyT, kit_ty (by decide +kernel), true, rfl, ?_⟩
      refine iteF ?_
      refine ⟨_, rfl, a, rfl, ⟨_, hs⟩, ?_⟩
      refine for_tup (K := K) (a := a) (xs := ys) (fun i σ G => G = H ∧ ∃ last v2, σ = [some (.ref a), some (.str last), v2] ∧ chestB last (ys.drop i) = chestB "" ys) ⟨rfl, "", none, rfl, rfl⟩ (fun i σ G _ q => by rw [q.1]; exact hs) ?_ ?_
      · rintro i y σ G hi ⟨rfl, last, v2, rfl, e⟩
        have hd : ys.drop i = y :: ys.drop (i + 1) := by
          obtain ⟨hlt, hg⟩ := List.getElem?_eq_some_iff.mp hi
          rw [List.drop_eq_getElem_cons hlt, hg]
        rw [hd] at e
        have fy : fok y = true := by
          rw [List.all_eq_true] at hf
          exact hf y (List.mem_of_getElem? hi)
        rcases str_kind (K := K) (H := G) fy with ⟨z, rfl, ty⟩ | ⟨ns, t, ty, e1⟩
        · refine ⟨_, rfl, .str z, .ty "str", .type "str", .type "str", true, rfl, .ty _, ty, kit_ty (by decide +kernel), true, rfl, ?_⟩
          refine iteF ?_
          refine ⟨_, rfl, pt, _, rfl, .inr (seqT0 G), rfl, flat_strs _, _, rfl, ?_⟩
          rw [inV_str]
          by_cases hz : z ∈ TOOLS
          · rw [decide_eq_true hz]
            refine iteF ?_
            refine ⟨_, rfl, _, rfl, _, _, rfl, rfl, _, rfl, ?_⟩
            have es : (!decide (last.cps.toList < z.cps.toList)) = !sLt last z := rfl
            rw [es]
            cases hl : sLt last z with
            | true =>
              refine iteF ?_
              refine ⟨_, rfl, rfl, z, _, rfl, ?_⟩
              rw [← e]
              show chestB z _ = (decide (z ∈ TOOLS) && (sLt last z && chestB z _))
              rw [decide_eq_true hz, hl]
              rfl
            | false =>
              refine iteT ?_
              rw [chest_step (.inr ⟨z, rfl, .inr hl⟩)] at e
              rw [← e] at k
              exact k
          · rw [decide_eq_false hz]
            refine iteT ?_
            rw [chest_step (.inr ⟨z, rfl, .inl (decide_eq_false hz)⟩)] at e
            rw [← e] at k
            exact k
        · refine ⟨_, rfl, y, .ty "str", .type t, .type "str", false, rfl, .ty _, ty, kit_ty e1, false, rfl, ?_⟩
          refine iteT ?_
          rw [chest_step (.inl ns)] at e
          rw [← e] at k
          exact k
      · rintro σ G ⟨rfl, last, v2, rfl, e⟩
        rw [List.drop_length] at e
        have e2 : chestB "" ys = true := e.symm
        rw [e2] at k
        exact k
theorem scNeedC : FnScope ["chest"] ["chest"] (defScope sNeedC) := ⟨rfl, rfl, rfl, by decide +kernel, rfl, by decide +kernel, by decide +kernel⟩
theorem scRank : FnScope ["chest", "tool"] ["chest"] (defScope sRank) := ⟨rfl, rfl, rfl, by decide +kernel, rfl, by decide +kernel, by decide +kernel⟩
theorem ok_rank (F : FnP K "rank_of" sRank f fd2) (T : Txt K mg) (C : Cst K mg) : FnOk P w K mg base CX0 1 f fd2 ["chest"] (spRank K) := by
  obtain ⟨pg, hpg, seqG⟩ := C.great
  obtain ⟨pm, hpm, seqM⟩ := C.middle
  refine F.ok scRank (fun vs H Q E h => ?_) (fun cdv A outer s H vs Q E hr h => ?_)
  · obtain ⟨a, c, rfl, _⟩ := h
    rfl
  · obtain ⟨a, c, rfl, hs, hf, hl, k⟩ := h
    have hs : SqT K H a (c.map V.str) := SqT.of hs
    refine ⟨_, PSs.nox (pss_cons (ps_if (pt_cmpR (op_neD hr.units) (pe_lc (own := [("tool", 1)]) (g := gName 1) (by rfl) scRank.nd (pi_tup (pv 0)) (blkOk_by (own := [("tool", 1)]) (N := ["chest", "tool"]) (sc := defScope sRank) (by decide +kernel))
          (fun _ _ _ _ _ => pg_name (i := 1) scRank.nd rfl (Or.inl rfl)) (fun _ _ _ _ _ => pts_one (pt_cmpR (op_inK (K := K) rfl) (pv 1) (pe_glob (v := .ref pg) (by rfl) hpg rfl) (by rfl))) (fun _ _ _ _ _ => pv 1)) (pe_lst pa_nil) (nomark _)) (pss_one (ps_ret pe_int)) pss_nil)
      (pss_one (ps_ret (pe_ifExp (pt_cmpR (op_neD hr.units) (pe_lc (own := [("tool", 1)]) (g := gName 1) (by rfl) scRank.nd (pi_tup (pv 0)) (blkOk_by (own := [("tool", 1)]) (N := ["chest", "tool"]) (sc := defScope sRank) (by decide +kernel))
          (fun _ _ _ _ _ => pg_name (i := 1) scRank.nd rfl (Or.inl rfl)) (fun _ _ _ _ _ => pts_one (pt_cmpR (op_inK (K := K) rfl) (pv 1) (pe_glob (v := .ref pm) (by rfl) hpm rfl) (by rfl))) (fun _ _ _ _ _ => pv 1)) (pe_lst pa_nil) (nomark _)) pe_int pe_int)))), ?_⟩
    have hz : (c.map V.str).length < sizeLine := by
      rw [List.length_map]
      exact Nat.lt_of_le_of_lt hl (by decide)
    have anyS : ∀ S : List Str, (c.map V.str).any (fun x => inV x (S.map V.str)) = c.any fun t => decide (t ∈ S) := fun S => by
      rw [List.any_map]
      refine congrArg (fun q => c.any q) (funext fun t => ?_)
      exact inV_str t S
    refine ⟨_, rfl, any_ne (p := fun x => inV x (GREAT.map V.str)) hs hf hz (by show 1 < 2; decide) (fun x H' hx sH R kR => ?_) fun H1 s1 => ⟨_, rfl, ?_⟩⟩
    · obtain ⟨t, _, rfl⟩ := List.mem_map.mp hx
      exact ⟨_, rfl, pg, _, rfl, .inr (seqG H'), rfl, flat_strs _, _, rfl, kR H' (Same.refl _)⟩
    rw [anyS]
    by_cases g : c.any (fun t => decide (t ∈ GREAT)) = true
    · rw [g]
      refine iteT ?_
      have e : rk c = 2 := if_pos g
      have := k H1 s1
      rw [e] at this
      exact this
    · have g' : c.any (fun t => decide (t ∈ GREAT)) = false := by simpa using g
      rw [g']
      refine iteF ?_
      refine ⟨_, rfl, any_ne (p := fun x => inV x (MIDDLE.map V.str)) (seqT s1 hs) hf hz (by show 1 < 2; decide) (fun x H' hx sH R kR => ?_) fun H2 s2 => ⟨_, rfl, ?_⟩⟩
      · obtain ⟨t, _, rfl⟩ := List.mem_map.mp hx
        exact ⟨_, rfl, pm, _, rfl, .inr (seqM H'), rfl, flat_strs _, _, rfl, kR H' (Same.refl _)⟩
      rw [anyS]
      have e : rk c = if c.any (fun t => decide (t ∈ MIDDLE)) = true then 1 else 0 := if_neg g
      have := k H2 (s1.trans s2)
      by_cases m : c.any (fun t => decide (t ∈ MIDDLE)) = true
      · rw [e, if_pos m] at this
        rw [m]
        exact iteT this
      · have m' : c.any (fun t => decide (t ∈ MIDDLE)) = false := by simpa using m
        rw [e, if_neg m] at this
        rw [m']
        exact iteF this
end
end Own
set_option Elab.async false
set_option linter.all false
set_option maxRecDepth 100000
set_option maxHeartbeats 400000
namespace Own
open PySem PySem.Spec PyProof.Rows L2 LamX
theorem kb_two {K : PySem.W.Frag} {x qual : Str} {params : Arguments} {body : List Stmt} {scope : Scope} {kws : List (Str × V)} {f : Addr} {fd : FuncData} {p q : Str} (F : FunD K x qual params body scope [] kws f fd)
    (h : ∀ (kV doc pm : Value) (an : Option Addr) (cdv ct u v : Value), bindArgs (PySem.W.fnOf x qual params body scope .none kV doc pm an cdv ct) ⟨[], [(p, u), (q, v)]⟩ = pure [(p, u), (q, v)]) : KBn K fd [p, q] 0 [p, q] (fun _ ws => ws) (fun _ zs => zs) := by
  obtain ⟨oc, od, dV, kV, doc, pm, an, cdv, ct, osl, rfl, lk, hcd, hD, hK⟩ := F.ex
  refine ⟨fun s us ws X l1 l2 => ?_, fun _ r => r⟩
  match us, ws, l1, l2 with
  | [], [u, v], _, _ =>
    rcases hD with ⟨_, rfl⟩ | ⟨e, _⟩
    · exact .of_eq (h kV doc pm an cdv ct u v)
    · exact absurd rfl e
/-- an error class without fields -/
structure ExcT (K : PySem.W.Frag) (mg : Str → Option Value) (x : Str) (C : Addr) : Prop where
  g : mg x = some (.ref C)
  x : PySem.W.excIn K C He.veBase "ValueError.__new__" = true
  k : PySem.W.keepIn K (.ref C) = true
  b : PySem.W.subIn K (.ref C) (.type "BaseException") = some true
  t : PySem.W.typeIn K (.ref C) = some (.type "type")
/-- no chest, a chest -/
def BadC (K : PySem.W.Frag) (H : Hp) (x : V) : Prop := (∃ t : String, TyX K H x (.type t) ∧ kitB t "tuple" = some false) ∨ ∃ a ys, x = .ref a ∧ H a = some (.tup ys) ∧ ys.all fok = true ∧ chestB "" ys = false
def GoodC (H : Hp) (x : V) (c : List Str) : Prop := ∃ a, x = .ref a ∧ H a = some (.tup (c.map V.str)) ∧ c.Sublist TOOLS
theorem tools_fok : ∀ t ∈ TOOLS, fok (.str t) = true := by decide +kernel
theorem sub_fok {c : List Str} (h : c.Sublist TOOLS) : (c.map V.str).all fok = true := by
  rw [List.all_map, List.all_eq_true]
  exact fun t ht => tools_fok t (h.subset ht)
theorem sub_len {c : List Str} (h : c.Sublist TOOLS) : c.length ≤ 9 := h.length_le
theorem GoodC.same {H H' : Hp} {x : V} {c : List Str} (h : GoodC H x c) (e : Same H H') : GoodC H' x c := by
  obtain ⟨a, rfl, h1, h2⟩ := h
  exact ⟨a, rfl, e _ _ h1, h2⟩
theorem BadC.same {K : PySem.W.Frag} {H H' : Hp} {x : V} (h : BadC K H x) (e : Same H H') (tr : ∀ t, TyX K H x (.type t) → TyX K H' x (.type t)) : BadC K H' x := by
  rcases h with ⟨t, h1, h2⟩ | ⟨a, ys, rfl, h1, h2, h3⟩
  · exact .inl ⟨t, tr t h1, h2⟩
  · exact .inr ⟨a, ys, rfl, e _ _ h1, h2, h3⟩
def spNeedC (K : PySem.W.Frag) (CB : Addr) : Sp := fun vs H Q E => ∃ x : V, vs = [x] ∧ ((BadC K H x ∧ E (.ref CB) none H) ∨ ∃ c, GoodC H x c ∧ Q .non H)
def spSet (K : PySem.W.Frag) (CB : Addr) : Sp := fun vs H Q E => ∃ x : V, vs = [x] ∧ ((BadC K H x ∧ E (.ref CB) none H) ∨ ∃ c, GoodC H x c ∧ ∀ H', Same H H' → Q (.str (WORDS.getD (rk c) "")) H')
def spTwo (K : PySem.W.Frag) (CB : Addr) (R : List Str → List Str → VK → Hp → Prop) : Sp := fun vs H Q E => ∃ x y : V, vs = [x, y] ∧ ((BadC K H x ∧ E (.ref CB) none H) ∨ ∃ c, GoodC H x c ∧ ((BadC K H y ∧ E (.ref CB) none H) ∨ ∃ d, GoodC H y d ∧ R c d Q H))
def rJoint : List Str → List Str → VK → Hp → Prop := fun c d Q H => ∀ H' p, Same H H' → H p = none → H' p = some (.tup ((joint c d).map V.str)) → Q (.ref p) H'
def rNoMore : List Str → List Str → VK → Hp → Prop := fun c d Q H => ∀ H', Same H H' → Q (.bl (decide (rk c ≤ rk d))) H'
section
variable {P : Program} {w : World} {K : PySem.W.Frag} {mg : Str → Option Value} {base : Heap} {f fI fN fR CB : Addr} {fd2 fdI fdN fdR : FuncData}
theorem ok_needc (F : FnP K "need_chest" sNeedC f fd2) (FI : FnP K "is_chest" sChest fI fdI) (gI : mg "is_chest" = some (.ref fI)) (T : Txt K mg) (C : Cst K mg) (B : ExcT K mg "BadChest" CB) : FnOk P w K mg base (L2.CX P w) 2 f fd2 ["chest"] (spNeedC K CB) := by
  have GI : FnOk P w K mg base CX0 1 fI fdI ["value"] (spIsChest K) := ok_ischest FI T C
  have bI : Binds K fdI ["value"] [] := FI.bindsN fun _ _ _ _ _ _ us hl => match us, hl with | [_], _ => rfl
  refine F.ok scNeedC (fun vs H Q E h => ?_) (fun cdv A outer s H vs Q E hr h => ?_)
  · obtain ⟨x, rfl, _⟩ := h
    rfl
  · obtain ⟨x, rfl, k⟩ := h
    refine ⟨_, pss_one (ps_if (pt_not (pt_val (pe_call GI hr (by rfl) gI FI.kp bI .nil pass0 (pa_cons (pv 0) pa_nil)))) (pss_one (ps_raise rfl (takes_of rfl rfl rfl rfl) (pmk_own PySem.F.excBase_ValueError B.x B.g B.k (raises_own B.b B.t) rfl))) pss_nil), ?_⟩
    rcases k with ⟨⟨t, ty, e1⟩ | ⟨a, ys, rfl, h1, h2, h3⟩, k⟩ | ⟨c, ⟨a, rfl, h1, h2⟩, k⟩
    · exact ⟨_, rfl, x, rfl, .inl ⟨t, ty, e1, false, rfl, iteT k⟩⟩
    · exact ⟨_, rfl, .ref a, rfl, .inr ⟨a, ys, rfl, h1, h2, _, rfl, by rw [h3]; exact iteT k⟩⟩
    · exact ⟨_, rfl, .ref a, rfl, .inr ⟨a, _, rfl, h1, sub_fok h2, _, rfl, by rw [chest_sub h2]; exact iteF k⟩⟩
theorem scSet : FnScope ["chest"] ["chest"] (defScope sSet) := ⟨rfl, rfl, rfl, by decide +kernel, rfl, by decide +kernel, by decide +kernel⟩
theorem words_at {c : List Str} : (WORDS.map V.str)[rk c]? = some (.str (WORDS.getD (rk c) "")) := by
  have h := rk_le c
  have e : rk c = 0 ∨ rk c = 1 ∨ rk c = 2 := by omega
  rcases e with e | e | e <;> rw [e] <;> rfl
theorem ok_set (F : FnP K "set_of" sSet f fd2) (FN : FnP K "need_chest" sNeedC fN fdN) (FI : FnP K "is_chest" sChest fI fdI) (FR : FnP K "rank_of" sRank fR fdR) (gI : mg "is_chest" = some (.ref fI)) (gN : mg "need_chest" = some (.ref fN)) (gR : mg "rank_of" = some (.ref fR))
    (T : Txt K mg) (C : Cst K mg) (B : ExcT K mg "BadChest" CB) : FnOk P w K mg base (L2.CX P w) 3 f fd2 ["chest"] (spSet K CB) := by
  have GN : FnOk P w K mg base (L2.CX P w) 2 fN fdN ["chest"] (spNeedC K CB) := ok_needc FN FI gI T C B
  have bN : Binds K fdN ["chest"] [] := FN.bindsN fun _ _ _ _ _ _ us hl => match us, hl with | [_], _ => rfl
  have GR : FnOk P w K mg base CX0 1 fR fdR ["chest"] (spRank K) := ok_rank FR T C
  have bR : Binds K fdR ["chest"] [] := FR.bindsN fun _ _ _ _ _ _ us hl => match us, hl with | [_], _ => rfl
  obtain ⟨pw, hpw, seqW⟩ := C.words
  refine F.ok scSet (fun vs H Q E h => ?_) (fun cdv A outer s H vs Q E hr h => ?_)
  · obtain ⟨x, rfl, _⟩ := h
    rfl
  · obtain ⟨x, rfl, k⟩ := h
    have hr1 := hr.mono (show 1 ≤ 2 by decide)
    refine ⟨_, pss_cons (ps_expr (pe_call GN hr (by rfl) gN FN.kp bN .nil (passes_call (takes_of rfl rfl rfl rfl) fun _ _ _ _ h => h) (pa_cons (pv 0) pa_nil)))
      (PSs.nox (pss_one (ps_ret (pe_ix ix_tup (pe_glob (v := .ref pw) (by rfl) hpw rfl) (pe_call GR hr1 (by rfl) gR FR.kp bR .nil pass0 (pa_cons (pv 0) pa_nil)) (fun _ _ => rfl))))), ?_⟩
    rcases k with ⟨bad, k⟩ | ⟨c, good, k⟩
    · exact ⟨_, rfl, x, rfl, .inl ⟨bad, k⟩⟩
    · refine ⟨_, rfl, x, rfl, .inr ⟨c, good, ?_⟩⟩
      obtain ⟨a, rfl, h1, h2⟩ := good
      refine ⟨_, rfl, a, c, rfl, h1, sub_fok h2, Nat.le_trans (sub_len h2) (by decide), fun H' e => ?_⟩
      exact ⟨pw, _, _, _, rfl, rfl, seqW H', at_nat words_at, k H' e⟩
theorem scJoint : FnScope ["one", "other", "tool"] ["one", "other"] (defScope sJoint) := ⟨rfl, rfl, rfl, by decide +kernel, rfl, by decide +kernel, by decide +kernel⟩
theorem ok_joint (F : FnP K "joint" sJoint f fd2) (FN : FnP K "need_chest" sNeedC fN fdN) (FI : FnP K "is_chest" sChest fI fdI) (gI : mg "is_chest" = some (.ref fI)) (gN : mg "need_chest" = some (.ref fN))
    (T : Txt K mg) (C : Cst K mg) (B : ExcT K mg "BadChest" CB) : FnOk P w K mg base (L2.CX P w) 3 f fd2 ["one", "other"] (spTwo K CB rJoint) := by
  have GN : FnOk P w K mg base (L2.CX P w) 2 fN fdN ["chest"] (spNeedC K CB) := ok_needc FN FI gI T C B
  have bN : Binds K fdN ["chest"] [] := FN.bindsN fun _ _ _ _ _ _ us hl => match us, hl with | [_], _ => rfl
  obtain ⟨pt, hpt, seqT0⟩ := C.tools
  refine F.ok scJoint (fun vs H Q E h => ?_) (fun cdv A outer s H vs Q E hr h => ?_)
  · obtain ⟨x, y, rfl, _⟩ := h
    rfl
  · obtain ⟨x, y, rfl, k⟩ := h
    refine ⟨_, pss_cons (ps_expr (pe_call GN hr (by rfl) gN FN.kp bN .nil (passes_call (takes_of rfl rfl rfl rfl) fun _ _ _ _ h => h) (pa_cons (pv 0) pa_nil)))
      (pss_cons (ps_expr (pe_call GN hr (by rfl) gN FN.kp bN .nil (passes_call (takes_of rfl rfl rfl rfl) fun _ _ _ _ h => h) (pa_cons (pv 1) pa_nil)))
      (PSs.nox (pss_one (ps_ret (pe_tupleOf (by rfl) T.tuple (pe_lc (own := [("tool", 2)]) (g := gName 2) (by rfl) scJoint.nd (pi_tup (pe_glob (v := .ref pt) (by rfl) hpt rfl)) (blkOk_by (own := [("tool", 2)]) (N := ["one", "other", "tool"]) (sc := defScope sJoint) (by decide +kernel))
          (fun _ _ _ _ _ => pg_name (i := 2) scJoint.nd rfl (Or.inl rfl)) (fun _ _ _ _ _ => pts_one (PW.pt (pw_or (pt_cmpR (op_inK (K := K) rfl) (pv 2) (pv 0) (by rfl)) (pw_or1 (pt_cmpR (op_inK (K := K) rfl) (pv 2) (pv 1) (by rfl)))))) (fun _ _ _ _ _ => pv 2))))))), ?_⟩
    rcases k with ⟨bad, k⟩ | ⟨c, good, k⟩
    · exact ⟨_, rfl, x, rfl, .inl ⟨bad, k⟩⟩
    refine ⟨_, rfl, x, rfl, .inr ⟨c, good, ?_⟩⟩
    rcases k with ⟨bad, k⟩ | ⟨d, good2, k⟩
    · exact ⟨_, rfl, y, rfl, .inl ⟨bad, k⟩⟩
    refine ⟨_, rfl, y, rfl, .inr ⟨d, good2, ?_⟩⟩
    obtain ⟨a, rfl, h1, h2⟩ := good
    obtain ⟨b, rfl, g1, g2⟩ := good2
    refine ⟨pt, rfl, ⟨_, seqT0 H⟩, fun D nD => lc_filt (p := fun v => inV v (c.map V.str) || inV v (d.map V.str)) walk_tup nD (by decide) (fun H' _ => seqT0 H') (by show 2 < 3; decide) (fun v H' hv sH R kR => ?_) fun H' sH eD => ?_⟩
    · obtain ⟨t, _, rfl⟩ := List.mem_map.mp hv
      refine ⟨_, rfl, _, rfl, a, _, rfl, .inr (SqT.of (sH _ _ h1)), rfl, flat_strs _, _, rfl, ?_⟩
      show (if inV (.str t) (c.map V.str) = true then R true H' else _)
      refine ite2 (fun q => ?_) fun q => ?_
      · have := kR H' (Same.refl _)
        rw [q] at this
        exact this
      · refine ⟨_, rfl, _, rfl, b, _, rfl, .inr (SqT.of (sH _ _ g1)), rfl, flat_strs _, _, rfl, ?_⟩
        have := kR H' (Same.refl _)
        have q' : inV (V.str t) (c.map V.str) = false := by simpa using q
        rw [q', Bool.false_or] at this
        exact this
    · refine .inl ⟨D, _, rfl, SqL.of eD, fun q nq => ?_⟩
      have s2 := same_upd (o := .tup ((TOOLS.map V.str).filter fun v => inV v (c.map V.str) || inV v (d.map V.str))) nq
      refine k _ q (sH.trans s2) (sH.free nq) ?_
      rw [upd_same]
      refine congrArg (fun l => some (HO.tup l)) ?_
      rw [List.filter_map]
      refine congrArg (fun l => l.map V.str) (List.filter_congr fun t _ => ?_)
      show (inV (V.str t) _ || inV (V.str t) _) = _
      rw [inV_str, inV_str]
theorem scNoMore : FnScope ["one", "other"] ["one", "other"] (defScope sNoMore) := ⟨rfl, rfl, rfl, by decide +kernel, rfl, by decide +kernel, by decide +kernel⟩
theorem ok_nomore (F : FnP K "no_more" sNoMore f fd2) (FN : FnP K "need_chest" sNeedC fN fdN) (FI : FnP K "is_chest" sChest fI fdI) (FR : FnP K "rank_of" sRank fR fdR) (gI : mg "is_chest" = some (.ref fI)) (gN : mg "need_chest" = some (.ref fN)) (gR : mg "rank_of" = some (.ref fR))
    (T : Txt K mg) (C : Cst K mg) (B : ExcT K mg "BadChest" CB) : FnOk P w K mg base (L2.CX P w) 3 f fd2 ["one", "other"] (spTwo K CB rNoMore) := by
  have GN : FnOk P w K mg base (L2.CX P w) 2 fN fdN ["chest"] (spNeedC K CB) := ok_needc FN FI gI T C B
  have bN : Binds K fdN ["chest"] [] := FN.bindsN fun _ _ _ _ _ _ us hl => match us, hl with | [_], _ => rfl
  have GR : FnOk P w K mg base CX0 1 fR fdR ["chest"] (spRank K) := ok_rank FR T C
  have bR : Binds K fdR ["chest"] [] := FR.bindsN fun _ _ _ _ _ _ us hl => match us, hl with | [_], _ => rfl
  refine F.ok scNoMore (fun vs H Q E h => ?_) (fun cdv A outer s H vs Q E hr h => ?_)
  · obtain ⟨x, y, rfl, _⟩ := h
    rfl
  · obtain ⟨x, y, rfl, k⟩ := h
    have hr1 := hr.mono (show 1 ≤ 2 by decide)
    refine ⟨_, pss_cons (ps_expr (pe_call GN hr (by rfl) gN FN.kp bN .nil (passes_call (takes_of rfl rfl rfl rfl) fun _ _ _ _ h => h) (pa_cons (pv 0) pa_nil)))
      (pss_cons (ps_expr (pe_call GN hr (by rfl) gN FN.kp bN .nil (passes_call (takes_of rfl rfl rfl rfl) fun _ _ _ _ h => h) (pa_cons (pv 1) pa_nil)))
      (PSs.nox (pss_one (ps_ret (pe_cmpR op_le (pe_call GR hr1 (by rfl) gR FR.kp bR .nil pass0 (pa_cons (pv 0) pa_nil)) (pe_call GR hr1 (by rfl) gR FR.kp bR .nil pass0 (pa_cons (pv 1) pa_nil)) (nomark _)))))), ?_⟩
    rcases k with ⟨bad, k⟩ | ⟨c, good, k⟩
    · exact ⟨_, rfl, x, rfl, .inl ⟨bad, k⟩⟩
    refine ⟨_, rfl, x, rfl, .inr ⟨c, good, ?_⟩⟩
    rcases k with ⟨bad, k⟩ | ⟨d, good2, k⟩
    · exact ⟨_, rfl, y, rfl, .inl ⟨bad, k⟩⟩
    refine ⟨_, rfl, y, rfl, .inr ⟨d, good2, ?_⟩⟩
    obtain ⟨a, rfl, h1, h2⟩ := good
    obtain ⟨b, rfl, g1, g2⟩ := good2
    refine ⟨_, rfl, a, c, rfl, h1, sub_fok h2, Nat.le_trans (sub_len h2) (by decide), fun H1 s1 => ⟨_, rfl, b, d, rfl, s1 _ _ g1, sub_fok g2, Nat.le_trans (sub_len g2) (by decide), fun H2 s2 => ?_⟩⟩
    refine ⟨_, _, rfl, rfl, ?_⟩
    have e : decide ((rk c : Int) ≤ (rk d : Int)) = decide (rk c ≤ rk d) := by
      rw [Bool.eq_iff_iff, decide_eq_true_iff, decide_eq_true_iff]
      omega
    show Q (.bl (decide ((rk c : Int) ≤ (rk d : Int)))) H2
    rw [e]
    exact k H2 (s1.trans s2)
end
end Own
set_option Elab.async false
set_option linter.all false
set_option maxRecDepth 100000
set_option maxHeartbeats 400000
namespace Own
open PySem PySem.Spec PyProof.Rows L2 LamX
/-! ### all chests -/
/-- a tuple of these texts -/
def TupR (H : Hp) (v : V) (c : List Str) : Prop := ∃ a, v = .ref a ∧ H a = some (.tup (c.map V.str))
theorem TupR.same {H H' : Hp} {v : V} {c : List Str} (e : Same H H') (h : TupR H v c) : TupR H' v c := by
  obtain ⟨a, rfl, h⟩ := h
  exact ⟨a, rfl, e _ _ h⟩
theorem TupR.off {H : Hp} {D : Addr} {l : List V} {v : V} {c : List Str} (e : H D = some (.lst l)) (h : TupR H v c) (o : HO) : TupR (L2.upd H D o) v c := by
  obtain ⟨a, rfl, h⟩ := h
  refine ⟨a, rfl, ?_⟩
  rw [upd_ne (ne_of h e (by intro z; cases z))]
  exact h
theorem strs_inj {c d : List Str} (h : c.map V.str = d.map V.str) : c = d := (List.map_inj_right fun _ _ e => V.str.inj e).mp h
theorem TupR.inj {H : Hp} {v : V} {c d : List Str} (h1 : TupR H v c) (h2 : TupR H v d) : c = d := by
  obtain ⟨a, rfl, h1⟩ := h1
  obtain ⟨b, e, h2⟩ := h2
  cases e
  have := h1.symm.trans h2
  exact strs_inj (HO.tup.inj (Option.some.inj this))
/-- what stands at v -/
def strV : V → Str
  | .str x => x
  | _ => ""
def ctn (H : Hp) (v : V) : List Str := match v with
  | .ref a => (match H a with
    | some (.tup xs) => xs.map strV
    | _ => [])
  | _ => []
theorem ctn_of {H : Hp} {v : V} {c : List Str} (h : TupR H v c) : ctn H v = c := by
  obtain ⟨a, rfl, h⟩ := h
  show (match H a with
    | some (.tup xs) => xs.map strV
    | _ => []) = c
  rw [h]
  simp [Function.comp_def, strV]
theorem ctn_map {H : Hp} {vs : List V} {cs : List (List Str)} (h : F2 (TupR H) vs cs) : vs.map (ctn H) = cs := by
  induction h with
  | nil => rfl
  | cons h _ ih => rw [List.map_cons, ctn_of h, ih]
/-- t + u of texts -/
theorem cat_read {K : PySem.W.Frag} {H : Hp} {Q : VK} {a b : Addr} {c d : List Str} (ha : H a = some (.tup (c.map V.str))) (hb : H b = some (.tup (d.map V.str))) (hz : c.length + d.length ≤ sizeLine) (k : ∀ r H', Same H H' → H' r = some (.tup ((c ++ d).map V.str)) → Q (.ref r) H') : rCatA K (.ref a) (.ref b) H Q := by
  refine ⟨a, b, _, _, rfl, rfl, SqT.of ha, SqT.of hb, by rw [List.length_map, List.length_map]; exact hz, fun e => ?_, fun _ e => ?_, fun _ _ p np => ?_⟩
  · refine k b H (Same.refl _) ?_
    have : c = [] := by simpa using e
    rw [this, List.nil_append]
    exact hb
  · refine k a H (Same.refl _) ?_
    have : d = [] := by simpa using e
    rw [this, List.append_nil]
    exact ha
  · refine k p _ (same_upd np) ?_
    rw [upd_same, List.map_append]
section
variable {X : Cx} {K : PySem.W.Frag}
theorem op_catAK (h : X.K = K) : OpR X (binaryOp .Add) (rCatA K) := h ▸ op_catA
end
def spAll : Sp := fun vs H Q _ => vs = [] ∧ ∀ p vs H', Same H H' → H p = none → H' p = some (.lst vs) → F2 (TupR H') vs (lexN.map ch) → Q (.ref p) H'
/-- a word of a set, or not -/
def BadW (K : PySem.W.Frag) (H : Hp) (x : V) : Prop := (∃ t : String, TyX K H x (.type t) ∧ kitB t "str" = some false) ∨ ∃ z, x = .str z ∧ z ∉ WORDS
def spNeedW (K : PySem.W.Frag) (CW : Addr) : Sp := fun vs H Q E => ∃ x : V, vs = [x] ∧ ((BadW K H x ∧ E (.ref CW) none H) ∨ ∃ z, x = .str z ∧ z ∈ WORDS ∧ Q .non H)
section
variable {P : Program} {w : World} {K : PySem.W.Frag} {mg : Str → Option Value} {base : Heap} {f fI fN fR CW : Addr} {fd2 fdI fdN fdR : FuncData}
theorem scNeedW : FnScope ["word"] ["word"] (defScope sNeedW) := ⟨rfl, rfl, rfl, by decide +kernel, rfl, by decide +kernel, by decide +kernel⟩
theorem ok_needw (F : FnP K "need_word" sNeedW f fd2) (T : Txt K mg) (C : Cst K mg) (B : ExcT K mg "BadWord" CW) : FnOk P w K mg base (L2.CX P w) 1 f fd2 ["word"] (spNeedW K CW) := by
  obtain ⟨pw, hpw, seqW⟩ := C.words
  refine F.ok scNeedW (fun vs H Q E h => ?_) (fun cdv A outer s H vs Q E hr h => ?_)
  · obtain ⟨x, rfl, _⟩ := h
    rfl
  · obtain ⟨x, rfl, k⟩ := h
    refine ⟨_, pss_one (ps_if (PW.pt (pw_or (pt_not (pt_val (pe_callB call_isi (by rfl) T.isi boot_isinstance (pa_cons (pv 0) (pa_cons (pe_bltn (v := .ty "str") (by rfl) T.str (by decide +kernel) rfl) pa_nil)))))
      (pw_or1 (pt_cmpR op_notIn_seq (pv 0) (pe_glob (v := .ref pw) (by rfl) hpw rfl) (by rfl))))) (pss_one (ps_raise rfl (takes_of rfl rfl rfl rfl) (pmk_own PySem.F.excBase_ValueError B.x B.g B.k (raises_own B.b B.t) rfl))) pss_nil), ?_⟩
    have k2 : (∃ t : String, TyX K H x (.type t) ∧ kitB t "str" = some false ∧ E (.ref CW) none H) ∨ ∃ z, x = .str z ∧ if decide (z ∈ WORDS) = true then Q .non H else E (.ref CW) none H := by
      rcases k with ⟨⟨t, ty, e1⟩ | ⟨z, e, hz⟩, k⟩ | ⟨z, e, hz, k⟩
      · exact .inl ⟨t, ty, e1, k⟩
      · exact .inr ⟨z, e, by rw [if_neg (by simpa using hz)]; exact k⟩
      · exact .inr ⟨z, e, by rw [if_pos (by simpa using hz)]; exact k⟩
    clear k
    rcases k2 with ⟨t, ty, e1, k⟩ | ⟨z, rfl, k⟩
    · exact ⟨_, rfl, x, .ty "str", .type t, .type "str", false, rfl, .ty _, ty, kit_ty e1, false, rfl, iteT (iteT k)⟩
    · refine ⟨_, rfl, .str z, .ty "str", .type "str", .type "str", true, rfl, .ty _, .base (.str z), kit_ty (by decide +kernel), true, rfl, ?_⟩
      refine iteF ?_
      refine ⟨_, rfl, pw, _, rfl, .inr (seqW H), rfl, flat_strs _, _, rfl, ?_⟩
      rw [inV_str]
      by_cases hz : z ∈ WORDS
      · rw [if_pos (by simpa using hz)] at k
        rw [decide_eq_true hz]
        exact iteF k
      · rw [if_neg (by simpa using hz)] at k
        rw [decide_eq_false hz]
        exact iteT k
theorem scAll : FnScope ["found", "tool", "chest"] [] (defScope sAll) := ⟨rfl, rfl, rfl, by decide +kernel, rfl, by decide +kernel, by decide +kernel⟩
theorem tools_get {i : Nat} {y : V} (h : (TOOLS.map V.str)[i]? = some y) : i < 9 ∧ y = .str (TOOLS.getD i "") := by
  rw [List.getElem?_map] at h
  cases e : TOOLS[i]? with
  | none => rw [e] at h; cases h
  | some t =>
    rw [e] at h
    refine ⟨by have := (List.getElem?_eq_some_iff.mp e).1; exact this, ?_⟩
    rw [List.getD_eq_getElem?_getD, e]
    exact (Option.some.inj h).symm
theorem all_len : ∀ n, (allN n).length = 2 ^ n
  | 0 => rfl
  | n + 1 => by
    unfold allN
    rw [List.range_succ, List.foldl_append]
    show (addN (allN n) n).length = _
    unfold addN
    rw [List.length_append, List.length_map, all_len n, Nat.pow_succ]
    omega
theorem all_succ (n : Nat) : allN (n + 1) = addN (allN n) n := by
  unfold allN
  rw [List.range_succ, List.foldl_append]
  rfl
theorem all_item : ∀ (n : Nat) (c : List Nat), c ∈ allN n → c.length ≤ n
  | 0, c, h => by
    have : c ∈ [[]] := h
    rw [List.mem_singleton.mp this]
    exact Nat.le_refl _
  | n + 1, c, h => by
    rw [all_succ] at h
    rcases List.mem_append.mp h with h | h
    · exact Nat.le_succ_of_le (all_item n c h)
    · obtain ⟨d, hd, rfl⟩ := List.mem_map.mp h
      rw [List.length_append]
      exact Nat.succ_le_succ (all_item n d hd)
theorem ok_all (F : FnP K "all_chests" sAll f fd2) (T : Txt K mg) (C : Cst K mg) : FnOk P w K mg base CX0 1 f fd2 [] spAll := by
  obtain ⟨pt, hpt, seqT0⟩ := C.tools
  refine F.ok scAll (fun vs H Q E h => ?_) (fun cdv A outer s H vs Q E hr h => ?_)
  · obtain ⟨rfl, _⟩ := h
    rfl
  · obtain ⟨rfl, k⟩ := h
    refine ⟨_, PSs.nox (pss_cons (ps_set (i := 0) scAll.nd rfl (.inl rfl) (pe_lst (pa_cons (pe_tup pa_nil) pa_nil)))
      (pss_cons (ps_for PassesOwn.never rfl (pi_tup (pe_glob (v := .ref pt) (by rfl) hpt rfl)) (pg_name (i := 1) scAll.nd rfl (Or.inr rfl))
        (pss_one (ps_set (i := 0) scAll.nd rfl (.inl rfl) (pe_op op_cat (pv 0) (pe_lc (own := [("chest", 2)]) (g := gName 2) (tt := tYes) (by rfl) scAll.nd (pi_list (pv 0)) (blkOk_by (own := [("chest", 2)]) (N := ["found", "tool", "chest"]) (sc := defScope sAll) (by decide +kernel))
          (fun _ _ _ _ _ => pg_name (i := 2) scAll.nd rfl (Or.inl rfl)) (fun _ _ _ _ _ => pts_nil) (fun _ _ _ _ _ => pe_op (op_catAK (K := K) rfl) (pv 2) (pe_tup (pa_cons (pv 1) pa_nil))))))))
      (pss_one (ps_ret (pe_callB (cr_sortedTs hr.units) (by rfl) T.sorted (by decide +kernel) (pa_cons (pv 0) pa_nil)))))), ?_⟩
    refine ⟨(by show 0 ≤ sizeLine; decide), fun e0 n0 => ⟨(by show 1 ≤ sizeLine; decide), fun l0 m0 => ?_⟩⟩
    have s0 := same_upd (o := .tup []) n0
    have s1 := same_upd (o := .lst [.ref e0]) m0
    refine ⟨pt, rfl, ⟨_, seqT0 _⟩, ?_⟩
    refine for_tup (K := K) (a := pt) (xs := TOOLS.map V.str) (fun i σ G => i ≤ 9 ∧ ∃ l vs v1 v2, σ = [some (.ref l), v1, v2] ∧ Same H G ∧ H l = none ∧ G l = some (.lst vs) ∧ F2 (TupR G) vs ((allN i).map ch))
      ⟨Nat.zero_le _, l0, [.ref e0], none, none, rfl, s0.trans s1, s0.free m0, upd_same, .cons ⟨e0, rfl, by rw [upd_ne (ne_of_none upd_same m0)]; exact upd_same⟩ .nil⟩ (fun i σ G _ _ => seqT0 G) ?_ ?_
    · rintro i y σ G hi ⟨_, l, vs, v1, v2, rfl, sG, nl, hl, f2⟩
      obtain ⟨i9, rfl⟩ := tools_get hi
      have lv : vs.length = 2 ^ i := by rw [f2.len, List.length_map, all_len]
      have lv2 : vs.length ≤ 256 := by
        rw [lv]
        exact Nat.pow_le_pow_right (by decide) (show i ≤ 8 by omega)
      refine ⟨_, rfl, _, rfl, ⟨l, rfl, ⟨_, SqL.of hl⟩, fun D nD => ?_⟩⟩
      have all2 : ∀ x ∈ vs, ∃ c ∈ (allN i).map ch, TupR G x c := fun x hx => f2.left hx
      refine lc_rel (p := fun _ => true) (c := fun x => ctn G x ++ [TOOLS.getD i ""]) (rel := TupR) walk_list nD (Nat.lt_of_le_of_lt lv2 (by decide)) (fun H' s => Same.seq s (SqL.of hl)) (fun e q => q.same e) (fun e q l' => q.off e _) (fun v => rfl) (fun x H' _ _ R kR => kR H' (Same.refl _)) (fun x H' hx _ sH R kR => ?_) fun H' ys sH eD f => ?_
      · obtain ⟨c, hc, a, rfl, ha⟩ := all2 x hx
        have lc : c.length ≤ 9 := by
          obtain ⟨d, hd, rfl⟩ := List.mem_map.mp hc
          unfold ch
          rw [List.length_map]
          exact Nat.le_trans (all_item i d hd) (by omega)
        refine ⟨_, rfl, _, rfl, (by show 1 ≤ sizeLine; decide), fun q nq => ?_⟩
        have s2 := same_upd (o := .tup [.str (TOOLS.getD i "")]) nq
        refine cat_read (c := c) (d := [TOOLS.getD i ""]) (s2 _ _ (sH _ _ ha)) upd_same (Nat.le_trans (Nat.add_le_add_right lc 1) (by decide)) fun r H2 s3 hr2 => ?_
        exact kR _ H2 (s2.trans s3) ⟨r, rfl, by rw [ctn_of ⟨a, rfl, ha⟩]; exact hr2⟩
      · rw [List.filter_eq_self.mpr fun _ _ => rfl] at f
        have lf := f.len
        rw [List.length_map] at lf
        refine ⟨l, D, _, _, rfl, rfl, sH _ _ hl, eD, Nat.le_trans (Nat.add_le_add lv2 (by rw [lf]; exact lv2)) (by decide), fun p np => ?_⟩
        have s4 := same_upd (o := .lst (vs ++ ys)) np
        refine ⟨i9, p, _, _, _, rfl, (sG.trans sH).trans s4, (sG.trans sH).free np, upd_same, ?_⟩
        rw [all_succ]
        unfold addN
        rw [List.map_append]
        refine ((f2.mono fun _ _ q => q.same sH).app ?_).mono fun _ _ q => q.same s4
        have e : ((allN i).map (· ++ [i])).map ch = vs.map fun x => ctn G x ++ [TOOLS.getD i ""] := by
          have e1 : (vs.map fun x => ctn G x ++ [TOOLS.getD i ""]) = (vs.map (ctn G)).map fun c => c ++ [TOOLS.getD i ""] := by
            rw [List.map_map]
            rfl
          rw [e1, ctn_map f2, List.map_map, List.map_map]
          refine List.map_congr_left fun c _ => ?_
          simp [ch]
        rw [e]
        exact f
    · rintro σ G ⟨_, l, vs, v1, v2, rfl, sG, nl, hl, f2⟩
      have e9 : (TOOLS.map V.str).length = 9 := rfl
      rw [e9] at f2
      have lv : vs.length = 512 := by rw [f2.len, List.length_map, all_len]
      have v0 : ∃ x r, vs = x :: r ∧ ctn G x = [] := by
        have hm := ctn_map f2
        cases vs with
        | nil => cases lv
        | cons x r =>
          refine ⟨x, r, rfl, ?_⟩
          obtain ⟨tl, et⟩ : ∃ tl, allN 9 = [] :: tl := ⟨_, rfl⟩
          rw [et, List.map_cons, List.map_cons] at hm
          injection hm
      refine ⟨_, rfl, l, vs, ctn G, rfl, SqL.of hl, fun x hx => ?_, .inr v0, fun ys p srt pm np => ?_⟩
      · obtain ⟨c, _, q⟩ := f2.left hx
        obtain ⟨a, e, ha⟩ := id q
        exact ⟨a, e, by rw [ctn_of q]; exact SqT.of ha⟩
      · have s5 := same_upd (o := .lst ys) np
        obtain ⟨cs, pc, fc⟩ := F2.perm pm f2
        have ey := ctn_map fc
        have e1 : cs = lexN.map ch := by
          rw [lex_ch]
          refine sorted_uniq (lexG_up tools_up) ?_ ?_
          · rw [← ey]
            exact List.pairwise_map.mpr srt
          · rw [← lex_ch]
            exact pc.trans (all_perm.map ch)
        refine k p ys _ (sG.trans s5) (sG.free np) upd_same ?_
        rw [← e1]
        exact fc.mono fun _ _ q => q.same s5
end
end Own
set_option Elab.async false
set_option linter.all false
set_option maxRecDepth 100000
set_option maxHeartbeats 400000
namespace Own
open PySem PySem.Spec PyProof.Rows L2 LamX
/-! ### the chests of a set -/
theorem num_kinds : ∀ i ∈ nums, decide (TOOLS.getD i "" ∈ GREAT) = decide (i ∈ [0, 1, 2, 6]) ∧ decide (TOOLS.getD i "" ≠ "square") = decide (i ≠ 7) := by decide +kernel
theorem num_tool : ∀ i ∈ nums, TOOLS.getD i "" ∈ TOOLS := by decide +kernel
theorem any_congr {α : Type} {p q : α → Bool} : ∀ {l : List α}, (∀ x ∈ l, p x = q x) → l.any p = l.any q
  | [], _ => rfl
  | x :: l, h => by
    rw [List.any_cons, List.any_cons, h x List.mem_cons_self, any_congr fun y hy => h y (List.mem_cons_of_mem _ hy)]
theorem lrk_ch {c : List Nat} (h : ∀ i ∈ c, i ∈ nums) : lrk (ch c) = rkN c := by
  have e1 : (ch c).any (fun t => decide (t ∈ GREAT)) = c.any fun i => decide (i ∈ [0, 1, 2, 6]) := by
    unfold ch
    rw [List.any_map]
    exact any_congr fun i hi => (num_kinds i (h i hi)).1
  have e2 : (ch c).any (fun t => decide (t ≠ "square")) = c.any fun i => decide (i ≠ 7) := by
    unfold ch
    rw [List.any_map]
    exact any_congr fun i hi => (num_kinds i (h i hi)).2
  unfold lrk rkN
  rw [e1, e2]
theorem ch_tools {c : List Nat} (h : ∀ i ∈ c, i ∈ nums) : ∀ t ∈ ch c, t ∈ TOOLS := fun t ht => by
  obtain ⟨i, hi, rfl⟩ := List.mem_map.mp ht
  exact num_tool i (h i hi)
theorem rk_ch {c : List Nat} (h : ∀ i ∈ c, i ∈ nums) : rk (ch c) = rkN c := by rw [rk_lrk (ch_tools h), lrk_ch h]
theorem lex_nums {c : List Nat} (h : c ∈ lexN) : ∀ i ∈ c, i ∈ nums := fun i hi => (lexG_mem h).subset hi
theorem lex_sub {c : List Nat} (h : c ∈ lexN) : (ch c).Sublist TOOLS := by
  have := (lexG_mem h).map fun i => TOOLS.getD i ""
  have e : nums.map (fun i => TOOLS.getD i "") = TOOLS := ch_nums
  rw [e] at this
  exact this
/-- the chests of the set at this place -/
def setC (i : Nat) : List (List Str) := (lexN.filter fun c => rkN c == i).map ch
theorem setC_eq (i : Nat) : (lexN.map ch).filter (fun c => rk c == i) = setC i := by
  unfold setC
  rw [List.filter_map]
  refine congrArg (List.map ch) (List.filter_congr fun c hc => ?_)
  show (rk (ch c) == i) = (rkN c == i)
  rw [rk_ch (lex_nums hc)]
def leastC (i : Nat) : List (List Str) := if i = 0 then [[]] else (TOOLS.filter fun t => rk [t] == i).map fun t => [t]
theorem words_inj {i j : Nat} (hi : i < 3) (hj : j < 3) : decide (WORDS.getD i "" = WORDS.getD j "") = (i == j) := by
  have e : (i = 0 ∨ i = 1 ∨ i = 2) ∧ (j = 0 ∨ j = 1 ∨ j = 2) := by omega
  obtain ⟨e1, e2⟩ := e
  rcases e1 with rfl | rfl | rfl <;> rcases e2 with rfl | rfl | rfl <;> decide +kernel
def spWith (K : PySem.W.Frag) (CW : Addr) (L : Nat → List (List Str)) : Sp := fun vs H Q E => ∃ x : V, vs = [x] ∧ ((BadW K H x ∧ E (.ref CW) none H) ∨ ∃ i, i < 3 ∧ x = .str (WORDS.getD i "") ∧ ∀ p vs H', Same H H' → H p = none → H' p = some (.lst vs) → F2 (TupR H') vs (L i) → Q (.ref p) H')
theorem words_mem {i : Nat} (hi : i < 3) : WORDS.getD i "" ∈ WORDS := by
  have e : i = 0 ∨ i = 1 ∨ i = 2 := by omega
  rcases e with rfl | rfl | rfl <;> decide +kernel
/-- what is kept of two lists, item by item -/
theorem F2.filt {α β : Type} {R : α → β → Prop} {p : α → Bool} {q : β → Bool} (h : ∀ a b, R a b → p a = q b) : ∀ {as : List α} {bs : List β}, F2 R as bs → F2 R (as.filter p) (bs.filter q)
  | _, _, .nil => .nil
  | _, _, .cons (a := a) (b := b) h1 h2 => by
    have e := h a b h1
    cases hb : q b with
    | true =>
      rw [hb] at e
      rw [List.filter_cons_of_pos e, List.filter_cons_of_pos hb]
      exact .cons h1 (h2.filt h)
    | false =>
      rw [hb] at e
      rw [List.filter_cons_of_neg (by rw [e]; exact Bool.false_ne_true), List.filter_cons_of_neg (by rw [hb]; exact Bool.false_ne_true)]
      exact h2.filt h
section
variable {P : Program} {w : World} {K : PySem.W.Frag} {mg : Str → Option Value} {base : Heap} {f fA fW fR CW : Addr} {fd2 fdA fdW fdR : FuncData}
theorem scWith : FnScope ["word", "chest"] ["word"] (defScope sWith) := ⟨rfl, rfl, rfl, by decide +kernel, rfl, by decide +kernel, by decide +kernel⟩
theorem ok_with (F : FnP K "chests_with" sWith f fd2) (FW : FnP K "need_word" sNeedW fW fdW) (FA : FnP K "all_chests" sAll fA fdA) (FR : FnP K "rank_of" sRank fR fdR) (gW : mg "need_word" = some (.ref fW)) (gA : mg "all_chests" = some (.ref fA)) (gR : mg "rank_of" = some (.ref fR))
    (T : Txt K mg) (C : Cst K mg) (B : ExcT K mg "BadWord" CW) : FnOk P w K mg base (L2.CX P w) 2 f fd2 ["word"] (spWith K CW setC) := by
  have GW : FnOk P w K mg base (L2.CX P w) 1 fW fdW ["word"] (spNeedW K CW) := ok_needw FW T C B
  have bW : Binds K fdW ["word"] [] := FW.bindsN fun _ _ _ _ _ _ us hl => match us, hl with | [_], _ => rfl
  have GA : FnOk P w K mg base CX0 1 fA fdA [] spAll := ok_all FA T C
  have bA : Binds K fdA [] [] := FA.bindsN fun _ _ _ _ _ _ us hl => match us, hl with | [], _ => rfl
  have GR : FnOk P w K mg base CX0 1 fR fdR ["chest"] (spRank K) := ok_rank FR T C
  have bR : Binds K fdR ["chest"] [] := FR.bindsN fun _ _ _ _ _ _ us hl => match us, hl with | [_], _ => rfl
  obtain ⟨pw, hpw, seqW⟩ := C.words
  refine F.ok scWith (fun vs H Q E h => ?_) (fun cdv A outer s H vs Q E hr h => ?_)
  · obtain ⟨x, rfl, _⟩ := h
    rfl
  · obtain ⟨x, rfl, k⟩ := h
    refine ⟨_, pss_cons (ps_expr (pe_call GW hr (by rfl) gW FW.kp bW .nil (passes_call (takes_of rfl rfl rfl rfl) fun _ _ _ _ h => h) (pa_cons (pv 0) pa_nil)))
      (PSs.nox (pss_one (ps_ret (pe_lc (own := [("chest", 1)]) (g := gName 1) (by rfl) scWith.nd (pi_list (pe_call0 GA hr (by rfl) gA FA.kp bA .nil pass0)) (blkOk_by (own := [("chest", 1)]) (N := ["word", "chest"]) (sc := defScope sWith) (by decide +kernel))
          (fun _ _ _ _ _ => pg_name (i := 1) scWith.nd rfl (Or.inl rfl)) (fun _ _ _ _ _ => pts_one (pt_cmpR op_eq (pe_ix (ix_tupK (K := K) rfl) (pe_glob (v := .ref pw) (by rfl) hpw rfl) (pe_call GR hr (by rfl) gR FR.kp bR .nil pass0 (pa_cons (pv 1) pa_nil)) (fun _ _ => rfl)) (pv 0) (nomark _))) (fun _ _ _ _ _ => pv 1))))), ?_⟩
    rcases k with ⟨bad, k⟩ | ⟨j, hj, rfl, k⟩
    · exact ⟨_, rfl, x, rfl, .inl ⟨bad, k⟩⟩
    refine ⟨_, rfl, _, rfl, .inr ⟨_, rfl, words_mem hj, ?_⟩⟩
    refine ⟨rfl, fun p vs H1 s1 np hp f1 => ⟨p, rfl, ⟨_, SqL.of hp⟩, fun D nD => ?_⟩⟩
    have lv : vs.length = 512 := by rw [f1.len, List.length_map, ← all_perm.length_eq, all_len]
    refine lc_filt (p := fun v => rk (ctn H1 v) == j) walk_list nD (by rw [lv]; decide) (fun H' s => Same.seq s (SqL.of hp)) (by show 1 < 2; decide) (fun v H' hv sH R kR => ?_) fun H' sH eD => ?_
    · obtain ⟨c, hc, q⟩ := f1.left hv
      obtain ⟨d, hd, rfl⟩ := List.mem_map.mp hc
      have hsub := lex_sub hd
      have ec := ctn_of q
      obtain ⟨a, rfl, ha⟩ := q
      refine ⟨_, rfl, a, _, rfl, sH _ _ ha, sub_fok hsub, Nat.le_trans (sub_len hsub) (by decide), fun H2 s2 => ⟨pw, _, _, _, rfl, rfl, seqW H2, at_nat words_at, ?_⟩⟩
      refine ⟨_, rfl, rfl, _, rfl, ?_⟩
      rw [decStr, words_inj (Nat.lt_succ_of_le (rk_le _)) hj]
      have := kR H2 s2
      rw [ec] at this
      exact this
    · refine k D _ H' (s1.trans sH) (s1.free nD) eD ?_
      rw [← setC_eq]
      refine (f1.filt (p := fun v => rk (ctn H1 v) == j) (q := fun c => rk c == j) fun v c q => ?_).mono fun _ _ q => q.same sH
      rw [ctn_of q]
theorem scLeast : FnScope ["word", "place", "tool"] ["word"] (defScope sLeast) := ⟨rfl, rfl, rfl, by decide +kernel, rfl, by decide +kernel, by decide +kernel⟩
theorem ok_least (F : FnP K "least_chests" sLeast f fd2) (FW : FnP K "need_word" sNeedW fW fdW) (FR : FnP K "rank_of" sRank fR fdR) (gW : mg "need_word" = some (.ref fW)) (gR : mg "rank_of" = some (.ref fR))
    (T : Txt K mg) (C : Cst K mg) (B : ExcT K mg "BadWord" CW) : FnOk P w K mg base (L2.CX P w) 2 f fd2 ["word"] (spWith K CW leastC) := by
  have GW : FnOk P w K mg base (L2.CX P w) 1 fW fdW ["word"] (spNeedW K CW) := ok_needw FW T C B
  have bW : Binds K fdW ["word"] [] := FW.bindsN fun _ _ _ _ _ _ us hl => match us, hl with | [_], _ => rfl
  have GR : FnOk P w K mg base CX0 1 fR fdR ["chest"] (spRank K) := ok_rank FR T C
  have bR : Binds K fdR ["chest"] [] := FR.bindsN fun _ _ _ _ _ _ us hl => match us, hl with | [_], _ => rfl
  obtain ⟨pw, hpw, seqW⟩ := C.words
  obtain ⟨pt, hpt, seqT0⟩ := C.tools
  refine F.ok scLeast (fun vs H Q E h => ?_) (fun cdv A outer s H vs Q E hr h => ?_)
  · obtain ⟨x, rfl, _⟩ := h
    rfl
  · obtain ⟨x, rfl, k⟩ := h
    refine ⟨_, pss_cons (ps_expr (pe_call GW hr (by rfl) gW FW.kp bW .nil (passes_call (takes_of rfl rfl rfl rfl) fun _ _ _ _ h => h) (pa_cons (pv 0) pa_nil)))
      (PSs.nox (pss_cons (ps_set (i := 1) scLeast.nd rfl (.inr rfl) (pe_bm PySem.F.plainAttrs_tuple PySem.F.slot_tuple_index PySem.F.type_tuple_index mt_tup_index (pe_glob (v := .ref pw) (by rfl) hpw rfl) (pa_cons (pv 0) pa_nil)))
      (pss_cons (ps_if (pt_cmpR op_eq (pv 1) pe_int (nomark _)) (pss_one (ps_ret (pe_lst (pa_cons (pe_tup pa_nil) pa_nil)))) pss_nil)
      (pss_one (ps_ret (pe_lc (own := [("tool", 2)]) (g := gName 2) (by rfl) scLeast.nd (pi_tup (pe_glob (v := .ref pt) (by rfl) hpt rfl)) (blkOk_by (own := [("tool", 2)]) (N := ["word", "place", "tool"]) (sc := defScope sLeast) (by decide +kernel))
          (fun _ _ _ _ _ => pg_name (i := 2) scLeast.nd rfl (Or.inl rfl)) (fun _ _ _ _ _ => pts_one (pt_cmpR op_eq (pe_call GR hr (by rfl) gR FR.kp bR .nil pass0 (pa_cons (pe_tup (pa_cons (pv 2) pa_nil)) pa_nil)) (pv 1) (nomark _))) (fun _ _ _ _ _ => pe_tup (pa_cons (pv 2) pa_nil)))))))), ?_⟩
    rcases k with ⟨bad, k⟩ | ⟨j, hj, rfl, k⟩
    · exact ⟨_, rfl, x, rfl, .inl ⟨bad, k⟩⟩
    refine ⟨_, rfl, _, rfl, .inr ⟨_, rfl, words_mem hj, ?_⟩⟩
    have e3 : j = 0 ∨ j = 1 ∨ j = 2 := by omega
    refine ⟨.inr (.inl ⟨rfl, C.wordsT pw hpw⟩), _, rfl, pw, WORDS, _, j, rfl, rfl, seqW H, ?_, ?_, ?_⟩
    · rcases e3 with rfl | rfl | rfl <;> rfl
    · intro m hm e
      have e4 : m = 0 ∨ m = 1 := by omega
      rcases e3 with rfl | rfl | rfl <;> rcases e4 with rfl | rfl <;> first | omega | exact absurd e (by decide +kernel)
    refine ⟨_, rfl, rfl, _, rfl, ?_⟩
    by_cases h0 : j = 0
    · subst h0
      refine iteT ?_
      refine ⟨(by show 0 ≤ sizeLine; decide), fun e0 n0 => ⟨(by show 1 ≤ sizeLine; decide), fun l0 m0 => ?_⟩⟩
      have s0 := same_upd (o := .tup []) n0
      have s1 := same_upd (o := .lst [.ref e0]) m0
      exact k l0 [.ref e0] _ (s0.trans s1) (s0.free m0) upd_same (.cons ⟨e0, rfl, s1 _ _ upd_same⟩ .nil)
    · have ed : decide (V.int (j : Nat) = V.int 0) = false := decide_eq_false (by simpa using h0)
      rw [ed]
      refine iteF ?_
      refine ⟨pt, rfl, ⟨_, seqT0 H⟩, fun D nD => ?_⟩
      refine lc_rel (p := fun v => rk [strV v] == j) (c := fun v => [strV v]) (rel := TupR) walk_tup nD (by decide) (fun H' _ => seqT0 H') (fun e q => q.same e) (fun e q l' => q.off e _) (fun v => rfl) (fun v H' hv sH R kR => ?_) (fun v H' hv _ sH R kR => ?_) fun H' ys sH eD f => ?_
      · obtain ⟨t, ht, rfl⟩ := List.mem_map.mp hv
        refine ⟨_, rfl, (by show 1 ≤ sizeLine; decide), fun q nq => ?_⟩
        have s2 := same_upd (o := .tup [.str t]) nq
        refine ⟨q, [t], rfl, upd_same, by show (fok (.str t) && true) = true; rw [tools_fok t ht]; rfl, by show 1 ≤ 1000; decide, fun H2 s3 => ⟨_, rfl, rfl, _, rfl, ?_⟩⟩
        have ed : decide (V.int ((rk [t] : Nat) : Int) = V.int ((j : Nat) : Int)) = (rk [t] == j) := by
          rw [Bool.eq_iff_iff, decide_eq_true_iff, beq_iff_eq]
          simp only [V.int.injEq]
          omega
        rw [ed]
        exact kR H2 (s2.trans s3)
      · obtain ⟨t, ht, rfl⟩ := List.mem_map.mp hv
        refine ⟨_, rfl, (by show 1 ≤ sizeLine; decide), fun q nq => ?_⟩
        exact kR _ _ (same_upd nq) ⟨q, rfl, upd_same⟩
      · refine k D ys H' sH nD eD ?_
        have e : leastC j = ((TOOLS.map V.str).filter fun v => rk [strV v] == j).map fun v => [strV v] := by
          unfold leastC
          rw [if_neg h0, List.filter_map, List.map_map]
          rfl
        rw [e]
        exact f
end
end Own
set_option Elab.async false
set_option linter.all false
set_option maxRecDepth 100000
set_option maxHeartbeats 400000
namespace Own
open PySem PySem.Spec PyProof.Rows L2 LamX
/-! ### the sheet: towers and numbers -/
theorem pe_never {X : Cx} {e : Expr} : PE X e fun _ _ _ => False := ⟨fun _ _ _ _ _ _ h => h.elim⟩
theorem pt_never {X : Cx} {e : Expr} : PT X e fun _ _ _ => False := ⟨fun _ _ _ _ _ _ h => h.elim⟩
def clsBody (s : Stmt) : List Stmt := match s with
  | .ClassDef _ _ _ b _ _ _ _ _ _ _ => b
  | _ => []
abbrev sTowI : Stmt := (clsBody cTower).getD 0 (.Pass ⟨0, 0, 0, 0⟩)
abbrev sNumI : Stmt := (clsBody cNumber).getD 0 (.Pass ⟨0, 0, 0, 0⟩)
/-- what the walk asks of the two classes -/
structure Obj2 (K : PySem.W.Frag) (mg : Str → Option Value) (CT CN fT fN pE : Addr) (dT dN : FuncData) : Prop where
  gT : mg "Tower" = some (.ref CT)
  gN : mg "Number" = some (.ref CN)
  kT : Mk K CT fT
  kN : Mk K CN fN
  iT : C8.InsC K CT
  cN : Cls K CN
  n1 : NoAttr K CT "rows"
  n2 : NoAttr K CT "squares"
  n3 : NoAttr K CN "tower"
  n4 : NoAttr K CN "vector"
  eE : ∃ o, K.lookup pE = some o ∧ o.cls = .type "tuple"
  sE : ∀ H, SqT K H pE []
  most : ∃ t, mg "MOST" = some (.int 6 t)
  FT : FunD K "__init__" "Tower.__init__" (defArgs sTowI) (defBody sTowI) (defScope sTowI) [.ref pE, .non] [] fT dT
  FN : FunD K "__init__" "Number.__init__" (defArgs sNumI) (defBody sNumI) (defScope sNumI) [.non] [] fN dN
def spRows (pE : Addr) : Sp := fun vs H Q _ => vs = [.ref pE] ∧ ∀ p H', Same H H' → H p = none → H' p = some (.tup []) → Q (.ref p) H'
def spTowI (CT pE : Addr) : Sp := fun vs H Q _ => ∃ (x dx : Addr), vs = [.ref x, .ref pE, .non] ∧ H x = some (.ins CT dx []) ∧ ∀ H' fs, Kp [x] H H' → H' x = some (.ins CT dx fs) → Q .non H'
def spNeedT (CT : Addr) : Sp := fun vs H Q _ => ∃ (x dx : Addr) (fs : List (Str × V)), vs = [.ref x] ∧ H x = some (.ins CT dx fs) ∧ Q .non H
def spLowest : Sp := fun vs H Q _ => ∃ (v ws : Addr) (n : Int), vs = [.ref v] ∧ H v = some (.tup [.ref ws, .int 1]) ∧ H ws = some (.tup [.int n]) ∧ Q (.ref v) H
def spNumI (CT CN : Addr) : Sp := fun vs H Q _ => ∃ (x dx t dt : Addr) (fs : List (Str × V)) (pp v ws : Addr) (n : Int), vs = [.ref x, .ref t, pp |> V.ref, .ref v] ∧ H x = some (.ins CN dx []) ∧ H t = some (.ins CT dt fs) ∧ H v = some (.tup [.ref ws, .int 1]) ∧ H ws = some (.tup [.int n]) ∧
  ∀ H' fs', Kp [x] H H' → H' x = some (.ins CN dx fs') → Q .non H'
def spFrac : Sp := fun vs H Q _ => ∃ n : Int, vs = [.int n, .int 1] ∧ ∀ p H', Same H H' → Q (.ref p) H'
def SHEET : List Str := "o" :: "u" :: "uu" :: "v" :: "vv" :: []
def spSheet : Sp := fun vs H Q _ => vs = [] ∧ ∀ d ws H', Same H H' → H d = none → ws.length = 5 → H' d = some (.dK ((SHEET.map Sum.inr).zip ws)) → Q (.ref d) H'
section
variable {P : Program} {w : World} {K : PySem.W.Frag} {mg : Str → Option Value} {base : Heap} {f fR fI fW fL fNd CT CN fT fN pE : Addr} {fd2 fdR fdI fdW fdL dT dN fdNd : FuncData}
theorem scRows : FnScope ["squares", "rows", "at", "parts", "vector"] ["squares"] (defScope sRowsOf) := ⟨rfl, rfl, rfl, by decide +kernel, rfl, by decide +kernel, by decide +kernel⟩
theorem ok_rows (F : FnP K "rows_of" sRowsOf f fd2) (T : Txt K mg) (O : Obj2 K mg CT CN fT fN pE dT dN) : FnOk P w K mg base CX0 1 f fd2 ["squares"] (spRows pE) := by
  obtain ⟨tm, hm⟩ := O.most
  obtain ⟨oE, eE, cE⟩ := O.eE
  refine F.ok scRows (fun vs H Q E h => ?_) (fun cdv A outer s H vs Q E hr h => ?_)
  · obtain ⟨rfl, _⟩ := h
    rfl
  · obtain ⟨rfl, k⟩ := h
    refine ⟨_, PSs.nox (pss_cons (ps_if (PW.pt (pw_or (pt_not (pt_val (pe_callB call_isi (by rfl) T.isi boot_isinstance (pa_cons (pv 0) (pa_cons (pe_bltn (v := .ty "tuple") (by rfl) T.tuple (by decide +kernel) rfl) pa_nil)))))
        (pw_or1 (pt_cmpR op_gt (pe_callB call_len_seq (by rfl) T.len PySem.boot_len (pa_cons (pv 0) pa_nil)) (pe_glob (v := .int 6) (by rfl) hm ⟨_, rfl⟩) (nomark _))))) pss_never pss_nil)
      (pss_cons (ps_set (i := 1) scRows.nd rfl (.inl rfl) (pe_tup pa_nil))
      (pss_cons (ps_for PassesOwn.never rfl (pi_enumS (by rfl) T.enum (pa_cons (pv 0) pa_nil)) (pg_tup rfl (pgs_cons (pg_name (i := 2) scRows.nd rfl (.inl rfl)) (pgs_cons (pg_name (i := 3) scRows.nd rfl (.inl rfl)) pgs_nil))) pss_never)
      (pss_one (ps_ret (pv 1)))))), ?_⟩
    refine ⟨_, rfl, .ref pE, .ty "tuple", .type "tuple", .type "tuple", true, rfl, .ty _, .kTuple eE cE, kit_ty (by decide +kernel), true, rfl, ?_⟩
    refine iteF ?_
    refine ⟨_, rfl, pE, _, rfl, .inr (O.sE H), _, _, rfl, rfl, _, rfl, ?_⟩
    refine iteF ?_
    refine ⟨(by show 0 ≤ sizeLine; decide), fun p np => ?_⟩
    have s1 := same_upd (o := .tup []) np
    refine ⟨_, rfl, pE, rfl, .inr ⟨_, O.sE _, ?_⟩⟩
    refine for_it walk_enumT (fun i σ G => σ = [some (.ref pE), some (.ref p), none, none, none] ∧ G = L2.upd H p (.tup [])) ⟨rfl, rfl⟩ (fun i σ G _ q => O.sE G) (fun i x σ G H' hi => absurd hi (Nat.not_lt_zero _)) ?_
    rintro σ G ⟨rfl, rfl⟩
    exact ⟨_, rfl, k p _ s1 np upd_same⟩
theorem scTowI : FnScope ["self", "squares", "known"] ["self", "squares", "known"] (defScope sTowI) := ⟨rfl, rfl, rfl, by decide +kernel, rfl, by decide +kernel, by decide +kernel⟩
theorem ok_towI (FR : FnP K "rows_of" sRowsOf fR fdR) (gR : mg "rows_of" = some (.ref fR)) (T : Txt K mg) (O : Obj2 K mg CT CN fT fN pE dT dN) : FnOk P w K mg base CX0 2 fT dT ["self", "squares", "known"] (spTowI CT pE) := by
  have GR : FnOk P w K mg base CX0 1 fR fdR ["squares"] (spRows pE) := ok_rows FR T O
  have bR : Binds K fdR ["squares"] [] := FR.bindsN fun _ _ _ _ _ _ us hl => match us, hl with | [_], _ => rfl
  refine O.FT.ok scTowI (fun vs H Q E h => ?_) (fun cdv A outer s H vs Q E hr h => ?_)
  · obtain ⟨x, dx, rfl, _⟩ := h
    rfl
  · obtain ⟨x, dx, rfl, hx, k⟩ := h
    refine ⟨_, PSs.nox (pss_cons (ps_fld (pv 0) (pe_ifExp (pt_cmpR op_isN (pv 2) pe_non (nomark _)) (pe_call GR hr (by rfl) gR FR.kp bR .nil pass0 (pa_cons (pv 1) pa_nil)) pe_never) rfl)
      (pss_one (ps_fld (pv 0) (pv 1) rfl))), ?_⟩
    refine ⟨_, rfl, rfl, _, rfl, ?_⟩
    refine iteT ?_
    refine ⟨_, rfl, rfl, fun p H1 s1 np hp => ?_⟩
    refine ⟨_, rfl, x, CT, dx, _, rfl, s1 _ _ hx, O.iT.cl, O.n1, by decide, ?_⟩
    refine ⟨_, rfl, _, rfl, x, CT, dx, _, rfl, upd_same, O.iT.cl, O.n2, by show (1 : Nat) < 1000; decide, ?_⟩
    refine k _ _ (((Kp.of s1).trans (Kp.upd (by simp))).trans (Kp.upd (by simp))) upd_same
theorem scNeedT : FnScope ["value"] ["value"] (defScope sNeedT) := ⟨rfl, rfl, rfl, by decide +kernel, rfl, by decide +kernel, by decide +kernel⟩
theorem ok_needt (F : FnP K "need_tower" sNeedT f fd2) (T : Txt K mg) (O : Obj2 K mg CT CN fT fN pE dT dN) : FnOk P w K mg base CX0 1 f fd2 ["value"] (spNeedT CT) := by
  refine F.ok scNeedT (fun vs H Q E h => ?_) (fun cdv A outer s H vs Q E hr h => ?_)
  · obtain ⟨x, dx, fs, rfl, _⟩ := h
    rfl
  · obtain ⟨x, dx, fs, rfl, hx, k⟩ := h
    refine ⟨_, PSs.nox (pss_one (ps_if (pt_not (pt_val (pe_callB (C8.call_isC O.iT) (by rfl) T.isi boot_isinstance (pa_cons (pv 0) (pa_cons (pe_glob (v := .ref CT) (by rfl) O.gT rfl) pa_nil))))) pss_never pss_nil)), ?_⟩
    refine ⟨_, rfl, x, dx, fs, rfl, hx, _, rfl, ?_⟩
    exact iteF k
theorem scLowest : FnScope ["vector", "wholes", "both", "whole"] ["vector"] (defScope sLowest) := ⟨rfl, rfl, rfl, by decide +kernel, rfl, by decide +kernel, by decide +kernel⟩
theorem ok_lowest (F : FnP K "vec_lowest" sLowest f fd2) : FnOk P w K mg base CX0 1 f fd2 ["vector"] spLowest := by
  refine F.ok scLowest (fun vs H Q E h => ?_) (fun cdv A outer s H vs Q E hr h => ?_)
  · obtain ⟨v, ws, n, rfl, _⟩ := h
    rfl
  · obtain ⟨v, ws, n, rfl, hv, hw, k⟩ := h
    refine ⟨_, PSs.nox (pss_cons (ps_asg (pv 0) (pg_tup rfl (pgs_cons (pg_name (i := 1) scLowest.nd rfl (.inl rfl)) (pgs_cons (pg_name (i := 2) scLowest.nd rfl (.inr rfl)) pgs_nil))))
      (pss_cons (ps_for PassesOwn.never rfl (pi_tup (pv 1)) (pg_name (i := 3) scLowest.nd rfl (Or.inl rfl)) (pss_cons (ps_if (pt_cmpR op_eq (pv 2) pe_int (nomark _)) (pss_one (ps_ret (pv 0))) pss_nil) pss_never)) pss_never)), ?_⟩
    refine ⟨_, rfl, v, _, rfl, SqT.of hv, rfl, _, _, rfl, _, _, rfl, rfl, ?_⟩
    refine ⟨_, rfl, ws, rfl, ⟨_, SqT.of hw⟩, ?_⟩
    refine for_tup (K := K) (a := ws) (xs := [V.int n]) (fun i σ G => i = 0 ∧ G = H ∧ σ = [some (.ref v), some (.ref ws), some (.int 1), none]) ⟨rfl, rfl, rfl⟩ (fun i σ G _ q => by rw [q.2.1]; exact SqT.of hw) ?_ ?_
    · rintro i y σ G hi ⟨rfl, rfl, rfl⟩
      cases hi
      refine ⟨_, rfl, rfl, _, rfl, ?_⟩
      refine iteT ?_
      exact ⟨_, rfl, k⟩
    · rintro σ G ⟨h0, _⟩
      cases h0
theorem scNumI : FnScope ["self", "tower", "parts", "known"] ["self", "tower", "parts", "known"] (defScope sNumI) := ⟨rfl, rfl, rfl, by decide +kernel, rfl, by decide +kernel, by decide +kernel⟩
theorem ok_numI (FW : FnP K "need_tower" sNeedT fW fdW) (FL : FnP K "vec_lowest" sLowest fL fdL) (gW : mg "need_tower" = some (.ref fW)) (gL : mg "vec_lowest" = some (.ref fL)) (T : Txt K mg) (O : Obj2 K mg CT CN fT fN pE dT dN) :
    FnOk P w K mg base CX0 2 fN dN ["self", "tower", "parts", "known"] (spNumI CT CN) := by
  have GW : FnOk P w K mg base CX0 1 fW fdW ["value"] (spNeedT CT) := ok_needt FW T O
  have bW : Binds K fdW ["value"] [] := FW.bindsN fun _ _ _ _ _ _ us hl => match us, hl with | [_], _ => rfl
  have GL : FnOk P w K mg base CX0 1 fL fdL ["vector"] spLowest := ok_lowest FL
  have bL : Binds K fdL ["vector"] [] := FL.bindsN fun _ _ _ _ _ _ us hl => match us, hl with | [_], _ => rfl
  refine O.FN.ok scNumI (fun vs H Q E h => ?_) (fun cdv A outer s H vs Q E hr h => ?_)
  · obtain ⟨x, dx, t, dt, fs, pp, v, ws, n, rfl, _⟩ := h
    rfl
  · obtain ⟨x, dx, t, dt, fs, pp, v, ws, n, rfl, hx, ht, hv, hw, k⟩ := h
    refine ⟨_, PSs.nox (pss_cons (ps_expr (pe_call GW hr (by rfl) gW FW.kp bW .nil pass0 (pa_cons (pv 1) pa_nil)))
      (pss_cons (ps_if (PW.pt (pw_and (pt_cmpR op_isN (pv 3) pe_non (nomark _)) (pw_and1 pt_never))) pss_never pss_nil)
      (pss_cons (ps_fld (pv 0) (pv 1) rfl)
      (pss_one (ps_fld (pv 0) (pe_ifExp (pt_cmpR op_isN (pv 3) pe_non (nomark _)) pe_never (pe_call GL hr (by rfl) gL FL.kp bL .nil pass0 (pa_cons (pv 3) pa_nil))) rfl))))), ?_⟩
    refine ⟨_, rfl, t, dt, fs, rfl, ht, ?_⟩
    refine ⟨_, rfl, rfl, _, rfl, ?_⟩
    refine iteF ?_
    refine iteF ?_
    refine ⟨_, rfl, _, rfl, x, CN, dx, _, rfl, hx, O.cN, O.n3, by decide, ?_⟩
    have nv : v ≠ x := ne_of hv hx (by intro z; cases z)
    have nw : ws ≠ x := ne_of hw hx (by intro z; cases z)
    refine ⟨_, rfl, rfl, _, rfl, ?_⟩
    refine iteF ?_
    refine ⟨_, rfl, v, ws, n, rfl, by rw [upd_ne nv]; exact hv, by rw [upd_ne nw]; exact hw, ?_⟩
    refine ⟨_, rfl, x, CN, dx, _, rfl, upd_same, O.cN, O.n4, by show (1 : Nat) < 1000; decide, ?_⟩
    exact k _ _ ((Kp.upd (by simp)).trans (Kp.upd (by simp))) upd_same
theorem scFrac : FnScope ["n", "d"] ["n", "d"] (defScope sFrac) := ⟨rfl, rfl, rfl, by decide +kernel, rfl, by decide +kernel, by decide +kernel⟩
/-- a new instance, made: all is as it was -/
theorem made_same {H H' : Hp} {x dx C : Addr} (nx : H x = none) (ndx : H dx = none) (ne : dx ≠ x) (k : Kp [x] (L2.upd (L2.upd H dx (.own x)) x (.ins C dx [])) H') : Same H H' := fun b o e => by
  have n1 : b ≠ x := ne_of_none e nx
  have n2 : b ≠ dx := ne_of_none e ndx
  refine k b o ?_ (by simp [n1])
  rw [upd_ne n1, upd_ne n2]
  exact e
theorem ok_frac (F : FunD K "fraction" "fraction" (defArgs sFrac) (defBody sFrac) (defScope sFrac) [.int 1] [] f fd2) (FI : FnP K "is_whole" sWhole fI fdI) (FR : FnP K "rows_of" sRowsOf fR fdR) (FW : FnP K "need_tower" sNeedT fW fdW) (FL : FnP K "vec_lowest" sLowest fL fdL)
    (gI : mg "is_whole" = some (.ref fI)) (gR : mg "rows_of" = some (.ref fR)) (gW : mg "need_tower" = some (.ref fW)) (gL : mg "vec_lowest" = some (.ref fL)) (T : Txt K mg) (O : Obj2 K mg CT CN fT fN pE dT dN) :
    FnOk P w K mg base CX0 4 f fd2 ["n", "d"] spFrac := by
  have GI : FnOk P w K mg base CX0 1 fI fdI ["value"] (spWhole K) := ok_whole FI T
  have bI : Binds K fdI ["value"] [] := FI.bindsN fun _ _ _ _ _ _ us hl => match us, hl with | [_], _ => rfl
  have GT : FnOk P w K mg base CX0 2 fT dT ["self", "squares", "known"] (spTowI CT pE) := ok_towI FR gR T O
  have GN : FnOk P w K mg base CX0 2 fN dN ["self", "tower", "parts", "known"] (spNumI CT CN) := ok_numI FW FL gW gL T O
  obtain ⟨dsT, vT, bT⟩ := O.FT.binds1 (ps := ["self", "squares", "known"]) 1 0 (by simp) rfl fun T kV doc pm an cdv ct us its l1 l2 => match us, its, l1, l2 with | [_], [_, _], _, _ => ⟨_, rfl, rfl⟩
  obtain ⟨dsN, vN, bN⟩ := O.FN.binds1 (ps := ["self", "tower", "parts", "known"]) 4 1 (by simp) rfl fun T kV doc pm an cdv ct us its l1 l2 => match us, its, l1, l2 with | [_, _, _, _], [_], _, _ => ⟨_, rfl, rfl⟩
  refine F.ok scFrac (fun vs H Q E h => ?_) (fun cdv A outer s H vs Q E hr h => ?_)
  · obtain ⟨n, rfl, _⟩ := h
    rfl
  · obtain ⟨n, rfl, k⟩ := h
    have hr1 := hr.mono (show 1 ≤ 3 by decide)
    refine ⟨_, PSs.nox (pss_cons (ps_if (PW.pt (pw_or (pt_not (pt_val (pe_call GI hr1 (by rfl) gI FI.kp bI .nil pass0 (pa_cons (pv 0) pa_nil)))) (pw_or (pt_not (pt_val (pe_call GI hr1 (by rfl) gI FI.kp bI .nil pass0 (pa_cons (pv 1) pa_nil))))
        (pw_or1 (pt_cmpR op_lt (pv 1) pe_int (nomark _)))))) pss_never pss_nil)
      (pss_one (ps_ret (pe_make O.kN GN hr (by rfl) O.gN bN vN pass0 (pa_cons (pe_make0 O.kT GT hr (by rfl) O.gT bT vT pass0) (pa_cons (pe_tup pa_nil) (pa_cons (pe_tup (pa_cons (pe_tup (pa_cons (pv 0) pa_nil)) (pa_cons (pv 1) pa_nil))) pa_nil))))))), ?_⟩
    refine ⟨_, rfl, .int n, true, false, rfl, Kind.int n, _, rfl, ?_⟩
    refine iteF ?_
    refine ⟨_, rfl, .int 1, true, false, rfl, Kind.int 1, _, rfl, ?_⟩
    refine iteF ?_
    refine ⟨_, rfl, _, _, rfl, rfl, _, rfl, ?_⟩
    refine iteF ?_
    intro x dx nx ndx ne
    refine ⟨x, dx, rfl, upd_same, fun H1 fs1 k1 h1 => ⟨rfl, ?_⟩⟩
    have s1 := made_same nx ndx ne k1
    refine ⟨(by show 0 ≤ sizeLine; decide), fun pp npp => ?_⟩
    have s2 := same_upd (o := .tup []) npp
    refine ⟨_, rfl, (by show 1 ≤ sizeLine; decide), fun ws nws => ⟨_, rfl, (by show 2 ≤ sizeLine; decide), fun v nv => ?_⟩⟩
    have s3 := same_upd (o := .tup [.int n]) nws
    have s4 := same_upd (o := .tup [.ref ws, .int 1]) nv
    intro y dy ny ndy ne2
    have keep : ∀ {b : Addr} {o : HO} {H0 : Hp}, H0 b = some o → H0 y = none → H0 dy = none → (L2.upd (L2.upd H0 dy (.own y)) y (.ins CN dy [])) b = some o := fun {b o H0} e n1 n2 => by
      rw [upd_ne (ne_of_none e n1), upd_ne (ne_of_none e n2)]
      exact e
    refine ⟨y, dy, x, dx, fs1, pp, v, ws, n, rfl, upd_same, keep (s4 _ _ (s3 _ _ (s2 _ _ h1))) ny ndy, keep upd_same ny ndy, keep (s4 _ _ upd_same) ny ndy, fun H2 fs2 k2 _ => ⟨rfl, ?_⟩⟩
    exact k y H2 ((((s1.trans s2).trans s3).trans s4).trans (made_same ny ndy ne2 k2))
theorem scSheet : FnScope ["zero", "one", "two"] [] (defScope sSheet) := ⟨rfl, rfl, rfl, by decide +kernel, rfl, by decide +kernel, by decide +kernel⟩
theorem ok_sheet (F : FnP K "sheet" sSheet f fd2) {fF : Addr} {fdF : FuncData} (FF : FunD K "fraction" "fraction" (defArgs sFrac) (defBody sFrac) (defScope sFrac) [.int 1] [] fF fdF) (FI : FnP K "is_whole" sWhole fI fdI) (FR : FnP K "rows_of" sRowsOf fR fdR) (FW : FnP K "need_tower" sNeedT fW fdW) (FL : FnP K "vec_lowest" sLowest fL fdL)
    (gF : mg "fraction" = some (.ref fF)) (gI : mg "is_whole" = some (.ref fI)) (gR : mg "rows_of" = some (.ref fR)) (gW : mg "need_tower" = some (.ref fW)) (gL : mg "vec_lowest" = some (.ref fL)) (T : Txt K mg) (O : Obj2 K mg CT CN fT fN pE dT dN) :
    FnOk P w K mg base CX0 5 f fd2 [] spSheet := by
  have GF : FnOk P w K mg base CX0 4 fF fdF ["n", "d"] spFrac := ok_frac FF FI FR FW FL gI gR gW gL T O
  obtain ⟨ds, vD, bF⟩ := FF.binds1 (ps := ["n", "d"]) 1 0 (by simp) rfl fun T kV doc pm an cdv ct us its l1 l2 => match us, its, l1, l2 with | [_], [_], _, _ => ⟨_, rfl, rfl⟩
  refine F.ok scSheet (fun vs H Q E h => ?_) (fun cdv A outer s H vs Q E hr h => ?_)
  · obtain ⟨rfl, _⟩ := h
    rfl
  · obtain ⟨rfl, k⟩ := h
    refine ⟨_, PSs.nox (pss_cons (ps_par3 (i := 0) (j := 1) (l := 2) rfl scSheet.nd rfl rfl rfl (by decide) (by decide) (by decide) rfl rfl rfl (pa_cons (pe_call GF hr (by rfl) gF FF.kp bF vD pass0 (pa_cons pe_int pa_nil)) (pa_cons (pe_call GF hr (by rfl) gF FF.kp bF vD pass0 (pa_cons pe_int pa_nil)) (pa_cons (pe_call GF hr (by rfl) gF FF.kp bF vD pass0 (pa_cons pe_int pa_nil)) pa_nil))) rfl)
      (pss_one (ps_ret (pe_disp (pps_cons pe_str (pe_tup (pa_cons (pv 0) (pa_cons (pv 0) pa_nil))) (pps_cons pe_str (pe_tup (pa_cons (pv 1) (pa_cons (pv 0) pa_nil))) (pps_cons pe_str (pe_tup (pa_cons (pv 2) (pa_cons (pv 0) pa_nil)))
        (pps_cons pe_str (pe_tup (pa_cons (pv 0) (pa_cons (pv 1) pa_nil))) (pps_cons pe_str (pe_tup (pa_cons (pv 0) (pa_cons (pv 2) pa_nil))) pps_nil))))) (by rfl) (by rfl) (fun z => by cases z) (by decide))))), ?_⟩
    refine ⟨0, rfl, fun v0 H1 s1 => ⟨1, rfl, fun v1 H2 s2 => ⟨2, rfl, fun v2 H3 s3 => ⟨_, _, _, rfl, ?_⟩⟩⟩⟩
    intro d nd
    have two : (2 : Nat) ≤ sizeLine := by decide
    refine ⟨_, rfl, _, rfl, two, fun t1 n1 => ⟨_, rfl, _, rfl, two, fun t2 n2 => ⟨_, rfl, _, rfl, two, fun t3 n3 => ⟨_, rfl, _, rfl, two, fun t4 n4 => ⟨_, rfl, _, rfl, two, fun t5 n5 => ?_⟩⟩⟩⟩⟩
    have e0 := same_upd (o := .dK []) nd
    have e1 := same_upd (o := .tup [.ref v0, .ref v0]) n1
    have e2 := same_upd (o := .tup [.ref v1, .ref v0]) n2
    have e3 := same_upd (o := .tup [.ref v2, .ref v0]) n3
    have e4 := same_upd (o := .tup [.ref v0, .ref v1]) n4
    have e5 := same_upd (o := .tup [.ref v0, .ref v2]) n5
    have all := (((e1.trans e2).trans e3).trans e4).trans e5
    refine ⟨all _ _ upd_same, (SHEET.map Sum.inr).zip [.ref t1, .ref t2, .ref t3, .ref t4, .ref t5], rfl, by show 5 ≤ 15; decide, ?_⟩
    refine k d [.ref t1, .ref t2, .ref t3, .ref t4, .ref t5] _ (((s1.trans s2).trans s3).trans fun b o e => ?_) (((s1.trans s2).trans s3).free nd) rfl ?_
    · rw [upd_ne (ne_of_none e nd)]
      exact all _ _ (e0 _ _ e)
    · rw [upd_same]
      kernel_rfl
end
end Own
set_option Elab.async false
set_option linter.all false
set_option maxRecDepth 100000
set_option maxHeartbeats 400000
namespace Own
open PySem PySem.Spec PyProof.Rows L2 LamX
/-! ### names and deeds -/
/-- the module's two tables -/
structure Dct (K : PySem.W.Frag) (w : World) (mg : Str → Option Value) : Prop where
  forms : ∃ p es n, mg "FORMS" = some (.ref p) ∧ KDict K w p es n ∧ ∀ t ∈ FORM, ∃ q, PySem.W.nsIn K p t.1 = some (some (.ref q)) ∧ ∀ H, SqT K H q [.int t.2.1, .int t.2.2]
  others : ∃ p es n, mg "OTHERS" = some (.ref p) ∧ KDict K w p es n ∧ ∀ t ∈ FORM, (∃ z u, OTHL.lookup t.1 = some z ∧ PySem.W.nsIn K p t.1 = some (some (.str z u))) ∨ (OTHL.lookup t.1 = none ∧ PySem.W.nsIn K p t.1 = some none)
def signs (z : Str) : List V := z.cps.toList.map fun c => V.str ⟨#[c]⟩
theorem walk_signs {z : Str} : Walk (Its z) (signs z).length (fun _ => True) (YAt (signs z)) := by
  have e : (signs z).length = z.cps.size := by unfold signs; rw [List.length_map, Array.length_toList]
  rw [e]
  refine walk_str.mono (fun _ h => h) fun i H x H' hi _ y => ?_
  obtain ⟨e1, c, hc, rfl⟩ := y
  refine ⟨e1, ?_⟩
  unfold signs
  rw [List.getElem?_map, Array.getElem?_toList, hc]
  rfl
theorem cut_mid {xs : List V} {i j : Nat} (hj : j ≤ xs.length) (hi : i ≤ j) : cutV xs (some (i : Int)) (some (j : Int)) = (xs.drop i).take (j - i) := by
  show (xs.drop (HT.sIx xs.length 0 (some (i : Int)))).take (HT.sIx xs.length xs.length (some (j : Int)) - HT.sIx xs.length 0 (some (i : Int))) = _
  rw [HT.sIx_nat, HT.sIx_nat, Nat.min_eq_left hj, Nat.min_eq_left (by omega)]
theorem fok_name {z : Str} (h : NameOk z) : fok (.str z) = true := by
  show z.cps.all (· < 0x110000) = true
  rw [← Array.all_toList, List.all_eq_true]
  intro c hc
  have h1 : ∀ c ∈ LEDI, c < 0x110000 := by decide +kernel
  exact decide_eq_true (h1 c (h.2.2.2 c hc))
theorem fok_names {ns : List Str} (h : ∀ z ∈ ns, NameOk z) : (ns.map V.str).all fok = true := by
  rw [List.all_map, List.all_eq_true]
  exact fun z hz => fok_name (h z hz)
def spName : Sp := fun vs H Q _ => ∃ z : Str, vs = [.str z] ∧ NameOk z ∧ ∀ H', Same H H' → Q (.bl true) H'
def spDeed : Sp := fun vs H Q _ => ∃ (a : Addr) (d : Deed), vs = [.ref a] ∧ H a = some (.tup d.vs) ∧ DeedOk d ∧ ∀ H', Same H H' → Q (.bl true) H'
def spNeedD : Sp := fun vs H Q _ => ∃ (a : Addr) (d : Deed), vs = [.ref a] ∧ H a = some (.tup d.vs) ∧ DeedOk d ∧ ∀ H', Same H H' → Q .non H'
def spNames : Sp := fun vs H Q _ => ∃ (a : Addr) (d : Deed), vs = [.ref a] ∧ H a = some (.tup d.vs) ∧ DeedOk d ∧ ∀ p H', Same H H' → H' p = some (.tup ((once d.names).map V.str)) → Q (.ref p) H'
def spTool : Sp := fun vs H Q _ => ∃ (a : Addr) (d : Deed), vs = [.ref a] ∧ H a = some (.tup d.vs) ∧ DeedOk d ∧ ∀ H', Same H H' → Q (.str (toolS d.word)) H'
theorem deed_head (d : Deed) : atI d.vs (0 : Int) = some (.str d.word) := at_nat (k := 0) rfl
theorem deed_len (d : Deed) : d.vs.length = 1 + d.names.length + d.way.length := by
  unfold Deed.vs
  rw [List.length_cons, List.length_append, List.length_map, List.length_map]
  omega
theorem deed_names {d : Deed} {m : Nat} (h : d.names.length = m) : cutV d.vs (some 1) (some (1 + (m : Int))) = d.names.map V.str := by
  have e : (1 + (m : Int)) = ((1 + m : Nat) : Int) := by omega
  rw [e]
  have := cut_mid (xs := d.vs) (i := 1) (j := 1 + m) (by rw [deed_len]; omega) (by omega)
  have e1 : ((1 : Nat) : Int) = 1 := rfl
  rw [e1] at this
  rw [this]
  unfold Deed.vs
  rw [List.drop_succ_cons, List.drop_zero, Nat.add_sub_cancel_left, ← h]
  exact List.take_left' (by rw [List.length_map])
theorem deed_notwhole {d : Deed} {j : Option Int} : ¬ (HT.sIx d.vs.length 0 (some 1) = 0 ∧ HT.sIx d.vs.length d.vs.length j = d.vs.length) := by
  rintro ⟨h, _⟩
  have e : HT.sIx d.vs.length 0 (some ((1 : Nat) : Int)) = min 1 d.vs.length := HT.sIx_nat _ _ _
  have l := deed_len d
  have h' : HT.sIx d.vs.length 0 (some ((1 : Nat) : Int)) = 0 := h
  omega
section
variable {P : Program} {w : World} {K : PySem.W.Frag} {mg : Str → Option Value} {base : Heap} {f fN fI fD : Addr} {fd2 fdN fdI fdD : FuncData}
theorem scName : FnScope ["value", "mark"] ["value"] (defScope sName) := ⟨rfl, rfl, rfl, by decide +kernel, rfl, by decide +kernel, by decide +kernel⟩
theorem ok_name (F : FnP K "is_name" sName f fd2) (T : Txt K mg) (C : Cst K mg) : FnOk P w K mg base CX0 1 f fd2 ["value"] spName := by
  obtain ⟨tl, hl⟩ := C.letters
  obtain ⟨td, hd⟩ := C.digits
  refine F.ok scName (fun vs H Q E h => ?_) (fun cdv A outer s H vs Q E hr h => ?_)
  · obtain ⟨z, rfl, _⟩ := h
    rfl
  · obtain ⟨z, rfl, hz, k⟩ := h
    refine ⟨_, PSs.nox (pss_cons (ps_if (PW.pt (pw_or (pt_not (pt_val (pe_callB call_isi (by rfl) T.isi boot_isinstance (pa_cons (pv 0) (pa_cons (pe_bltn (v := .ty "str") (by rfl) T.str (by decide +kernel) rfl) pa_nil)))))
        (pw_or (pt_cmpR op_eq (pv 0) pe_str (nomark _)) (pw_or1 (pt_cmpR op_gt (pe_callB call_len_str (by rfl) T.len PySem.boot_len (pa_cons (pv 0) pa_nil)) pe_int (nomark _)))))) (pss_one (ps_ret pe_bl)) pss_nil)
      (pss_one (ps_ret (pe_and (pe_cmpR op_in_sign (pe_ix ix_str (pv 0) pe_int (fun _ _ => rfl)) (pe_glob (v := .str "abcdefghijklmnopqrstuvwxyz") (by rfl) hl ⟨_, rfl⟩) (by rfl))
        (pe_one (pe_cmpR (op_eqD hr.units) (pe_lc (own := [("mark", 1)]) (g := gName 1) (by rfl) scName.nd (pi_str (pv 0)) (blkOk_by (own := [("mark", 1)]) (N := ["value", "mark"]) (sc := defScope sName) (by decide +kernel))
          (fun _ _ _ _ _ => pg_name (i := 1) scName.nd rfl (Or.inl rfl)) (fun _ _ _ _ _ => pts_one (pt_cmpR op_notIn_sign (pv 1) (pe_op op_add_str (pe_glob (v := .str "abcdefghijklmnopqrstuvwxyz") (by rfl) hl ⟨_, rfl⟩) (pe_glob (v := .str "0123456789") (by rfl) hd ⟨_, rfl⟩)) (by rfl))) (fun _ _ _ _ _ => pv 1)) (pe_lst pa_nil) (nomark _))))))), ?_⟩
    obtain ⟨z1, z2, z3, z4⟩ := id hz
    have zl : z.length ≤ sizeLine := Nat.le_trans z1 (by decide)
    refine ⟨_, rfl, .str z, .ty "str", .type "str", .type "str", true, rfl, .ty _, .base (.str z), kit_ty (by decide +kernel), true, rfl, ?_⟩
    refine iteF ?_
    refine ⟨_, rfl, rfl, _, rfl, ?_⟩
    rw [decStr, decide_eq_false z2]
    refine iteF ?_
    refine ⟨_, rfl, z, rfl, zl, _, _, rfl, rfl, _, rfl, ?_⟩
    have e8 : decide ((8 : Int) < ((z.length : Nat) : Int)) = false := decide_eq_false (by omega)
    rw [e8]
    refine iteF ?_
    obtain ⟨c, r, ec⟩ : ∃ c r, z.cps.toList = c :: r := by
      cases e : z.cps.toList with
      | nil =>
        exfalso
        apply z2
        exact TL.ext_tl e
      | cons c r => exact ⟨c, r, rfl⟩
    have hc : c ∈ LET := z3 c (by rw [ec]; rfl)
    refine ⟨_, rfl, z, _, c, rfl, rfl, zl, ?_, ⟨c, _, rfl, rfl, true, ?_, ?_⟩⟩
    · rw [ec]
      exact atI_nat (j := 0) rfl
    · have e1 : decide (c ∈ ("abcdefghijklmnopqrstuvwxyz" : Str).cps.toList) = true := decide_eq_true hc
      rw [e1]
    refine iteT ?_
    refine ⟨_, rfl, z, rfl, fun D nD => ?_⟩
    have sl : (signs z).length < sizeLine := by
      have e : (signs z).length = z.length := by unfold signs; rw [List.length_map]; rfl
      rw [e]
      exact Nat.lt_of_le_of_lt z1 (by decide)
    refine lc_filt (p := fun _ => false) walk_signs nD sl (fun _ _ => trivial) (by show 1 < 2; decide) (fun x H' hx _ R kR => ?_) fun H' sH eD => ?_
    · obtain ⟨c, hc, rfl⟩ := List.mem_map.mp hx
      refine ⟨_, rfl, _, _, rfl, rfl, by decide, ⟨c, _, rfl, rfl, _, rfl, ?_⟩⟩
      have e1 : decide (c ∈ ("abcdefghijklmnopqrstuvwxyz" ++ "0123456789" : Str).cps.toList) = true := decide_eq_true (z4 c hc)
      rw [e1]
      exact kR H' (Same.refl _)
    · rw [List.filter_eq_nil_iff.mpr (fun _ _ => by simp)] at eD
      exact tail_eq eD rfl fun H'' s2 => k H'' (sH.trans s2)
theorem scDeed : FnScope ["value", "many", "ways", "name"] ["value"] (defScope sDeed) := ⟨rfl, rfl, rfl, by decide +kernel, rfl, by decide +kernel, by decide +kernel⟩
theorem ok_deed (F : FnP K "is_deed" sDeed f fd2) (FN : FnP K "is_name" sName fN fdN) (FI : FnP K "is_whole" sWhole fI fdI) (gN : mg "is_name" = some (.ref fN)) (gI : mg "is_whole" = some (.ref fI)) (T : Txt K mg) (C : Cst K mg) (W : Dct K w mg) : FnOk P w K mg base CX0 2 f fd2 ["value"] spDeed := by
  have GN : FnOk P w K mg base CX0 1 fN fdN ["value"] spName := ok_name FN T C
  have bN : Binds K fdN ["value"] [] := FN.bindsN fun _ _ _ _ _ _ us hl => match us, hl with | [_], _ => rfl
  have GI : FnOk P w K mg base CX0 1 fI fdI ["value"] (spWhole K) := ok_whole FI T
  have bI : Binds K fdI ["value"] [] := FI.bindsN fun _ _ _ _ _ _ us hl => match us, hl with | [_], _ => rfl
  obtain ⟨pf, es, n0, hpf, DF, atF⟩ := W.forms
  refine F.ok scDeed (fun vs H Q E h => ?_) (fun cdv A outer s H vs Q E hr h => ?_)
  · obtain ⟨a, d, rfl, _⟩ := h
    rfl
  · obtain ⟨a, d, rfl, ha, ok, k⟩ := h
    refine ⟨_, PSs.nox (pss_cons (ps_if (PW.pt (pw_or (pt_not (pt_val (pe_callB call_isi (by rfl) T.isi boot_isinstance (pa_cons (pv 0) (pa_cons (pe_bltn (v := .ty "tuple") (by rfl) T.tuple (by decide +kernel) rfl) pa_nil)))))
        (pw_or (pt_cmpR op_eq (pe_callB call_len_seq (by rfl) T.len PySem.boot_len (pa_cons (pv 0) pa_nil)) pe_int (nomark _)) (pw_or1 (pt_not (pt_val (pe_callB call_isi (by rfl) T.isi boot_isinstance (pa_cons (pe_ix ix_tup (pv 0) pe_int (fun _ _ => rfl)) (pa_cons (pe_bltn (v := .ty "str") (by rfl) T.str (by decide +kernel) rfl) pa_nil))))))))) (pss_one (ps_ret pe_bl)) pss_nil)
      (pss_cons (ps_if (pt_cmpR (op_notIn_kd DF) (pe_ix ix_tup (pv 0) pe_int (fun _ _ => rfl)) (pe_glob (v := .ref pf) (by rfl) hpf rfl) (by rfl)) (pss_one (ps_ret pe_bl)) pss_nil)
      (pss_cons (ps_asg (pe_ix ix_kdict (pe_glob (v := .ref pf) (by rfl) hpf rfl) (pe_ix ix_tup (pv 0) pe_int (fun _ _ => rfl)) (fun _ _ => rfl)) (pg_tup rfl (pgs_cons (pg_name (i := 1) scDeed.nd rfl (.inl rfl)) (pgs_cons (pg_name (i := 2) scDeed.nd rfl (.inl rfl)) pgs_nil))))
      (pss_cons (ps_if (pt_cmpR op_ne (pe_callB call_len_seq (by rfl) T.len PySem.boot_len (pa_cons (pv 0) pa_nil)) (pe_op op_add (pe_op op_add pe_int (pv 1)) (pv 2)) (nomark _)) (pss_one (ps_ret pe_bl)) pss_nil)
      (pss_cons (ps_if (pt_cmpR (op_neD hr.units) (pe_lc (own := [("name", 3)]) (g := gName 3) (by rfl) scDeed.nd (pi_tup (pe_slice sl_tup (pv 0) (po_some pe_int) (po_some (pe_op op_add pe_int (pv 1))))) (blkOk_by (own := [("name", 3)]) (N := ["value", "many", "ways", "name"]) (sc := defScope sDeed) (by decide +kernel))
          (fun _ _ _ _ _ => pg_name (i := 3) scDeed.nd rfl (Or.inl rfl)) (fun _ _ _ _ _ => pts_one (pt_not (pt_val (pe_call GN hr (by rfl) gN FN.kp bN .nil pass0 (pa_cons (pv 3) pa_nil))))) (fun _ _ _ _ _ => pv 3)) (pe_lst pa_nil) (nomark _)) (pss_one (ps_ret pe_bl)) pss_nil)
      (pss_one (ps_ret (pe_or (pe_cmpR op_eq (pv 2) pe_int (nomark _)) (pe_one (pe_and (pe_call GI hr (by rfl) gI FI.kp bI .nil pass0 (pa_cons (pe_ix ix_tup (pv 0) (pe_op op_add pe_int (pv 1)) (fun _ _ => rfl)) pa_nil))
        (pe_one (pe_chain op_le op_le pe_int (pe_ix ix_tup (pv 0) (pe_op op_add pe_int (pv 1)) (fun _ _ => rfl)) pe_int)))))))))))), ?_⟩
    obtain ⟨m, kk, hm, nm, okN, nk, okW⟩ := id ok
    have hs : SqT K H a d.vs := SqT.of ha
    obtain ⟨f1, f2, f3, f4⟩ := form_facts _ hm
    obtain ⟨q, hq, sq⟩ := atF _ hm
    have dl := deed_len d
    refine ⟨_, rfl, .ref a, .ty "tuple", .type "tuple", .type "tuple", true, rfl, .ty _, .base (.tup ha), kit_ty (by decide +kernel), true, rfl, ?_⟩
    refine iteF ?_
    refine ⟨_, rfl, a, _, rfl, .inr hs, rfl, _, rfl, ?_⟩
    have e0 : decide (V.int ((d.vs.length : Nat) : Int) = V.int 0) = false := decide_eq_false (by simp only [V.int.injEq]; omega)
    rw [e0]
    refine iteF ?_
    refine ⟨_, rfl, a, _, _, _, rfl, rfl, hs, deed_head d, .str d.word, .ty "str", .type "str", .type "str", true, rfl, .ty _, .base (.str _), kit_ty (by decide +kernel), true, rfl, ?_⟩
    refine iteF ?_
    refine ⟨_, rfl, a, _, _, _, rfl, rfl, hs, deed_head d, d.word, _, rfl, rfl, hq, _, rfl, ?_⟩
    refine iteF ?_
    refine ⟨_, rfl, a, _, _, _, rfl, rfl, hs, deed_head d, pf, d.word, .ref q, rfl, rfl, ⟨es, n0, _, DF.at_, DF.lit, hq, rfl⟩, ?_⟩
    refine ⟨q, _, rfl, sq H, rfl, _, _, rfl, _, _, rfl, rfl, ?_⟩
    refine ⟨_, rfl, a, _, rfl, .inr hs, _, rfl, _, _, rfl, rfl, _, rfl, _, _, rfl, rfl, rfl, _, rfl, ?_⟩
    have e1 : (!decide (V.int ((d.vs.length : Nat) : Int) = V.int (1 + (m : Int) + (kk : Int)))) = false := by
      rw [decide_eq_true (by simp only [V.int.injEq]; omega)]
      rfl
    rw [e1]
    refine iteF ?_
    refine ⟨_, rfl, _, rfl, _, rfl, _, _, rfl, rfl, _, rfl, a, _, rfl, hs, deed_notwhole, fun p np => ?_⟩
    rw [deed_names nm]
    have s1 := same_upd (o := .tup (d.names.map V.str)) np
    have hl : (d.names.map V.str).length < sizeLine := by
      rw [List.length_map, nm]
      exact Nat.lt_of_le_of_lt f3 (by decide)
    refine any_ne (p := fun _ => false) (SqT.of upd_same) (fok_names okN) hl (by show 3 < 4; decide) (fun x H' hx _ R kR => ?_) fun H1 s2 => ⟨_, rfl, ?_⟩
    · obtain ⟨z, hz, rfl⟩ := List.mem_map.mp hx
      exact ⟨_, rfl, z, rfl, okN z hz, fun H2 s3 => ⟨_, rfl, kR H2 s3⟩⟩
    have e2 : (d.names.map V.str).any (fun _ => false) = false := by simp
    rw [e2]
    refine iteF ?_
    have sA := s1.trans s2
    refine ⟨_, rfl, rfl, _, rfl, ?_⟩
    by_cases hk : kk = 0
    · subst hk
      exact iteT (k H1 sA)
    · have e3 : decide (V.int (kk : Int) = V.int 0) = false := decide_eq_false (by simp only [V.int.injEq]; omega)
      rw [e3]
      refine iteF ?_
      have f4' : kk ≤ 1 := f4
      have k1 : kk = 1 := by omega
      subst k1
      obtain ⟨z, ew⟩ : ∃ z, d.way = [z] := by
        match hw : d.way, nk with
        | [z], _ => exact ⟨z, rfl⟩
      have hz := okW z (by rw [ew]; exact List.mem_cons_self)
      have e4 : (1 + (m : Int)) = ((1 + m : Nat) : Int) := by omega
      have hat : atI d.vs (1 + (m : Int)) = some (.int z) := by
        rw [e4]
        refine at_nat ?_
        unfold Deed.vs
        rw [show 1 + m = m + 1 by omega, List.getElem?_cons_succ, List.getElem?_append_right (by rw [List.length_map, nm]; exact Nat.le_refl _), List.length_map, nm, Nat.sub_self, ew]
        rfl
      have hs1 : SqT K H1 a d.vs := seqT sA hs
      refine ⟨_, rfl, _, rfl, _, _, rfl, rfl, a, _, _, _, rfl, rfl, hs1, hat, .int z, true, false, rfl, Kind.int z, true, rfl, ?_⟩
      refine iteT ?_
      refine ⟨_, rfl, _, rfl, _, _, rfl, rfl, a, _, _, _, rfl, rfl, hs1, hat, _, _, rfl, rfl, decide (1 ≤ z), rfl, ?_⟩
      rw [decide_eq_true hz.1]
      refine iteT ?_
      refine ⟨_, _, rfl, rfl, ?_⟩
      show Q (.bl (decide (z ≤ 2))) H1
      rw [decide_eq_true hz.2]
      exact k H1 sA
theorem scNeedD : FnScope ["deed"] ["deed"] (defScope sNeedD) := ⟨rfl, rfl, rfl, by decide +kernel, rfl, by decide +kernel, by decide +kernel⟩
theorem ok_needd (F : FnP K "need_deed" sNeedD f fd2) (FD : FnP K "is_deed" sDeed fD fdD) (FN : FnP K "is_name" sName fN fdN) (FI : FnP K "is_whole" sWhole fI fdI) (gD : mg "is_deed" = some (.ref fD)) (gN : mg "is_name" = some (.ref fN)) (gI : mg "is_whole" = some (.ref fI)) (T : Txt K mg) (C : Cst K mg) (W : Dct K w mg) :
    FnOk P w K mg base CX0 3 f fd2 ["deed"] spNeedD := by
  have GD : FnOk P w K mg base CX0 2 fD fdD ["value"] spDeed := ok_deed FD FN FI gN gI T C W
  have bD : Binds K fdD ["value"] [] := FD.bindsN fun _ _ _ _ _ _ us hl => match us, hl with | [_], _ => rfl
  refine F.ok scNeedD (fun vs H Q E h => ?_) (fun cdv A outer s H vs Q E hr h => ?_)
  · obtain ⟨a, d, rfl, _⟩ := h
    rfl
  · obtain ⟨a, d, rfl, ha, ok, k⟩ := h
    refine ⟨_, PSs.nox (pss_one (ps_if (pt_not (pt_val (pe_call GD hr (by rfl) gD FD.kp bD .nil pass0 (pa_cons (pv 0) pa_nil)))) pss_never pss_nil)), ?_⟩
    exact ⟨_, rfl, a, d, rfl, ha, ok, fun H1 s1 => ⟨_, rfl, iteF (k H1 s1)⟩⟩
theorem scTool : FnScope ["deed"] ["deed"] (defScope sTool) := ⟨rfl, rfl, rfl, by decide +kernel, rfl, by decide +kernel, by decide +kernel⟩
theorem ok_tool {fNd : Addr} {fdNd : FuncData} (F : FnP K "tool_of" sTool f fd2) (FNd : FnP K "need_deed" sNeedD fNd fdNd) (FD : FnP K "is_deed" sDeed fD fdD) (FN : FnP K "is_name" sName fN fdN) (FI : FnP K "is_whole" sWhole fI fdI) (gNd : mg "need_deed" = some (.ref fNd)) (gD : mg "is_deed" = some (.ref fD)) (gN : mg "is_name" = some (.ref fN))
    (gI : mg "is_whole" = some (.ref fI)) (T : Txt K mg) (C : Cst K mg) (W : Dct K w mg) : FnOk P w K mg base CX0 4 f fd2 ["deed"] spTool := by
  have GNd : FnOk P w K mg base CX0 3 fNd fdNd ["deed"] spNeedD := ok_needd FNd FD FN FI gD gN gI T C W
  have bNd : Binds K fdNd ["deed"] [] := FNd.bindsN fun _ _ _ _ _ _ us hl => match us, hl with | [_], _ => rfl
  obtain ⟨po, es, n0, hpo, DO, atO⟩ := W.others
  refine F.ok scTool (fun vs H Q E h => ?_) (fun cdv A outer s H vs Q E hr h => ?_)
  · obtain ⟨a, d, rfl, _⟩ := h
    rfl
  · obtain ⟨a, d, rfl, ha, ok, k⟩ := h
    refine ⟨_, PSs.nox (pss_cons (ps_expr (pe_call GNd hr (by rfl) gNd FNd.kp bNd .nil pass0 (pa_cons (pv 0) pa_nil)))
      (pss_one (ps_ret (pe_getK DO (pe_glob (v := .ref po) (by rfl) hpo rfl) (pa_cons (pe_ix ix_tup (pv 0) pe_int (fun _ _ => rfl)) (pa_cons (pe_ix ix_tup (pv 0) pe_int (fun _ _ => rfl)) pa_nil)))))), ?_⟩
    refine ⟨_, rfl, a, d, rfl, ha, ok, fun H1 s1 => ?_⟩
    have hs : SqT K H1 a d.vs := SqT.of (s1 _ _ ha)
    obtain ⟨m, kk, hm, _⟩ := ok
    refine ⟨rfl, _, rfl, a, _, _, _, rfl, rfl, hs, deed_head d, _, rfl, a, _, _, _, rfl, rfl, hs, deed_head d, d.word, .str d.word, rfl, ?_⟩
    have q := k H1 s1
    unfold toolS at q
    rcases atO _ hm with ⟨z, u, e1, e2⟩ | ⟨e1, e2⟩
    · rw [e1] at q
      exact .inl ⟨_, .str z, e2, ⟨u, rfl⟩, q⟩
    · rw [e1] at q
      exact .inr ⟨e2, q⟩
theorem scNames : FnScope ["deed", "found", "name"] ["deed"] (defScope sNames) := ⟨rfl, rfl, rfl, by decide +kernel, rfl, by decide +kernel, by decide +kernel⟩
theorem once_step (ns : List Str) (i : Nat) (z : Str) (h : ns[i]? = some z) : once (ns.take (i + 1)) = if z ∈ once (ns.take i) then once (ns.take i) else once (ns.take i) ++ [z] := by
  unfold once
  rw [take_snoc h, List.foldl_append]
  rfl
theorem ok_names {fNd : Addr} {fdNd : FuncData} (F : FnP K "names_of" sNames f fd2) (FNd : FnP K "need_deed" sNeedD fNd fdNd) (FD : FnP K "is_deed" sDeed fD fdD) (FN : FnP K "is_name" sName fN fdN) (FI : FnP K "is_whole" sWhole fI fdI) (gNd : mg "need_deed" = some (.ref fNd)) (gD : mg "is_deed" = some (.ref fD)) (gN : mg "is_name" = some (.ref fN))
    (gI : mg "is_whole" = some (.ref fI)) (T : Txt K mg) (C : Cst K mg) (W : Dct K w mg) : FnOk P w K mg base CX0 4 f fd2 ["deed"] spNames := by
  have GNd : FnOk P w K mg base CX0 3 fNd fdNd ["deed"] spNeedD := ok_needd FNd FD FN FI gD gN gI T C W
  have bNd : Binds K fdNd ["deed"] [] := FNd.bindsN fun _ _ _ _ _ _ us hl => match us, hl with | [_], _ => rfl
  obtain ⟨pf, es, nE, hpf, DF, atF⟩ := W.forms
  refine F.ok scNames (fun vs H Q E h => ?_) (fun cdv A outer s H vs Q E hr h => ?_)
  · obtain ⟨a, d, rfl, _⟩ := h
    rfl
  · obtain ⟨a, d, rfl, ha, ok, k⟩ := h
    refine ⟨_, PSs.nox (pss_cons (ps_expr (pe_call GNd hr (by rfl) gNd FNd.kp bNd .nil pass0 (pa_cons (pv 0) pa_nil)))
      (pss_cons (ps_set (i := 1) scNames.nd rfl (.inl rfl) (pe_lst pa_nil))
      (pss_cons (ps_for PassesOwn.never rfl (pi_tup (pe_slice sl_tup (pv 0) (po_some pe_int) (po_some (pe_op op_add pe_int (pe_ix ix_tup (pe_ix ix_kdict (pe_glob (v := .ref pf) (by rfl) hpf rfl) (pe_ix ix_tup (pv 0) pe_int (fun _ _ => rfl)) (fun _ _ => rfl)) pe_int (fun _ _ => rfl)))))) (pg_name (i := 2) scNames.nd rfl (Or.inl rfl))
        (pss_one (ps_if (pt_cmpR op_notIn_seq (pv 2) (pv 1) (by rfl)) (pss_one (ps_expr (pe_bm PySem.F.plainAttrs_list PySem.F.slot_list_append PySem.F.type_list_append mt_append (pv 1) (pa_cons (pv 2) pa_nil)))) pss_nil)))
      (pss_one (ps_ret (pe_tupleOf (by rfl) T.tuple (pv 1))))))), ?_⟩
    refine ⟨_, rfl, a, d, rfl, ha, ok, fun H1 s1 => ?_⟩
    obtain ⟨m, kk, hm, nm, okN, _⟩ := id ok
    obtain ⟨q, hq, sq⟩ := atF _ hm
    obtain ⟨f1, f2, f3, f4⟩ := form_facts _ hm
    refine ⟨(by show 0 ≤ sizeLine; decide), fun l0 n0 => ?_⟩
    have s2 := same_upd (o := .lst []) n0
    generalize hH2 : L2.upd H1 l0 (.lst []) = H2 at s2
    have hl0 : H2 l0 = some (.lst []) := by rw [← hH2, upd_same]
    have hs : SqT K H2 a d.vs := SqT.of (s2 _ _ (s1 _ _ ha))
    refine ⟨_, rfl, _, rfl, _, rfl, a, _, _, _, rfl, rfl, hs, deed_head d, pf, d.word, .ref q, rfl, rfl, ⟨es, nE, _, DF.at_, DF.lit, hq, rfl⟩, q, _, _, _, rfl, rfl, sq H2, at_nat (k := 0) rfl, _, _, rfl, rfl, _, rfl, a, _, rfl, hs, deed_notwhole, fun p np => ?_⟩
    rw [deed_names nm]
    have s3 := same_upd (o := .tup (d.names.map V.str)) np
    have npl : l0 ≠ p := ne_of_none hl0 np
    generalize hH3 : L2.upd H2 p (.tup (d.names.map V.str)) = H3 at s3
    have hp : H3 p = some (.tup (d.names.map V.str)) := by rw [← hH3, upd_same]
    have hl3 := s3 _ _ hl0
    have low := (s1.trans s2).trans s3
    have lz : H l0 = none := s1.free n0
    refine ⟨p, rfl, ⟨_, SqT.of hp⟩, ?_⟩
    refine for_tup (K := K) (a := p) (xs := d.names.map V.str) (fun i σ G => ∃ v2, σ = [some (.ref a), some (.ref l0), v2] ∧ Kp [l0] H3 G ∧ G l0 = some (.lst ((once (d.names.take i)).map V.str))) ⟨none, rfl, Kp.refl _ _, hl3⟩ (fun i σ G _ ⟨_, _, kG, _⟩ => SqT.of (kG _ _ hp (by simp [npl.symm]))) ?_ ?_
    · rintro i y σ G hi ⟨v2, rfl, kG, gl⟩
      rw [List.getElem?_map] at hi
      cases ez : d.names[i]? with
      | none => rw [ez] at hi; cases hi
      | some z =>
        rw [ez] at hi
        cases hi
        refine ⟨_, rfl, _, rfl, l0, _, rfl, .inl (SqL.of gl), rfl, flat_strs _, _, rfl, ?_⟩
        rw [inV_str]
        have eo := once_step d.names i z ez
        by_cases hz : z ∈ once (d.names.take i)
        · rw [if_pos hz] at eo
          rw [decide_eq_true hz]
          refine iteF ?_
          exact ⟨_, rfl, kG, by rw [eo]; exact gl⟩
        · rw [if_neg hz] at eo
          rw [decide_eq_false hz]
          refine iteT ?_
          have len : (once (d.names.take i)).length ≤ 5 := by
            have h1 := once_len (d.names.take i) []
            have h2 : (d.names.take i).length ≤ 5 := by
              rw [List.length_take, nm]
              have f3' : m ≤ 5 := f3
              omega
            have h3 : ([] : List Str).length = 0 := rfl
            unfold once
            omega
          refine ⟨_, rfl, .inl ⟨rfl, _, .inl (.inl gl)⟩, _, rfl, l0, _, _, rfl, rfl, gl, by rw [List.length_map]; exact Nat.lt_of_le_of_lt len (by decide), ?_⟩
          refine ⟨_, rfl, kG.trans (Kp.upd (by simp)), ?_⟩
          rw [upd_same, eo, List.map_append]
          rfl
    · rintro σ G ⟨v2, rfl, kG, gl⟩
      rw [List.length_map, List.take_length] at gl
      refine ⟨_, rfl, .inl ⟨l0, _, rfl, SqL.of gl, fun r nr => ?_⟩⟩
      have s4 := same_upd (o := .tup ((once d.names).map V.str)) nr
      refine k r _ (fun b o e => s4 _ _ (kG _ _ (low _ _ e) ?_)) upd_same
      have : b ≠ l0 := fun z => by rw [z, lz] at e; cases e
      simp [this]
end
end Own
set_option Elab.async false
set_option linter.all false
set_option maxRecDepth 100000
set_option maxHeartbeats 400000
namespace Own
open PySem PySem.Spec PyProof.Rows L2 LamX
/-! ### drawings -/
/-- a step, or None -/
def StepV (H : Hp) (v : V) : Option (Str × Deed) → Prop
  | none => v = .non
  | some (n, d) => ∃ a b, v = .ref a ∧ H a = some (.tup [.str n, .ref b]) ∧ H b = some (.tup d.vs) ∧ NameOk n ∧ DeedOk d
theorem StepV.same {H H' : Hp} {v : V} {o : Option (Str × Deed)} (e : Same H H') (h : StepV H v o) : StepV H' v o := by
  cases o with
  | none => exact h
  | some p =>
    obtain ⟨n, d⟩ := p
    obtain ⟨a, b, h1, h2, h3, h4⟩ := h
    exact ⟨a, b, h1, e _ _ h2, e _ _ h3, h4⟩
theorem drop_at {α : Type} {l : List α} {i : Nat} {x : α} (h : l[i]? = some x) : l.drop i = x :: l.drop (i + 1) := by
  obtain ⟨hlt, hg⟩ := List.getElem?_eq_some_iff.mp h
  rw [List.drop_eq_getElem_cons hlt, hg]
/-- the keys of a dict are these names -/
def KeysAre (kvs : List (Key × V)) (kn : List Str) : Prop := kvs.map (·.1) = kn.map Sum.inr
theorem KeysAre.look {kvs : List (Key × V)} {kn : List Str} (h : KeysAre kvs kn) (z : Str) : (valV kvs (Sum.inr z)).isSome = decide (z ∈ kn) := by
  cases e : valV kvs (Sum.inr z) with
  | none =>
    have := valV_not e
    rw [h] at this
    symm
    refine decide_eq_false fun q => this (List.mem_map.mpr ⟨z, q, rfl⟩)
  | some v =>
    have := valV_in e
    rw [h] at this
    obtain ⟨y, hy, ey⟩ := List.mem_map.mp this
    cases ey
    exact (decide_eq_true hy).symm
theorem KeysAre.put {kvs : List (Key × V)} {kn : List Str} {z : Str} {v : V} (h : KeysAre kvs kn) (n : z ∉ kn) : KeysAre (putK kvs (Sum.inr z) v) (kn ++ [z]) := by
  have e : valV kvs (Sum.inr z) = none := by
    have := h.look z
    rw [decide_eq_false n] at this
    cases q : valV kvs (Sum.inr z) with
    | none => rfl
    | some v => rw [q] at this; cases this
  rw [putK_new v e]
  unfold KeysAre
  rw [List.map_append, h, List.map_append]
  rfl
def spDrawing (K : PySem.W.Frag) : Sp := fun vs H Q _ => ∃ x : V, vs = [x] ∧ ((∃ t : String, (∀ H', Same H H' → TyX K H' x (.type t)) ∧ kitB t "list" = some false ∧ kitB t "tuple" = some false ∧ ∀ H', Same H H' → Q (.bl false) H') ∨
  ∃ a ws os, x = .ref a ∧ H a = some (.lst ws) ∧ F2 (StepV H) ws os ∧ ws.length ≤ 1000 ∧ ∀ H', Same H H' → Q (.bl (drawB SHEET os)) H')
section
variable {P : Program} {w : World} {K : PySem.W.Frag} {mg : Str → Option Value} {base : Heap}
/-- what is_drawing leans on -/
structure DrawFns (K : PySem.W.Frag) (mg : Str → Option Value) (P : Program) (w : World) (base : Heap) (fS fN fD fM : Addr) (dS dN dD dM : FuncData) : Prop where
  GS : FnOk P w K mg base CX0 5 fS dS [] spSheet
  GN : FnOk P w K mg base CX0 1 fN dN ["value"] spName
  GD : FnOk P w K mg base CX0 2 fD dD ["value"] spDeed
  GM : FnOk P w K mg base CX0 4 fM dM ["deed"] spNames
  bS : Binds K dS [] []
  bN : Binds K dN ["value"] []
  bD : Binds K dD ["value"] []
  bM : Binds K dM ["deed"] []
  kS : PySem.W.keepIn K (.ref fS) = true
  kN : PySem.W.keepIn K (.ref fN) = true
  kD : PySem.W.keepIn K (.ref fD) = true
  kM : PySem.W.keepIn K (.ref fM) = true
  gS : mg "sheet" = some (.ref fS)
  gN : mg "is_name" = some (.ref fN)
  gD : mg "is_deed" = some (.ref fD)
  gM : mg "names_of" = some (.ref fM)
theorem scDrawing : FnScope ["value", "known", "step", "name"] ["value"] (defScope sDrawing) := ⟨rfl, rfl, rfl, by decide +kernel, rfl, by decide +kernel, by decide +kernel⟩
theorem ok_drawing {f fS fN fD fM : Addr} {fd2 dS dN dD dM : FuncData} (F : FnP K "is_drawing" sDrawing f fd2) (Z : DrawFns K mg P w base fS fN fD fM dS dN dD dM) (T : Txt K mg) : FnOk P w K mg base CX0 6 f fd2 ["value"] (spDrawing K) := by
  refine F.ok scDrawing (fun vs H Q E h => ?_) (fun cdv A outer s H vs Q E hr h => ?_)
  · obtain ⟨x, rfl, _⟩ := h
    rfl
  · obtain ⟨x, rfl, k⟩ := h
    have hu := hu_of hr
    have hr1 := hr.mono (show 1 ≤ 5 by decide)
    have hr2 := hr.mono (show 2 ≤ 5 by decide)
    have hr4 := hr.mono (show 4 ≤ 5 by decide)
    refine ⟨_, PSs.nox (pss_cons (ps_if (pt_not (pt_val (pe_callB call_isiT (by rfl) T.isi boot_isinstance (pa_cons (pv 0) (pa_cons (pe_tup (pa_cons (pe_bltn (v := .ty "list") (by rfl) T.list (by decide +kernel) rfl) (pa_cons (pe_bltn (v := .ty "tuple") (by rfl) T.tuple (by decide +kernel) rfl) pa_nil))) pa_nil))))) (pss_one (ps_ret pe_bl)) pss_nil)
      (pss_cons (ps_set (i := 1) scDrawing.nd rfl (.inr rfl) (pe_callTy call_dictD (by rfl) T.dict (by decide +kernel) (pa_cons (pe_call0 Z.GS hr (by rfl) Z.gS Z.kS Z.bS .nil pass0) pa_nil)))
      (pss_cons (ps_for PassesOwn.never rfl (pi_list (pv 0)) (pg_name (i := 2) scDrawing.nd rfl (Or.inl rfl))
        (pss_cons (ps_if (PW.pt (pw_or (pt_not (pt_val (pe_callB call_isi (by rfl) T.isi boot_isinstance (pa_cons (pv 2) (pa_cons (pe_bltn (v := .ty "tuple") (by rfl) T.tuple (by decide +kernel) rfl) pa_nil)))))
            (pw_or (pt_cmpR op_ne (pe_callB call_len_seq (by rfl) T.len PySem.boot_len (pa_cons (pv 2) pa_nil)) pe_int (nomark _)) (pw_or (pt_not (pt_val (pe_call Z.GN hr1 (by rfl) Z.gN Z.kN Z.bN .nil pass0 (pa_cons (pe_ix ix_tup (pv 2) pe_int (fun _ _ => rfl)) pa_nil))))
            (pw_or1 (pt_cmp (pc_din hu (pe_ix ix_tup (pv 2) pe_int (fun _ _ => rfl)) (pv 1)))))))) (pss_one (ps_ret pe_bl)) pss_nil)
        (pss_cons (ps_if (PW.pt (pw_or (pt_not (pt_val (pe_call Z.GD hr2 (by rfl) Z.gD Z.kD Z.bD .nil pass0 (pa_cons (pe_ix ix_tup (pv 2) pe_int (fun _ _ => rfl)) pa_nil))))
            (pw_or1 (pt_cmpR (op_neD hr.units) (pe_lc (own := [("name", 3)]) (g := gName 3) (by rfl) scDrawing.nd (pi_tup (pe_call Z.GM hr4 (by rfl) Z.gM Z.kM Z.bM .nil pass0 (pa_cons (pe_ix ix_tup (pv 2) pe_int (fun _ _ => rfl)) pa_nil))) (blkOk_by (own := [("name", 3)]) (N := ["value", "known", "step", "name"]) (sc := defScope sDrawing) (by decide +kernel))
              (fun _ _ _ _ _ => pg_name (i := 3) scDrawing.nd rfl (Or.inl rfl)) (fun _ _ _ _ _ => pts_one (pt_cmp (pc_dnotin hu (pv 3) (pv 1)))) (fun _ _ _ _ _ => pv 3)) (pe_lst pa_nil) (nomark _))))) (pss_one (ps_ret pe_bl)) pss_nil)
        (pss_one (ps_dput hu (pv 1) (pe_ix ix_tup (pv 2) pe_int (fun _ _ => rfl)) (pv 2) rfl)))))
      (pss_one (ps_ret pe_bl))))), ?_⟩
    refine ⟨_, rfl, (by show 2 ≤ sizeLine; decide), fun tp ntp => ?_⟩
    have s0 := same_upd (o := .tup [.ty "list", .ty "tuple"]) ntp
    rcases k with ⟨t, ty, e1, e2, k⟩ | ⟨a, ws, os, rfl, ha, hst, hl, k⟩
    · refine ⟨x, tp, _, .type t, [.type "list", .type "tuple"], false, rfl, upd_same, .cons (.ty _) (.cons (.ty _) .nil), ty _ s0, kitAny_cons (kit_ty e1) (fun _ => kitAny_cons (kit_ty e2) (fun _ => kitAny_nil) fun z => by cases z) (fun z => by cases z), false, rfl, ?_⟩
      exact iteT (k _ s0)
    refine ⟨.ref a, tp, _, .type "list", [.type "list", .type "tuple"], true, rfl, upd_same, .cons (.ty _) (.cons (.ty _) .nil), .base (.lst (s0 _ _ ha)), kitAny_cons (b := true) (kit_ty (by decide +kernel)) (fun z => by cases z) (fun _ => rfl), true, rfl, ?_⟩
    refine iteF ?_
    refine ⟨rfl, fun d0 wd H1 s1 nd hw5 hd0 => ⟨d0, _, rfl, .inl hd0, fun dk ndk => ?_⟩⟩
    have s2 := same_upd (o := .dK ((SHEET.map Sum.inr).zip wd)) ndk
    generalize hH2 : L2.upd H1 dk (.dK ((SHEET.map Sum.inr).zip wd)) = H2 at s2
    have hdk : H2 dk = some (.dK ((SHEET.map Sum.inr).zip wd)) := by rw [← hH2, upd_same]
    have sA := (s0.trans s1).trans s2
    have ha2 := sA _ _ ha
    have nad : a ≠ dk := ne_of ha2 hdk (by intro z; cases z)
    have lz : H dk = none := (s0.trans s1).free ndk
    have key0 : KeysAre ((SHEET.map (Sum.inr : Str → Key)).zip wd) SHEET := by
      unfold KeysAre
      rw [List.map_fst_zip (by rw [List.length_map, hw5]; decide)]
    refine ⟨_, rfl, a, rfl, ⟨_, SqL.of ha2⟩, ?_⟩
    have hlen := hst.len
    refine for_list (K := K) (a := a) (xs := ws) (fun i σ G => ∃ v2 kvs kn, σ = [some (.ref a), some (.ref dk), v2, none] ∧ Kp [dk] H2 G ∧ G dk = some (.dK kvs) ∧ KeysAre kvs kn ∧ kn.length ≤ 5 + i ∧ drawB kn (os.drop i) = drawB SHEET os)
      ⟨none, _, SHEET, rfl, Kp.refl _ _, hdk, key0, Nat.le_refl _, rfl⟩ (fun i σ G _ ⟨_, _, _, _, kG, _⟩ => SqL.of (kG _ _ ha2 (by simp [nad]))) ?_ ?_
    · rintro i y σ G hi ⟨v2, kvs, kn, rfl, kG, gd, ky, lk, eq⟩
      obtain ⟨o, ho, hv⟩ := hst.at_ hi
      rw [drop_at ho] at eq
      have fin : ∀ G', Kp [dk] H2 G' → Same H G' := fun G' kg b ob e => kg _ _ (sA _ _ e) (by
        have : b ≠ dk := fun z => by rw [z, lz] at e; cases e
        simp [this])
      have i1000 : i < 1000 := by
        obtain ⟨hlt, _⟩ := List.getElem?_eq_some_iff.mp hi
        omega
      cases o with
      | none =>
        have e : y = .non := hv
        subst e
        refine ⟨_, rfl, .non, .ty "tuple", .type "NoneType", .type "tuple", false, rfl, .ty _, .base .non, kit_ty (by decide +kernel), false, rfl, ?_⟩
        refine iteT ?_
        have e3 : drawB SHEET os = false := by rw [← eq]; rfl
        rw [e3] at k
        exact k G (fin G kG)
      | some p =>
        obtain ⟨n, d⟩ := p
        obtain ⟨b, c, rfl, hb, hc, okn, okd⟩ := hv
        have hb2 := sA _ _ hb
        have hc2 := sA _ _ hc
        have nb : b ≠ dk := ne_of hb2 hdk (by intro z; cases z)
        have nc : c ≠ dk := ne_of hc2 hdk (by intro z; cases z)
        have gb := kG _ _ hb2 (by simp [nb])
        have gc := kG _ _ hc2 (by simp [nc])
        have sb : SqT K G b [.str n, .ref c] := SqT.of gb
        refine ⟨_, rfl, .ref b, .ty "tuple", .type "tuple", .type "tuple", true, rfl, .ty _, .base (.tup gb), kit_ty (by decide +kernel), true, rfl, ?_⟩
        refine iteF ?_
        refine ⟨_, rfl, b, _, rfl, .inr sb, rfl, _, rfl, ?_⟩
        refine iteF ?_
        refine ⟨_, rfl, b, _, _, _, rfl, rfl, sb, at_nat (k := 0) rfl, n, rfl, okn, fun G1 t1 => ⟨_, rfl, ?_⟩⟩
        refine iteF ?_
        have gd1 := t1 _ _ gd
        have sb1 : SqT K G1 b [.str n, .ref c] := seqT t1 sb
        have eqN : drawB kn (some (n, d) :: os.drop (i + 1)) = (decide (n ∉ kn) && (d.names.all (fun z => decide (z ∈ kn)) && drawB (kn ++ [n]) (os.drop (i + 1)))) := rfl
        rw [eqN] at eq
        refine ⟨_, rfl, b, _, _, _, rfl, rfl, sb1, at_nat (k := 0) rfl, _, rfl, dk, _, rfl, DGet.k (k := Sum.inr n) gd1, _, rfl, ?_⟩
        rw [ky.look]
        have kG1 := kG.trans (Kp.of t1 (xs := [dk]))
        by_cases hn : n ∈ kn
        · rw [decide_eq_true hn]
          refine iteT ?_
          have e3 : drawB SHEET os = false := by rw [← eq, decide_eq_false (by simpa using hn)]; rfl
          rw [e3] at k
          exact k G1 (fin G1 kG1)
        rw [decide_eq_false hn]
        rw [decide_eq_true hn, Bool.true_and] at eq
        refine iteF ?_
        refine ⟨_, rfl, b, _, _, _, rfl, rfl, sb1, at_nat (k := 1) rfl, c, d, rfl, t1 _ _ gc, okd, fun G2 t2 => ⟨_, rfl, ?_⟩⟩
        refine iteF ?_
        refine ⟨_, rfl, b, _, _, _, rfl, rfl, seqT t2 sb1, at_nat (k := 1) rfl, c, d, rfl, t2 _ _ (t1 _ _ gc), okd, fun p G3 t3 hp => ?_⟩
        obtain ⟨m, kk, hm, nm, okN, _⟩ := id okd
        have fo : ∀ z ∈ once d.names, NameOk z := fun z hz => okN z ((once_mem _ _).mp hz)
        have lo : ((once d.names).map V.str).length < sizeLine := by
          rw [List.length_map]
          have h1 := once_len d.names []
          have h2 : ([] : List Str).length = 0 := rfl
          have h3 : m ≤ 5 := (form_facts _ hm).2.2.1
          have h4 : (once d.names).length ≤ 5 := by unfold once; omega
          exact Nat.lt_of_le_of_lt h4 (by decide)
        have gd3 := t3 _ _ (t2 _ _ gd1)
        refine any_ne (p := fun x => !decide (strV x ∈ kn)) (SqT.of hp) (fok_names fo) lo (by show 3 < 4; decide) (fun x G' hx tG R kR => ?_) fun G4 t4 => ⟨_, rfl, ?_⟩
        · obtain ⟨z, hz, rfl⟩ := List.mem_map.mp hx
          refine ⟨_, rfl, _, rfl, dk, _, rfl, DGet.k (k := Sum.inr z) (tG _ _ gd3), _, rfl, ?_⟩
          rw [ky.look]
          exact kR G' (Same.refl _)
        have ea : ((once d.names).map V.str).any (fun x => !decide (strV x ∈ kn)) = !(d.names.all fun z => decide (z ∈ kn)) := by
          rw [List.any_map, Bool.eq_iff_iff, List.any_eq_true, Bool.not_eq_true', ← Bool.not_eq_true, List.all_eq_true]
          constructor
          · rintro ⟨z, hz, e⟩ q
            have := q z ((once_mem _ _).mp hz)
            have e' : (!decide (z ∈ kn)) = true := e
            rw [this] at e'
            cases e'
          · intro q
            have : ∃ z ∈ d.names, ¬ decide (z ∈ kn) = true := by
              refine Classical.byContradiction fun r => q fun z hz => Classical.byContradiction fun r2 => r ⟨z, hz, r2⟩
            obtain ⟨z, hz, e⟩ := this
            refine ⟨z, (once_mem _ _).mpr hz, ?_⟩
            show (!decide (z ∈ kn)) = true
            simpa using e
        rw [ea]
        have t14 := ((t1.trans t2).trans t3).trans t4
        have kG4 := kG.trans (Kp.of t14 (xs := [dk]))
        cases ek : d.names.all (fun z => decide (z ∈ kn)) with
        | false =>
          rw [ek, Bool.false_and] at eq
          refine iteT ?_
          rw [← eq] at k
          exact k G4 (fin G4 kG4)
        | true =>
          rw [ek, Bool.true_and] at eq
          refine iteF ?_
          have gd4 := t14 _ _ gd
          have lkv : kvs.length < sizeLine := by
            have : kvs.length = kn.length := by
              have := congrArg List.length ky
              rw [List.length_map, List.length_map] at this
              exact this
            rw [this]
            exact Nat.lt_of_le_of_lt (show kn.length ≤ 2000 by omega) (by decide)
          refine ⟨_, rfl, _, rfl, _, rfl, b, _, _, _, rfl, rfl, seqT t14 sb, at_nat (k := 0) rfl, dk, _, rfl, DPut.k (k := Sum.inr n) gd4 lkv, ?_⟩
          refine ⟨_, _, kn ++ [n], rfl, kG4.trans (Kp.upd (by simp)), upd_same, ky.put hn, ?_, eq⟩
          rw [List.length_append, List.length_singleton]
          omega
    · rintro σ G ⟨v2, kvs, kn, rfl, kG, gd, ky, lk, eq⟩
      rw [hlen, List.drop_length] at eq
      have e3 : drawB SHEET os = true := eq.symm
      rw [e3] at k
      refine k G fun b ob e => kG _ _ (sA _ _ e) ?_
      have : b ≠ dk := fun z => by rw [z, lz] at e; cases e
      simp [this]
end
end Own
set_option Elab.async false
set_option linter.all false
set_option maxRecDepth 100000
set_option maxHeartbeats 400000
namespace Own
open PySem PySem.Spec PyProof.Rows L2 LamX
/-! ### the first step that is barred -/
def barB (c : List Str) (p : Str × Deed) : Bool := decide (toolS p.2.word ≠ "") && decide (toolS p.2.word ∉ c)
def optV : Option Nat → V
  | none => .non
  | some i => .int (i : Nat)
/-- no drawing -/
def BadD (K : PySem.W.Frag) (H : Hp) (x : V) : Prop := (∃ t : String, (∀ H', Same H H' → TyX K H' x (.type t)) ∧ kitB t "list" = some false ∧ kitB t "tuple" = some false) ∨ ∃ a ws os, x = .ref a ∧ H a = some (.lst ws) ∧ F2 (StepV H) ws os ∧ ws.length ≤ 1000 ∧ drawB SHEET os = false
def spBarred (K : PySem.W.Frag) (CD CB : Addr) : Sp := fun vs H Q E => ∃ x y : V, vs = [x, y] ∧ ((BadD K H x ∧ ∀ H', Same H H' → E (.ref CD) none H') ∨
  ∃ (a : Addr) (ws : List V) (ds : List (Str × Deed)), x = .ref a ∧ H a = some (.lst ws) ∧ F2 (StepV H) ws (ds.map some) ∧ ws.length ≤ 1000 ∧ drawB SHEET (ds.map some) = true ∧
    (((∀ H', Same H H' → BadC K H' y) ∧ ∀ H', Same H H' → E (.ref CB) none H') ∨ ∃ c, GoodC H y c ∧ ∀ H', Same H H' → Q (optV (ds.findIdx? (barB c))) H'))
theorem find_skip {α : Type} {p : α → Bool} {l : List α} {i : Nat} {x : α} (h : ∀ y ∈ l.take i, p y = false) (e : l[i]? = some x) (hp : p x = true) : l.findIdx? p = some i := by
  rw [List.findIdx?_eq_some_iff_getElem]
  obtain ⟨hlt, hg⟩ := List.getElem?_eq_some_iff.mp e
  refine ⟨hlt, by rw [hg]; exact hp, fun j hj => ?_⟩
  have : l[j]'(by omega) ∈ l.take i := by
    rw [List.mem_take_iff_getElem]
    exact ⟨j, by omega, rfl⟩
  rw [h _ this]
  exact Bool.false_ne_true
section
variable {P : Program} {w : World} {K : PySem.W.Frag} {mg : Str → Option Value} {base : Heap} {f fDr fNC fTo CD CB : Addr} {fd2 dDr dNC dTo : FuncData}
theorem scBarred : FnScope ["steps", "chest", "at", "step", "tool"] ["steps", "chest"] (defScope sBarred) := ⟨rfl, rfl, rfl, by decide +kernel, rfl, by decide +kernel, by decide +kernel⟩
theorem ok_barred (F : FnP K "first_barred" sBarred f fd2) (GDr : FnOk P w K mg base CX0 6 fDr dDr ["value"] (spDrawing K)) (GNC : FnOk P w K mg base (L2.CX P w) 2 fNC dNC ["chest"] (spNeedC K CB)) (GTo : FnOk P w K mg base CX0 4 fTo dTo ["deed"] spTool)
    (bDr : Binds K dDr ["value"] []) (bNC : Binds K dNC ["chest"] []) (bTo : Binds K dTo ["deed"] []) (kDr : PySem.W.keepIn K (.ref fDr) = true) (kNC : PySem.W.keepIn K (.ref fNC) = true) (kTo : PySem.W.keepIn K (.ref fTo) = true)
    (gDr : mg "is_drawing" = some (.ref fDr)) (gNC : mg "need_chest" = some (.ref fNC)) (gTo : mg "tool_of" = some (.ref fTo)) (T : Txt K mg) (B : ExcT K mg "BadDrawing" CD) : FnOk P w K mg base (L2.CX P w) 7 f fd2 ["steps", "chest"] (spBarred K CD CB) := by
  refine F.ok scBarred (fun vs H Q E h => ?_) (fun cdv A outer s H vs Q E hr h => ?_)
  · obtain ⟨x, y, rfl, _⟩ := h
    rfl
  · obtain ⟨x, y, rfl, k⟩ := h
    have hr2 := hr.mono (show 2 ≤ 6 by decide)
    have hr4 := hr.mono (show 4 ≤ 6 by decide)
    refine ⟨_, pss_cons (ps_if (pt_not (pt_val (pe_call GDr hr (by rfl) gDr kDr bDr .nil pass0 (pa_cons (pv 0) pa_nil)))) (pss_one (ps_raise rfl (takes_of rfl rfl rfl rfl) (pmk_own PySem.F.excBase_ValueError B.x B.g B.k (raises_own B.b B.t) rfl))) pss_nil)
      (pss_cons (ps_expr (pe_call GNC hr2 (by rfl) gNC kNC bNC .nil (passes_call (takes_of rfl rfl rfl rfl) fun _ _ _ _ h => h) (pa_cons (pv 1) pa_nil)))
      (PSs.nox (pss_cons (ps_for PassesOwn.never rfl (pi_enumS (by rfl) T.enum (pa_cons (pv 0) pa_nil)) (pg_tup rfl (pgs_cons (pg_name (i := 2) scBarred.nd rfl (.inl rfl)) (pgs_cons (pg_name (i := 3) scBarred.nd rfl (.inl rfl)) pgs_nil)))
        (pss_cons (ps_set (i := 4) scBarred.nd rfl (.inl rfl) (pe_call GTo hr4 (by rfl) gTo kTo bTo .nil pass0 (pa_cons (pe_ix ix_tup (pv 3) pe_int (fun _ _ => rfl)) pa_nil)))
        (pss_one (ps_if (PW.pt (pw_and (pt_cmpR op_ne (pv 4) pe_str (nomark _)) (pw_and1 (pt_cmpR op_notIn_seq (pv 4) (pv 1) (by rfl))))) (pss_one (ps_ret (pv 2))) pss_nil))))
      (pss_one (ps_ret pe_non))))), ?_⟩
    rcases k with ⟨bad, k⟩ | ⟨a, ws, ds, rfl, ha, hst, hl, hd, k⟩
    · rcases bad with ⟨t, ty, e1, e2⟩ | ⟨a, ws, os, rfl, ha, hst, hl, hd⟩
      · exact ⟨_, rfl, x, rfl, .inl ⟨t, ty, e1, e2, fun H1 s1 => ⟨_, rfl, iteT (k H1 s1)⟩⟩⟩
      · exact ⟨_, rfl, .ref a, rfl, .inr ⟨a, ws, os, rfl, ha, hst, hl, fun H1 s1 => ⟨_, rfl, by rw [hd]; exact iteT (k H1 s1)⟩⟩⟩
    refine ⟨_, rfl, .ref a, rfl, .inr ⟨a, ws, _, rfl, ha, hst, hl, fun H1 s1 => ⟨_, rfl, ?_⟩⟩⟩
    rw [hd]
    refine iteF ?_
    rcases k with ⟨bad, k⟩ | ⟨c, good, k⟩
    · exact ⟨_, rfl, y, rfl, .inl ⟨bad H1 s1, k H1 s1⟩⟩
    refine ⟨_, rfl, y, rfl, .inr ⟨c, good.same s1, ?_⟩⟩
    obtain ⟨b, rfl, hb, hsub⟩ := good
    refine ⟨_, rfl, a, rfl, .inl ⟨ws, SqL.of (s1 _ _ ha), ?_⟩⟩
    have hlen := hst.len
    rw [List.length_map] at hlen
    refine for_it (walk_enum (K := K) (a := a) (xs := ws)) (fun i σ G => ∃ v2 v3 v4, σ = [some (.ref a), some (.ref b), v2, v3, v4] ∧ Same H1 G ∧ ∀ p ∈ ds.take i, barB c p = false) ⟨none, none, none, rfl, Same.refl _, fun p hp => by rw [List.take_zero] at hp; cases hp⟩ (fun i σ G _ q => ?_) ?_ ?_
    · obtain ⟨_, _, _, _, sG, _⟩ := q
      exact SqL.of (sG _ _ (s1 _ _ ha))
    · rintro i x σ G G' hi ⟨v2, v3, v4, rfl, sG, no⟩ ⟨TT, u, v, rfl, nT, rfl, hu, hv⟩
      cases hu
      obtain ⟨o, ho, hstv⟩ := hst.at_ hv
      rw [List.getElem?_map] at ho
      cases ep : ds[i]? with
      | none => rw [ep] at ho; cases ho
      | some p =>
        rw [ep] at ho
        cases ho
        obtain ⟨n, d⟩ := p
        obtain ⟨q, r, rfl, hq, hr3, okn, okd⟩ := hstv
        have sT := same_upd (o := .tup [.int (i : Nat), .ref q]) nT
        have low := (s1.trans sG).trans sT
        refine ⟨TT, _, rfl, SqT.of upd_same, rfl, _, _, rfl, _, _, rfl, rfl, ?_⟩
        refine ⟨_, rfl, q, _, _, _, rfl, rfl, SqT.of (low _ _ hq), at_nat (k := 1) rfl, r, d, rfl, low _ _ hr3, okd, fun G2 s2 => ?_⟩
        refine ⟨_, rfl, rfl, _, rfl, ?_⟩
        have eb : barB c (n, d) = (!decide (toolS d.word = "") && !decide (toolS d.word ∈ c)) := by
          unfold barB
          simp
        have nx : barB c (n, d) = false → ∃ v2 v3 v4, [some (V.ref a), some (V.ref b), some (V.int (i : Nat)), some (V.ref q), some (V.str (toolS d.word))] = [some (V.ref a), some (V.ref b), v2, v3, v4] ∧ Same H1 G2 ∧ ∀ p ∈ ds.take (i + 1), barB c p = false := fun e => by
          refine ⟨_, _, _, rfl, (sG.trans sT).trans s2, fun p hp => ?_⟩
          rw [take_snoc ep] at hp
          rcases List.mem_append.mp hp with hp | hp
          · exact no p hp
          · rw [List.mem_singleton.mp hp]
            exact e
        rw [decStr]
        by_cases h0 : toolS d.word = ""
        · have e0 : (!decide (toolS d.word = "")) = false := by rw [decide_eq_true h0]; rfl
          rw [e0]
          refine iteF ?_
          exact nx (by rw [eb, e0]; rfl)
        · have e0 : (!decide (toolS d.word = "")) = true := by rw [decide_eq_false h0]; rfl
          rw [e0]
          refine iteT ?_
          have hb2 := s2 _ _ (low _ _ hb)
          refine ⟨_, rfl, _, rfl, b, _, rfl, .inr (SqT.of hb2), rfl, flat_strs _, _, rfl, ?_⟩
          rw [inV_str]
          by_cases h1 : toolS d.word ∈ c
          · rw [decide_eq_true h1]
            refine iteF ?_
            exact nx (by rw [eb, decide_eq_true h1, Bool.not_true, Bool.and_false])
          · rw [decide_eq_false h1]
            refine iteT ?_
            have e2 := find_skip no ep (by rw [eb, e0, decide_eq_false h1]; rfl)
            have q2 := k G2 (low.trans s2)
            rw [e2] at q2
            exact ⟨_, rfl, q2⟩
    · rintro σ G ⟨v2, v3, v4, rfl, sG, no⟩
      rw [hlen, List.take_length] at no
      have e2 : ds.findIdx? (barB c) = none := List.findIdx?_eq_none_iff.mpr no
      have q2 := k G (s1.trans sG)
      rw [e2] at q2
      exact q2
end
end Own
set_option Elab.async false
set_option linter.all false
set_option maxRecDepth 100000
set_option maxHeartbeats 400000
namespace Own
open PySem PySem.Spec PyProof.Rows L2 LamX
/-! ### the law's own chests -/
def FK : List (Key × V) := FORM.map fun t => (Sum.inr t.1, V.int t.2.1)
def spForms : Sp := fun vs H Q _ => vs = [] ∧ ∀ p H', Same H H' → H p = none → H' p = some (.dK FK) → Q (.ref p) H'
def WAYS : List Str := "disc" :: "rims" :: "corner" :: "compass" :: "circles" :: []
def spHasWay : Sp := fun vs H Q _ => ∃ z : Str, vs = [.str z] ∧ ∀ H', Same H H' → Q (.bl (decide (z ∈ WAYS))) H'
def spLTools : Sp := fun vs H Q _ => vs = [] ∧ ∀ p H', Same H H' → H p = none → H' p = some (.lst (TOOLS.map V.str)) → Q (.ref p) H'
def spLRank : Sp := fun vs H Q _ => ∃ (a : Addr) (c : List Str), vs = [.ref a] ∧ H a = some (.tup (c.map V.str)) ∧ (∀ t ∈ c, t ∈ TOOLS) ∧ c.length ≤ 1000 ∧ ∀ H', Same H H' → Q (.int (lrk c)) H'
def spLChest : Sp := fun vs H Q _ => ∃ (a lw lc : Addr) (t : Nat), vs = [.ref a] ∧ StA H a lw lc t ∧ t < 2 ^ 39 ∧ ∀ (p : Addr) (c : List Str) (H' : Hp), c.Sublist TOOLS → StA H' a lw lc (t + 10) → Kp [a, lw] H H' → H p = none → H' p = some (.tup (c.map V.str)) → Q (.ref p) H'
theorem toolsub_fok {c : List Str} (h : ∀ t ∈ c, t ∈ TOOLS) : (c.map V.str).all fok = true := by
  rw [List.all_map, List.all_eq_true]
  exact fun t ht => tools_fok t (h t ht)
/-- within Kp -/
theorem StA.off {H : Hp} {a lw lc : Addr} {t : Nat} (S : StA H a lw lc t) {b : Addr} {o : HO} (e : H b = some o) (n1 : ∀ kvs, o ≠ .dK kvs) (n2 : ∀ xs, o ≠ .lst xs) : b ∉ [a, lw] := by
  obtain ⟨⟨ws, cs, r, u, g1, g2, _⟩, _⟩ := S
  have q1 : b ≠ a := ne_of e g1 (n1 _)
  have q2 : b ≠ lw := ne_of e g2 (n2 _)
  simp [q1, q2]
theorem StA.new {H : Hp} {a lw lc : Addr} {t : Nat} (S : StA H a lw lc t) {b : Addr} (e : H b = none) : b ∉ [a, lw] ∧ b ≠ lc := by
  obtain ⟨⟨ws, cs, r, u, g1, g2, g3, _⟩, _⟩ := S
  have q1 : b ≠ a := (ne_of_none g1 e).symm
  have q2 : b ≠ lw := (ne_of_none g2 e).symm
  have q3 : b ≠ lc := (ne_of_none g3 e).symm
  exact ⟨by simp [q1, q2], q3⟩
/-- what is free behind was free ahead -/
theorem StA.back {H G : Hp} {a lw lc : Addr} {t : Nat} (S : StA G a lw lc t) (k : Kp [a, lw] H G) {q : Addr} (n : G q = none) : H q = none := by
  cases e : H q with
  | none => rfl
  | some o =>
    have := k q o e (S.new n).1
    rw [n] at this
    cases this
/-- a list of one's own rewritten: the state is as it was -/
theorem StA.put {H : Hp} {a lw lc : Addr} {t : Nat} (S : StA H a lw lc t) {b : Addr} (n : b ∉ [a, lw]) (n2 : b ≠ lc) (o : HO) : StA (L2.upd H b o) a lw lc t := by
  obtain ⟨⟨ws, cs, r, u, g1, g2, g3, g⟩, ne⟩ := S
  have q1 : a ≠ b := fun z => n (by simp [z])
  have q2 : lw ≠ b := fun z => n (by simp [z])
  exact ⟨⟨ws, cs, r, u, by rw [upd_ne q1]; exact g1, by rw [upd_ne q2]; exact g2, by rw [upd_ne n2.symm]; exact g3, g⟩, ne⟩
section
variable {P : Program} {w : World} {K : PySem.W.Frag} {mg : Str → Option Value} {base : Heap} {f fD fS fT : Addr} {fd2 fdD fdS fdT : FuncData}
theorem scForms : FnScope [] [] (defScope sForms) := ⟨rfl, rfl, rfl, by decide +kernel, rfl, by decide +kernel, by decide +kernel⟩
theorem ok_forms (F : FnP K "_law_forms" sForms f fd2) : FnOk P w K mg base CX0 1 f fd2 [] spForms := by
  refine F.ok scForms (fun vs H Q E h => ?_) (fun cdv A outer s H vs Q E hr h => ?_)
  · obtain ⟨rfl, _⟩ := h
    rfl
  · obtain ⟨rfl, k⟩ := h
    refine ⟨_, PSs.nox (pss_one (ps_ret (pe_disp (pps_cons pe_str pe_int (pps_cons pe_str pe_int (pps_cons pe_str pe_int (pps_cons pe_str pe_int (pps_cons pe_str pe_int (pps_cons pe_str pe_int (pps_cons pe_str pe_int (pps_cons pe_str pe_int (pps_cons pe_str pe_int (pps_cons pe_str pe_int (pps_cons pe_str pe_int pps_nil))))))))))) (by rfl) (by rfl) (fun z => by cases z) (by decide)))), ?_⟩
    intro d nd
    refine ⟨upd_same, FK, rfl, by decide, ?_⟩
    refine k d _ (fun b o e => ?_) nd ?_
    · rw [upd_ne (ne_of_none e nd), upd_ne (ne_of_none e nd)]
      exact e
    · rw [upd_same]
      kernel_rfl
theorem scHasWay : FnScope ["_law_word"] ["_law_word"] (defScope sHasWay) := ⟨rfl, rfl, rfl, by decide +kernel, rfl, by decide +kernel, by decide +kernel⟩
theorem ok_hasway (F : FnP K "_law_has_way" sHasWay f fd2) : FnOk P w K mg base CX0 1 f fd2 ["_law_word"] spHasWay := by
  refine F.ok scHasWay (fun vs H Q E h => ?_) (fun cdv A outer s H vs Q E hr h => ?_)
  · obtain ⟨z, rfl, _⟩ := h
    rfl
  · obtain ⟨z, rfl, k⟩ := h
    refine ⟨_, PSs.nox (pss_one (ps_ret (pe_cmpR op_in_seq (pv 0) (pe_lst (pa_cons pe_str (pa_cons pe_str (pa_cons pe_str (pa_cons pe_str (pa_cons pe_str pa_nil)))))) (by rfl)))), ?_⟩
    refine ⟨_, rfl, (by show 5 ≤ sizeLine; decide), fun l nl => ?_⟩
    refine ⟨l, WAYS.map V.str, rfl, .inl (SqL.of upd_same), rfl, flat_strs _, ?_⟩
    show Q (.bl (inV (.str z) (WAYS.map V.str))) _
    rw [inV_str]
    exact k _ (same_upd nl)
theorem scLTools : FnScope [] [] (defScope sLTools) := ⟨rfl, rfl, rfl, by decide +kernel, rfl, by decide +kernel, by decide +kernel⟩
theorem ok_ltools (F : FnP K "_law_tools" sLTools f fd2) : FnOk P w K mg base CX0 1 f fd2 [] spLTools := by
  refine F.ok scLTools (fun vs H Q E h => ?_) (fun cdv A outer s H vs Q E hr h => ?_)
  · obtain ⟨rfl, _⟩ := h
    rfl
  · obtain ⟨rfl, k⟩ := h
    refine ⟨_, PSs.nox (pss_one (ps_ret (pe_lst (pa_cons pe_str (pa_cons pe_str (pa_cons pe_str (pa_cons pe_str (pa_cons pe_str (pa_cons pe_str (pa_cons pe_str (pa_cons pe_str (pa_cons pe_str pa_nil)))))))))))), ?_⟩
    exact ⟨(by show 9 ≤ sizeLine; decide), fun l nl => k l _ (same_upd nl) nl upd_same⟩
theorem scLRank : FnScope ["_law_chest_here", "_law_great", "_law_tool"] ["_law_chest_here"] (defScope sLRank) := ⟨rfl, rfl, rfl, by decide +kernel, rfl, by decide +kernel, by decide +kernel⟩
theorem ok_lrank (F : FnP K "_law_rank" sLRank f fd2) (T : Txt K mg) : FnOk P w K mg base CX0 1 f fd2 ["_law_chest_here"] spLRank := by
  refine F.ok scLRank (fun vs H Q E h => ?_) (fun cdv A outer s H vs Q E hr h => ?_)
  · obtain ⟨a, c, rfl, _⟩ := h
    rfl
  · obtain ⟨a, c, rfl, ha, hc, hl, k⟩ := h
    refine ⟨_, PSs.nox (pss_cons (ps_setLc (i := 1) (own := [("_law_tool", 2)]) (g := gName 2) (by rfl) scLRank.nd rfl rfl (sw_true rfl rfl rfl (by decide +kernel)) (pi_tup (pv 0)) (blkOk_by (own := [("_law_tool", 2)]) (N := ["_law_chest_here", "_law_great", "_law_tool"]) (sc := defScope sLRank) (by decide +kernel))
          (fun _ _ _ _ _ => pg_name (i := 2) scLRank.nd rfl (Or.inl rfl)) (fun _ _ _ _ _ => pts_one (pt_cmpR (op_inK (K := K) rfl) (pv 2) (pe_lst (pa_cons pe_str (pa_cons pe_str (pa_cons pe_str (pa_cons pe_str pa_nil))))) (by rfl))) (fun _ _ _ _ _ => pv 2))
      (pss_one (ps_ret (pe_ifExp (pt_cmpR (op_neD hr.units) (pv 1) (pe_lst pa_nil) (nomark _)) pe_int (pe_callTy call_int1 (by rfl) T.int boot_int (pa_cons (pe_cmpR (op_neD hr.units) (pe_lc (own := [("_law_tool", 2)]) (g := gName 2) (by rfl) scLRank.nd (pi_tup (pv 0)) (blkOk_by (own := [("_law_tool", 2)]) (N := ["_law_chest_here", "_law_great", "_law_tool"]) (sc := defScope sLRank) (by decide +kernel))
          (fun _ _ _ _ _ => pg_name (i := 2) scLRank.nd rfl (Or.inl rfl)) (fun _ _ _ _ _ => pts_one (pt_cmpR op_ne (pv 2) pe_str (nomark _))) (fun _ _ _ _ _ => pv 2)) (pe_lst pa_nil) (nomark _)) pa_nil)))))), ?_⟩
    have hs : SqT K H a (c.map V.str) := SqT.of ha
    have hz : (c.map V.str).length < sizeLine := by
      rw [List.length_map]
      exact Nat.lt_of_le_of_lt hl (by decide)
    have fo := toolsub_fok hc
    refine ⟨_, rfl, a, rfl, ⟨_, hs⟩, fun D nD => ?_⟩
    refine lc_filt (p := fun x => inV x (GREAT.map V.str)) walk_tup nD hz (fun H' s => seqT s hs) (by show 2 < 3; decide) (fun x H' hx sH R kR => ?_) fun H1 s1 hD => ?_
    · obtain ⟨t, _, rfl⟩ := List.mem_map.mp hx
      refine ⟨_, rfl, (by show 4 ≤ sizeLine; decide), fun l nl => ?_⟩
      exact ⟨l, GREAT.map V.str, rfl, .inl (SqL.of upd_same), rfl, flat_strs _, _, rfl, kR _ (same_upd nl)⟩
    refine ⟨_, rfl, tail_ne hD (all_filter fo) fun H2 s2 => ⟨_, rfl, ?_⟩⟩
    rw [filter_any]
    have eg : (c.map V.str).any (fun x => inV x (GREAT.map V.str)) = c.any fun t => decide (t ∈ GREAT) := by
      rw [List.any_map]
      exact any_congr fun t _ => inV_str t GREAT
    rw [eg]
    have s12 := s1.trans s2
    by_cases g : c.any (fun t => decide (t ∈ GREAT)) = true
    · have e : lrk c = 2 := if_pos g
      have q := k H2 s12
      rw [e] at q
      rw [g]
      exact iteT q
    · have g' : c.any (fun t => decide (t ∈ GREAT)) = false := by simpa using g
      have e : lrk c = if c.any (fun t => decide (t ≠ "square")) = true then 1 else 0 := if_neg g
      rw [g']
      refine iteF ?_
      refine ⟨_, rfl, any_ne (p := fun x => !decide (x = .str "square")) (seqT s12 hs) fo hz (by show 2 < 3; decide) (fun x H' hx sH R kR => ?_) fun H3 s3 => .inr ⟨_, rfl, ?_⟩⟩
      · obtain ⟨t, _, rfl⟩ := List.mem_map.mp hx
        exact ⟨_, rfl, rfl, _, rfl, kR H' (Same.refl _)⟩
      have e2 : (c.map V.str).any (fun x => !decide (x = .str "square")) = c.any fun t => decide (t ≠ "square") := by
        rw [List.any_map]
        refine any_congr fun t _ => ?_
        show (!decide (V.str t = .str "square")) = _
        rw [decStr]
        simp
      rw [e2]
      have q := k H3 (s12.trans s3)
      rw [e] at q
      have e4 : (((if c.any (fun t => decide (t ≠ "square")) = true then 1 else 0 : Nat)) : Int) = if c.any (fun t => decide (t ≠ "square")) = true then 1 else 0 := by split <;> rfl
      rw [e4] at q
      exact q
theorem scLChest : FnScope ["_law_state", "_law_most", "_law_tool"] ["_law_state"] (defScope sLChest) := ⟨rfl, rfl, rfl, by decide +kernel, rfl, by decide +kernel, by decide +kernel⟩
theorem ok_lchest (F : FnP K "_law_chest" sLChest f fd2) (FD : FnP K "_law_draw" sDraw fD fdD) (FS : FnP K "_law_stirred" sStir fS fdS) (FT : FnP K "_law_tools" sLTools fT fdT) (gD : mg "_law_draw" = some (.ref fD)) (gS : mg "_law_stirred" = some (.ref fS)) (gT : mg "_law_tools" = some (.ref fT)) (T : Txt K mg) :
    FnOk P w K mg base CX0 3 f fd2 ["_law_state"] spLChest := by
  have GD : FnOk P w K mg base CX0 2 fD fdD ["_law_state", "_law_room"] spDraw := ok_draw FD FS gS T
  have bD : Binds K fdD ["_law_state", "_law_room"] [] := FD.bindsN fun _ _ _ _ _ _ us hl => match us, hl with | [_, _], _ => rfl
  have GT : FnOk P w K mg base CX0 1 fT fdT [] spLTools := ok_ltools FT
  have bT : Binds K fdT [] [] := FT.bindsN fun _ _ _ _ _ _ us hl => match us, hl with | [], _ => rfl
  refine F.ok scLChest (fun vs H Q E h => ?_) (fun cdv A outer s H vs Q E hr h => ?_)
  · obtain ⟨a, lw, lc, t, rfl, _⟩ := h
    rfl
  · obtain ⟨a, lw, lc, t, rfl, S, ht, k⟩ := h
    have hr1 := hr.mono (show 1 ≤ 2 by decide)
    refine ⟨_, PSs.nox (pss_cons (ps_set (i := 1) scLChest.nd rfl (.inr rfl) (pe_op op_add pe_int (pe_call GD hr (by rfl) gD FD.kp bD .nil pass0 (pa_cons (pv 0) (pa_cons pe_int pa_nil)))))
      (pss_one (ps_ret (pe_tupleOf (by rfl) T.tuple (pe_lc (own := [("_law_tool", 2)]) (g := gName 2) (by rfl) scLChest.nd (pi_list (pe_call0 GT hr1 (by rfl) gT FT.kp bT .nil pass0)) (blkOk_by (own := [("_law_tool", 2)]) (N := ["_law_state", "_law_most", "_law_tool"]) (sc := defScope sLChest) (by decide +kernel))
          (fun _ _ _ _ _ => pg_name (i := 2) scLChest.nd rfl (Or.inl rfl)) (fun _ _ _ _ _ => pts_one (pt_cmpR op_eq (pe_call GD hr (by rfl) gD FD.kp bD .nil pass0 (pa_cons (pv 0) (pa_cons (pv 1) pa_nil))) pe_int (nomark _))) (fun _ _ _ _ _ => pv 2)))))), ?_⟩
    refine ⟨_, rfl, a, lw, lc, t, _, rfl, S, by omega, by decide, by decide, fun z H1 z0 z5 S1 K1 => ⟨_, _, rfl, rfl, ?_⟩⟩
    refine ⟨rfl, fun l H2 s2 nl hl => ⟨l, rfl, ⟨_, SqL.of hl⟩, fun D nD => ?_⟩⟩
    have S2 := S1.same s2
    obtain ⟨nlA, _⟩ := S1.new nl
    obtain ⟨nDA, nDc⟩ := S2.new nD
    have ldn : l ≠ D := ne_of_none hl nD
    have sD := same_upd (o := .lst []) nD
    refine lc_it walk_list (fun i G => ∃ c, c.Sublist (TOOLS.take i) ∧ G D = some (.lst (c.map V.str)) ∧ StA G a lw lc (t + 1 + i) ∧ Kp [a, lw] H2 G ∧ G l = some (.lst (TOOLS.map V.str))) ⟨[], List.nil_sublist _, upd_same, S2.same sD, Kp.of sD, sD _ _ hl⟩ (fun i G _ ⟨_, _, _, _, _, q⟩ => SqL.of q) ?_ ?_
    · rintro i x G G' hi ⟨c, hc, gD2, SG, KG, gl⟩ ⟨rfl, hx⟩
      obtain ⟨tl, htl, rfl⟩ : ∃ tl, TOOLS[i]? = some tl ∧ x = .str tl := by
        rw [List.getElem?_map] at hx
        cases e : TOOLS[i]? with
        | none => rw [e] at hx; cases hx
        | some tl => rw [e] at hx; cases hx; exact ⟨tl, rfl, rfl⟩
      have i9 : i < 9 := hi
      have et := take_snoc htl
      refine ⟨rfl, ?_⟩
      refine ⟨_, rfl, _, rfl, a, lw, lc, _, _, rfl, SG, by omega, by omega, by omega, fun z' G1 y0 y1 S3 K3 => ⟨rfl, _, rfl, ?_⟩⟩
      have g1 := K3 _ _ gD2 nDA
      have g2 := K3 _ _ gl nlA
      refine ite2 (fun _ => ?_) fun _ => ?_
      · have lc9 : c.length ≤ 9 := Nat.le_trans hc.length_le (by rw [List.length_take]; omega)
        refine ⟨_, rfl, _, g1, by rw [List.length_map]; exact Nat.lt_of_le_of_lt lc9 (by decide), c ++ [tl], ?_, ?_, ?_, ?_, ?_⟩
        · rw [et]
          exact hc.append (List.Sublist.refl _)
        · rw [upd_same, List.map_append]
          rfl
        · exact S3.put nDA nDc _
        · exact fun b o e nb => by
            rw [upd_ne (ne_of_none e nD)]
            exact (KG.trans K3) b o e nb
        · rw [upd_ne ldn]
          exact g2
      · refine ⟨c, ?_, g1, S3, KG.trans K3, g2⟩
        rw [et]
        exact List.Sublist.trans hc (List.sublist_append_left _ _)
    · rintro G ⟨c, hc, gD2, SG, KG, gl⟩
      have hc2 : c.Sublist TOOLS := List.Sublist.trans hc (List.take_sublist _ _)
      refine .inl ⟨D, _, rfl, SqL.of gD2, fun q nq => ?_⟩
      have sq := same_upd (o := .tup (c.map V.str)) nq
      refine k q c _ hc2 ((SG.same sq).more (by show t + 1 + 9 ≤ t + 10; omega)) (((K1.trans (Kp.of s2)).trans KG).trans (Kp.of sq)) (SG.back ((K1.trans (Kp.of s2)).trans KG) nq) upd_same
end
end Own
set_option Elab.async false
set_option linter.all false
set_option maxRecDepth 100000
set_option maxHeartbeats 400000
namespace Own
open PySem PySem.Spec PyProof.Rows L2 LamX
/-! ### what is no chest; shuffled lists -/
inductive OddX (H : Hp) : V → Prop
  | non : OddX H .non
  | str (z : Str) : OddX H (.str z)
  | lst {p : Addr} {xs : List V} (h : H p = some (.lst xs)) : OddX H (.ref p)
  | dict {p : Addr} (h : H p = some (.dK [])) : OddX H (.ref p)
  | tup {p : Addr} {ys : List V} (h : H p = some (.tup ys)) (hf : ys.all fok = true) (hc : chestB "" ys = false) : OddX H (.ref p)
theorem OddX.go {H H' : Hp} {x : V} (h : OddX H x) (e : ∀ p o, x = .ref p → H p = some o → (∀ ps, o ≠ .tbl ps) → H' p = some o) : OddX H' x := by
  cases h with
  | non => exact .non
  | str z => exact .str z
  | lst h => exact .lst (e _ _ rfl h fun _ q => by cases q)
  | dict h => exact .dict (e _ _ rfl h fun _ q => by cases q)
  | tup h hf hc => exact .tup (e _ _ rfl h fun _ q => by cases q) hf hc
theorem OddX.same {H H' : Hp} {x : V} (h : OddX H x) (e : Same H H') : OddX H' x := h.go fun _ _ _ q _ => e _ _ q
theorem OddX.bad {K : PySem.W.Frag} {H : Hp} {x : V} (h : OddX H x) : BadC K H x := by
  cases h with
  | non => exact .inl ⟨"NoneType", .base .non, by decide +kernel⟩
  | str z => exact .inl ⟨"str", .base (.str z), by decide +kernel⟩
  | lst h => exact .inl ⟨"list", .base (.lst h), by decide +kernel⟩
  | dict h => exact .inl ⟨"dict", .base (.dK h), by decide +kernel⟩
  | tup h hf hc => exact .inr ⟨_, _, rfl, h, hf, hc⟩
/-- t + u -/
theorem cat_readV {K : PySem.W.Frag} {H : Hp} {Q : VK} {a b : Addr} {xs ys : List V} (ha : H a = some (.tup xs)) (hb : H b = some (.tup ys)) (nb : H a ≠ none) (hz : xs.length + ys.length ≤ sizeLine) (k : ∀ r H', Same H H' → H' r = some (.tup (xs ++ ys)) → Q (.ref r) H') : rCatA K (.ref a) (.ref b) H Q := by
  refine ⟨a, b, _, _, rfl, rfl, SqT.of ha, SqT.of hb, hz, fun e => ?_, fun _ e => ?_, fun _ _ p np => ?_⟩
  · refine k b H (Same.refl _) ?_
    rw [e, List.nil_append]
    exact hb
  · refine k a H (Same.refl _) ?_
    rw [e, List.append_nil]
    exact ha
  · exact k p _ (same_upd np) upd_same
/-- the list at L -/
def ctnL (H : Hp) (L : Addr) : List V := match H L with
  | some (.lst xs) => xs
  | _ => []
theorem ctnL_of {H : Hp} {L : Addr} {xs : List V} (h : H L = some (.lst xs)) : ctnL H L = xs := by
  unfold ctnL
  rw [h]
theorem StA.tupK {H H' : Hp} {a lw lc : Addr} {t : Nat} (S : StA H a lw lc t) (k : Kp [a, lw] H H') {b : Addr} {ys : List V} (e : H b = some (.tup ys)) : H' b = some (.tup ys) := k b _ e (S.off e (fun _ z => by cases z) fun _ z => by cases z)
theorem seq_nat {j n : Nat} (h : j < n) : seqIndex? (j : Int) n = some j := by
  unfold seqIndex?
  have h0 : ¬ (j : Int) < 0 := by omega
  simp only [if_neg h0]
  have h1 : (decide (0 ≤ (j : Int)) && decide ((j : Int) < (n : Int))) = true := by
    rw [decide_eq_true (by omega), decide_eq_true (by omega)]
    rfl
  rw [if_pos h1]
  rfl
theorem erase_map {α β : Type} (f : α → β) : ∀ (l : List α) (j : Nat), (l.map f).eraseIdx j = (l.eraseIdx j).map f
  | [], _ => rfl
  | _ :: _, 0 => rfl
  | x :: l, j + 1 => congrArg (f x :: ·) (erase_map f l j)
def spOdd : Sp := fun vs H Q _ => ∃ (a lw lc : Addr) (t : Nat) (ca : Addr) (c : List Str), vs = [.ref a, .ref ca] ∧ StA H a lw lc t ∧ t < 2 ^ 39 ∧ H ca = some (.tup (c.map V.str)) ∧ c.Sublist TOOLS ∧ ∀ x H', OddX H' x → StA H' a lw lc (t + 1) → Kp [a, lw] H H' → Q x H'
def spShuf : Sp := fun vs H Q _ => ∃ (a lw lc : Addr) (t : Nat) (l : Addr) (ns : List Str), vs = [.ref a, .ref l] ∧ StA H a lw lc t ∧ t < 2 ^ 39 ∧ H l = some (.lst (ns.map V.str)) ∧ (ns.map V.str).all fok = true ∧ ns.length ≤ 100 ∧
  ∀ (p : Addr) (ms : List Str) (H' : Hp), ms.length = ns.length → (∀ z ∈ ms, z ∈ ns) → StA H' a lw lc (t + ns.length) → Kp [a, lw] H H' → H p = none → H' p = some (.lst (ms.map V.str)) → Q (.ref p) H'
section
variable {P : Program} {w : World} {K : PySem.W.Frag} {mg : Str → Option Value} {base : Heap} {f fP fD fS : Addr} {fd2 fdP fdD fdS : FuncData}
theorem scOdd : FnScope ["_law_state", "_law_chest_here", "_law_odd"] ["_law_state", "_law_chest_here"] (defScope sOdd) := ⟨rfl, rfl, rfl, by decide +kernel, rfl, by decide +kernel, by decide +kernel⟩
theorem ok_odd (F : FnP K "_law_odd_chest" sOdd f fd2) (FP : FnP K "_law_pick" sPick fP fdP) (FD : FnP K "_law_draw" sDraw fD fdD) (FS : FnP K "_law_stirred" sStir fS fdS) (gP : mg "_law_pick" = some (.ref fP)) (gD : mg "_law_draw" = some (.ref fD)) (gS : mg "_law_stirred" = some (.ref fS)) (T : Txt K mg) :
    FnOk P w K mg base CX0 4 f fd2 ["_law_state", "_law_chest_here"] spOdd := by
  have GP : FnOk P w K mg base CX0 3 fP fdP ["_law_state", "_law_some"] (spPick K) := ok_pick FP FD FS gD gS T
  have bP : Binds K fdP ["_law_state", "_law_some"] [] := FP.bindsN fun _ _ _ _ _ _ us hl => match us, hl with | [_, _], _ => rfl
  refine F.ok scOdd (fun vs H Q E h => ?_) (fun cdv A outer s H vs Q E hr h => ?_)
  · obtain ⟨a, lw, lc, t, ca, c, rfl, _⟩ := h
    rfl
  · obtain ⟨a, lw, lc, t, ca, c, rfl, S, ht, hca, hsub, k⟩ := h
    refine ⟨_, PSs.nox (pss_cons (ps_set (i := 2) scOdd.nd rfl (.inl rfl) (pe_lst (pa_cons pe_non (pa_cons pe_str (pa_cons (pe_callTy call_list_of (by rfl) T.list (by decide +kernel) (pa_cons (pv 1) pa_nil)) (pa_cons (pe_op op_catA (pv 1) (pe_tup (pa_cons pe_str pa_nil))) (pa_cons (pe_op op_catA (pv 1) (pe_tup (pa_cons pe_non pa_nil)))
        (pa_cons (pe_tup (pa_cons pe_str (pa_cons pe_str pa_nil))) (pa_cons (pe_tup (pa_cons pe_str (pa_cons pe_str pa_nil))) (pa_cons pe_dnewK (pa_cons (pe_tup (pa_cons pe_str pa_nil)) (pa_cons (pe_tup (pa_cons pe_int pa_nil)) pa_nil))))))))))))
      (pss_one (ps_ret (pe_call GP hr (by rfl) gP FP.kp bP .nil pass0 (pa_cons (pv 0) (pa_cons (pv 2) pa_nil)))))), ?_⟩
    have c9 := sub_len hsub
    have cl : (c.map V.str).length + 1 ≤ sizeLine := by
      rw [List.length_map]
      exact Nat.le_trans (Nat.add_le_add_right c9 1) (by decide)
    have nn : ∀ {G : Hp} {b : Addr} {o : HO}, G b = some o → G b ≠ none := fun e z => by rw [e] at z; cases z
    refine ⟨_, rfl, ca, _, rfl, .inr (SqT.of hca), fun l1 n1 => ?_⟩
    have s1 := same_upd (o := .lst (c.map V.str)) n1
    refine ⟨_, rfl, (by show 1 ≤ sizeLine; decide), fun t1 m1 => ?_⟩
    have s2 := same_upd (o := .tup [.str "zz"]) m1
    refine cat_readV (s2 _ _ (s1 _ _ hca)) upd_same (nn (s2 _ _ (s1 _ _ hca))) cl fun r1 H3 s3 h3 => ?_
    refine ⟨_, rfl, (by show 1 ≤ sizeLine; decide), fun t2 m2 => ?_⟩
    have s4 := same_upd (o := .tup [.non]) m2
    have hca4 := s4 _ _ (s3 _ _ (s2 _ _ (s1 _ _ hca)))
    refine cat_readV hca4 upd_same (nn hca4) cl fun r2 H5 s5 h5 => ?_
    refine ⟨(by show 2 ≤ sizeLine; decide), fun t3 m3 => ⟨(by show 2 ≤ sizeLine; decide), fun t4 m4 d m5 => ⟨(by show 1 ≤ sizeLine; decide), fun t5 m6 => ⟨(by show 1 ≤ sizeLine; decide), fun t6 m7 => ⟨(by show 10 ≤ sizeLine; decide), fun L mL => ?_⟩⟩⟩⟩⟩
    have s6 := same_upd (o := .tup [.str "strip", .str "disc"]) m3
    have s7 := same_upd (o := .tup [.str "disc", .str "disc"]) m4
    have s8 := same_upd (o := .dK []) m5
    have s9 := same_upd (o := .tup [.str ""]) m6
    have s10 := same_upd (o := .tup [.int 5]) m7
    have s11 := same_upd (o := .lst [.non, .str "disc", .ref l1, .ref r1, .ref r2, .ref t3, .ref t4, .ref d, .ref t5, .ref t6]) mL
    have up5 := ((s1.trans s2).trans s3).trans (s4.trans s5)
    have up8 := (up5.trans s6).trans s7
    have up10 := ((up8.trans s8).trans s9).trans s10
    have all := up10.trans s11
    have SL := S.same all
    have fd := (S.new (up8.free m5)).1
    have fl := (S.new n1).1
    have nL : L ≠ lw := fun z => (S.new (up10.free mL)).1 (by simp [z])
    have d2 := (((((s4.trans s5).trans s6).trans s7).trans s8).trans s9).trans (s10.trans s11)
    have d5 := ((((s6.trans s7).trans s8).trans s9).trans s10).trans s11
    have k1 := ((s2.trans s3).trans d2) _ _ (upd_same (a := l1) (o := .lst (c.map V.str)))
    have k2 := d2 _ _ h3
    have k3 := d5 _ _ h5
    have k4 := ((((s7.trans s8).trans s9).trans s10).trans s11) _ _ (upd_same (a := t3) (o := .tup [.str "strip", .str "disc"]))
    have k5 := (((s8.trans s9).trans s10).trans s11) _ _ (upd_same (a := t4) (o := .tup [.str "disc", .str "disc"]))
    have k6 := ((s9.trans s10).trans s11) _ _ (upd_same (a := d) (o := .dK []))
    have k7 := (s10.trans s11) _ _ (upd_same (a := t5) (o := .tup [.str ""]))
    have k8 := s11 _ _ (upd_same (a := t6) (o := .tup [.int 5]))
    refine ⟨_, rfl, _, rfl, a, lw, lc, t, L, _, rfl, SL, by omega, upd_same, nL, (by show 0 < 10; decide), (by show 10 ≤ 1000; decide), fun i x H' hx S' K' => ?_⟩
    have hx1 := List.mem_of_getElem? hx
    refine k x H' ?_ S' ((Kp.of all).trans K')
    simp only [List.mem_cons, List.not_mem_nil, or_false] at hx1
    have cf := sub_fok hsub
    have ca : ∀ b : V, fok b = true → (c.map V.str ++ [b]).all fok = true := fun b hb => by
      rw [List.all_append, cf]
      show (true && (fok b && true)) = true
      rw [hb]
      rfl
    rcases hx1 with rfl | rfl | rfl | rfl | rfl | rfl | rfl | rfl | rfl | rfl
    · exact .non
    · exact .str _
    · exact .lst (K' _ _ k1 fl)
    · exact .tup (SL.tupK K' k2) (ca _ (by decide +kernel)) (chest_bad (r := []) fun t e => by cases e; decide +kernel)
    · exact .tup (SL.tupK K' k3) (ca _ rfl) (chest_bad (r := []) fun t e => by cases e)
    · exact .tup (SL.tupK K' k4) (by decide +kernel) (by decide +kernel)
    · exact .tup (SL.tupK K' k5) (by decide +kernel) (by decide +kernel)
    · exact .dict (K' _ _ k6 fd)
    · exact .tup (SL.tupK K' k7) (by decide +kernel) (by decide +kernel)
    · exact .tup (SL.tupK K' k8) (by decide +kernel) (by decide +kernel)
theorem scShuf : FnScope ["_law_state", "_law_some", "_law_left", "_law_found"] ["_law_state", "_law_some"] (defScope sShuf) := ⟨rfl, rfl, rfl, by decide +kernel, rfl, by decide +kernel, by decide +kernel⟩
theorem ok_shuf (F : FnP K "_law_shuffled" sShuf f fd2) (FD : FnP K "_law_draw" sDraw fD fdD) (FS : FnP K "_law_stirred" sStir fS fdS) (gD : mg "_law_draw" = some (.ref fD)) (gS : mg "_law_stirred" = some (.ref fS)) (T : Txt K mg) :
    FnOk P w K mg base CX0 3 f fd2 ["_law_state", "_law_some"] spShuf := by
  have GD : FnOk P w K mg base CX0 2 fD fdD ["_law_state", "_law_room"] spDraw := ok_draw FD FS gS T
  have bD : Binds K fdD ["_law_state", "_law_room"] [] := FD.bindsN fun _ _ _ _ _ _ us hl => match us, hl with | [_, _], _ => rfl
  refine F.ok scShuf (fun vs H Q E h => ?_) (fun cdv A outer s H vs Q E hr h => ?_)
  · obtain ⟨a, lw, lc, t, l, ns, rfl, _⟩ := h
    rfl
  · obtain ⟨a, lw, lc, t, l, ns, rfl, S, ht, hl, hf, h100, k⟩ := h
    refine ⟨_, PSs.nox (pss_cons (ps_par (i := 2) (j := 3) (by rfl) scShuf.nd rfl rfl (by decide) rfl rfl (pa_cons (pe_callTy call_list_of (by rfl) T.list (by decide +kernel) (pa_cons (pv 1) pa_nil)) (pa_cons (pe_lst pa_nil) pa_nil)) (by rfl))
      (pss_cons (ps_while PassesOwn.never (pt_cmpR (op_neD hr.units) (pv 2) (pe_lst pa_nil) (nomark _))
        (pss_one (ps_expr (pe_bm PySem.F.plainAttrs_list PySem.F.slot_list_append PySem.F.type_list_append mt_append (pv 3) (pa_cons (pe_bm PySem.F.plainAttrs_list PySem.F.slot_list_pop PySem.F.type_list_pop mt_popAt (pv 2)
          (pa_cons (pe_call GD hr (by rfl) gD FD.kp bD .nil pass0 (pa_cons (pv 0) (pa_cons (pe_callB call_len_seq (by rfl) T.len PySem.boot_len (pa_cons (pv 2) pa_nil)) pa_nil))) pa_nil)) pa_nil)))))
      (pss_one (ps_ret (pv 3))))), ?_⟩
    refine ⟨_, rfl, l, _, rfl, .inl (SqL.of hl), fun L nL => ⟨(by show 0 ≤ sizeLine; decide), fun F0 nF => ⟨_, _, rfl, ?_⟩⟩⟩
    have s1 := same_upd (o := .lst (ns.map V.str)) nL
    have s2 := same_upd (o := .lst []) nF
    have SA := S.same (s1.trans s2)
    obtain ⟨oL, oLc⟩ := S.new nL
    obtain ⟨oF, oFc⟩ := S.new (s1.free nF)
    have nLF : L ≠ F0 := ne_of_none upd_same nF
    have hL := s2 _ _ (upd_same (a := L) (o := .lst (ns.map V.str)))
    refine while_by (fun σ G => σ = [some (.ref a), some (.ref l), some (.ref L), some (.ref F0)] ∧ ∃ xs ys : List Str, xs.length + ys.length = ns.length ∧ (∀ z ∈ xs, z ∈ ns) ∧ (∀ z ∈ ys, z ∈ ns) ∧ G L = some (.lst (xs.map V.str)) ∧ G F0 = some (.lst (ys.map V.str)) ∧ StA G a lw lc (t + ys.length) ∧ Kp [a, lw] H G)
      (fun σ G => (ctnL G L).length) ⟨rfl, ns, [], by simp, (fun _ h => h), (fun _ h => by cases h), hL, upd_same, SA, Kp.of (s1.trans s2)⟩ ?_ ?_
    · rintro σ G ⟨rfl, xs, ys, hlen, hx, hy, gL, gF, SG, KG⟩
      have fx : (xs.map V.str).all fok = true := by
        rw [List.all_eq_true] at hf ⊢
        intro v hv
        obtain ⟨z, hz, rfl⟩ := List.mem_map.mp hv
        exact hf _ (List.mem_map.mpr ⟨z, hx z hz, rfl⟩)
      refine ⟨_, rfl, (by show 0 ≤ sizeLine; decide), fun q nq => ?_⟩
      have s3 := same_upd (o := .lst []) nq
      refine ne_nil (SqL.of (s3 _ _ gL)) (SqL.of upd_same) fx ⟨_, rfl, ?_⟩
      have S3 := SG.same s3
      generalize L2.upd G q (.lst []) = G1 at s3 S3
      have gL1 := s3 _ _ gL
      have gF1 := s3 _ _ gF
      cases xs with
      | nil =>
        refine iteF ?_
        have e : ys.length = ns.length := by simpa using hlen
        rw [e] at S3
        have K1 := KG.trans (Kp.of s3 (xs := [a, lw]))
        exact ⟨_, rfl, k F0 ys G1 e hy S3 K1 (s1.free nF) gF1⟩
      | cons x xs =>
        refine iteT ?_
        have len : 0 < (x :: xs).length := by simp
        have yl : ys.length < 100 := by rw [List.length_cons] at hlen; omega
        refine ⟨_, rfl, .inl ⟨rfl, _, .inl (.inl gF1)⟩, _, rfl, .inl ⟨rfl, _, .inl (.inl gL1)⟩, _, rfl, _, rfl, L, _, rfl, .inl (SqL.of gL1), a, lw, lc, _, _, rfl, S3, by omega, ?_, ?_, fun z G2 z0 z1 S4 K4 => ?_⟩
        · rw [List.length_map]
          omega
        · rw [List.length_map, List.length_cons]
          rw [List.length_cons] at hlen
          omega
        have gL2 := K4 _ _ gL1 oL
        have gF2 := K4 _ _ gF1 oF
        obtain ⟨j, rfl⟩ : ∃ j : Nat, z = (j : Int) := ⟨z.toNat, by omega⟩
        rw [List.length_map] at z1
        have hj : j < (x :: xs).length := by omega
        have ej : ((x :: xs).map V.str)[j]? = some (.str ((x :: xs)[j])) := by
          rw [List.getElem?_map, List.getElem?_eq_getElem hj]
          rfl
        refine ⟨L, _, _, j, _, rfl, rfl, gL2, by omega, by rw [List.length_cons] at hj; rw [List.length_cons] at hlen; omega, ?_, ej, ?_⟩
        · rw [List.length_map]
          exact seq_nat hj
        · refine ⟨F0, _, _, rfl, rfl, by rw [upd_ne nLF.symm]; exact gF2, by rw [List.length_map]; exact Nat.lt_of_lt_of_le yl (by decide), ?_⟩
          have gLn : (L2.upd (L2.upd G2 L (.lst (((x :: xs).map V.str).eraseIdx j))) F0 (.lst (ys.map V.str ++ [.str ((x :: xs)[j])]))) L = some (.lst (((x :: xs).eraseIdx j).map V.str)) := by
            rw [upd_ne nLF, upd_same, erase_map]
          refine ⟨⟨rfl, (x :: xs).eraseIdx j, ys ++ [(x :: xs)[j]], ?_, fun z hz => hx z (List.mem_of_mem_eraseIdx hz), fun z hz => ?_, gLn, ?_, ?_, ?_⟩, ?_⟩
          · rw [List.length_eraseIdx_of_lt hj, List.length_append, List.length_singleton]
            rw [List.length_cons] at hlen ⊢
            omega
          · rcases List.mem_append.mp hz with hz | hz
            · exact hy z hz
            · rw [List.mem_singleton.mp hz]
              exact hx _ (List.getElem_mem hj)
          · rw [upd_same, List.map_append]
            rfl
          · rw [List.length_append, List.length_singleton]
            exact (S4.put oL oLc _).put oF oFc _
          · exact fun b o e nb => by
              rw [upd_ne (ne_of_none e (s1.free nF)), upd_ne (ne_of_none e nL)]
              exact ((KG.trans (Kp.of s3)).trans K4) b o e nb
          · show (ctnL _ L).length < (ctnL G L).length
            rw [ctnL_of gLn, ctnL_of gL, List.length_map, List.length_map, List.length_eraseIdx_of_lt hj]
            rw [List.length_cons]
            omega
    · rintro σ G Q1 Q2 hq ⟨v, e1, hle, hh⟩
      exact ⟨v, e1, hle, fun p np => let ⟨d, e, a1, a2, a3, a4, kk, e5, q⟩ := hh p np; ⟨d, e, a1, a2, a3, a4, kk, e5, hq _ _ q⟩⟩
end
end Own
set_option Elab.async false
set_option linter.all false
set_option maxRecDepth 100000
set_option maxHeartbeats 400000
namespace Own
open PySem PySem.Spec PyProof.Rows L2 LamX
/-! ### fresh names, drawn deeds -/
def AZ : Str := "abcdefghijklmnopqrstuvwxyz"
def LAB : List Str := "a" :: "b" :: "z" :: "meet" :: "gauge" :: "draw" :: "undo" :: "x" :: "y" :: "ok" :: "r1" :: "a1" :: "zzzzzzzz" :: "q9" :: []
def KK : List Str := (signs AZ).map fun x => strV x ++ "k" ++ strV x
def SV : List Str := (signs AZ).map fun x => strV x ++ "7"
theorem near_ok : (∀ z ∈ LAB ++ (KK ++ SV), NameOk z) ∧ KK.Nodup ∧ KK.length = 26 ∧ SV.length = 26 ∧ ∀ z ∈ KK, z ∉ SHEET := by decide +kernel
theorem signs_ok : ∀ x ∈ signs AZ, ∃ z, x = .str z ∧ z.length = 1 := fun x hx => by
  obtain ⟨c, hc, rfl⟩ := List.mem_map.mp hx
  exact ⟨_, rfl, rfl⟩
theorem nodup_le {α : Type} [DecidableEq α] : ∀ {l m : List α}, l.Nodup → (∀ x ∈ l, x ∈ m) → l.length ≤ m.length
  | [], _, _, _ => Nat.zero_le _
  | x :: l, m, h, s => by
    obtain ⟨h1, h2⟩ := List.nodup_cons.mp h
    have hx := s x List.mem_cons_self
    have := nodup_le (l := l) (m := m.erase x) h2 fun y hy => by
      have ne : y ≠ x := fun z => h1 (z ▸ hy)
      exact (List.mem_erase_of_ne ne).mpr (s y (List.mem_cons_of_mem _ hy))
    rw [List.length_erase_of_mem hx] at this
    have pos := List.length_pos_of_mem hx
    rw [List.length_cons]
    omega
def freshB (kn : List Str) (z : Str) : Bool := !decide (z ∈ kn) && !decide (z ∈ SHEET)
theorem fresh_some {kn : List Str} (h : kn.length ≤ 20) (label : Str) : ∃ z r, ([label] ++ KK ++ SV).filter (freshB kn) = z :: r := by
  cases e : ([label] ++ KK ++ SV).filter (freshB kn) with
  | cons z r => exact ⟨z, r, rfl⟩
  | nil =>
    exfalso
    have no := List.filter_eq_nil_iff.mp e
    have : KK.length ≤ kn.length := nodup_le near_ok.2.1 fun x hx => by
      have q := no x (List.mem_append_left _ (List.mem_append_right _ hx))
      have ns := near_ok.2.2.2.2 x hx
      unfold freshB at q
      rw [decide_eq_false ns] at q
      simpa using q
    rw [near_ok.2.2.1] at this
    omega
def spLName : Sp := fun vs H Q _ => ∃ (a lw lc : Addr) (t : Nat) (b : Addr) (kn : List Str), vs = [.ref a, .ref b] ∧ StA H a lw lc t ∧ t < 2 ^ 39 ∧ H b = some (.lst (kn.map V.str)) ∧ b ∉ [a, lw] ∧ kn.length ≤ 20 ∧
  ∀ z H', NameOk z → z ∉ kn → StA H' a lw lc (t + 1) → Kp [a, lw] H H' → Q (.str z) H'
section
variable {P : Program} {w : World} {K : PySem.W.Frag} {mg : Str → Option Value} {base : Heap} {f fP fD fS fSh fF fHW : Addr} {fd2 fdP fdD fdS fdSh fdF fdHW : FuncData}
abbrev nsLName : List Str := ["_law_state", "_law_barred", "_law_some", "_law_label", "_law_near", "_law_mark", "_law_one"]
theorem scLName : FnScope nsLName ["_law_state", "_law_barred"] (defScope sLName) := ⟨rfl, rfl, rfl, by decide +kernel, rfl, by decide +kernel, by decide +kernel⟩
theorem ok_lname (F : FnP K "_law_name" sLName f fd2) (FP : FnP K "_law_pick" sPick fP fdP) (FD : FnP K "_law_draw" sDraw fD fdD) (FS : FnP K "_law_stirred" sStir fS fdS) (gP : mg "_law_pick" = some (.ref fP)) (gD : mg "_law_draw" = some (.ref fD)) (gS : mg "_law_stirred" = some (.ref fS)) (T : Txt K mg) :
    FnOk P w K mg base CX0 4 f fd2 ["_law_state", "_law_barred"] spLName := by
  have GP : FnOk P w K mg base CX0 3 fP fdP ["_law_state", "_law_some"] (spPick K) := ok_pick FP FD FS gD gS T
  have bP : Binds K fdP ["_law_state", "_law_some"] [] := FP.bindsN fun _ _ _ _ _ _ us hl => match us, hl with | [_, _], _ => rfl
  refine F.ok scLName (fun vs H Q E h => ?_) (fun cdv A outer s H vs Q E hr h => ?_)
  · obtain ⟨a, lw, lc, t, b, kn, rfl, _⟩ := h
    rfl
  · obtain ⟨a, lw, lc, t, b, kn, rfl, S, ht, hb, nb, hl, k⟩ := h
    refine ⟨_, PSs.nox (pss_cons (ps_set (i := 2) scLName.nd rfl (.inl rfl) (pe_lst (pa_cons pe_str (pa_cons pe_str (pa_cons pe_str (pa_cons pe_str (pa_cons pe_str (pa_cons pe_str (pa_cons pe_str (pa_cons pe_str (pa_cons pe_str (pa_cons pe_str (pa_cons pe_str (pa_cons pe_str (pa_cons pe_str (pa_cons pe_str pa_nil))))))))))))))))
      (pss_cons (ps_set (i := 3) scLName.nd rfl (.inl rfl) (pe_call GP hr (by rfl) gP FP.kp bP .nil pass0 (pa_cons (pv 0) (pa_cons (pv 2) pa_nil))))
      (pss_cons (ps_set (i := 4) scLName.nd rfl (.inl rfl) (pe_op op_cat (pe_lst (pa_cons (pv 3) pa_nil)) (pe_lc (own := [("_law_mark", 5)]) (g := gName 5) (tt := tYes) (by rfl) scLName.nd (pi_str pe_str) (blkOk_by (own := [("_law_mark", 5)]) (N := nsLName) (sc := defScope sLName) (by decide +kernel))
          (fun _ _ _ _ _ => pg_name (i := 5) scLName.nd rfl (Or.inl rfl)) (fun _ _ _ _ _ => pts_nil) (fun _ _ _ _ _ => pe_op op_add_str (pe_op op_add_str (pv 5) pe_str) (pv 5)))))
      (pss_cons (ps_set (i := 4) scLName.nd rfl (.inl rfl) (pe_op op_cat (pv 4) (pe_lc (own := [("_law_mark", 5)]) (g := gName 5) (tt := tYes) (by rfl) scLName.nd (pi_str pe_str) (blkOk_by (own := [("_law_mark", 5)]) (N := nsLName) (sc := defScope sLName) (by decide +kernel))
          (fun _ _ _ _ _ => pg_name (i := 5) scLName.nd rfl (Or.inl rfl)) (fun _ _ _ _ _ => pts_nil) (fun _ _ _ _ _ => pe_op op_add_str (pv 5) pe_str))))
      (pss_one (ps_ret (pe_ix ix_list (pe_lc (own := [("_law_one", 6)]) (g := gName 6) (by rfl) scLName.nd (pi_list (pv 4)) (blkOk_by (own := [("_law_one", 6)]) (N := nsLName) (sc := defScope sLName) (by decide +kernel))
          (fun _ _ _ _ _ => pg_name (i := 6) scLName.nd rfl (Or.inl rfl)) (fun _ _ _ _ _ => pts_one (PW.pt (pw_and (pt_cmpR (op_notInK (K := K) rfl) (pv 6) (pv 1) (by rfl)) (pw_and1 (pt_cmpR (op_notInK (K := K) rfl) (pv 6) (pe_lst (pa_cons pe_str (pa_cons pe_str (pa_cons pe_str (pa_cons pe_str (pa_cons pe_str pa_nil)))))) (by rfl)))))) (fun _ _ _ _ _ => pv 6)) pe_int (fun _ _ => rfl)))))))), ?_⟩
    refine ⟨(by show 14 ≤ sizeLine; decide), fun L nL => ?_⟩
    have s1 := same_upd (o := .lst (LAB.map V.str)) nL
    have nLw : L ≠ lw := fun z => (S.new nL).1 (by simp [z])
    refine ⟨_, rfl, _, rfl, a, lw, lc, t, L, LAB.map V.str, rfl, S.same s1, by omega, upd_same, nLw, by decide, by decide, fun i x H1 hx S1 K1 => ?_⟩
    obtain ⟨label, hlab, rfl⟩ : ∃ z ∈ LAB, x = .str z := by
      obtain ⟨z, hz, e⟩ := List.mem_map.mp (List.mem_of_getElem? hx)
      exact ⟨z, hz, e.symm⟩
    have KK1 := (Kp.of s1 (xs := [a, lw])).trans K1
    have hb1 := KK1 _ _ hb nb
    have zk : ∀ {x : V}, x ∈ signs AZ → ∃ z, x = .str z ∧ z.length = 1 := fun h => signs_ok _ h
    -- the first list
    refine ⟨_, rfl, (by show 1 ≤ sizeLine; decide), fun l1 n1 => ?_⟩
    have s2 := same_upd (o := .lst [.str label]) n1
    refine ⟨AZ, rfl, fun D nD => ?_⟩
    refine lc_rel (p := fun _ => true) (c := fun x => V.str (strV x ++ "k" ++ strV x)) (rel := fun _ y b => y = b) walk_signs nD (by decide) (fun _ _ => trivial) (fun _ q => q) (fun _ q _ => q) (fun v => rfl) (fun x H' _ _ R kR => kR H' (Same.refl _)) (fun x H' hx _ _ R kR => ?_) fun H2 ys sH eD f => ?_
    · obtain ⟨z, rfl, hz⟩ := zk hx
      refine ⟨_, rfl, _, _, rfl, rfl, by rw [hz]; decide, _, rfl, _, _, rfl, rfl, ?_, kR _ H' (Same.refl _) rfl⟩
      have : (z ++ "k").length = 2 := by rw [Str.length_append, hz]; rfl
      rw [this, hz]
      decide
    rw [List.filter_eq_self.mpr fun _ _ => rfl] at f
    have ey : ys = KK.map V.str := by
      rw [f.map_eq (f := fun x => x), List.map_id']
      unfold KK
      rw [List.map_map]
      rfl
    subst ey
    refine ⟨l1, D, [.str label], _, rfl, rfl, sH _ _ upd_same, eD, (by rw [List.length_map, near_ok.2.2.1]; show 27 ≤ sizeLine; decide), fun l2 n2 => ?_⟩
    have s3 := same_upd (o := .lst ([V.str label] ++ KK.map V.str)) n2
    have up3 := (s2.trans sH).trans s3
    -- the second one
    refine ⟨_, rfl, ⟨AZ, rfl, fun D2 nD2 => ?_⟩⟩
    have h2 := upd_same (H := H2) (a := l2) (o := .lst ([V.str label] ++ KK.map V.str))
    generalize L2.upd H2 l2 (.lst ([V.str label] ++ KK.map V.str)) = H3 at s3 up3 nD2 h2
    refine lc_rel (p := fun _ => true) (c := fun x => V.str (strV x ++ "7")) (rel := fun _ y b => y = b) walk_signs nD2 (by decide) (fun _ _ => trivial) (fun _ q => q) (fun _ q _ => q) (fun v => rfl) (fun x H' _ _ R kR => kR H' (Same.refl _)) (fun x H' hx _ _ R kR => ?_) fun H4 ys s4 eD2 f2 => ?_
    · obtain ⟨z, rfl, hz⟩ := zk hx
      exact ⟨_, rfl, _, _, rfl, rfl, by rw [hz]; decide, kR _ H' (Same.refl _) rfl⟩
    rw [List.filter_eq_self.mpr fun _ _ => rfl] at f2
    have ey : ys = SV.map V.str := by
      rw [f2.map_eq (f := fun x => x), List.map_id']
      unfold SV
      rw [List.map_map]
      rfl
    subst ey
    refine ⟨l2, D2, _, _, rfl, rfl, s4 _ _ h2, eD2, (by rw [List.length_append, List.length_map, List.length_map, near_ok.2.2.1, near_ok.2.2.2.1]; show 53 ≤ sizeLine; decide), fun l3 n3 => ?_⟩
    have en : ([V.str label] ++ KK.map V.str) ++ SV.map V.str = ([label] ++ KK ++ SV).map V.str := by
      rw [List.map_append, List.map_append]
      rfl
    rw [en]
    have s5 := same_upd (o := .lst (([label] ++ KK ++ SV).map V.str)) n3
    have h3 := upd_same (H := H4) (a := l3) (o := .lst (([label] ++ KK ++ SV).map V.str))
    generalize L2.upd H4 l3 (.lst (([label] ++ KK ++ SV).map V.str)) = H5 at s5 h3
    have up5 := (up3.trans s4).trans s5
    have hb5 := up5 _ _ hb1
    refine ⟨_, rfl, l3, rfl, ⟨_, SqL.of h3⟩, fun D3 nD3 => ?_⟩
    have len53 : (([label] ++ KK ++ SV).map V.str).length = 53 := by
      rw [List.length_map, List.length_append, List.length_append, near_ok.2.2.1, near_ok.2.2.2.1]
      rfl
    refine lc_filt (p := fun x => !inV x (kn.map V.str) && !inV x (SHEET.map V.str)) walk_list nD3 (by rw [len53]; decide) (fun H' s => Same.seq s (SqL.of h3)) (by show 6 < 7; decide) (fun x H' hx s6 R kR => ?_) fun H6 s6 hD3 => ?_
    · obtain ⟨z, _, rfl⟩ := List.mem_map.mp hx
      refine ⟨_, rfl, _, rfl, b, _, rfl, .inl (SqL.of (s6 _ _ hb5)), rfl, flat_strs _, _, rfl, ?_⟩
      cases e : inV (V.str z) (kn.map V.str) with
      | true =>
        refine iteF ?_
        have q := kR H' (Same.refl _)
        rw [e] at q
        exact q
      | false =>
        refine iteT ?_
        refine ⟨_, rfl, (by show 5 ≤ sizeLine; decide), fun l nl => ⟨l, SHEET.map V.str, rfl, .inl (SqL.of upd_same), rfl, flat_strs _, _, rfl, ?_⟩⟩
        have q := kR _ (same_upd (o := .lst (SHEET.map V.str)) nl)
        rw [e] at q
        exact q
    obtain ⟨z, r, ez⟩ := fresh_some hl label
    have ef : (([label] ++ KK ++ SV).map V.str).filter (fun x => !inV x (kn.map V.str) && !inV x (SHEET.map V.str)) = (z :: r).map V.str := by
      rw [← ez, List.filter_map]
      refine congrArg (List.map V.str) (List.filter_congr fun y _ => ?_)
      show (!inV (.str y) _ && !inV (.str y) _) = freshB kn y
      rw [inV_str, inV_str]
      rfl
    rw [ef] at hD3
    have mz : z ∈ ([label] ++ KK ++ SV).filter (freshB kn) := by rw [ez]; exact List.mem_cons_self
    obtain ⟨mz1, mz2⟩ := List.mem_filter.mp mz
    have okz : NameOk z := by
      rcases List.mem_append.mp mz1 with m | m
      · rcases List.mem_append.mp m with m | m
        · rw [List.mem_singleton.mp m]
          exact near_ok.1 _ (List.mem_append_left _ hlab)
        · exact near_ok.1 _ (List.mem_append_right _ (List.mem_append_left _ m))
      · exact near_ok.1 _ (List.mem_append_right _ (List.mem_append_right _ m))
    have frz : z ∉ kn := by
      unfold freshB at mz2
      intro q
      rw [decide_eq_true q] at mz2
      cases mz2
    have up6 := up5.trans s6
    refine ⟨D3, _, _, _, rfl, rfl, SqL.of hD3, at_nat (k := 0) rfl, ?_⟩
    exact k z H6 okz frz (S1.same up6) (KK1.trans (Kp.of up6))
end
end Own
set_option Elab.async false
set_option linter.all false
set_option maxRecDepth 100000
set_option maxHeartbeats 400000
namespace Own
open PySem PySem.Spec PyProof.Rows L2 LamX
theorem ix_listK2 {X : Cx} {K : PySem.W.Frag} (h : X.K = K) : IxR X (rIxL K) := h ▸ ix_list
theorem fk_look : ∀ t ∈ FORM, valV FK (Sum.inr t.1) = some (.int t.2.1) := by decide +kernel
theorem fk_way : ∀ t ∈ FORM, decide (t.1 ∈ WAYS) = (t.2.2 == 1) := by decide +kernel
def spLDeed : Sp := fun vs H Q _ => ∃ (a lw lc : Addr) (t : Nat) (wd : Str) (m kk : Nat) (n : Addr) (kn : List Str), vs = [.ref a, .str wd, .ref n] ∧ StA H a lw lc t ∧ t < 2 ^ 38 ∧ (wd, m, kk) ∈ FORM ∧ H n = some (.lst (kn.map V.str)) ∧ n ∉ [a, lw] ∧ 0 < kn.length ∧ kn.length ≤ 20 ∧ (∀ z ∈ kn, NameOk z) ∧
  ∀ (p : Addr) (d : Deed) (H' : Hp), d.word = wd → DeedOk d → (∀ z ∈ d.names, z ∈ kn) → StA H' a lw lc (t + 40) → Kp [a, lw] H H' → H p = none → H' p = some (.tup d.vs) → Q (.ref p) H'
section
variable {P : Program} {w : World} {K : PySem.W.Frag} {mg : Str → Option Value} {base : Heap} {f fP fD fS fSh fF fHW : Addr} {fd2 fdP fdD fdS fdSh fdF fdHW : FuncData}
abbrev nsLDeed : List Str := ["_law_state", "_law_word", "_law_names", "_law_left", "_law_found", "_law_spot"]
theorem scLDeed : FnScope nsLDeed ["_law_state", "_law_word", "_law_names"] (defScope sLDeed) := ⟨rfl, rfl, rfl, by decide +kernel, rfl, by decide +kernel, by decide +kernel⟩
theorem ok_ldeed (F : FnP K "_law_deed" sLDeed f fd2) (FSh : FnP K "_law_shuffled" sShuf fSh fdSh) (FF : FnP K "_law_forms" sForms fF fdF) (FH : FnP K "_law_has_way" sHasWay fHW fdHW) (FP : FnP K "_law_pick" sPick fP fdP) (FD : FnP K "_law_draw" sDraw fD fdD) (FS : FnP K "_law_stirred" sStir fS fdS)
    (gSh : mg "_law_shuffled" = some (.ref fSh)) (gF : mg "_law_forms" = some (.ref fF)) (gH : mg "_law_has_way" = some (.ref fHW)) (gP : mg "_law_pick" = some (.ref fP)) (gD : mg "_law_draw" = some (.ref fD)) (gS : mg "_law_stirred" = some (.ref fS)) (T : Txt K mg) :
    FnOk P w K mg base CX0 4 f fd2 ["_law_state", "_law_word", "_law_names"] spLDeed := by
  have GP : FnOk P w K mg base CX0 3 fP fdP ["_law_state", "_law_some"] (spPick K) := ok_pick FP FD FS gD gS T
  have bP : Binds K fdP ["_law_state", "_law_some"] [] := FP.bindsN fun _ _ _ _ _ _ us hl => match us, hl with | [_, _], _ => rfl
  have GD : FnOk P w K mg base CX0 2 fD fdD ["_law_state", "_law_room"] spDraw := ok_draw FD FS gS T
  have bD : Binds K fdD ["_law_state", "_law_room"] [] := FD.bindsN fun _ _ _ _ _ _ us hl => match us, hl with | [_, _], _ => rfl
  have GSh : FnOk P w K mg base CX0 3 fSh fdSh ["_law_state", "_law_some"] spShuf := ok_shuf FSh FD FS gD gS T
  have bSh : Binds K fdSh ["_law_state", "_law_some"] [] := FSh.bindsN fun _ _ _ _ _ _ us hl => match us, hl with | [_, _], _ => rfl
  have GF : FnOk P w K mg base CX0 1 fF fdF [] spForms := ok_forms FF
  have bF : Binds K fdF [] [] := FF.bindsN fun _ _ _ _ _ _ us hl => match us, hl with | [], _ => rfl
  have GH : FnOk P w K mg base CX0 1 fHW fdHW ["_law_word"] spHasWay := ok_hasway FH
  have bH : Binds K fdHW ["_law_word"] [] := FH.bindsN fun _ _ _ _ _ _ us hl => match us, hl with | [_], _ => rfl
  refine F.ok scLDeed (fun vs H Q E h => ?_) (fun cdv A outer s H vs Q E hr h => ?_)
  · obtain ⟨a, lw, lc, t, wd, m, kk, n, kn, rfl, _⟩ := h
    rfl
  · obtain ⟨a, lw, lc, t, wd, m, kk, n, kn, rfl, S, ht, hm, hn, nn, l0, l20, okN, k⟩ := h
    have hu := hu_of hr
    have hr1 := hr.mono (show 1 ≤ 3 by decide)
    have hr2 := hr.mono (show 2 ≤ 3 by decide)
    refine ⟨_, PSs.nox (pss_cons (ps_set (i := 3) scLDeed.nd rfl (.inr rfl) (pe_call GSh hr (by rfl) gSh FSh.kp bSh .nil pass0 (pa_cons (pv 0) (pa_cons (pv 2) pa_nil))))
      (pss_cons (ps_setLc (i := 4) (own := [("_law_spot", 5)]) (g := gName 5) (tt := tYes) (by rfl) scLDeed.nd rfl rfl (sw_true rfl rfl rfl (by decide +kernel)) (pi_range1 (by rfl) T.range (pa_cons (pe_dget hu (pe_call0 GF hr1 (by rfl) gF FF.kp bF .nil pass0) (pv 1) (fun _ _ => rfl)) pa_nil)) (blkOk_by (own := [("_law_spot", 5)]) (N := nsLDeed) (sc := defScope sLDeed) (by decide +kernel))
          (fun _ _ _ _ _ => pg_name (i := 5) scLDeed.nd rfl (Or.inl rfl)) (fun _ _ _ _ _ => pts_nil)
          (fun _ _ _ _ _ => pe_ifExp (PW.pt (pw_and (pt_cmpR op_lt (pv 5) (pe_callB (call_lenK (K := K) rfl) (by rfl) T.len PySem.boot_len (pa_cons (pv 3) pa_nil)) (nomark _)) (pw_and1 (pt_cmpR op_gt (pe_call GD hr2 (by rfl) gD FD.kp bD .nil pass0 (pa_cons (pv 0) (pa_cons pe_int pa_nil))) pe_int (nomark _)))))
            (pe_ix (ix_listK2 (K := K) rfl) (pv 3) (pv 5) (fun _ _ => rfl)) (pe_call GP hr (by rfl) gP FP.kp bP .nil pass0 (pa_cons (pv 0) (pa_cons (pv 2) pa_nil)))))
      (pss_one (ps_ret (pe_tupleOf (by rfl) T.tuple (pe_op op_cat (pe_op op_cat (pe_lst (pa_cons (pv 1) pa_nil)) (pv 4)) (pe_ifExp (pt_val (pe_call GH hr1 (by rfl) gH FH.kp bH .nil pass0 (pa_cons (pv 1) pa_nil))) (pe_lst (pa_cons (pe_op op_add pe_int (pe_call GD hr2 (by rfl) gD FD.kp bD .nil pass0 (pa_cons (pv 0) (pa_cons pe_int pa_nil)))) pa_nil)) (pe_lst pa_nil)))))))), ?_⟩
    have f5 : m ≤ 5 := (form_facts _ hm).2.2.1
    have f1 : kk ≤ 1 := (form_facts _ hm).2.2.2
    refine ⟨_, rfl, _, rfl, a, lw, lc, t, n, kn, rfl, S, by omega, hn, fok_names okN, by omega, fun L ms H1 lm hms S1 K1 nL hL => ?_⟩
    have nLA := (S.new nL).1
    refine ⟨rfl, fun fo H2 s2 nfo hfo => ?_⟩
    refine ⟨_, rfl, fo, _, rfl, dget_k (.inr wd) hfo (fk_look _ hm), m, rfl, by omega, by omega, fun D nD => ?_⟩
    have S2 := S1.same s2
    obtain ⟨nDA, nDc⟩ := S2.new nD
    have sD := same_upd (o := .lst []) nD
    have hn2 := s2 _ _ (K1 _ _ hn nn)
    have hL2 := s2 _ _ hL
    have nLD : L ≠ D := ne_of_none hL2 nD
    have nnD : n ≠ D := ne_of_none hn2 nD
    refine lc_it (walk_range (lo := 0) (n := m)) (fun i G => ∃ ns : List Str, ns.length = i ∧ (∀ z ∈ ns, z ∈ kn) ∧ G D = some (.lst (ns.map V.str)) ∧ StA G a lw lc (t + kn.length + 2 * i) ∧ Kp [a, lw] H2 G) ⟨[], rfl, (fun _ h => by cases h), upd_same, S2.same sD, Kp.of sD⟩ (fun _ _ _ _ => trivial) ?_ ?_
    · rintro i x G G' hi ⟨ns, ln, hns, gD2, SG, KG⟩ ⟨rfl, rfl⟩
      have put : ∀ (z : Str) (G2 : Hp), z ∈ kn → G2 D = some (.lst (ns.map V.str)) → StA G2 a lw lc (t + kn.length + 2 * (i + 1)) → Kp [a, lw] H2 G2 → ∃ acc, G2 D = some (.lst acc) ∧ acc.length < sizeLine ∧ ∃ ms : List Str, ms.length = i + 1 ∧ (∀ z ∈ ms, z ∈ kn) ∧ (L2.upd G2 D (.lst (acc ++ [.str z]))) D = some (.lst (ms.map V.str)) ∧ StA (L2.upd G2 D (.lst (acc ++ [.str z]))) a lw lc (t + kn.length + 2 * (i + 1)) ∧ Kp [a, lw] H2 (L2.upd G2 D (.lst (acc ++ [.str z]))) := fun z G2 hz e S3 K3 => by
        refine ⟨_, e, by rw [List.length_map, ln]; exact Nat.lt_of_lt_of_le (show i < 5 by omega) (by decide), ns ++ [z], by rw [List.length_append, ln]; rfl, fun y hy => ?_, by rw [upd_same, List.map_append]; rfl, S3.put nDA nDc _, fun b o eb nb => ?_⟩
        · rcases List.mem_append.mp hy with hy | hy
          · exact hns y hy
          · rw [List.mem_singleton.mp hy]
            exact hz
        · rw [upd_ne (ne_of_none eb nD)]
          exact K3 b o eb nb
      have e0 : (0 : Int) + ((i : Nat) : Int) = ((i : Nat) : Int) := by omega
      have gL := KG _ _ hL2 nLA
      have gn := KG _ _ hn2 nn
      have pick : ∀ G2, StA G2 a lw lc (t + kn.length + 2 * i + 1) → Kp [a, lw] H2 G2 → G2 D = some (.lst (ns.map V.str)) → spPick K [.ref a, .ref n] G2 (fun y H4 => ∃ acc, H4 D = some (.lst acc) ∧ acc.length < sizeLine ∧ ∃ ms : List Str, ms.length = i + 1 ∧ (∀ z ∈ ms, z ∈ kn) ∧ (L2.upd H4 D (.lst (acc ++ [y]))) D = some (.lst (ms.map V.str)) ∧ StA (L2.upd H4 D (.lst (acc ++ [y]))) a lw lc (t + kn.length + 2 * (i + 1)) ∧ Kp [a, lw] H2 (L2.upd H4 D (.lst (acc ++ [y])))) E0 := fun G2 S3 K3 e => by
        refine ⟨a, lw, lc, _, n, _, rfl, S3, by omega, K3 _ _ hn2 nn, fun z => nn (by simp [z]), by rw [List.length_map]; exact l0, by rw [List.length_map]; omega, fun j x G3 hx S4 K4 => ?_⟩
        obtain ⟨z, hz, rfl⟩ := List.mem_map.mp (List.mem_of_getElem? hx)
        exact put z G3 hz (K4 _ _ e nDA) (S4.more (by omega)) (K3.trans K4)
      refine ⟨rfl, yes_if ?_⟩
      refine ⟨_, rfl, _, rfl, L, _, rfl, .inl (SqL.of gL), _, _, rfl, rfl, _, rfl, ?_⟩
      rw [e0]
      refine ite2 (fun c => ?_) fun c => ?_
      · have hlt : i < ms.length := by
          have := of_decide_eq_true c
          rw [List.length_map] at this
          omega
        refine ⟨_, rfl, a, lw, lc, _, _, rfl, SG, by omega, by decide, by decide, fun z G1 z0 z1 S3 K3 => ⟨_, _, rfl, rfl, _, rfl, ?_⟩⟩
        have gD3 := K3 _ _ gD2 nDA
        refine ite2 (fun _ => ?_) fun _ => ?_
        · have ej : (ms.map V.str)[i]? = some (.str (ms[i])) := by
            rw [List.getElem?_map, List.getElem?_eq_getElem hlt]
            rfl
          refine ⟨_, rfl, _, rfl, L, _, _, _, rfl, rfl, SqL.of (K3 _ _ gL nLA), by rw [e0]; exact at_nat ej, ?_⟩
          exact put _ G1 (hms _ (List.getElem_mem hlt)) gD3 (S3.more (by omega)) (KG.trans K3)
        · exact ⟨_, rfl, _, rfl, pick G1 S3 (KG.trans K3) gD3⟩
      · exact ⟨_, rfl, _, rfl, pick G' (SG.more (by omega)) KG gD2⟩
    · rintro G ⟨ns, ln, hns, gD2, SG, KG⟩
      have okns : ∀ z ∈ ns, NameOk z := fun z hz => okN z (hns z hz)
      have KA : Kp [a, lw] H G := (K1.trans (Kp.of s2)).trans KG
      have small : ∀ j : Nat, j ≤ 100 → j ≤ sizeLine := fun j h => Nat.le_trans h (by decide)
      refine ⟨_, rfl, (by show 1 ≤ sizeLine; decide), fun l1 n1 => ⟨_, rfl, ?_⟩⟩
      have s3 := same_upd (o := .lst [.str wd]) n1
      refine ⟨l1, D, [.str wd], _, rfl, rfl, upd_same, s3 _ _ gD2, small _ (by rw [List.length_map, ln]; show 1 + m ≤ 100; omega), fun l2 n2 => ?_⟩
      have s4 := same_upd (o := .lst ([V.str wd] ++ ns.map V.str)) n2
      have h2 := upd_same (H := L2.upd G l1 (.lst [.str wd])) (a := l2) (o := .lst ([V.str wd] ++ ns.map V.str))
      have sAB := s3.trans s4
      generalize L2.upd (L2.upd G l1 (.lst [.str wd])) l2 (.lst ([V.str wd] ++ ns.map V.str)) = G2 at s4 h2 sAB
      refine ⟨_, rfl, wd, rfl, fun G3 s5 => ⟨_, rfl, ?_⟩⟩
      rw [fk_way _ hm]
      have S5 := SG.same (sAB.trans s5)
      have K5 := KA.trans (Kp.of (sAB.trans s5) (xs := [a, lw]))
      have h25 := s5 _ _ h2
      by_cases hk : kk = 1
      · subst hk
        refine iteT ?_
        refine ⟨_, rfl, a, lw, lc, _, _, rfl, S5, by omega, by decide, by decide, fun z G4 z0 z1 S6 K6 => ⟨_, _, rfl, rfl, (by show 1 ≤ sizeLine; decide), fun l3 n3 => ?_⟩⟩
        have s6 := same_upd (o := .lst [V.int (1 + z)]) n3
        have o2 : l2 ∉ [a, lw] := ((SG.same s3).new n2).1
        have h26 := s6 _ _ (K6 _ _ h25 o2)
        refine ⟨l2, l3, _, [V.int (1 + z)], rfl, rfl, h26, upd_same, small _ (by rw [List.length_append, List.length_map, ln]; show (1 + m) + 1 ≤ 100; omega), fun l4 n4 => ?_⟩
        have s7 := same_upd (o := .lst ([V.str wd] ++ ns.map V.str ++ [V.int (1 + z)])) n4
        refine .inl ⟨l4, _, rfl, SqL.of upd_same, fun p np => ?_⟩
        have s8 := same_upd (o := .tup ([V.str wd] ++ ns.map V.str ++ [V.int (1 + z)])) np
        have sF := (s6.trans s7).trans s8
        have KF := (K5.trans K6).trans (Kp.of sF (xs := [a, lw]))
        have SF := S6.same sF
        refine k p ⟨wd, ns, [1 + z]⟩ _ rfl ⟨m, 1, hm, ln, okns, rfl, fun y hy => ?_⟩ hns (SF.more (by omega)) KF ?_ ?_
        · rw [List.mem_singleton.mp hy]
          omega
        · exact S6.back ((K5.trans K6)) ((s6.trans s7).free np)
        · rw [upd_same]
          unfold Deed.vs
          simp
      · have e0 : (kk == 1) = false := by simpa using hk
        rw [e0]
        refine iteF ?_
        refine ⟨(by show 0 ≤ sizeLine; decide), fun l3 n3 => ?_⟩
        have s6 := same_upd (o := .lst []) n3
        refine ⟨l2, l3, _, [], rfl, rfl, s6 _ _ h25, upd_same, small _ (by rw [List.length_append, List.length_map, ln]; show (1 + m) + 0 ≤ 100; omega), fun l4 n4 => ?_⟩
        have s7 := same_upd (o := .lst ([V.str wd] ++ ns.map V.str ++ [])) n4
        refine .inl ⟨l4, _, rfl, SqL.of upd_same, fun p np => ?_⟩
        have s8 := same_upd (o := .tup ([V.str wd] ++ ns.map V.str ++ [])) np
        have sF := (s6.trans s7).trans s8
        have k0 : kk = 0 := by omega
        subst k0
        refine k p ⟨wd, ns, []⟩ _ rfl ⟨m, 0, hm, ln, okns, rfl, fun y hy => by cases hy⟩ hns ((S5.same sF).more (by omega)) (K5.trans (Kp.of sF)) (S5.back K5 ((s6.trans s7).free np)) ?_
        rw [upd_same]
        unfold Deed.vs
        simp
end
end Own
set_option Elab.async false
set_option linter.all false
set_option maxRecDepth 100000
set_option maxHeartbeats 400000
namespace Own
open PySem PySem.Spec PyProof.Rows L2 LamX
/-! ### what the walk asks of the module, all of it -/
def FNS : List (Str × Stmt) := ("is_whole", sWhole) :: ("is_name", sName) :: ("vec_lowest", sLowest) :: ("rows_of", sRowsOf) :: ("need_tower", sNeedT) :: ("sheet", sSheet) :: ("is_deed", sDeed) :: ("need_deed", sNeedD) :: ("names_of", sNames) :: ("tool_of", sTool) :: ("is_drawing", sDrawing) ::
  ("is_chest", sChest) :: ("need_chest", sNeedC) :: ("need_word", sNeedW) :: ("rank_of", sRank) :: ("set_of", sSet) :: ("joint", sJoint) :: ("no_more", sNoMore) :: ("all_chests", sAll) :: ("chests_with", sWith) :: ("least_chests", sLeast) :: ("first_barred", sBarred) ::
  ("_law_begun", sBegun) :: ("_law_stirred", sStir) :: ("_law_draw", sDraw) :: ("_law_pick", sPick) :: ("_law_shuffled", sShuf) :: ("_law_name", sLName) :: ("_law_caught", sCaught) :: ("_law_forms", sForms) :: ("_law_has_way", sHasWay) :: ("_law_deed", sLDeed) :: ("_law_tools", sLTools) :: ("_law_rank", sLRank) ::
  ("_law_chest", sLChest) :: ("_law_odd_chest", sOdd) :: ("_law_lots_right", sLots) :: ("_law_barred_right", sBarR) :: ("law", sLaw) :: []
structure All (P : Program) (w : World) (K : PySem.W.Frag) (mg : Str → Option Value) (CB CD CW CR CT CN fT fN pE : Addr) (dT dN : FuncData) : Prop where
  t : Txt K mg
  c : Cst K mg
  d : Dct K w mg
  o : Obj2 K mg CT CN fT fN pE dT dN
  fns : ∀ x st, (x, st) ∈ FNS → ∃ fd, FnP K x st (He.ga K x) fd
  gl : ∀ x st, (x, st) ∈ FNS → mg x = some (.ref (He.ga K x))
  frac : ∃ fd, FunD K "fraction" "fraction" (defArgs sFrac) (defBody sFrac) (defScope sFrac) [.int 1] [] (He.ga K "fraction") fd
  gFr : mg "fraction" = some (.ref (He.ga K "fraction"))
  eC : ExcT K mg "BadChest" CB
  eD : ExcT K mg "BadDrawing" CD
  eW : ExcT K mg "BadWord" CW
  cC : ExcC K CB
  cD : ExcC K CD
  cW : ExcC K CW
  xC : PySem.W.exmOne K (.ref CB) (.ref CR) = some true
  xD : PySem.W.exmOne K (.ref CD) (.ref CR) = some true
  xW : PySem.W.exmOne K (.ref CW) (.ref CR) = some true
  gR : mg "RulerError" = some (.ref CR)
/-- a def of the module, ready to be called -/
structure Fk (P : Program) (w : World) (K : PySem.W.Frag) (mg : Str → Option Value) (base : Heap) (CX : CXT) (k : Nat) (x : Str) (fd : FuncData) (ps : List Str) (sp : Sp) : Prop where
  ok : FnOk P w K mg base CX k (He.ga K x) fd ps sp
  b : Binds K fd ps []
  kp : PySem.W.keepIn K (.ref (He.ga K x)) = true
  g : mg x = some (.ref (He.ga K x))
section
variable {P : Program} {w : World} {K : PySem.W.Frag} {mg : Str → Option Value} {base : Heap} {CB CD CW CR CT CN fT fN pE : Addr} {dT dN : FuncData}
theorem All.mem1 {x : Str} {st : Stmt} (h : (x, st) ∈ FNS) (Z : All P w K mg CB CD CW CR CT CN fT fN pE dT dN) : ∃ fd, FnP K x st (He.ga K x) fd ∧ mg x = some (.ref (He.ga K x)) := by
  obtain ⟨fd, h1⟩ := Z.fns x st h
  exact ⟨fd, h1, Z.gl x st h⟩
theorem All.whole (Z : All P w K mg CB CD CW CR CT CN fT fN pE dT dN) : ∃ fd, FnP K "is_whole" sWhole (He.ga K "is_whole") fd ∧ mg "is_whole" = some (.ref (He.ga K "is_whole")) := All.mem1 (by simp [FNS]) Z
theorem All.rank (Z : All P w K mg CB CD CW CR CT CN fT fN pE dT dN) : ∃ fd, FnP K "rank_of" sRank (He.ga K "rank_of") fd ∧ mg "rank_of" = some (.ref (He.ga K "rank_of")) := All.mem1 (by simp [FNS]) Z
theorem All.ischest (Z : All P w K mg CB CD CW CR CT CN fT fN pE dT dN) : ∃ fd, FnP K "is_chest" sChest (He.ga K "is_chest") fd ∧ mg "is_chest" = some (.ref (He.ga K "is_chest")) := All.mem1 (by simp [FNS]) Z
theorem All.needc (Z : All P w K mg CB CD CW CR CT CN fT fN pE dT dN) : ∃ fd, FnP K "need_chest" sNeedC (He.ga K "need_chest") fd ∧ mg "need_chest" = some (.ref (He.ga K "need_chest")) := All.mem1 (by simp [FNS]) Z
theorem All.needw (Z : All P w K mg CB CD CW CR CT CN fT fN pE dT dN) : ∃ fd, FnP K "need_word" sNeedW (He.ga K "need_word") fd ∧ mg "need_word" = some (.ref (He.ga K "need_word")) := All.mem1 (by simp [FNS]) Z
theorem All.kDraw (Z : All P w K mg CB CD CW CR CT CN fT fN pE dT dN) : ∃ fd, Fk P w K mg base CX0 2 "_law_draw" fd ["_law_state", "_law_room"] spDraw := by
  obtain ⟨dS, FS, gS⟩ := All.mem1 (x := "_law_stirred") (st := sStir) (by simp [FNS]) Z
  obtain ⟨fd, F, g⟩ := All.mem1 (x := "_law_draw") (st := sDraw) (by simp [FNS]) Z
  exact ⟨fd, ok_draw F FS gS Z.t, F.bindsN fun _ _ _ _ _ _ us hl => match us, hl with | [_, _], _ => rfl, F.kp, g⟩
theorem All.kPick (Z : All P w K mg CB CD CW CR CT CN fT fN pE dT dN) : ∃ fd, Fk P w K mg base CX0 3 "_law_pick" fd ["_law_state", "_law_some"] (spPick K) := by
  obtain ⟨dS, FS, gS⟩ := All.mem1 (x := "_law_stirred") (st := sStir) (by simp [FNS]) Z
  obtain ⟨dD, FD, gD⟩ := All.mem1 (x := "_law_draw") (st := sDraw) (by simp [FNS]) Z
  obtain ⟨fd, F, g⟩ := All.mem1 (x := "_law_pick") (st := sPick) (by simp [FNS]) Z
  exact ⟨fd, ok_pick F FD FS gD gS Z.t, F.bindsN fun _ _ _ _ _ _ us hl => match us, hl with | [_, _], _ => rfl, F.kp, g⟩
theorem All.kBegun (Z : All P w K mg CB CD CW CR CT CN fT fN pE dT dN) : ∃ fd, Fk P w K mg base CX0 1 "_law_begun" fd ["_law_script"] (spBegun K) := by
  obtain ⟨fd, F, g⟩ := All.mem1 (x := "_law_begun") (st := sBegun) (by simp [FNS]) Z
  exact ⟨fd, ok_begun F Z.t, F.bindsN fun _ _ _ _ _ _ us hl => match us, hl with | [_], _ => rfl, F.kp, g⟩
theorem All.kForms (Z : All P w K mg CB CD CW CR CT CN fT fN pE dT dN) : ∃ fd, Fk P w K mg base CX0 1 "_law_forms" fd [] spForms := by
  obtain ⟨fd, F, g⟩ := All.mem1 (x := "_law_forms") (st := sForms) (by simp [FNS]) Z
  exact ⟨fd, ok_forms F, F.bindsN fun _ _ _ _ _ _ us hl => match us, hl with | [], _ => rfl, F.kp, g⟩
theorem All.kLTools (Z : All P w K mg CB CD CW CR CT CN fT fN pE dT dN) : ∃ fd, Fk P w K mg base CX0 1 "_law_tools" fd [] spLTools := by
  obtain ⟨fd, F, g⟩ := All.mem1 (x := "_law_tools") (st := sLTools) (by simp [FNS]) Z
  exact ⟨fd, ok_ltools F, F.bindsN fun _ _ _ _ _ _ us hl => match us, hl with | [], _ => rfl, F.kp, g⟩
theorem All.kLRank (Z : All P w K mg CB CD CW CR CT CN fT fN pE dT dN) : ∃ fd, Fk P w K mg base CX0 1 "_law_rank" fd ["_law_chest_here"] spLRank := by
  obtain ⟨fd, F, g⟩ := All.mem1 (x := "_law_rank") (st := sLRank) (by simp [FNS]) Z
  exact ⟨fd, ok_lrank F Z.t, F.bindsN fun _ _ _ _ _ _ us hl => match us, hl with | [_], _ => rfl, F.kp, g⟩
theorem All.kLChest (Z : All P w K mg CB CD CW CR CT CN fT fN pE dT dN) : ∃ fd, Fk P w K mg base CX0 3 "_law_chest" fd ["_law_state"] spLChest := by
  obtain ⟨dS, FS, gS⟩ := All.mem1 (x := "_law_stirred") (st := sStir) (by simp [FNS]) Z
  obtain ⟨dD, FD, gD⟩ := All.mem1 (x := "_law_draw") (st := sDraw) (by simp [FNS]) Z
  obtain ⟨dT', FT, gT⟩ := All.mem1 (x := "_law_tools") (st := sLTools) (by simp [FNS]) Z
  obtain ⟨fd, F, g⟩ := All.mem1 (x := "_law_chest") (st := sLChest) (by simp [FNS]) Z
  exact ⟨fd, ok_lchest F FD FS FT gD gS gT Z.t, F.bindsN fun _ _ _ _ _ _ us hl => match us, hl with | [_], _ => rfl, F.kp, g⟩
theorem All.kOdd (Z : All P w K mg CB CD CW CR CT CN fT fN pE dT dN) : ∃ fd, Fk P w K mg base CX0 4 "_law_odd_chest" fd ["_law_state", "_law_chest_here"] spOdd := by
  obtain ⟨dS, FS, gS⟩ := All.mem1 (x := "_law_stirred") (st := sStir) (by simp [FNS]) Z
  obtain ⟨dD, FD, gD⟩ := All.mem1 (x := "_law_draw") (st := sDraw) (by simp [FNS]) Z
  obtain ⟨dP, FP, gP⟩ := All.mem1 (x := "_law_pick") (st := sPick) (by simp [FNS]) Z
  obtain ⟨fd, F, g⟩ := All.mem1 (x := "_law_odd_chest") (st := sOdd) (by simp [FNS]) Z
  exact ⟨fd, ok_odd F FP FD FS gP gD gS Z.t, F.bindsN fun _ _ _ _ _ _ us hl => match us, hl with | [_, _], _ => rfl, F.kp, g⟩
theorem All.kLName (Z : All P w K mg CB CD CW CR CT CN fT fN pE dT dN) : ∃ fd, Fk P w K mg base CX0 4 "_law_name" fd ["_law_state", "_law_barred"] spLName := by
  obtain ⟨dS, FS, gS⟩ := All.mem1 (x := "_law_stirred") (st := sStir) (by simp [FNS]) Z
  obtain ⟨dD, FD, gD⟩ := All.mem1 (x := "_law_draw") (st := sDraw) (by simp [FNS]) Z
  obtain ⟨dP, FP, gP⟩ := All.mem1 (x := "_law_pick") (st := sPick) (by simp [FNS]) Z
  obtain ⟨fd, F, g⟩ := All.mem1 (x := "_law_name") (st := sLName) (by simp [FNS]) Z
  exact ⟨fd, ok_lname F FP FD FS gP gD gS Z.t, F.bindsN fun _ _ _ _ _ _ us hl => match us, hl with | [_, _], _ => rfl, F.kp, g⟩
theorem All.kLDeed (Z : All P w K mg CB CD CW CR CT CN fT fN pE dT dN) : ∃ fd, Fk P w K mg base CX0 4 "_law_deed" fd ["_law_state", "_law_word", "_law_names"] spLDeed := by
  obtain ⟨dS, FS, gS⟩ := All.mem1 (x := "_law_stirred") (st := sStir) (by simp [FNS]) Z
  obtain ⟨dD, FD, gD⟩ := All.mem1 (x := "_law_draw") (st := sDraw) (by simp [FNS]) Z
  obtain ⟨dP, FP, gP⟩ := All.mem1 (x := "_law_pick") (st := sPick) (by simp [FNS]) Z
  obtain ⟨dSh, FSh, gSh⟩ := All.mem1 (x := "_law_shuffled") (st := sShuf) (by simp [FNS]) Z
  obtain ⟨dF, FF, gF⟩ := All.mem1 (x := "_law_forms") (st := sForms) (by simp [FNS]) Z
  obtain ⟨dH, FH, gH⟩ := All.mem1 (x := "_law_has_way") (st := sHasWay) (by simp [FNS]) Z
  obtain ⟨fd, F, g⟩ := All.mem1 (x := "_law_deed") (st := sLDeed) (by simp [FNS]) Z
  exact ⟨fd, ok_ldeed F FSh FF FH FP FD FS gSh gF gH gP gD gS Z.t, F.bindsN fun _ _ _ _ _ _ us hl => match us, hl with | [_, _, _], _ => rfl, F.kp, g⟩
theorem All.kIsChest (Z : All P w K mg CB CD CW CR CT CN fT fN pE dT dN) : ∃ fd, FnP K "is_chest" sChest (He.ga K "is_chest") fd ∧ Fk P w K mg base CX0 1 "is_chest" fd ["value"] (spIsChest K) := by
  obtain ⟨fd, F, g⟩ := Z.ischest
  exact ⟨fd, F, ok_ischest F Z.t Z.c, F.bindsN fun _ _ _ _ _ _ us hl => match us, hl with | [_], _ => rfl, F.kp, g⟩
theorem All.kNeedC (Z : All P w K mg CB CD CW CR CT CN fT fN pE dT dN) : ∃ fd, Fk P w K mg base (L2.CX P w) 2 "need_chest" fd ["chest"] (spNeedC K CB) := by
  obtain ⟨dI, FI, gI⟩ := Z.ischest
  obtain ⟨fd, F, g⟩ := Z.needc
  exact ⟨fd, ok_needc F FI gI Z.t Z.c Z.eC, F.bindsN fun _ _ _ _ _ _ us hl => match us, hl with | [_], _ => rfl, F.kp, g⟩
theorem All.kSet (Z : All P w K mg CB CD CW CR CT CN fT fN pE dT dN) : ∃ fd, FnP K "set_of" sSet (He.ga K "set_of") fd ∧ Fk P w K mg base (L2.CX P w) 3 "set_of" fd ["chest"] (spSet K CB) := by
  obtain ⟨dI, FI, gI⟩ := Z.ischest
  obtain ⟨dN', FN, gN⟩ := Z.needc
  obtain ⟨dR, FR, gR⟩ := Z.rank
  obtain ⟨fd, F, g⟩ := All.mem1 (x := "set_of") (st := sSet) (by simp [FNS]) Z
  exact ⟨fd, F, ok_set F FN FI FR gI gN gR Z.t Z.c Z.eC, F.bindsN fun _ _ _ _ _ _ us hl => match us, hl with | [_], _ => rfl, F.kp, g⟩
theorem All.kJoint (Z : All P w K mg CB CD CW CR CT CN fT fN pE dT dN) : ∃ fd, FnP K "joint" sJoint (He.ga K "joint") fd ∧ Fk P w K mg base (L2.CX P w) 3 "joint" fd ["one", "other"] (spTwo K CB rJoint) := by
  obtain ⟨dI, FI, gI⟩ := Z.ischest
  obtain ⟨dN', FN, gN⟩ := Z.needc
  obtain ⟨fd, F, g⟩ := All.mem1 (x := "joint") (st := sJoint) (by simp [FNS]) Z
  exact ⟨fd, F, ok_joint F FN FI gI gN Z.t Z.c Z.eC, F.bindsN fun _ _ _ _ _ _ us hl => match us, hl with | [_, _], _ => rfl, F.kp, g⟩
theorem All.kNoMore (Z : All P w K mg CB CD CW CR CT CN fT fN pE dT dN) : ∃ fd, FnP K "no_more" sNoMore (He.ga K "no_more") fd ∧ Fk P w K mg base (L2.CX P w) 3 "no_more" fd ["one", "other"] (spTwo K CB rNoMore) := by
  obtain ⟨dI, FI, gI⟩ := Z.ischest
  obtain ⟨dN', FN, gN⟩ := Z.needc
  obtain ⟨dR, FR, gR⟩ := Z.rank
  obtain ⟨fd, F, g⟩ := All.mem1 (x := "no_more") (st := sNoMore) (by simp [FNS]) Z
  exact ⟨fd, F, ok_nomore F FN FI FR gI gN gR Z.t Z.c Z.eC, F.bindsN fun _ _ _ _ _ _ us hl => match us, hl with | [_, _], _ => rfl, F.kp, g⟩
theorem All.kWith (Z : All P w K mg CB CD CW CR CT CN fT fN pE dT dN) : ∃ fd, FnP K "chests_with" sWith (He.ga K "chests_with") fd ∧ Fk P w K mg base (L2.CX P w) 2 "chests_with" fd ["word"] (spWith K CW setC) := by
  obtain ⟨dW, FW, gW⟩ := Z.needw
  obtain ⟨dA, FA, gA⟩ := All.mem1 (x := "all_chests") (st := sAll) (by simp [FNS]) Z
  obtain ⟨dR, FR, gR⟩ := Z.rank
  obtain ⟨fd, F, g⟩ := All.mem1 (x := "chests_with") (st := sWith) (by simp [FNS]) Z
  exact ⟨fd, F, ok_with F FW FA FR gW gA gR Z.t Z.c Z.eW, F.bindsN fun _ _ _ _ _ _ us hl => match us, hl with | [_], _ => rfl, F.kp, g⟩
theorem All.kLeast (Z : All P w K mg CB CD CW CR CT CN fT fN pE dT dN) : ∃ fd, FnP K "least_chests" sLeast (He.ga K "least_chests") fd ∧ Fk P w K mg base (L2.CX P w) 2 "least_chests" fd ["word"] (spWith K CW leastC) := by
  obtain ⟨dW, FW, gW⟩ := Z.needw
  obtain ⟨dR, FR, gR⟩ := Z.rank
  obtain ⟨fd, F, g⟩ := All.mem1 (x := "least_chests") (st := sLeast) (by simp [FNS]) Z
  exact ⟨fd, F, ok_least F FW FR gW gR Z.t Z.c Z.eW, F.bindsN fun _ _ _ _ _ _ us hl => match us, hl with | [_], _ => rfl, F.kp, g⟩
theorem All.kBarred (Z : All P w K mg CB CD CW CR CT CN fT fN pE dT dN) : ∃ fd, FnP K "first_barred" sBarred (He.ga K "first_barred") fd ∧ Fk P w K mg base (L2.CX P w) 7 "first_barred" fd ["steps", "chest"] (spBarred K CD CB) := by
  obtain ⟨dI, FI, gI⟩ := Z.whole
  obtain ⟨dNa, FNa, gNa⟩ := All.mem1 (x := "is_name") (st := sName) (by simp [FNS]) Z
  obtain ⟨dDe, FDe, gDe⟩ := All.mem1 (x := "is_deed") (st := sDeed) (by simp [FNS]) Z
  obtain ⟨dNd, FNd, gNd⟩ := All.mem1 (x := "need_deed") (st := sNeedD) (by simp [FNS]) Z
  obtain ⟨dNs, FNs, gNs⟩ := All.mem1 (x := "names_of") (st := sNames) (by simp [FNS]) Z
  obtain ⟨dTo, FTo, gTo⟩ := All.mem1 (x := "tool_of") (st := sTool) (by simp [FNS]) Z
  obtain ⟨dDr, FDr, gDr⟩ := All.mem1 (x := "is_drawing") (st := sDrawing) (by simp [FNS]) Z
  obtain ⟨dSh, FSh, gSh⟩ := All.mem1 (x := "sheet") (st := sSheet) (by simp [FNS]) Z
  obtain ⟨dRo, FRo, gRo⟩ := All.mem1 (x := "rows_of") (st := sRowsOf) (by simp [FNS]) Z
  obtain ⟨dNt, FNt, gNt⟩ := All.mem1 (x := "need_tower") (st := sNeedT) (by simp [FNS]) Z
  obtain ⟨dLo, FLo, gLo⟩ := All.mem1 (x := "vec_lowest") (st := sLowest) (by simp [FNS]) Z
  obtain ⟨dFr, FFr⟩ := Z.frac
  obtain ⟨dNC, KNC⟩ := Z.kNeedC (base := base)
  obtain ⟨fd, F, g⟩ := All.mem1 (x := "first_barred") (st := sBarred) (by simp [FNS]) Z
  have DZ : DrawFns K mg P w base _ _ _ _ dSh dNa dDe dNs := ⟨ok_sheet FSh FFr FI FRo FNt FLo Z.gFr gI gRo gNt gLo Z.t Z.o, ok_name FNa Z.t Z.c, ok_deed FDe FNa FI gNa gI Z.t Z.c Z.d, ok_names FNs FNd FDe FNa FI gNd gDe gNa gI Z.t Z.c Z.d,
    FSh.bindsN fun _ _ _ _ _ _ us hl => match us, hl with | [], _ => rfl, FNa.bindsN fun _ _ _ _ _ _ us hl => match us, hl with | [_], _ => rfl, FDe.bindsN fun _ _ _ _ _ _ us hl => match us, hl with | [_], _ => rfl, FNs.bindsN fun _ _ _ _ _ _ us hl => match us, hl with | [_], _ => rfl, FSh.kp, FNa.kp, FDe.kp, FNs.kp, gSh, gNa, gDe, gNs⟩
  exact ⟨fd, F, ok_barred F (ok_drawing FDr DZ Z.t) KNC.ok (ok_tool FTo FNd FDe FNa FI gNd gDe gNa gI Z.t Z.c Z.d) (FDr.bindsN fun _ _ _ _ _ _ us hl => match us, hl with | [_], _ => rfl) KNC.b (FTo.bindsN fun _ _ _ _ _ _ us hl => match us, hl with | [_], _ => rfl) FDr.kp KNC.kp FTo.kp gDr KNC.g gTo Z.t Z.eD, F.bindsN fun _ _ _ _ _ _ us hl => match us, hl with | [_, _], _ => rfl, F.kp, g⟩
end
end Own
set_option Elab.async false
set_option linter.all false
set_option maxRecDepth 100000
set_option maxHeartbeats 400000
namespace Own
open PySem PySem.Spec PyProof.Rows L2 LamX
/-! ### lambdas handed to _law_caught -/
theorem kit_self {K : PySem.W.Frag} (t : Value) : PySem.W.kitOne K t t = some true := by
  unfold PySem.W.kitOne
  rw [if_pos (beq_self_eq_true t)]
theorem scCaught : FnScope ["_law_action", "_law_found", "_law_error"] ["_law_action"] (defScope sCaught) := ⟨rfl, rfl, rfl, by decide +kernel, rfl, by decide +kernel, by decide +kernel⟩
/-- _law_caught(lambda: body), several tables being kept -/
theorem pe_caught {X : Cx} {k : Nat} {c : Addr} {tb fC CR : Addr} {dC : FuncData} {TT : List (Addr × Str)} {params : Arguments} {body : Expr} {scope : Scope} {t : XK → TE} {p lpos pos : Pos} (FC : FnP X.K "_law_caught" sCaught fC dC) (gC : X.mg "_law_caught" = some (.ref fC)) (hg : Gl X "_law_caught") (gR : X.mg "RulerError" = some (.ref CR))
    (TB : TabB X.base X.mg c tb) (hcode : X.env.code = .ref c) (hm : (tb, X.env.qual ++ "<lambda>") ∈ TT) (hun : ∀ p ∈ TT, p.1 = tb → p.2 = X.env.qual ++ "<lambda>") (hr : Room (k + 2) X.A) {sc : Scope} (hsc : X.env.scope = sc) (L : LamS sc scope) (hdef : defaultsOf params X.env = ([], []))
    (hbind : ∀ (q : Str) (cl : List (Str × Addr)) (pm cv ctv : Value), bindArgs (PySem.W.kla_fn "<lambda>" q params body scope cl pm cv ctv) ⟨[], []⟩ = pure [])
    (hbody : ∀ (A : Around) (outer : List Env) (s : Shared) (H : Hp) (E : XK) (f c' : Addr), Room k (A.deeper (lamEnv X scope s.heap.objs.size f c')) → PE (lamCx X A outer s H E scope f c') body (t E)) :
    PE X (.Call (.Name "_law_caught" p) [.Lambda params body scope lpos] [] pos) (tLam TT (TKeep X.K CR) t) := by
  have bC : Binds X.K dC ["_law_action"] [] := FC.bindsN fun _ _ _ _ _ _ us hl => match us, hl with | [_], _ => rfl
  have kp := FC.kp
  obtain ⟨oc, od, dV, kV, doc, pm, an, cdv, ct, osl, rfl, lk, hcd, hdf, _⟩ := FC.ex
  exact pe_lamcall hg gC kp lk hcd bC scCaught rfl (Or.inl rfl) (keep_gives rfl scCaught.nd rfl rfl rfl gR (by decide) (by decide) (by decide) (by decide) (by decide)) TB hcode hm hun hr (hsc ▸ L) hdef hbind hbody
theorem code_is {K : PySem.W.Frag} {x qual : Str} {params : Arguments} {body : List Stmt} {scope : Scope} {f : Addr} {cdv : Value} {d : Str × Option Str} (hf : f = He.fAd K d)
    (h : ∃ (oc : Value) (od : Option Addr) (dV kV doc pm : Value) (an : Option Addr) (ct : Value) (osl : Array (Option Value)), K.lookup f = some ⟨oc, od, .func (PySem.W.fnOf x qual params body scope dV kV doc pm an cdv ct), osl⟩) (hc : PySem.W.codeIn K cdv qual = true) : cdv = .ref (He.codeOf K d) := by
  obtain ⟨oc, od, dV, kV, doc, pm, an, ct, osl, lk⟩ := h
  obtain ⟨c, rfl⟩ := He.codeIn_ref hc
  have e : He.codeOf K d = c := He.codeOf_eq (by rw [← hf]; exact lk) rfl
  rw [e]
theorem PSsT.nox {X : Cx} {st : List Stmt} {t : TS} (h : PSsT X.nox st t) : PSsT X st t := fun pins s σ H D h0 I hw =>
  wpAny_mono (h pins s σ H D h0 (I.wish _) hw) (fun _ _ q => q.unwish) fun _ _ z => False.elim z
theorem StA.extN {H H' : Hp} {a lw lc : Addr} {t : Nat} (S : StA H a lw lc t) (e : ExtN H H') : StA H' a lw lc t := by
  obtain ⟨⟨ws, cs, r, u, h1, h2, h3, h4⟩, ne⟩ := S
  exact ⟨⟨ws, cs, r, u, e _ _ h1 (fun _ q => by cases q), e _ _ h2 (fun _ q => by cases q), e _ _ h3 (fun _ q => by cases q), h4⟩, ne⟩
theorem Tabs.kp {TT : List (Addr × Str)} {H H' : Hp} {a lw lc : Addr} {t : Nat} (T : Tabs TT H) (S : StA H a lw lc t) (k : Kp [a, lw] H H') : Tabs TT H' := by
  obtain ⟨⟨ws, cs, r, u, g1, g2, _⟩, _⟩ := S
  intro p hp
  obtain ⟨ps, h1, h2, h3⟩ := T p hp
  have off : ∀ {b : Addr} {o : HO}, H b = some o → (∀ kvs, o ≠ .dK kvs) → (∀ xs, o ≠ .lst xs) → b ∉ [a, lw] := fun {b o} hb n1 n2 => by
    have q1 : b ≠ a := ne_of hb g1 (n1 _)
    have q2 : b ≠ lw := ne_of hb g2 (n2 _)
    simp [q1, q2]
  refine ⟨ps, k _ _ h1 (off h1 (fun _ z => by cases z) (fun _ z => by cases z)), h2, fun pos cv hc => ?_⟩
  obtain ⟨c, e1, e2⟩ := h3 pos cv hc
  exact ⟨c, e1, k _ _ e2 (off e2 (fun _ z => by cases z) (fun _ z => by cases z))⟩
abbrev qBR : Str := ("_law_barred_right" : Str) ++ ".<locals>." ++ "<lambda>"
abbrev qLR : Str := ("_law_lots_right" : Str) ++ ".<locals>." ++ "<lambda>"
abbrev qLW : Str := ("law" : Str) ++ ".<locals>." ++ "<lambda>"
/-- the three tables -/
abbrev TTs (tb tr tl : Addr) : List (Addr × Str) := [(tb, qBR), (tr, qLR), (tl, qLW)]
structure Apart (tb tr tl : Addr) : Prop where
  br : tb ≠ tr
  bl : tb ≠ tl
  rl : tr ≠ tl
theorem TTs.cases {tb tr tl : Addr} {p : Addr × Str} (h : p ∈ TTs tb tr tl) : p = (tb, qBR) ∨ p = (tr, qLR) ∨ p = (tl, qLW) := by simpa using h
theorem TTs.b {tb tr tl : Addr} (A : Apart tb tr tl) : ∀ p ∈ TTs tb tr tl, p.1 = tb → p.2 = qBR := fun p hp e => by
  rcases TTs.cases hp with rfl | rfl | rfl
  · rfl
  · exact absurd e.symm A.br
  · exact absurd e.symm A.bl
theorem TTs.r {tb tr tl : Addr} (A : Apart tb tr tl) : ∀ p ∈ TTs tb tr tl, p.1 = tr → p.2 = qLR := fun p hp e => by
  rcases TTs.cases hp with rfl | rfl | rfl
  · exact absurd e A.br
  · rfl
  · exact absurd e.symm A.rl
theorem TTs.l {tb tr tl : Addr} (A : Apart tb tr tl) : ∀ p ∈ TTs tb tr tl, p.1 = tl → p.2 = qLW := fun p hp e => by
  rcases TTs.cases hp with rfl | rfl | rfl
  · exact absurd e A.bl
  · exact absurd e A.rl
  · rfl
/-- all tuples stand -/
def TupK (H H' : Hp) : Prop := ∀ b ys, H b = some (.tup ys) → H' b = some (.tup ys)
theorem TupK.refl (H : Hp) : TupK H H := fun _ _ h => h
theorem TupK.trans {H H1 H2 : Hp} (a : TupK H H1) (b : TupK H1 H2) : TupK H H2 := fun c ys h => b c ys (a c ys h)
theorem TupK.of {H H' : Hp} (e : Same H H') : TupK H H' := fun b ys h => e b _ h
theorem TupK.kp {H H' : Hp} {a lw lc : Addr} {t : Nat} (S : StA H a lw lc t) (k : Kp [a, lw] H H') : TupK H H' := fun _ _ h => S.tupK k h
theorem TupK.put {H : Hp} {b : Addr} {l : List V} (e : H b = some (.lst l)) (o : HO) : TupK H (L2.upd H b o) := fun c ys h => by
  rw [upd_ne (ne_of h e (by intro z; cases z))]
  exact h
theorem TupK.ext {H H' : Hp} (e : ExtN H H') : TupK H H' := fun b ys h => e b _ h fun _ z => by cases z
theorem StepV.keep {H H' : Hp} {v : V} {o : Option (Str × Deed)} (e : TupK H H') (h : StepV H v o) : StepV H' v o := by
  cases o with
  | none => exact h
  | some p =>
    obtain ⟨n, d⟩ := p
    obtain ⟨a, b, h1, h2, h3, h4⟩ := h
    exact ⟨a, b, h1, e _ _ h2, e _ _ h3, h4⟩
end Own
set_option Elab.async false
set_option linter.all false
set_option maxRecDepth 100000
set_option maxHeartbeats 400000
namespace Own
open PySem PySem.Spec PyProof.Rows L2 LamX
/-! ### for the drawn drawings: plain facts -/
def rg (n : Nat) : List V := (List.range n).map fun i => V.int ((i : Nat) : Int)
theorem rg_len (n : Nat) : (rg n).length = n := by
  unfold rg
  rw [List.length_map, List.length_range]
theorem walk_rg {n : Nat} : Walk (Itr 0 n) (rg n).length (fun _ => True) (YAt (rg n)) := by
  rw [rg_len]
  refine walk_range.mono (fun _ h => h) fun i H x H' hi _ y => ?_
  obtain ⟨e1, rfl⟩ := y
  refine ⟨e1, ?_⟩
  unfold rg
  rw [List.getElem?_map, List.getElem?_range hi]
  show some (V.int ((i : Nat) : Int)) = some (V.int (0 + ((i : Nat) : Int)))
  rw [Int.zero_add]
/-- what may be tested at a place -/
def atB {α : Type} (p : α → Bool) (l : List α) : V → Bool
  | .int i => (l[i.toNat]?).any p
  | _ => false
theorem rg_filter {α : Type} (p : α → Bool) : ∀ (l : List α), (rg l.length).filter (atB p l) = ((List.range l.length).filter fun i => (l[i]?).any p).map fun i => V.int ((i : Nat) : Int) := fun l => by
  unfold rg
  rw [List.filter_map]
  rfl
theorem filter_head {p : Nat → Bool} {n : Nat} : (∀ i, i < n → p i = false) → (List.range n).filter p = [] := fun h =>
  List.filter_eq_nil_iff.mpr fun i hi => by
    rw [h i (List.mem_range.mp hi)]
    exact Bool.false_ne_true
theorem due_head {α : Type} (p : α → Bool) (l : List α) : (l.findIdx? p = none ∧ (rg l.length).filter (atB p l) = []) ∨ ∃ i r, i < l.length ∧ l.findIdx? p = some i ∧ (rg l.length).filter (atB p l) = .int ((i : Nat) : Int) :: r := by
  rw [rg_filter]
  cases e : l.findIdx? p with
  | none =>
    refine .inl ⟨rfl, ?_⟩
    rw [List.findIdx?_eq_none_iff] at e
    rw [filter_head fun i hi => ?_]
    · rfl
    · rw [List.getElem?_eq_getElem hi]
      exact e _ (List.getElem_mem hi)
  | some i =>
    rw [List.findIdx?_eq_some_iff_getElem] at e
    obtain ⟨hi, hp, hn⟩ := e
    have hp' : (l[i]?).any p = true := by
      rw [List.getElem?_eq_getElem hi]
      exact hp
    have e1 : List.range l.length = List.range i ++ (i :: (List.range (l.length - i - 1)).map (i + 1 + ·)) := by
      have e2 : l.length = i + (1 + (l.length - i - 1)) := by omega
      conv => lhs; rw [e2]
      rw [List.range_add]
      refine congrArg (List.range i ++ ·) ?_
      rw [List.range_add, List.map_append, List.map_map]
      show (i + 0) :: (List.range (l.length - i - 1)).map ((fun x => i + x) ∘ fun x => 1 + x) = _
      rw [Nat.add_zero]
      refine congrArg (i :: ·) (List.map_congr_left fun j _ => ?_)
      show i + (1 + j) = i + 1 + j
      omega
    rw [e1, List.filter_append, filter_head fun j hj => ?_, List.nil_append, List.filter_cons_of_pos (p := fun i => Option.any p l[i]?) hp', List.map_cons]
    · exact .inr ⟨i, _, hi, rfl, rfl⟩
    · rw [List.getElem?_eq_getElem (by omega)]
      have := hn j hj
      simpa using this
/-- one step more -/
theorem drawB_snoc : ∀ (ds : List (Str × Deed)) (kn : List Str) (n : Str) (d : Deed), drawB kn (ds.map some ++ [some (n, d)]) = (drawB kn (ds.map some) && (decide (n ∉ kn ++ ds.map (·.1)) && d.names.all fun z => decide (z ∈ kn ++ ds.map (·.1))))
  | [], kn, n, d => by
    show (decide (n ∉ kn) && (d.names.all (fun z => decide (z ∈ kn)) && drawB (kn ++ [n]) [])) = _
    simp [drawB]
  | (m, e) :: ds, kn, n, d => by
    show (decide (m ∉ kn) && (e.names.all (fun z => decide (z ∈ kn)) && drawB (kn ++ [m]) (ds.map some ++ [some (n, d)]))) = ((decide (m ∉ kn) && (e.names.all (fun z => decide (z ∈ kn)) && drawB (kn ++ [m]) (ds.map some))) && _)
    rw [drawB_snoc ds (kn ++ [m]) n d]
    have e1 : kn ++ [m] ++ ds.map (·.1) = kn ++ ((m, e) :: ds).map (·.1) := by simp
    rw [e1, Bool.and_assoc, Bool.and_assoc]
/-- the tool of the step that stands there -/
def tlV (H : Hp) (v : V) : V := match v with
  | .ref a => (match H a with
    | some (.tup [_, .ref b]) => (match H b with
      | some (.tup (.str w :: _)) => V.str (toolS w)
      | _ => .non)
    | _ => .non)
  | _ => .non
theorem tlV_of {H : Hp} {v : V} {n : Str} {d : Deed} (h : StepV H v (some (n, d))) : tlV H v = .str (toolS d.word) := by
  obtain ⟨a, b, rfl, h1, h2, _⟩ := h
  show (match H a with
    | some (.tup [_, .ref b]) => (match H b with
      | some (.tup (.str w :: _)) => V.str (toolS w)
      | _ => .non)
    | _ => .non) = _
  rw [h1]
  show (match H b with
      | some (.tup (.str w :: _)) => V.str (toolS w)
      | _ => .non) = _
  rw [h2]
  rfl
theorem tlV_map {H : Hp} : ∀ {ws : List V} {ds : List (Str × Deed)}, F2 (StepV H) ws (ds.map some) → ws.map (tlV H) = (ds.map fun p => toolS p.2.word).map V.str
  | _, [], .nil => rfl
  | _, (n, d) :: ds, .cons h r => by
    rw [List.map_cons, tlV_of h, tlV_map r]
    rfl
def OTHK : List (Key × V) := OTHL.map fun t => (Sum.inr t.1, V.str t.2)
theorem oth_look : ∀ t ∈ FORM, (valV OTHK (Sum.inr t.1)).getD (.str t.1) = .str (toolS t.1) := by decide +kernel
theorem oth_new : mergeK [] OTHK = OTHK := by kernel_rfl
theorem form_words : FORM.map (·.1) = FK.map (fun t => match t.1 with | .inr z => z | .inl _ => "") := by decide +kernel
theorem fk_keys : FK.map (·.1) = (FORM.map (·.1)).map Sum.inr := by decide +kernel
/-- what is no drawing -/
theorem bad_none {K : PySem.W.Frag} {H : Hp} : BadD K H .non := .inl ⟨"NoneType", fun _ _ => .base .non, by decide +kernel, by decide +kernel⟩
theorem bad_dict {K : PySem.W.Frag} {H : Hp} {a : Addr} (h : H a = some (.dK [])) : BadD K H (.ref a) := .inl ⟨"dict", fun _ s => .base (.dK (s _ _ h)), by decide +kernel, by decide +kernel⟩
theorem bad_one {K : PySem.W.Frag} {H : Hp} {a : Addr} (h : H a = some (.lst [.non])) : BadD K H (.ref a) := .inr ⟨a, _, [none], rfl, h, .cons rfl .nil, by show 1 ≤ 1000; decide, rfl⟩
theorem bad_self {K : PySem.W.Frag} {H : Hp} {a b c : Addr} (h : H a = some (.lst [.ref b])) (hb : H b = some (.tup [.str "a", .ref c])) (hc : H c = some (.tup [.str "gauge", .str "a", .str "o"])) : BadD K H (.ref a) := by
  refine .inr ⟨a, _, [some ("a", ⟨"gauge", ["a", "o"], []⟩)], rfl, h, .cons ⟨b, c, rfl, hb, hc, by decide +kernel, 2, 0, by decide +kernel, rfl, ?_, rfl, fun z hz => by cases hz⟩ .nil, by show 1 ≤ 1000; decide, by decide +kernel⟩
  intro z hz
  have : z = "a" ∨ z = "o" := by simpa using hz
  rcases this with rfl | rfl <;> decide +kernel
inductive OddD (H : Hp) : V → Prop
  | non : OddD H .non
  | dict {a : Addr} (h : H a = some (.dK [])) : OddD H (.ref a)
  | one {a : Addr} (h : H a = some (.lst [.non])) : OddD H (.ref a)
  | self {a b c : Addr} (h : H a = some (.lst [.ref b])) (hb : H b = some (.tup [.str "a", .ref c])) (hc : H c = some (.tup [.str "gauge", .str "a", .str "o"])) : OddD H (.ref a)
theorem OddD.ext {H H' : Hp} {x : V} (h : OddD H x) (e : ExtN H H') : OddD H' x := by
  cases h with
  | non => exact .non
  | dict h => exact .dict (e _ _ h fun _ z => by cases z)
  | one h => exact .one (e _ _ h fun _ z => by cases z)
  | self h hb hc => exact .self (e _ _ h fun _ z => by cases z) (e _ _ hb fun _ z => by cases z) (e _ _ hc fun _ z => by cases z)
theorem OddD.bad {K : PySem.W.Frag} {H : Hp} {x : V} (h : OddD H x) : BadD K H x := by
  cases h with
  | non => exact bad_none
  | dict h => exact bad_dict h
  | one h => exact bad_one h
  | self h hb hc => exact bad_self h hb hc
end Own
set_option Elab.async false
set_option linter.all false
set_option maxRecDepth 100000
set_option maxHeartbeats 4000000
namespace Own
open PySem PySem.Spec PyProof.Rows L2 LamX
/-! ### drawn drawings -/
/-- all but the state and the tables is as it was -/
def KpE (xs : List Addr) (H H' : Hp) : Prop := ∀ b o, H b = some o → b ∉ xs → (∀ ps, o ≠ .tbl ps) → H' b = some o
theorem KpE.of {xs : List Addr} {H H' : Hp} (k : Kp xs H H') : KpE xs H H' := fun b o e n _ => k b o e n
theorem KpE.ext {xs : List Addr} {H H' : Hp} (k : ExtN H H') : KpE xs H H' := fun b o e _ n => k b o e n
theorem KpE.trans {xs : List Addr} {H H1 H2 : Hp} (a : KpE xs H H1) (b : KpE xs H1 H2) : KpE xs H H2 := fun c o e n m => b c o (a c o e n m) n m
def spBarR (tb tr tl : Addr) : Sp := fun vs H Q _ => ∃ (a lw lc : Addr) (t : Nat) (ca : Addr) (c : List Str), vs = [.ref a, .ref ca] ∧ StA H a lw lc t ∧ t < 2 ^ 36 ∧ H ca = some (.tup (c.map V.str)) ∧ c.Sublist TOOLS ∧ Tabs (TTs tb tr tl) H ∧
  ∀ H', StA H' a lw lc (t + 400) → Tabs (TTs tb tr tl) H' → KpE [a, lw] H H' → Q (.bl true) H'
/-- what comes behind a statement, under a name -/
theorem seq_gen {t u : TS} {D : Ends} {σ : L2.St} {H : Hp} (h : ∀ N : L2.St → Hp → Prop, N = u D → t { D with nx := N } σ H) : tSeq t u D σ H := h _ rfl
abbrev nsBarR : List Str := ["_law_state", "_law_chest_here", "_law_steps", "_law_known", "_law_spot", "_law_fresh", "_law_tools_here", "_law_step", "_law_due", "_law_at", "_law_odd", "_law_first", "_law_second"]
section
variable {P : Program} {w : World} {K : PySem.W.Frag} {mg : Str → Option Value} {base : Heap} {CB CD CW CR CT CN fT fN pE tb tr tl : Addr} {dT dN : FuncData}
theorem scBarR : FnScope nsBarR ["_law_state", "_law_chest_here"] (defScope sBarR) := ⟨rfl, rfl, rfl, by decide +kernel, rfl, by decide +kernel, by decide +kernel⟩
theorem ok_barr {fd2 : FuncData} (F : FnP K "_law_barred_right" sBarR (He.ga K "_law_barred_right") fd2) (hf : He.ga K "_law_barred_right" = He.fAd K ("_law_barred_right", none)) (Z : All P w K mg CB CD CW CR CT CN fT fN pE dT dN) (A3 : Apart tb tr tl)
    (TB : TabB base mg (He.codeOf K ("_law_barred_right", none)) tb) : FnOk P w K mg base CX0 10 (He.ga K "_law_barred_right") fd2 ["_law_state", "_law_chest_here"] (spBarR tb tr tl) := by
  have T := Z.t
  obtain ⟨dD, KD⟩ := Z.kDraw (base := base)
  obtain ⟨dP, KP⟩ := Z.kPick (base := base)
  obtain ⟨dF, KF⟩ := Z.kForms (base := base)
  obtain ⟨dNm, KNm⟩ := Z.kLName (base := base)
  obtain ⟨dDe, KDe⟩ := Z.kLDeed (base := base)
  obtain ⟨dB, FB, KB⟩ := Z.kBarred (base := base)
  obtain ⟨dC, FC, gC⟩ := All.mem1 (x := "_law_caught") (st := sCaught) (by simp [FNS]) Z
  have kB := kb_two FB (p := "steps") (q := "chest") fun _ _ _ _ _ _ _ _ => rfl
  refine FunD.okL F scBarR rfl (fun vs H Q E h => ?_) (fun cdv A outer s H vs Q E hlk hcd hr h => ?_)
  · obtain ⟨a, lw, lc, t, ca, c, rfl, _⟩ := h
    rfl
  · have ec := code_is hf hlk hcd
    subst ec
    obtain ⟨a, lw, lc, t, ca, c, rfl, S, ht, hca, hsub, hT, k⟩ := h
    have hu := hu_of hr
    have hr1 := hr.mono (show 1 ≤ 9 by decide)
    have hr2 := hr.mono (show 2 ≤ 9 by decide)
    have hr3 := hr.mono (show 3 ≤ 9 by decide)
    have hr4 := hr.mono (show 4 ≤ 9 by decide)
    have hr7 := hr.mono (show 7 ≤ 9 by decide)
    refine ⟨_, PSsT.nox (PSsT.of (pss_cons (ps_asg (pe_tup (pa_cons (pe_lst pa_nil) (pa_cons (pe_lst (pa_cons pe_str (pa_cons pe_str (pa_cons pe_str (pa_cons pe_str (pa_cons pe_str pa_nil)))))) pa_nil))) (pg_tup rfl (pgs_cons (pg_name (i := 2) scBarR.nd rfl (.inr rfl)) (pgs_cons (pg_name (i := 3) scBarR.nd rfl (.inl rfl)) pgs_nil))))
      (pss_cons (ps_for PassesOwn.never rfl (pi_range1 (by rfl) T.range (pa_cons (pe_call KD.ok hr2 (by rfl) KD.g KD.kp KD.b .nil pass0 (pa_cons (pv 0) (pa_cons pe_int pa_nil))) pa_nil)) (pg_name (i := 4) scBarR.nd rfl (Or.inl rfl))
        (pss_cons (ps_set (i := 5) scBarR.nd rfl (.inl rfl) (pe_call KNm.ok hr4 (by rfl) KNm.g KNm.kp KNm.b .nil pass0 (pa_cons (pv 0) (pa_cons (pv 3) pa_nil))))
        (pss_cons (ps_expr (pe_bm PySem.F.plainAttrs_list PySem.F.slot_list_append PySem.F.type_list_append mt_append (pv 2) (pa_cons (pe_tup (pa_cons (pv 5) (pa_cons (pe_call KDe.ok hr4 (by rfl) KDe.g KDe.kp KDe.b .nil pass0 (pa_cons (pv 0) (pa_cons (pe_call KP.ok hr3 (by rfl) KP.g KP.kp KP.b .nil pass0 (pa_cons (pv 0) (pa_cons (pe_callB (call_sortedD rfl) (by rfl) T.sorted (by decide +kernel) (pa_cons (pe_call0 KF.ok hr1 (by rfl) KF.g KF.kp KF.b .nil pass0) pa_nil)) pa_nil))) (pa_cons (pv 3) pa_nil)))) pa_nil))) pa_nil)))
        (pss_one (ps_expr (pe_bm PySem.F.plainAttrs_list PySem.F.slot_list_append PySem.F.type_list_append mt_append (pv 3) (pa_cons (pv 5) pa_nil)))))))
      (pss_cons (ps_set (i := 6) scBarR.nd rfl (.inr rfl) (pe_lc (own := [("_law_step", 7)]) (g := gName 7) (tt := tYes) (by rfl) scBarR.nd (pi_list (pv 2)) (blkOk_by (own := [("_law_step", 7)]) (N := nsBarR) (sc := defScope sBarR) (by decide +kernel))
          (fun _ _ _ _ _ => pg_name (i := 7) scBarR.nd rfl (Or.inl rfl)) (fun _ _ _ _ _ => pts_nil) (fun _ _ _ _ _ => pe_dget2 hu (pe_disp (pps_cons pe_str pe_str (pps_cons pe_str pe_str (pps_cons pe_str pe_str pps_nil))) (by rfl) (by rfl) (fun z => by cases z) (by decide))
            (pe_ix (ix_tupK (K := K) rfl) (pe_ix (ix_tupK (K := K) rfl) (pv 7) pe_int (fun _ _ => rfl)) pe_int (fun _ _ => rfl)) (pe_ix (ix_tupK (K := K) rfl) (pe_ix (ix_tupK (K := K) rfl) (pv 7) pe_int (fun _ _ => rfl)) pe_int (fun _ _ => rfl)) ⟨rfl, rfl, rfl, rfl⟩)))
      (pss_cons (ps_setLc (i := 8) (own := [("_law_at", 9)]) (g := gName 9) (by rfl) scBarR.nd rfl rfl (sw_true rfl rfl rfl (by decide +kernel)) (pi_range1 (by rfl) T.range (pa_cons (pe_callB call_len_seq (by rfl) T.len PySem.boot_len (pa_cons (pv 2) pa_nil)) pa_nil)) (blkOk_by (own := [("_law_at", 9)]) (N := nsBarR) (sc := defScope sBarR) (by decide +kernel))
          (fun _ _ _ _ _ => pg_name (i := 9) scBarR.nd rfl (Or.inl rfl)) (fun _ _ _ _ _ => pts_one (PW.pt (pw_and (pt_cmpR op_ne (pe_ix (ix_listK2 (K := K) rfl) (pv 6) (pv 9) (fun _ _ => rfl)) pe_str (nomark _)) (pw_and1 (pt_cmpR (op_notInK (K := K) rfl) (pe_ix (ix_listK2 (K := K) rfl) (pv 6) (pv 9) (fun _ _ => rfl)) (pv 1) (by rfl)))))) (fun _ _ _ _ _ => pv 9))
      (pss_cons (ps_if (pt_cmpR op_ne (pe_callB call_repr0 (by rfl) T.repr (by decide +kernel) (pa_cons (pe_kw0 KB.ok hr7 (by rfl) KB.g KB.kp kB passL (pk_cons (pv 2) (pk_cons (pv 1) pk_nil))) pa_nil)) (pe_callB call_repr0 (by rfl) T.repr (by decide +kernel) (pa_cons (pe_ifExp (pt_cmpR (op_neD hr.units) (pv 8) (pe_lst pa_nil) (nomark _)) (pe_ix ix_list (pv 8) pe_int (fun _ _ => rfl)) pe_non) pa_nil)) (nomark _)) (pss_one (ps_ret pe_bl)) pss_nil)
      (pss_cons (ps_set (i := 10) scBarR.nd rfl (.inr rfl) (pe_call KP.ok hr3 (by rfl) KP.g KP.kp KP.b .nil pass0 (pa_cons (pv 0) (pa_cons (pe_lst (pa_cons pe_non (pa_cons (pe_lst (pa_cons pe_non pa_nil)) (pa_cons (pe_lst (pa_cons (pe_tup (pa_cons pe_str (pa_cons (pe_tup (pa_cons pe_str (pa_cons pe_str (pa_cons pe_str pa_nil)))) pa_nil))) pa_nil)) (pa_cons pe_dnewK pa_nil))))) pa_nil))))
      (pss_cons (ps_set (i := 11) scBarR.nd rfl (.inl rfl) (pe_caught (k := 7) FC gC (by rfl) Z.gR TB rfl List.mem_cons_self (TTs.b A3) hr (sc := defScope sBarR) rfl (lamS_by (by decide +kernel)) rfl (fun _ _ _ _ _ => rfl)
          (fun A' outer' s' H' E' f' c' hrr => pe_call KB.ok hrr (by rfl) KB.g KB.kp KB.b .nil (passes_call (takes_of rfl rfl rfl rfl) fun _ _ _ _ h => h) (pa_cons (pv 10) (pa_cons pe_non pa_nil)))))
      (pss_cons (ps_set (i := 12) scBarR.nd rfl (.inl rfl) (pe_caught (k := 7) FC gC (by rfl) Z.gR TB rfl List.mem_cons_self (TTs.b A3) hr (sc := defScope sBarR) rfl (lamS_by (by decide +kernel)) rfl (fun _ _ _ _ _ => rfl)
          (fun A' outer' s' H' E' f' c' hrr => pe_call KB.ok hrr (by rfl) KB.g KB.kp KB.b .nil (passes_call (takes_of rfl rfl rfl rfl) fun _ _ _ _ h => h) (pa_cons (pv 2) (pa_cons (pe_lst (pa_cons pe_str pa_nil)) pa_nil)))))
      (pss_one (ps_ret (pe_and (pe_callB call_isX (by rfl) T.isi boot_isinstance (pa_cons (pv 11) (pa_cons (pe_glob (v := .ref CD) (by rfl) Z.eD.g rfl) pa_nil))) (pe_one (pe_callB call_isX (by rfl) T.isi boot_isinstance (pa_cons (pv 12) (pa_cons (pe_glob (v := .ref CB) (by rfl) Z.eC.g rfl) pa_nil)))))))))))))))), ?_⟩
    -- the two lists
    refine ⟨(by show 0 ≤ sizeLine; decide), fun l1 n1 => ⟨(by show 5 ≤ sizeLine; decide), fun l2 n2 => ⟨(by show 2 ≤ sizeLine; decide), fun t0 nt => ⟨t0, _, rfl, SqT.of upd_same, rfl, _, _, rfl, _, _, rfl, rfl, ?_⟩⟩⟩⟩
    have s1 := same_upd (o := .lst []) n1
    have s2 := same_upd (o := .lst (SHEET.map V.str)) n2
    have s3 := same_upd (o := .tup [.ref l1, .ref l2]) nt
    have sA := (s1.trans s2).trans s3
    have n2H := s1.free n2
    obtain ⟨o1, o1c⟩ := S.new n1
    obtain ⟨o2, o2c⟩ := S.new n2H
    have n12 : l1 ≠ l2 := ne_of_none upd_same n2
    have g1 := (s2.trans s3) _ _ (upd_same (a := l1) (o := .lst []))
    have g2 := s3 _ _ (upd_same (a := l2) (o := .lst (SHEET.map V.str)))
    have S0 := S.same sA
    refine ⟨_, rfl, a, lw, lc, t, _, rfl, S0, by omega, by decide, by decide, fun z H1 z0 z6 S1 K1 => ⟨z, rfl, by omega, by omega, ?_⟩⟩
    obtain ⟨j, rfl⟩ : ∃ j : Nat, z = (j : Int) := ⟨z.toNat, by omega⟩
    have j6 : j < 6 := by omega
    have K01 : Kp [a, lw] H H1 := (Kp.of sA).trans K1
    have g11 := K1 _ _ g1 o1
    have g21 := K1 _ _ g2 o2
    refine for_range (lo := 0) (n := j) (fun i σ G => ∃ (v4 v5 : Option V) (ws : List V) (ds : List (Str × Deed)), σ = [some (.ref a), some (.ref ca), some (.ref l1), some (.ref l2), v4, v5, none, none, none, none, none, none, none] ∧ ds.length = i ∧ G l1 = some (.lst ws) ∧ G l2 = some (.lst ((SHEET ++ ds.map (·.1)).map V.str)) ∧
        F2 (StepV G) ws (ds.map some) ∧ drawB SHEET (ds.map some) = true ∧ (∀ n ∈ ds.map (·.1), NameOk n) ∧ StA G a lw lc (t + 1 + 50 * i) ∧ Kp [a, lw] H G) ⟨none, none, [], [], rfl, rfl, g11, g21, .nil, rfl, (fun n h => by cases h), S1, K01⟩ ?_ ?_
    · rintro i σ G hi ⟨v4, v5, ws, ds, rfl, ld, gl1, gl2, f2, dB, okD, SG, KG⟩
      have lk : (SHEET ++ ds.map (·.1)).length = 5 + i := by
        rw [List.length_append, List.length_map, ld]
        rfl
      have okK : ∀ n ∈ SHEET ++ ds.map (·.1), NameOk n := fun n hn => by
        rcases List.mem_append.mp hn with hn | hn
        · have : ∀ n ∈ SHEET, NameOk n := by decide +kernel
          exact this n hn
        · exact okD n hn
      refine ⟨_, rfl, _, rfl, a, lw, lc, _, l2, _, rfl, SG, by omega, gl2, o2, by omega, fun n G1 okn frn S2 K2 => ?_⟩
      have h11 := K2 _ _ gl1 o1
      have h12 := K2 _ _ gl2 o2
      refine ⟨_, rfl, .inl ⟨rfl, _, .inl (.inl h11)⟩, _, rfl, _, rfl, _, rfl, rfl, fun fo G2 s4 nfo hfo => ⟨fo, FK, FORM.map (·.1), rfl, .inl hfo, fk_keys, by decide, fun ys q pm _ nq => ?_⟩⟩
      have s5 := same_upd (o := .lst (ys.map V.str)) nq
      have S3 := S2.same (s4.trans s5)
      have nqw : q ≠ lw := fun z => ((S2.same s4).new nq).1 (by simp [z])
      have yl : ys.length = 11 := pm.length_eq
      refine ⟨a, lw, lc, _, q, _, rfl, S3, by omega, upd_same, nqw, by rw [List.length_map, yl]; decide, by rw [List.length_map, yl]; decide, fun j2 x G3 hx S4 K4 => ?_⟩
      obtain ⟨wd, hwd, rfl⟩ := List.mem_map.mp (List.mem_of_getElem? hx)
      obtain ⟨⟨wd2, m, kk⟩, hm, rfl⟩ := List.mem_map.mp (pm.mem_iff.mp hwd)
      have h21 := K4 _ _ (s5 _ _ (s4 _ _ h11)) o1
      have h22 := K4 _ _ (s5 _ _ (s4 _ _ h12)) o2
      refine ⟨_, rfl, a, lw, lc, _, wd2, m, kk, l2, _, rfl, S4, by omega, hm, h22, o2, by omega, by omega, okK, fun p d G4 dw okd dn S5 K5 np hp => ?_⟩
      have h31 := K5 _ _ h21 o1
      have h32 := K5 _ _ h22 o2
      refine ⟨(by show 2 ≤ sizeLine; decide), fun tt ntt => ?_⟩
      have s6 := same_upd (o := .tup [.str n, .ref p]) ntt
      have h41 := s6 _ _ h31
      have h42 := s6 _ _ h32
      have lw5 : ws.length = i := by rw [f2.len, List.length_map, ld]
      refine ⟨l1, _, _, rfl, rfl, h41, by rw [lw5]; exact Nat.lt_of_lt_of_le (show i < 6 by omega) (by decide), ?_⟩
      have htt := upd_same (H := G4) (a := tt) (o := .tup [V.str n, .ref p])
      have hp6 := s6 _ _ hp
      have S6 := S5.same s6
      have tk : TupK G (L2.upd G4 tt (.tup [V.str n, .ref p])) := ((((TupK.kp SG K2).trans (TupK.of (s4.trans s5))).trans (TupK.kp S3 K4)).trans (TupK.kp S4 K5)).trans (TupK.of s6)
      have kk5 : Kp [a, lw] H (L2.upd G4 tt (.tup [V.str n, .ref p])) := ((((KG.trans K2).trans (Kp.of (s4.trans s5))).trans K4).trans K5).trans (Kp.of s6)
      generalize L2.upd G4 tt (.tup [V.str n, .ref p]) = G5 at h41 h42 htt hp6 S6 tk kk5
      have p1 := TupK.put h41 (.lst (ws ++ [V.ref tt]))
      have h52 : (L2.upd G5 l1 (.lst (ws ++ [V.ref tt]))) l2 = some (.lst ((SHEET ++ ds.map (·.1)).map V.str)) := by
        rw [upd_ne n12.symm]
        exact h42
      have p2 := TupK.put h52 (.lst ((SHEET ++ ds.map (·.1)).map V.str ++ [V.str n]))
      refine ⟨_, rfl, .inl ⟨rfl, _, .inl (.inl h52)⟩, _, rfl, l2, _, _, rfl, rfl, h52, by rw [List.length_map, lk]; exact Nat.lt_of_lt_of_le (show 5 + i < 20 by omega) (by decide), ?_⟩
      have pAll := p1.trans p2
      refine ⟨_, _, ws ++ [V.ref tt], ds ++ [(n, d)], rfl, by rw [List.length_append, ld]; rfl, ?_, ?_, ?_, ?_, ?_, ?_, ?_⟩
      · rw [upd_ne n12, upd_same]
      · rw [upd_same]
        simp
      · have em : (ds ++ [(n, d)]).map some = ds.map some ++ [some (n, d)] := List.map_append
        rw [em]
        exact (f2.mono fun _ _ q => q.keep (tk.trans pAll)).snoc (show StepV _ (V.ref tt) (some (n, d)) from ⟨tt, p, rfl, pAll _ _ htt, pAll _ _ hp6, okn, okd⟩)
      · rw [List.map_append]
        show drawB SHEET (ds.map some ++ [some (n, d)]) = true
        rw [drawB_snoc, dB, decide_eq_true frn]
        show (true && (true && _)) = true
        rw [Bool.true_and, Bool.true_and, List.all_eq_true]
        exact fun y hy => decide_eq_true (dn y hy)
      · intro y hy
        rw [List.map_append] at hy
        rcases List.mem_append.mp hy with hy | hy
        · exact okD y hy
        · rw [List.mem_singleton.mp hy]
          exact okn
      · exact ((S6.put o1 o1c _).put o2 o2c _).more (by omega)
      · exact fun b o e nb => by
          rw [upd_ne (ne_of_none e n2H), upd_ne (ne_of_none e n1)]
          exact kk5 b o e nb
    · rintro σ G ⟨v4, v5, ws, ds, rfl, ld, gl1, gl2, f2, dB, okD, SG, KG⟩
      have lw5 : ws.length = ds.length := by rw [f2.len, List.length_map]
      have l6 : ws.length ≤ 5 := by omega
      have T0 : Tabs (TTs tb tr tl) G := Tabs.kp hT S KG
      have gca := S.tupK KG hca
      -- the tools
      refine ⟨_, rfl, l1, rfl, ⟨_, SqL.of gl1⟩, fun D nD => ?_⟩
      refine lc_rel (p := fun _ => true) (c := fun x => tlV G x) (rel := fun _ y b => y = b) walk_list nD (Nat.lt_of_le_of_lt l6 (by decide)) (fun H' s' => Same.seq s' (SqL.of gl1)) (fun _ q => q) (fun _ q _ => q) (fun v => rfl) (fun x H' _ _ R kR => kR H' (Same.refl _)) (fun x H' hx _ sH R kR => ?_) fun G1 ys sG1 eD f => ?_
      · obtain ⟨o, ho, hst⟩ := f2.left hx
        obtain ⟨⟨n, d⟩, hd, rfl⟩ := List.mem_map.mp ho
        rw [tlV_of hst] at kR
        obtain ⟨b, e, rfl, hb, he, okn, okd⟩ := hst
        intro q nq
        refine ⟨upd_same, OTHK, rfl, by decide, ?_⟩
        have sq : Same H' (L2.upd (L2.upd H' q (.dK [])) q (.dK (mergeK [] OTHK))) := fun b o eb => by
          rw [upd_ne (ne_of_none eb nq), upd_ne (ne_of_none eb nq)]
          exact eb
        have hq : (L2.upd (L2.upd H' q (.dK [])) q (.dK (mergeK [] OTHK))) q = some (.dK OTHK) := by
          rw [upd_same, oth_new]
        generalize L2.upd (L2.upd H' q (.dK [])) q (.dK (mergeK [] OTHK)) = H2 at sq hq
        have hb2 : SqT K H2 b [.str n, .ref e] := SqT.of (sq _ _ (sH _ _ hb))
        have he2 : SqT K H2 e d.vs := SqT.of (sq _ _ (sH _ _ he))
        obtain ⟨m, kk, hm, _⟩ := okd
        refine ⟨q, rfl, .inl ⟨_, .inl hq⟩, _, rfl, b, _, _, _, rfl, rfl, hb2, at_nat (k := 1) rfl, e, _, _, _, rfl, rfl, he2, deed_head d, _, rfl, b, _, _, _, rfl, rfl, hb2, at_nat (k := 1) rfl, e, _, _, _, rfl, rfl, he2, deed_head d, _, DGet.k (k := Sum.inr d.word) hq, ?_⟩
        refine kR _ H2 sq ?_
        exact oth_look _ hm
      rw [List.filter_eq_self.mpr fun _ _ => rfl] at f
      have ey : ys = (ds.map fun p => toolS p.2.word).map V.str := by
        rw [← tlV_map f2, f.map_eq (f := fun x => x), List.map_id']
      subst ey
      have gl1' := sG1 _ _ gl1
      have toolAt : ∀ {i : Nat} {q : Str × Deed}, ds[i]? = some q → ((ds.map fun p => toolS p.2.word).map V.str)[i]? = some (.str (toolS q.2.word)) := fun {i q} e => by
        rw [List.getElem?_map, List.getElem?_map, e]
        rfl
      -- what is due
      refine ⟨_, rfl, l1, _, rfl, .inl (SqL.of gl1'), _, rfl, by omega, by omega, fun D2 nD2 => ?_⟩
      refine lc_filt (p := atB (barB c) ds) (walk_rg (n := ws.length)) nD2 (by rw [rg_len]; exact Nat.lt_of_le_of_lt l6 (by decide)) (fun _ _ => trivial) (by show 9 < 13; decide) (fun x H' hx s' R kR => ?_) fun G2 sG2 hD2 => ?_
      · obtain ⟨i, hi, rfl⟩ := List.mem_map.mp hx
        have i5 : i < ds.length := by
          have := List.mem_range.mp hi
          omega
        obtain ⟨q, hq⟩ : ∃ q, ds[i]? = some q := ⟨_, List.getElem?_eq_getElem i5⟩
        have eb : atB (barB c) ds (.int ((i : Nat) : Int)) = (!decide (toolS q.2.word = "") && !decide (toolS q.2.word ∈ c)) := by
          show (ds[i]?).any (barB c) = _
          rw [hq]
          show barB c q = _
          unfold barB
          simp
        rw [eb] at kR
        have hDx : SqL K H' D ((ds.map fun p => toolS p.2.word).map V.str) := SqL.of (s' _ _ eD)
        refine ⟨_, rfl, _, rfl, D, _, _, _, rfl, rfl, hDx, at_nat (toolAt hq), rfl, _, rfl, ?_⟩
        rw [decStr]
        cases h0 : decide (toolS q.2.word = "") with
        | true =>
          rw [h0] at kR
          exact iteF (kR H' (Same.refl _))
        | false =>
          rw [h0] at kR
          refine iteT ?_
          refine ⟨_, rfl, _, rfl, D, _, _, _, rfl, rfl, hDx, at_nat (toolAt hq), _, rfl, ca, _, rfl, .inr (SqT.of (s' _ _ (sG1 _ _ gca))), rfl, flat_strs _, _, rfl, ?_⟩
          rw [inV_str]
          exact kR H' (Same.refl _)
      rw [lw5] at hD2
      have sG12 := sG1.trans sG2
      have f2G2 : F2 (StepV G2) ws (ds.map some) := f2.mono fun _ _ q => q.same sG12
      have gcaG2 := sG12 _ _ gca
      have rep : ∀ x : V, x = .non ∨ (∃ i : Nat, i ≤ 5 ∧ x = .int (i : Int)) → ∃ zz, flatT x = some zz ∧ ∀ i, x = .int i → i.natAbs.log2 < 1920 := fun x hx => by
        rcases hx with rfl | ⟨i, hi, rfl⟩
        · exact ⟨_, rfl, fun i e => by cases e⟩
        · refine ⟨_, rfl, fun y e => ?_⟩
          cases e
          exact Nat.lt_of_le_of_lt (Nat.log2_le_self _) (by omega)
      have optR : optV (ds.findIdx? (barB c)) = .non ∨ ∃ i : Nat, i ≤ 5 ∧ optV (ds.findIdx? (barB c)) = .int (i : Int) := by
        cases e : ds.findIdx? (barB c) with
        | none => exact .inl rfl
        | some i =>
          rw [List.findIdx?_eq_some_iff_getElem] at e
          obtain ⟨hi, _⟩ := e
          exact .inr ⟨i, by omega, rfl⟩
      obtain ⟨zz, hzz, hzb⟩ := rep _ optR
      have due := due_head (barB c) ds
      dsimp only
      refine seq_gen fun N hN => ?_
      have rest : ∀ G5, Same G2 G5 → N [some (.ref a), some (.ref ca), some (.ref l1), some (.ref l2), v4, v5, some (.ref D), none, some (.ref D2), none, none, none, none] G5 := fun G5 sG5 => by
        rw [hN]
        have low := sG12.trans sG5
        have S5 := SG.same low
        refine ⟨_, rfl, (by show 1 ≤ sizeLine; decide), fun m1 k1 => ⟨(by show 3 ≤ sizeLine; decide), fun m2 k2 => ⟨(by show 2 ≤ sizeLine; decide), fun m3 k3 => ⟨(by show 1 ≤ sizeLine; decide), fun m4 k4 m5 k5 => ⟨(by show 4 ≤ sizeLine; decide), fun L kL => ?_⟩⟩⟩⟩⟩
        have q1 := same_upd (o := .lst [.non]) k1
        have q2 := same_upd (o := .tup [.str "gauge", .str "a", .str "o"]) k2
        have q3 := same_upd (o := .tup [.str "a", .ref m2]) k3
        have q4 := same_upd (o := .lst [.ref m3]) k4
        have q5 := same_upd (o := .dK []) k5
        have q6 := same_upd (o := .lst [.non, .ref m1, .ref m4, .ref m5]) kL
        have f3 := (q1.trans q2).trans q3
        have f5 := f3.trans (q4.trans q5)
        have all := f5.trans q6
        have o_1 := (S5.new k1).1
        have o_4 := (S5.new (f3.free k4)).1
        have o_5 := (S5.new ((f3.trans q4).free k5)).1
        have nL : L ≠ lw := fun z => (S5.new (f5.free kL)).1 (by simp [z])
        have c1 := ((((q2.trans q3).trans q4).trans q5).trans q6) _ _ (upd_same (a := m1) (o := .lst [.non]))
        have c2 := (((q3.trans q4).trans q5).trans q6) _ _ (upd_same (a := m2) (o := .tup [.str "gauge", .str "a", .str "o"]))
        have c3 := ((q4.trans q5).trans q6) _ _ (upd_same (a := m3) (o := .tup [.str "a", .ref m2]))
        have c4 := (q5.trans q6) _ _ (upd_same (a := m4) (o := .lst [.ref m3]))
        have c5 := q6 _ _ (upd_same (a := m5) (o := .dK []))
        have S6 := S5.same all
        refine ⟨a, lw, lc, _, L, _, rfl, S6, by omega, upd_same, nL, (by show 0 < 4; decide), (by show 4 ≤ 1000; decide), fun i x G7 hx S7 K7 => ?_⟩
        have hx1 := List.mem_of_getElem? hx
        have bad : OddD G7 x := by
          simp only [List.mem_cons, List.not_mem_nil, or_false] at hx1
          rcases hx1 with rfl | rfl | rfl | rfl
          · exact .non
          · exact .one (K7 _ _ c1 o_1)
          · exact .self (K7 _ _ c4 o_4) (S6.tupK K7 c3) (S6.tupK K7 c2)
          · exact .dict (K7 _ _ c5 o_5)
        have low7 : Kp [a, lw] G G7 := (Kp.of (low.trans all)).trans K7
        have T7 : Tabs (TTs tb tr tl) G7 := Tabs.kp T0 SG low7
        have f27 : F2 (StepV G7) ws (ds.map some) := f2.mono fun _ _ q => q.keep (TupK.kp SG low7)
        have l17 := low7 _ _ gl1 o1
        have K7H : Kp [a, lw] H G7 := KG.trans low7
        clear c1 c2 c3 c4 c5 q1 q2 q3 q4 q5 q6 f3 f5 all hx hx1 K7
        -- the first
        refine ⟨T7, fun H8 e8 T8 => ?_⟩
        refine ⟨_, rfl, x, .non, rfl, .inl ⟨(bad.ext e8).bad, fun H9 e9 => ⟨true, Z.xD, fun _ ea na => ?_, fun z => by cases z⟩⟩⟩
        have e10 := same_upd (o := Caught (.ref CD) none ea) na
        have hea : (L2.upd H9 ea (Caught (.ref CD) none ea)) ea = some (Caught (.ref CD) none ea) := upd_same
        have T10 := (T8.ext e9).ext e10
        have e810 : ExtN G7 (L2.upd H9 ea (Caught (.ref CD) none ea)) := fun b o eb nt => e10 _ _ (e9 _ _ (e8 b o eb nt))
        generalize L2.upd H9 ea (Caught (.ref CD) none ea) = H10 at e10 hea T10 e810
        refine ⟨T10, fun H11 e11 T11 => ?_⟩
        have e711 : ExtN G7 H11 := fun b o eb nt => e11 b o (e810 b o eb nt) nt
        refine ⟨_, rfl, (by show 1 ≤ sizeLine; decide), fun l nl => ?_⟩
        have s12 := same_upd (o := .lst [.str "disc"]) nl
        have tk12 : TupK G7 (L2.upd H11 l (.lst [.str "disc"])) := (TupK.ext e711).trans (TupK.of s12)
        refine ⟨.ref l1, .ref l, rfl, .inr ⟨l1, ws, ds, rfl, s12 _ _ (e711 _ _ l17 fun _ z => by cases z), f27.mono fun _ _ q => q.keep tk12, by omega, dB, .inl ⟨fun H' s' => .inl ⟨"list", .base (.lst (s' _ _ upd_same)), by decide +kernel⟩, fun H12 s13 => ⟨true, Z.xC, fun _ eb nb => ?_, fun z => by cases z⟩⟩⟩⟩
        have s14 := same_upd (o := Caught (.ref CB) none eb) nb
        have sF := (s12.trans s13).trans s14
        have hea2 := sF _ _ (e11 _ _ hea fun _ z => by cases z)
        refine ⟨_, rfl, ea, CD, none, .ref CD, .ref CD, true, rfl, hea2, rfl, Z.cD, .own CD, kit_self _, true, rfl, ?_⟩
        refine iteT ?_
        refine ⟨_, rfl, eb, CB, none, .ref CB, .ref CB, true, rfl, upd_same, rfl, Z.cC, .own CB, kit_self _, ?_⟩
        refine k _ (((S7.extN e711).same sF).more (by omega)) (T11.ext sF) ?_
        exact ((KpE.of K7H).trans (KpE.ext e711)).trans (KpE.of (Kp.of sF))
      refine ⟨_, rfl, _, rfl, rfl, .ref l1, .ref ca, rfl, .inr ⟨l1, ws, ds, rfl, sG12 _ _ gl1, f2G2, by omega, dB, .inr ⟨c, ⟨ca, rfl, gcaG2, hsub⟩, fun G3 sG3 => ⟨_, zz, rfl, hzz, hzb, ?_⟩⟩⟩⟩
      have hD3 := sG3 _ _ hD2
      have fl : ∀ y ∈ (rg ds.length).filter (atB (barB c) ds), fok y = true := fun y hy => by
        obtain ⟨i, _, rfl⟩ := List.mem_map.mp (List.mem_filter.mp hy).1
        rfl
      refine ⟨_, rfl, tail_ne hD3 (List.all_eq_true.mpr fl) fun G4 sG4 => ⟨_, rfl, ?_⟩⟩
      have hD4 := sG4 _ _ hD3
      rcases due with ⟨e1, e2⟩ | ⟨i, r, hi, e1, e2⟩
      · rw [e2]
        refine iteF ?_
        rw [e1] at hzz
        refine ⟨_, zz, rfl, hzz, (fun i e => by cases e), ?_⟩
        refine ⟨rfl, _, rfl, ?_⟩
        rw [decide_eq_true rfl]
        refine iteF ?_
        exact rest G4 (sG3.trans sG4)
      · rw [e2]
        refine iteT ?_
        rw [e2] at hD4
        refine ⟨_, rfl, D2, _, _, _, rfl, rfl, SqL.of hD4, at_nat (k := 0) rfl, ?_⟩
        rw [e1] at hzz hzb
        refine ⟨_, zz, rfl, hzz, hzb, ?_⟩
        refine ⟨rfl, _, rfl, ?_⟩
        rw [decide_eq_true rfl]
        refine iteF ?_
        exact rest G4 (sG3.trans sG4)
end
end Own
set_option Elab.async false
set_option linter.all false
set_option maxRecDepth 100000
set_option maxHeartbeats 400000
namespace Own
open PySem PySem.Spec PyProof.Rows L2 LamX
/-! ### for the lots: plain facts -/
/-- the three lots -/
structure LotsI (H0 : Hp) (lo : Addr) (rr : Nat → Addr) (X : List (List (List Nat))) (G : Hp) : Prop where
  same : Same H0 G
  top : G lo = some (.lst [.ref (rr 0), .ref (rr 1), .ref (rr 2)])
  at_ : ∀ r, r < 3 → ∃ vs, G (rr r) = some (.lst vs) ∧ F2 (TupR G) vs ((X.getD r []).map ch)
  len : X.length = 3
structure Rows3 (H0 : Hp) (lo : Addr) (rr : Nat → Addr) : Prop where
  free : ∀ r, r < 3 → H0 (rr r) = none
  apart : ∀ r s, r < 3 → s < 3 → r ≠ s → rr r ≠ rr s
  lo : ∀ r, r < 3 → lo ≠ rr r
theorem LotsI.go {H0 G G' : Hp} {lo : Addr} {rr : Nat → Addr} {X : List (List (List Nat))} (L : LotsI H0 lo rr X G) (e : Same G G') : LotsI H0 lo rr X G' :=
  ⟨L.same.trans e, e _ _ L.top, fun r hr => let ⟨vs, h1, h2⟩ := L.at_ r hr; ⟨vs, e _ _ h1, h2.mono fun _ _ q => q.same e⟩, L.len⟩
theorem LotsI.put {H0 G : Hp} {lo : Addr} {rr : Nat → Addr} {X : List (List (List Nat))} {c : List Nat} {v : V} {vs : List V} (R : Rows3 H0 lo rr) (L : LotsI H0 lo rr X G) (e : G (rr (rkN c)) = some (.lst vs)) (f : F2 (TupR G) vs ((X.getD (rkN c) []).map ch)) (hv : TupR G v (ch c)) :
    LotsI H0 lo rr (putN X c) (L2.upd G (rr (rkN c)) (.lst (vs ++ [v]))) := by
  have q3 : rkN c < 3 := Nat.lt_succ_of_le (rkN_le c)
  refine ⟨fun b o hb => ?_, ?_, fun r hr => ?_, by rw [put_len]; exact L.len⟩
  · rw [upd_ne (ne_of_none hb (R.free _ q3))]
    exact L.same _ _ hb
  · rw [upd_ne (R.lo _ q3)]
    exact L.top
  · rw [put_get (by rw [L.len]; exact q3)]
    by_cases hq : r = rkN c
    · subst hq
      rw [if_pos rfl]
      refine ⟨vs ++ [v], upd_same, ?_⟩
      rw [List.map_append]
      exact (f.mono fun _ _ q => q.off e _).snoc (hv.off e _)
    · rw [if_neg hq]
      obtain ⟨us, h1, h2⟩ := L.at_ r hr
      exact ⟨us, by rw [upd_ne (R.apart _ _ hr q3 hq)]; exact h1, h2.mono fun _ _ q => q.off e _⟩
theorem LotsI.ref {H0 G : Hp} {lo : Addr} {rr : Nat → Addr} {X : List (List (List Nat))} (L : LotsI H0 lo rr X G) {r : Nat} (hr : r < 3) : ([.ref (rr 0), .ref (rr 1), .ref (rr 2)] : List V)[r]? = some (.ref (rr r)) := by
  have e : r = 0 ∨ r = 1 ∨ r = 2 := by omega
  rcases e with rfl | rfl | rfl <;> rfl
/-- tuples of texts as data -/
def tupD (c : List Str) : PyData := .tuple (c.map PyData.str)
def FokC (c : List Str) : Prop := ∀ t ∈ c, fok (.str t) = true
theorem dpAll_strs {K : PySem.W.Frag} {H : Hp} : ∀ c : List Str, DpAll K H (c.map V.str) (c.map PyData.str)
  | [] => .nil
  | x :: r => .cons (.str x) (dpAll_strs r)
theorem dp_tups {K : PySem.W.Frag} {H : Hp} : ∀ {vs : List V} {cs : List (List Str)}, F2 (TupR H) vs cs → DpAll K H vs (cs.map tupD)
  | _, _, .nil => .nil
  | _, _, .cons (b := c) h r => by
    obtain ⟨a, rfl, ha⟩ := h
    exact .cons (.tup (SqT.of ha) (dpAll_strs c)) (dp_tups r)
theorem lay_strs : ∀ c : List Str, FokC c → PyData.canLayAll0 (c.map PyData.str) = true ∧ PyData.depthAll (c.map PyData.str) = 0
  | [], _ => ⟨rfl, rfl⟩
  | x :: r, h => by
    obtain ⟨h1, h2⟩ := lay_strs r fun t ht => h t (List.mem_cons_of_mem _ ht)
    have hx : (PyData.str x).canLay0 = true := h x List.mem_cons_self
    refine ⟨?_, ?_⟩
    · show ((PyData.str x).canLay0 && PyData.canLayAll0 (r.map PyData.str)) = true
      rw [hx, h1]
      rfl
    · show max (PyData.str x).depth (PyData.depthAll (r.map PyData.str)) = 0
      rw [h2]
      rfl
theorem shaped_tup {c : List Str} (h : FokC c) : SeqAt.shaped (tupD c) = true := by
  obtain ⟨h1, h2⟩ := lay_strs c h
  show (PyData.canLayAll0 (c.map PyData.str) && decide (PyData.depthAll (c.map PyData.str) + 1 ≤ 64)) = true
  rw [h1, h2]
  rfl
theorem shaped_tups : ∀ cs : List (List Str), (∀ c ∈ cs, FokC c) → SeqAt.shaped (.list (cs.map tupD)) = true := fun cs h => by
  have go : ∀ l : List (List Str), (∀ c ∈ l, FokC c) → PyData.canLayAll0 (l.map tupD) = true ∧ PyData.depthAll (l.map tupD) ≤ 1 := fun l => by
    induction l with
    | nil => exact fun _ => ⟨rfl, Nat.zero_le _⟩
    | cons c l ih =>
      intro hl
      obtain ⟨i1, i2⟩ := ih fun d hd => hl d (List.mem_cons_of_mem _ hd)
      obtain ⟨h1, h2⟩ := lay_strs c (hl c List.mem_cons_self)
      refine ⟨?_, ?_⟩
      · show (PyData.canLayAll0 (c.map PyData.str) && PyData.canLayAll0 (l.map tupD)) = true
        rw [h1, i1]
        rfl
      · show max (PyData.depthAll (c.map PyData.str) + 1) (PyData.depthAll (l.map tupD)) ≤ 1
        rw [h2]
        omega
  obtain ⟨h1, h2⟩ := go cs h
  show (PyData.canLayAll0 (cs.map tupD) && decide (PyData.depthAll (cs.map tupD) + 1 ≤ 64)) = true
  rw [h1, decide_eq_true (by omega)]
  rfl
/-- two lists of the same tuples of texts are equal -/
theorem tups_ne {K : PySem.W.Frag} {H : Hp} {Q : VK} {a b : Addr} {us vs : List V} {cs : List (List Str)} (ha : H a = some (.lst us)) (hb : H b = some (.lst vs)) (f1 : F2 (TupR H) us cs) (f2 : F2 (TupR H) vs cs) (hc : ∀ c ∈ cs, FokC c) (k : Q (.bl false) H) : rNeD K (.ref a) (.ref b) H Q := by
  refine ⟨_, _, .lst (SqL.of ha) (dp_tups f1), .lst (SqL.of hb) (dp_tups f2), shaped_tups cs hc, shaped_tups cs hc, ?_⟩
  rw [SeqAt.eqv_refl]
  · exact k
  · exact SeqAt.canLay_of_shaped (shaped_tups cs hc)
theorem sub_fokc {c : List Str} (h : ∀ t ∈ c, t ∈ TOOLS) : FokC c := fun t ht => tools_fok t (h t ht)
theorem setC_fok (j : Nat) : ∀ c ∈ setC j, FokC c := fun c hc => by
  obtain ⟨d, hd, rfl⟩ := List.mem_map.mp hc
  exact sub_fokc fun t ht => (lex_sub (List.mem_filter.mp hd).1).subset ht
theorem leastC_fok (j : Nat) : ∀ c ∈ leastC j, FokC c := fun c hc => by
  unfold leastC at hc
  split at hc
  · rw [List.mem_singleton.mp hc]
    exact fun t ht => by cases ht
  · obtain ⟨t, ht, rfl⟩ := List.mem_map.mp hc
    exact sub_fokc fun u hu => by
      rw [List.mem_singleton.mp hu]
      exact (List.mem_filter.mp ht).1
theorem setC_up (j : Nat) : (setC j).Pairwise fun x y => SrtT.ltT x y = true := by
  rw [← setC_eq, lex_ch]
  exact (lexG_up tools_up).sublist List.filter_sublist
/-- the lot at j, sorted -/
theorem lot_sorted {j : Nat} (hj : j < 3) {cs : List (List Str)} (p : cs.Perm (((lotsN 9).getD j []).map ch)) (s : cs.Pairwise fun x y => SrtT.ltT y x = false) : cs = setC j := by
  refine sorted_uniq (setC_up j) s (p.trans ?_)
  unfold setC
  exact (lots_perm j (by have e : j = 0 ∨ j = 1 ∨ j = 2 := by omega
                         rcases e with rfl | rfl | rfl <;> simp)).map ch
theorem lot_len {j : Nat} (hj : j < 3) : (((lotsN 9).getD j []).map ch).length = (setC j).length := by
  unfold setC
  rw [List.length_map, List.length_map]
  exact (lots_perm j (by have e : j = 0 ∨ j = 1 ∨ j = 2 := by omega
                         rcases e with rfl | rfl | rfl <;> simp)).length_eq
theorem ch_nil {c : List Nat} (h : c ≠ []) : ch c ≠ [] := fun e => h (List.map_eq_nil_iff.mp e)
/-- shape of the lot at j -/
theorem lot_shape {j : Nat} (hj : j < 3) : (∀ c ∈ ((lotsN 9).getD j []).map ch, c ≠ []) ∨ ∃ r, ((lotsN 9).getD j []).map ch = [] :: r := by
  obtain ⟨h0, h1, h2, _⟩ := lots_head
  have e : j = 0 ∨ j = 1 ∨ j = 2 := by omega
  rcases e with rfl | rfl | rfl
  · right
    cases q : (lotsN 9).getD 0 [] with
    | nil => rw [q] at h0; cases h0
    | cons c r =>
      rw [q] at h0
      have e : c = [] := Option.some.inj h0
      subst e
      exact ⟨_, rfl⟩
  · left
    intro c hc
    obtain ⟨d, hd, rfl⟩ := List.mem_map.mp hc
    exact ch_nil (h1 d hd)
  · left
    intro c hc
    obtain ⟨d, hd, rfl⟩ := List.mem_map.mp hc
    exact ch_nil (h2 d hd)
/-- what is no word of a set -/
inductive OddW (H : Hp) : V → Prop
  | non : OddW H .non
  | int (z : Int) : OddW H (.int z)
  | str (z : Str) (h : z ∉ WORDS) : OddW H (.str z)
  | tup {a : Addr} {xs : List V} (h : H a = some (.tup xs)) : OddW H (.ref a)
  | lst {a : Addr} {xs : List V} (h : H a = some (.lst xs)) : OddW H (.ref a)
theorem OddW.ext {H H' : Hp} {x : V} (h : OddW H x) (e : ExtN H H') : OddW H' x := by
  cases h with
  | non => exact .non
  | int z => exact .int z
  | str z h => exact .str z h
  | tup h => exact .tup (e _ _ h fun _ z => by cases z)
  | lst h => exact .lst (e _ _ h fun _ z => by cases z)
theorem OddW.bad {K : PySem.W.Frag} {H : Hp} {x : V} (h : OddW H x) : BadW K H x := by
  cases h with
  | non => exact .inl ⟨"NoneType", .base .non, by decide +kernel⟩
  | int z => exact .inl ⟨"int", .base (.int z), by decide +kernel⟩
  | str z h => exact .inr ⟨z, rfl, h⟩
  | tup h => exact .inl ⟨"tuple", .base (.tup h), by decide +kernel⟩
  | lst h => exact .inl ⟨"list", .base (.lst h), by decide +kernel⟩
theorem call_isXK {X : Cx} {K : PySem.W.Frag} (h : X.K = K) : CallR X (.builtin "isinstance") (rIsX K) := h ▸ call_isX
/-- singles -/
def singC (j : Nat) : List (List Str) := (TOOLS.filter fun t => lrk [t] == j).map fun t => [t]
theorem sing_least {j : Nat} (h : j ≠ 0) : singC j = leastC j := by
  unfold singC leastC
  rw [if_neg h]
  refine congrArg (List.map _) (List.filter_congr fun t ht => ?_)
  rw [rk_lrk (c := [t]) fun u hu => by rw [List.mem_singleton.mp hu]; exact ht]
theorem last_lt {c : List Nat} {i : Nat} (hi : i < 9) (h : ∀ e ∈ c, e < i) (ne : c ≠ []) : ∃ z, (ch c)[(ch c).length - 1]? = some z ∧ sLt z (TOOLS.getD i "") = true := by
  have hl : c.length - 1 < c.length := by
    have := List.length_pos_iff.mpr ne
    omega
  refine ⟨TOOLS.getD (c[c.length - 1]) "", ?_, ?_⟩
  · unfold ch
    rw [List.length_map, List.getElem?_map, List.getElem?_eq_getElem hl]
    rfl
  · have h1 := h _ (List.getElem_mem hl)
    have m : ∀ x, x < 9 → x ∈ nums := by decide +kernel
    exact tools_pairs i (m i hi) _ (m _ (by omega)) h1
theorem eqv_tnil (c : List Str) : PyData.eqv (tupD c) (.tuple []) = c.isEmpty := by
  cases c <;> rfl
end Own
set_option Elab.async false
set_option linter.all false
set_option maxRecDepth 100000
set_option maxHeartbeats 4000000
namespace Own
open PySem PySem.Spec PyProof.Rows L2 LamX
/-! ### the lots: what comes behind the loops -/
structure LotsV (lo : Addr) (rr : Nat → Addr) (X : List (List (List Nat))) (G : Hp) : Prop where
  top : G lo = some (.lst [.ref (rr 0), .ref (rr 1), .ref (rr 2)])
  at_ : ∀ r, r < 3 → ∃ vs, G (rr r) = some (.lst vs) ∧ F2 (TupR G) vs ((X.getD r []).map ch)
theorem TupR.keep {H H' : Hp} {v : V} {c : List Str} (e : TupK H H') (h : TupR H v c) : TupR H' v c := by
  obtain ⟨a, rfl, h⟩ := h
  exact ⟨a, rfl, e _ _ h⟩
theorem LotsV.same {lo : Addr} {rr : Nat → Addr} {X : List (List (List Nat))} {G G' : Hp} (L : LotsV lo rr X G) (e : Same G G') : LotsV lo rr X G' :=
  ⟨e _ _ L.top, fun r hr => let ⟨vs, h1, h2⟩ := L.at_ r hr; ⟨vs, e _ _ h1, h2.mono fun _ _ q => q.same e⟩⟩
theorem LotsV.ext {lo : Addr} {rr : Nat → Addr} {X : List (List (List Nat))} {G G' : Hp} (L : LotsV lo rr X G) (e : ExtN G G') : LotsV lo rr X G' :=
  ⟨e _ _ L.top (fun _ z => by cases z), fun r hr => let ⟨vs, h1, h2⟩ := L.at_ r hr; ⟨vs, e _ _ h1 (fun _ z => by cases z), h2.mono fun _ _ q => q.keep (TupK.ext e)⟩⟩
theorem LotsV.kp {lo a lw lc : Addr} {t : Nat} {rr : Nat → Addr} {X : List (List (List Nat))} {G G' : Hp} (L : LotsV lo rr X G) (S : StA G a lw lc t) (o1 : lo ∉ [a, lw]) (o2 : ∀ r, r < 3 → rr r ∉ [a, lw]) (k : Kp [a, lw] G G') : LotsV lo rr X G' :=
  ⟨k _ _ L.top o1, fun r hr => let ⟨vs, h1, h2⟩ := L.at_ r hr; ⟨vs, k _ _ h1 (o2 r hr), h2.mono fun _ _ q => q.keep (TupK.kp S k)⟩⟩
theorem LotsV.put {lo b : Addr} {rr : Nat → Addr} {X : List (List (List Nat))} {G : Hp} {l : List V} (L : LotsV lo rr X G) (e : G b = some (.lst l)) (n1 : lo ≠ b) (n2 : ∀ r, r < 3 → rr r ≠ b) (o : HO) : LotsV lo rr X (L2.upd G b o) :=
  ⟨by rw [upd_ne n1]; exact L.top, fun r hr => let ⟨vs, h1, h2⟩ := L.at_ r hr; ⟨vs, by rw [upd_ne (n2 r hr)]; exact h1, h2.mono fun _ _ q => q.off e _⟩⟩
theorem LotsV.ref {lo : Addr} {rr : Nat → Addr} {X : List (List (List Nat))} {G : Hp} (L : LotsV lo rr X G) {r : Nat} (hr : r < 3) : ([.ref (rr 0), .ref (rr 1), .ref (rr 2)] : List V)[r]? = some (.ref (rr r)) := by
  have e : r = 0 ∨ r = 1 ∨ r = 2 := by omega
  rcases e with rfl | rfl | rfl <;> rfl
theorem len_of {H : Hp} {us : List V} {j : Nat} (f : F2 (TupR H) us (((lotsN 9).getD j []).map ch)) (hj : j < 3) : us.length = (setC j).length := by rw [f.len, lot_len hj]
theorem setC_len (j : Nat) : (setC j).length ≤ 512 := by
  unfold setC
  rw [List.length_map]
  have h1 := List.length_filter_le (fun c => rkN c == j) lexN
  have h2 := all_perm.length_eq
  rw [all_len] at h2
  omega
theorem leastC_len (j : Nat) : (leastC j).length ≤ 512 := by
  unfold leastC
  split
  · decide
  · rw [List.length_map]
    exact Nat.le_trans (List.length_filter_le _ _) (by decide)
/-- the list at j of three -/
theorem three_at {l0 D : Addr} {j : Nat} (hj : j < 3) : ∃ b, ([.ref l0, .ref D, .ref D] : List V)[j]? = some (.ref b) ∧ (j = 0 → b = l0) ∧ (j ≠ 0 → b = D) := by
  have e : j = 0 ∨ j = 1 ∨ j = 2 := by omega
  rcases e with rfl | rfl | rfl
  · exact ⟨l0, rfl, fun _ => rfl, fun h => absurd rfl h⟩
  · exact ⟨D, rfl, (fun h => by cases h), fun _ => rfl⟩
  · exact ⟨D, rfl, (fun h => by cases h), fun _ => rfl⟩
theorem words_get {j : Nat} (hj : j < 3) : (WORDS.map V.str)[j]? = some (.str (WORDS.getD j "")) := by
  have e : j = 0 ∨ j = 1 ∨ j = 2 := by omega
  rcases e with rfl | rfl | rfl <;> rfl
def spLots (tb tr tl : Addr) : Sp := fun vs H Q _ => ∃ (a lw lc : Addr) (t : Nat), vs = [.ref a] ∧ StA H a lw lc t ∧ t < 2 ^ 36 ∧ Tabs (TTs tb tr tl) H ∧ ∀ H', Q (.bl true) H'
abbrev nsLots : List Str := ["_law_state", "_law_words", "_law_lots", "_law_tool", "_law_rank_here", "_law_chest_here", "_law_lot", "_law_at", "_law_told", "_law_singles", "_law_least", "_law_odd", "_law_errors", "_law_error"]
section
variable {P : Program} {w : World} {K : PySem.W.Frag} {mg : Str → Option Value} {base : Heap} {CB CD CW CR CT CN fT fN pE tb tr tl : Addr} {dT dN : FuncData}
theorem scLots : FnScope nsLots ["_law_state"] (defScope sLots) := ⟨rfl, rfl, rfl, by decide +kernel, rfl, by decide +kernel, by decide +kernel⟩
theorem lots2 (Z : All P w K mg CB CD CW CR CT CN fT fN pE dT dN) (A3 : Apart tb tr tl) (TB : TabB base mg (He.codeOf K ("_law_lots_right", none)) tr) (A : Around) (outer : List Env) (s : Shared) (H : Hp) (E : XK)
    (hr : Room 4 (A.deeper (envOfC "_law_lots_right" (defScope sLots) s.heap.objs.size (He.ga K "_law_lots_right") (.ref (He.codeOf K ("_law_lots_right", none)))))) :
    ∃ u, PSs (cxOf CX0 P w K mg base nsLots "_law_lots_right" (defScope sLots) (He.ga K "_law_lots_right") (.ref (He.codeOf K ("_law_lots_right", none))) A outer s H E).nox ((defBody sLots).drop 2) u ∧
      ∀ (Q : VK) (a lw lc : Addr) (t : Nat) (wl lo : Addr) (rr : Nat → Addr) (G : Hp) (v3 v4 v5 : Option V), StA G a lw lc t → t < 2 ^ 37 → Tabs (TTs tb tr tl) G → LotsV lo rr (lotsN 9) G → G wl = some (.lst (WORDS.map V.str)) → wl ∉ [a, lw] → lo ∉ [a, lw] → (∀ r, r < 3 → rr r ∉ [a, lw]) → (∀ H', Q (.bl true) H') →
        u { nx := fun _ H' => Q .non H', rt := Q } [some (.ref a), some (.ref wl), some (.ref lo), v3, v4, v5, none, none, none, none, none, none, none, none] G := by
  have T := Z.t
  obtain ⟨dD, KD⟩ := Z.kDraw (base := base)
  obtain ⟨dP, KP⟩ := Z.kPick (base := base)
  obtain ⟨dTl, KTl⟩ := Z.kLTools (base := base)
  obtain ⟨dRk, KRk⟩ := Z.kLRank (base := base)
  obtain ⟨dW, FW, KW⟩ := Z.kWith (base := base)
  obtain ⟨dL, FL, KL⟩ := Z.kLeast (base := base)
  obtain ⟨dC, FC, gC⟩ := All.mem1 (x := "_law_caught") (st := sCaught) (by simp [FNS]) Z
  have kW := kb_one FW (p := "word") fun _ _ _ _ _ _ _ => rfl
  have kL := kb_one FL (p := "word") fun _ _ _ _ _ _ _ => rfl
  have hr1 := hr.mono (show 1 ≤ 4 by decide)
  have hr2 := hr.mono (show 2 ≤ 4 by decide)
  have hr3 := hr.mono (show 3 ≤ 4 by decide)
  refine ⟨_, pss_cons (ps_if (pt_cmpR (op_neD hr.units) (pe_lc (own := [("_law_lot", 6)]) (g := gName 6) (tt := tYes) (by rfl) scLots.nd (pi_list (pv 2)) (blkOk_by (own := [("_law_lot", 6)]) (N := nsLots) (sc := defScope sLots) (by decide +kernel))
          (fun _ _ _ _ _ => pg_name (i := 6) scLots.nd rfl (Or.inl rfl)) (fun _ _ _ _ _ => pts_nil) (fun _ _ _ _ _ => pe_callB (call_lenK (K := K) rfl) (by rfl) T.len PySem.boot_len (pa_cons (pv 6) pa_nil))) (pe_lst (pa_cons pe_int (pa_cons pe_int (pa_cons pe_int pa_nil)))) (nomark _)) (pss_one (ps_ret pe_bl)) pss_nil)
      (pss_cons (ps_set (i := 7) scLots.nd rfl (.inr rfl) (pe_call KD.ok hr2 (by rfl) KD.g KD.kp KD.b .nil pass0 (pa_cons (pv 0) (pa_cons pe_int pa_nil))))
      (pss_cons (ps_set (i := 8) scLots.nd rfl (.inl rfl) (pe_kw0 KW.ok hr2 (by rfl) KW.g KW.kp kW passL (pk_cons (pe_ix ix_list (pv 1) (pv 7) (fun _ _ => rfl)) pk_nil)))
      (pss_cons (ps_if (pt_cmpR (op_neD hr.units) (pv 8) (pe_callB (cr_sortedTs hr.units) (by rfl) T.sorted (by decide +kernel) (pa_cons (pe_ix ix_list (pv 2) (pv 7) (fun _ _ => rfl)) pa_nil)) (nomark _)) (pss_one (ps_ret pe_bl)) pss_nil)
      (pss_cons (ps_expr (pe_bm PySem.F.plainAttrs_list PySem.F.slot_list_append PySem.F.type_list_append mt_append (pv 8) (pa_cons pe_non pa_nil)))
      (pss_cons (ps_setLc (i := 9) (own := [("_law_tool", 3)]) (g := gName 3) (by rfl) scLots.nd rfl rfl (sw_true rfl rfl rfl (by decide +kernel)) (pi_list (pe_call0 KTl.ok hr1 (by rfl) KTl.g KTl.kp KTl.b .nil pass0)) (blkOk_by (own := [("_law_tool", 3)]) (N := nsLots) (sc := defScope sLots) (by decide +kernel))
          (fun _ _ _ _ _ => pg_name (i := 3) scLots.nd rfl (Or.inl rfl)) (fun _ _ _ _ _ => pts_one (pt_cmpR op_eq (pe_call KRk.ok hr1 (by rfl) KRk.g KRk.kp KRk.b .nil pass0 (pa_cons (pe_tup (pa_cons (pv 3) pa_nil)) pa_nil)) (pv 7) (nomark _))) (fun _ _ _ _ _ => pe_tup (pa_cons (pv 3) pa_nil)))
      (pss_cons (ps_set (i := 10) scLots.nd rfl (.inl rfl) (pe_kw0 KL.ok hr2 (by rfl) KL.g KL.kp kL passL (pk_cons (pe_ix ix_list (pv 1) (pv 7) (fun _ _ => rfl)) pk_nil)))
      (pss_cons (ps_if (pt_cmpR (op_neD hr.units) (pv 10) (pe_ix ix_list (pe_lst (pa_cons (pe_lst (pa_cons (pe_tup pa_nil) pa_nil)) (pa_cons (pv 9) (pa_cons (pv 9) pa_nil)))) (pv 7) (fun _ _ => rfl)) (nomark _)) (pss_one (ps_ret pe_bl)) pss_nil)
      (pss_cons (ps_expr (pe_bm PySem.F.plainAttrs_list PySem.F.slot_list_append PySem.F.type_list_append mt_append (pv 10) (pa_cons pe_non pa_nil)))
      (pss_cons (ps_if (pt_cmpR (op_neD hr.units) (pe_call KL.ok hr2 (by rfl) KL.g KL.kp KL.b .nil passL (pa_cons (pe_ix ix_list (pv 1) (pv 7) (fun _ _ => rfl)) pa_nil)) (pe_ix ix_list (pe_lst (pa_cons (pe_lst (pa_cons (pe_tup pa_nil) pa_nil)) (pa_cons (pv 9) (pa_cons (pv 9) pa_nil)))) (pv 7) (fun _ _ => rfl)) (nomark _)) (pss_one (ps_ret pe_bl)) pss_nil)
      (pss_cons (ps_set (i := 11) scLots.nd rfl (.inr rfl) (pe_call KP.ok hr3 (by rfl) KP.g KP.kp KP.b .nil pass0 (pa_cons (pv 0) (pa_cons (pe_lst (pa_cons pe_non (pa_cons pe_str (pa_cons pe_str (pa_cons pe_str (pa_cons pe_int (pa_cons (pe_tup (pa_cons pe_str pa_nil)) (pa_cons (pe_lst (pa_cons pe_str pa_nil)) pa_nil)))))))) pa_nil))))
      (pss_cons (ps_set (i := 12) scLots.nd rfl (.inl rfl) (pe_lst (pa_cons (pe_caught (k := 2) FC gC (by rfl) Z.gR TB rfl (List.mem_cons_of_mem _ List.mem_cons_self) (TTs.r A3) hr (sc := defScope sLots) rfl (lamS_by (by decide +kernel)) rfl (fun _ _ _ _ _ => rfl)
            (fun A' outer' s' H' E' f' c' hrr => pe_call KW.ok hrr (by rfl) KW.g KW.kp KW.b .nil (passes_call (takes_of rfl rfl rfl rfl) fun _ _ _ _ h => h) (pa_cons (pv 11) pa_nil)))
          (pa_cons (pe_caught (k := 2) FC gC (by rfl) Z.gR TB rfl (List.mem_cons_of_mem _ List.mem_cons_self) (TTs.r A3) hr (sc := defScope sLots) rfl (lamS_by (by decide +kernel)) rfl (fun _ _ _ _ _ => rfl)
            (fun A' outer' s' H' E' f' c' hrr => pe_call KL.ok hrr (by rfl) KL.g KL.kp KL.b .nil (passes_call (takes_of rfl rfl rfl rfl) fun _ _ _ _ h => h) (pa_cons (pv 11) pa_nil))) pa_nil))))
      (pss_cons (ps_if (pt_not (pt_cmpR (op_eqD hr.units) (pe_lc (own := [("_law_error", 13)]) (g := gName 13) (by rfl) scLots.nd (pi_list (pv 12)) (blkOk_by (own := [("_law_error", 13)]) (N := nsLots) (sc := defScope sLots) (by decide +kernel))
          (fun _ _ _ _ _ => pg_name (i := 13) scLots.nd rfl (Or.inl rfl)) (fun _ _ _ _ _ => pts_one (pt_not (pt_val (pe_callB (call_isXK (K := K) rfl) (by rfl) T.isi boot_isinstance (pa_cons (pv 13) (pa_cons (pe_glob (v := .ref CW) (by rfl) Z.eW.g rfl) pa_nil)))))) (fun _ _ _ _ _ => pe_int)) (pe_lst pa_nil) (nomark _))) (pss_one (ps_ret pe_bl)) pss_nil)
      (pss_one (ps_ret (pe_cmpR op_eq (pe_callB call_len_seq (by rfl) T.len PySem.boot_len (pa_cons (pe_call KW.ok hr2 (by rfl) KW.g KW.kp KW.b .nil passL (pa_cons (pe_ix ix_list (pv 1) (pv 7) (fun _ _ => rfl)) pa_nil)) pa_nil)) (pe_callB call_len_seq (by rfl) T.len PySem.boot_len (pa_cons (pe_ix ix_list (pv 2) (pv 7) (fun _ _ => rfl)) pa_nil)) (nomark _)))))))))))))))), ?_⟩
  intro Q a lw lc t wl lo rr G v3 v4 v5 S ht hT L hw ow ol orr k
  have two : (2 : Nat) ≤ sizeLine := by decide
  obtain ⟨u0, a0, f0⟩ := L.at_ 0 (by decide)
  obtain ⟨u1, a1, f1⟩ := L.at_ 1 (by decide)
  obtain ⟨u2, a2, f2⟩ := L.at_ 2 (by decide)
  have ll := lots_len
  have len3 : ∀ r us, r < 3 → F2 (TupR G) us (((lotsN 9).getD r []).map ch) → us.length = ([2, 30, 480] : List Nat).getD r 0 := fun r us hr f => by
    rw [f.len, List.length_map, ← ll, List.getD_eq_getElem?_getD, List.getD_eq_getElem?_getD, List.getElem?_map]
    have hl : (lotsN 9).length = 3 := lots_head.2.2.2
    rw [List.getElem?_eq_getElem (by omega)]
    rfl
  -- how long they are
  refine ⟨_, rfl, lo, rfl, ⟨_, SqL.of L.top⟩, fun D nD => ?_⟩
  refine lc_rel (p := fun _ => true) (c := fun x => V.int (match x with | .ref b => ((ctnL G b).length : Nat) | _ => 0)) (rel := fun _ y b => y = b) walk_list nD (by show 3 < sizeLine; decide) (fun H' s' => Same.seq s' (SqL.of L.top)) (fun _ q => q) (fun _ q _ => q) (fun v => rfl) (fun x H' _ _ R kR => kR H' (Same.refl _)) (fun x H' hx _ sH R kR => ?_) fun G1 ys sG1 eD f => ?_
  · obtain ⟨r, hr3', rfl⟩ : ∃ r, r < 3 ∧ x = .ref (rr r) := by
      simp only [List.mem_cons, List.not_mem_nil, or_false] at hx
      rcases hx with rfl | rfl | rfl
      · exact ⟨0, by decide, rfl⟩
      · exact ⟨1, by decide, rfl⟩
      · exact ⟨2, by decide, rfl⟩
    obtain ⟨us, hu, fu⟩ := L.at_ r hr3'
    refine ⟨_, rfl, rr r, _, rfl, .inl (SqL.of (sH _ _ hu)), kR _ H' (Same.refl _) ?_⟩
    show V.int (us.length : Nat) = V.int (((ctnL G (rr r)).length : Nat) : Int)
    rw [ctnL_of hu]
  rw [List.filter_eq_self.mpr fun _ _ => rfl] at f
  have ey : ys = ([2, 30, 480] : List Int).map V.int := by
    rw [f.map_eq (f := fun x => x), List.map_id']
    show [V.int (((ctnL G (rr 0)).length : Nat) : Int), V.int (((ctnL G (rr 1)).length : Nat) : Int), V.int (((ctnL G (rr 2)).length : Nat) : Int)] = _
    rw [ctnL_of a0, ctnL_of a1, ctnL_of a2, len3 0 _ (by decide) f0, len3 1 _ (by decide) f1, len3 2 _ (by decide) f2]
    rfl
  subst ey
  refine ⟨(by show 3 ≤ sizeLine; decide), fun l0 n0 => ?_⟩
  have s0 := same_upd (o := .lst [V.int 2, V.int 30, V.int 480]) n0
  refine ⟨_, _, .lst (SqL.of (s0 _ _ eD)) (dpAll_ints _), .lst (SqL.of upd_same) (dpAll_ints [2, 30, 480]), shaped_ints _, shaped_ints _, _, rfl, ?_⟩
  have er : PyData.eqv (.list (([2, 30, 480] : List Int).map PyData.int)) (.list (([2, 30, 480] : List Int).map PyData.int)) = true := by decide +kernel
  rw [er]
  refine iteF ?_
  have low := sG1.trans s0
  have S2 := S.same low
  have Lb := L.same low
  have T2 := hT.ext low
  have hw2 := low _ _ hw
  generalize L2.upd G1 l0 (.lst [V.int 2, V.int 30, V.int 480]) = G2 at S2 Lb T2 hw2
  -- the set
  refine ⟨_, rfl, a, lw, lc, _, _, rfl, S2, by omega, by decide, by decide, fun z G3 z0 z3 S3 K3 => ?_⟩
  obtain ⟨j, rfl⟩ : ∃ j : Nat, z = (j : Int) := ⟨z.toNat, by omega⟩
  have j3 : j < 3 := by omega
  have Lc := Lb.kp S2 ol orr K3
  have T3 := Tabs.kp T2 S2 K3
  have hw3 := K3 _ _ hw2 ow
  refine ⟨_, rfl, _, rfl, wl, _, _, _, rfl, rfl, SqL.of hw3, at_nat (words_get j3), rfl, .str (WORDS.getD j ""), rfl, .inr ⟨j, j3, rfl, fun p vs G4 s4 np hp fp => ?_⟩⟩
  have Ld := Lc.same s4
  obtain ⟨us, hu, fu⟩ := Ld.at_ j j3
  refine ⟨_, rfl, _, rfl, _, rfl, lo, _, _, _, rfl, rfl, SqL.of Ld.top, at_nat (Ld.ref j3), rr j, us, ctn G4, rfl, SqL.of hu, fun x hx => ?_, ?_, fun ys q srt pm nq => ?_⟩
  · obtain ⟨c, _, q⟩ := fu.left hx
    obtain ⟨b, e, hb⟩ := id q
    exact ⟨b, e, by rw [ctn_of q]; exact SqT.of hb⟩
  · rcases lot_shape j3 with ne | ⟨r, er⟩
    · refine .inl fun x hx => ?_
      obtain ⟨c, hc, q⟩ := fu.left hx
      rw [ctn_of q]
      exact ne c hc
    · rw [er] at fu
      cases fu with
      | cons h1 h2 => exact .inr ⟨_, _, rfl, ctn_of h1⟩
  have s5 := same_upd (o := .lst ys) nq
  obtain ⟨cs, pc, fc⟩ := F2.perm pm fu
  have ecs := lot_sorted j3 pc (by rw [← ctn_map fc]; exact List.pairwise_map.mpr srt)
  subst ecs
  refine tups_ne (s5 _ _ hp) upd_same (fp.mono fun _ _ q => q.same s5) (fc.mono fun _ _ q => q.same s5) (setC_fok j) ⟨_, rfl, ?_⟩
  refine iteF ?_
  have lv : vs.length ≤ 512 := by
    rw [fp.len]
    exact setC_len j
  refine ⟨_, rfl, .inl ⟨rfl, _, .inl (.inl (s5 _ _ hp))⟩, p, _, _, rfl, rfl, s5 _ _ hp, Nat.lt_of_le_of_lt lv (by decide), ?_⟩
  have s36 : Same G3 (L2.upd (L2.upd G4 q (.lst ys)) p (.lst (vs ++ [V.non]))) := fun b o e => by
    rw [upd_ne (ne_of_none e np)]
    exact (s4.trans s5) b o e
  have S6 := S3.same s36
  have L6 := Lc.same s36
  have T6 := T3.ext s36
  have hw6 := s36 _ _ hw3
  generalize L2.upd (L2.upd G4 q (.lst ys)) p (.lst (vs ++ [V.non])) = G6 at S6 L6 T6 hw6
  -- single tools
  refine ⟨rfl, fun p7 G7 s7 np7 hp7 => ⟨p7, rfl, ⟨_, SqL.of hp7⟩, fun D7 nD7 => ?_⟩⟩
  refine lc_rel (p := fun v => lrk [strV v] == j) (c := fun v => [strV v]) (rel := TupR) walk_list nD7 (by decide) (fun H' s' => Same.seq s' (SqL.of hp7)) (fun e q => q.same e) (fun e q l' => q.off e _) (fun v => rfl) (fun v H' hv sH R kR => ?_) (fun v H' hv _ sH R kR => ?_) fun G8 ys8 s8 e8 f8 => ?_
  · obtain ⟨tt, htt, rfl⟩ := List.mem_map.mp hv
    refine ⟨_, rfl, (by show 1 ≤ sizeLine; decide), fun q nq => ?_⟩
    have sq := same_upd (o := .tup [.str tt]) nq
    refine ⟨q, [tt], rfl, upd_same, (fun u hu => by rw [List.mem_singleton.mp hu]; exact htt), by show 1 ≤ 1000; decide, fun H2 s3 => ⟨_, rfl, rfl, _, rfl, ?_⟩⟩
    have ed : decide (V.int ((lrk [tt] : Nat) : Int) = V.int ((j : Nat) : Int)) = (lrk [tt] == j) := by
      rw [Bool.eq_iff_iff, decide_eq_true_iff, beq_iff_eq]
      simp only [V.int.injEq]
      omega
    rw [ed]
    exact kR H2 (sq.trans s3)
  · obtain ⟨tt, htt, rfl⟩ := List.mem_map.mp hv
    exact ⟨_, rfl, (by show 1 ≤ sizeLine; decide), fun q nq => kR _ _ (same_upd nq) ⟨q, rfl, upd_same⟩⟩
  have es : ((TOOLS.map V.str).filter fun v => lrk [strV v] == j).map (fun v => [strV v]) = singC j := by
    unfold singC
    rw [List.filter_map, List.map_map]
    rfl
  rw [es] at f8
  have low8 := s7.trans s8
  have S8 := S6.same low8
  have L8 := L6.same low8
  have T8 := T6.ext low8
  have hw8 := low8 _ _ hw6
  have least : ∀ {G9 : Hp} {l0 e0 : Addr}, Same G8 G9 → G9 l0 = some (.lst [.ref e0]) → G9 e0 = some (.tup []) → ∃ b us, ([.ref l0, .ref D7, .ref D7] : List V)[j]? = some (.ref b) ∧ G9 b = some (.lst us) ∧ F2 (TupR G9) us (leastC j) := fun {G9 l0 e0} s9 h1 h2 => by
    obtain ⟨b, hb, b0, b1⟩ := three_at (l0 := l0) (D := D7) j3
    by_cases h0 : j = 0
    · have e := b0 h0
      subst e h0
      exact ⟨b, _, hb, h1, .cons ⟨e0, rfl, h2⟩ .nil⟩
    · have e := b1 h0
      subst e
      exact ⟨b, _, hb, s9 _ _ e8, by rw [← sing_least h0]; exact f8.mono fun _ _ q => q.same s9⟩
  -- the least ones
  refine ⟨_, rfl, _, rfl, wl, _, _, _, rfl, rfl, SqL.of hw8, at_nat (words_get j3), rfl, .str (WORDS.getD j ""), rfl, .inr ⟨j, j3, rfl, fun p9 vs9 G9 s9 np9 hp9 fp9 => ?_⟩⟩
  refine ⟨_, rfl, (by show 0 ≤ sizeLine; decide), fun e0 n0 => ⟨(by show 1 ≤ sizeLine; decide), fun l0 m0 => ⟨_, rfl, _, rfl, (by show 3 ≤ sizeLine; decide), fun L0 nL0 => ⟨_, rfl, ?_⟩⟩⟩⟩
  have r1 := same_upd (o := .tup []) n0
  have r2 := same_upd (o := .lst [.ref e0]) m0
  have r3 := same_upd (o := .lst [.ref l0, .ref D7, .ref D7]) nL0
  have r23 := (r1.trans r2).trans r3
  obtain ⟨b, us2, hb, hus2, fus2⟩ := least (s9.trans r23) (r3 _ _ upd_same) ((r2.trans r3) _ _ upd_same)
  refine ⟨L0, _, _, _, rfl, rfl, SqL.of upd_same, at_nat hb, ?_⟩
  refine tups_ne (r23 _ _ hp9) hus2 (fp9.mono fun _ _ q => q.same r23) fus2 (leastC_fok j) ⟨_, rfl, ?_⟩
  refine iteF ?_
  have lv9 : vs9.length ≤ 512 := by
    rw [fp9.len]
    exact leastC_len j
  refine ⟨_, rfl, .inl ⟨rfl, _, .inl (.inl (r23 _ _ hp9))⟩, p9, _, _, rfl, rfl, r23 _ _ hp9, Nat.lt_of_le_of_lt lv9 (by decide), ?_⟩
  have low10 : Same G8 (L2.upd (L2.upd (L2.upd (L2.upd G9 e0 (.tup [])) l0 (.lst [.ref e0])) L0 (.lst [.ref l0, .ref D7, .ref D7])) p9 (.lst (vs9 ++ [V.non]))) := fun b o e => by
    rw [upd_ne (ne_of_none e np9)]
    exact (s9.trans r23) b o e
  generalize L2.upd (L2.upd (L2.upd (L2.upd G9 e0 (.tup [])) l0 (.lst [.ref e0])) L0 (.lst [.ref l0, .ref D7, .ref D7])) p9 (.lst (vs9 ++ [V.non])) = G10 at low10
  have hw10 := low10 _ _ hw8
  -- once more
  refine ⟨_, rfl, _, rfl, wl, _, _, _, rfl, rfl, SqL.of hw10, at_nat (words_get j3), .str (WORDS.getD j ""), rfl, .inr ⟨j, j3, rfl, fun p11 vs11 G11 s11 np11 hp11 fp11 => ?_⟩⟩
  refine ⟨(by show 0 ≤ sizeLine; decide), fun e1 n1 => ⟨(by show 1 ≤ sizeLine; decide), fun l1 m1 => ⟨_, rfl, _, rfl, (by show 3 ≤ sizeLine; decide), fun L1 nL1 => ⟨_, rfl, ?_⟩⟩⟩⟩
  have w1 := same_upd (o := .tup []) n1
  have w2 := same_upd (o := .lst [.ref e1]) m1
  have w3 := same_upd (o := .lst [.ref l1, .ref D7, .ref D7]) nL1
  have w23 := (w1.trans w2).trans w3
  obtain ⟨b2, us3, hb2, hus3, fus3⟩ := least ((low10.trans s11).trans w23) (w3 _ _ upd_same) ((w2.trans w3) _ _ upd_same)
  refine ⟨L1, _, _, _, rfl, rfl, SqL.of upd_same, at_nat hb2, ?_⟩
  refine tups_ne (w23 _ _ hp11) hus3 (fp11.mono fun _ _ q => q.same w23) fus3 (leastC_fok j) ⟨_, rfl, ?_⟩
  refine iteF ?_
  have low12 := (low10.trans s11).trans w23
  have S12 := S8.same low12
  have L12 := L8.same low12
  have T12 := T8.ext low12
  have hw12 := low12 _ _ hw8
  generalize L2.upd (L2.upd (L2.upd G11 e1 (.tup [])) l1 (.lst [.ref e1])) L1 (.lst [.ref l1, .ref D7, .ref D7]) = G12 at S12 L12 T12 hw12
  -- no words
  refine ⟨_, rfl, (by show 1 ≤ sizeLine; decide), fun m2 k2 => ⟨(by show 1 ≤ sizeLine; decide), fun m3 k3 => ⟨(by show 7 ≤ sizeLine; decide), fun LP kP => ?_⟩⟩⟩
  have q1 := same_upd (o := .tup [.str "all"]) k2
  have q2 := same_upd (o := .lst [.str "all"]) k3
  have q3 := same_upd (o := .lst [.non, .str "", .str "ALL", .str "middl", .int 5, .ref m2, .ref m3]) kP
  have qA := (q1.trans q2).trans q3
  have o3 := (S12.new (q1.free k3)).1
  have nLP : LP ≠ lw := fun z => (S12.new ((q1.trans q2).free kP)).1 (by simp [z])
  have c2 := (q2.trans q3) _ _ (upd_same (a := m2) (o := .tup [.str "all"]))
  have c3 := q3 _ _ (upd_same (a := m3) (o := .lst [.str "all"]))
  have S13 := S12.same qA
  refine ⟨a, lw, lc, _, LP, _, rfl, S13, by omega, upd_same, nLP, (by show 0 < 7; decide), (by show 7 ≤ 1000; decide), fun i x G14 hx S14 K14 => ?_⟩
  have odd : OddW G14 x := by
    have hx1 := List.mem_of_getElem? hx
    have nw : ("" : Str) ∉ WORDS ∧ ("ALL" : Str) ∉ WORDS ∧ ("middl" : Str) ∉ WORDS := by decide +kernel
    simp only [List.mem_cons, List.not_mem_nil, or_false] at hx1
    rcases hx1 with rfl | rfl | rfl | rfl | rfl | rfl | rfl
    · exact .non
    · exact .str _ nw.1
    · exact .str _ nw.2.1
    · exact .str _ nw.2.2
    · exact .int _
    · exact .tup (S13.tupK K14 c2)
    · exact .lst (K14 _ _ c3 o3)
  have L14 := (L12.same qA).kp S13 ol orr K14
  have T14 := Tabs.kp (T12.ext qA) S13 K14
  have hw14 := K14 _ _ (qA _ _ hw12) ow
  -- the two errors
  refine ⟨T14, fun H15 e15 T15 => ?_⟩
  refine ⟨_, rfl, x, rfl, .inl ⟨(odd.ext e15).bad, ⟨true, Z.xW, fun _ ea na => ?_, fun z => by cases z⟩⟩⟩
  have e16 := same_upd (o := Caught (.ref CW) none ea) na
  have hea : (L2.upd H15 ea (Caught (.ref CW) none ea)) ea = some (Caught (.ref CW) none ea) := upd_same
  have e1416 : ExtN G14 (L2.upd H15 ea (Caught (.ref CW) none ea)) := fun b o eb nt => e16 _ _ (e15 b o eb nt)
  have T16 := T15.ext e16
  generalize L2.upd H15 ea (Caught (.ref CW) none ea) = H16 at e16 hea e1416 T16
  refine ⟨T16, fun H17 e17 T17 => ?_⟩
  have e1417 : ExtN G14 H17 := fun b o eb nt => e17 b o (e1416 b o eb nt) nt
  refine ⟨_, rfl, x, rfl, .inl ⟨(odd.ext e1417).bad, ⟨true, Z.xW, fun _ eb nb => ?_, fun z => by cases z⟩⟩⟩
  have s18 := same_upd (o := Caught (.ref CW) none eb) nb
  have heb : (L2.upd H17 eb (Caught (.ref CW) none eb)) eb = some (Caught (.ref CW) none eb) := upd_same
  have hea18 := s18 _ _ (e17 _ _ hea fun _ z => by cases z)
  have L18 := (L14.ext e1417).same s18
  have hw18 := s18 _ _ (e1417 _ _ hw14 fun _ z => by cases z)
  generalize L2.upd H17 eb (Caught (.ref CW) none eb) = H18 at s18 heb hea18 L18 hw18
  refine ⟨two, fun LE nLE => ?_⟩
  have s19 := same_upd (o := .lst [.ref ea, .ref eb]) nLE
  have hLE := upd_same (H := H18) (a := LE) (o := .lst [.ref ea, .ref eb])
  have L19 := L18.same s19
  have hw19 := s19 _ _ hw18
  have ha19 := s19 _ _ hea18
  have hb19 := s19 _ _ heb
  generalize L2.upd H18 LE (.lst [.ref ea, .ref eb]) = H19 at hLE L19 hw19 ha19 hb19
  refine ⟨_, rfl, LE, rfl, ⟨_, SqL.of hLE⟩, fun D20 nD20 => ?_⟩
  refine lc_rel (p := fun _ => false) (c := fun x => x) (rel := fun _ y b => y = b) walk_list nD20 (by show 2 < sizeLine; decide) (fun H' s' => Same.seq s' (SqL.of hLE)) (fun _ q => q) (fun _ q _ => q) (fun v => rfl) (fun x H' hx sH R kR => ?_) (fun x H' hx e _ R kR => by cases e) fun H20 ys20 s20 hD20 f20 => ?_
  · simp only [List.mem_cons, List.not_mem_nil, or_false] at hx
    rcases hx with rfl | rfl
    · exact ⟨_, rfl, ea, CW, none, .ref CW, .ref CW, true, rfl, sH _ _ ha19, rfl, Z.cW, .own CW, kit_self _, true, rfl, kR H' (Same.refl _)⟩
    · exact ⟨_, rfl, eb, CW, none, .ref CW, .ref CW, true, rfl, sH _ _ hb19, rfl, Z.cW, .own CW, kit_self _, true, rfl, kR H' (Same.refl _)⟩
  have ey20 : ys20 = [] := by
    have := f20.len
    rw [List.length_map, List.filter_eq_nil_iff.mpr (fun _ _ => by simp)] at this
    exact List.length_eq_zero_iff.mp this
  subst ey20
  refine tail_eq hD20 rfl fun H21 s21 => ⟨_, rfl, ?_⟩
  refine iteF ?_
  have low21 := s20.trans s21
  have hw21 := low21 _ _ hw19
  have L21 := L19.same low21
  refine ⟨_, rfl, _, rfl, wl, _, _, _, rfl, rfl, SqL.of hw21, at_nat (words_get j3), .str (WORDS.getD j ""), rfl, .inr ⟨j, j3, rfl, fun p22 vs22 H22 s22 np22 hp22 fp22 => ?_⟩⟩
  have L22 := L21.same s22
  obtain ⟨us22, hu22, fu22⟩ := L22.at_ j j3
  refine ⟨p22, _, rfl, .inl (SqL.of hp22), _, rfl, _, rfl, lo, _, _, _, rfl, rfl, SqL.of L22.top, at_nat (L22.ref j3), rr j, _, rfl, .inl (SqL.of hu22), rfl, ?_⟩
  have el : vs22.length = us22.length := by rw [fp22.len, len_of fu22 j3]
  rw [el]
  show Q (.bl (decide (V.int ((us22.length : Nat) : Int) = V.int ((us22.length : Nat) : Int)))) H22
  rw [decide_eq_true rfl]
  exact k H22
end
end Own
set_option Elab.async false
set_option linter.all false
set_option maxRecDepth 100000
set_option maxHeartbeats 4000000
namespace Own
open PySem PySem.Spec PyProof.Rows L2 LamX
/-! ### the lots: the loops -/
section
variable {P : Program} {w : World} {K : PySem.W.Frag} {mg : Str → Option Value} {base : Heap} {CB CD CW CR CT CN fT fN pE tb tr tl : Addr} {dT dN : FuncData}
theorem tif_true {tc : TT} {t u : TS} {D : Ends} {σ : L2.St} {H : Hp} (hb : ∀ G', Same H G' → t D σ G') (hc : ∀ R : Bool → Hp → Prop, (∀ G', Same H G' → R true G') → tc σ H R) : tIfS tc t u D σ H := hc _ fun G' s => iteT (hb G' s)
theorem lots1 (Z : All P w K mg CB CD CW CR CT CN fT fN pE dT dN) (A : Around) (outer : List Env) (s : Shared) (H : Hp) (E : XK)
    (hr : Room 4 (A.deeper (envOfC "_law_lots_right" (defScope sLots) s.heap.objs.size (He.ga K "_law_lots_right") (.ref (He.codeOf K ("_law_lots_right", none)))))) :
    ∃ u, PS (cxOf CX0 P w K mg base nsLots "_law_lots_right" (defScope sLots) (He.ga K "_law_lots_right") (.ref (He.codeOf K ("_law_lots_right", none))) A outer s H E).nox ((defBody sLots).getD 1 (.Pass ⟨0, 0, 0, 0⟩)) u ∧
      ∀ (D : Ends) (a wl lo : Addr) (rr : Nat → Addr) (H0 G : Hp), Rows3 H0 lo rr → LotsI H0 lo rr (lotsN 0) G → (∀ v3 v4 v5 G', LotsI H0 lo rr (lotsN 9) G' → D.nx [some (.ref a), some (.ref wl), some (.ref lo), v3, v4, v5, none, none, none, none, none, none, none, none] G') →
        u D [some (.ref a), some (.ref wl), some (.ref lo), none, none, none, none, none, none, none, none, none, none, none] G := by
  have T := Z.t
  obtain ⟨dTl, KTl⟩ := Z.kLTools (base := base)
  obtain ⟨dRk, KRk⟩ := Z.kLRank (base := base)
  have hr1 := hr.mono (show 1 ≤ 4 by decide)
  refine ⟨_, (ps_for PassesOwn.never rfl (pi_list (pe_call0 KTl.ok hr1 (by rfl) KTl.g KTl.kp KTl.b .nil pass0)) (pg_name (i := 3) scLots.nd rfl (Or.inl rfl))
        (pss_one (ps_for PassesOwn.never rfl (pi_range3 rfl T.range (pa_cons pe_int (pa_cons (pe_un un_neg pe_int) (pa_cons (pe_un un_neg pe_int) pa_nil)))) (pg_name (i := 4) scLots.nd rfl (Or.inl rfl))
          (pss_one (ps_for PassesOwn.never rfl (pi_list (pe_callTy call_list_of (by rfl) T.list (by decide +kernel) (pa_cons (pe_ix ix_list (pv 2) (pv 4) (fun _ _ => rfl)) pa_nil))) (pg_name (i := 5) scLots.nd rfl (Or.inl rfl))
            (pss_one (ps_if (PW.pt (pw_or (pt_cmpR (op_eqD hr.units) (pv 5) (pe_tup pa_nil) (nomark _)) (pw_or1 (pt_cmpR op_lt_str (pe_ix ix_tup (pv 5) (pe_op op_sub (pe_callB call_len_seq (by rfl) T.len PySem.boot_len (pa_cons (pv 5) pa_nil)) pe_int) (fun _ _ => rfl)) (pv 3) (nomark _)))))
              (pss_one (ps_expr (pe_bm PySem.F.plainAttrs_list PySem.F.slot_list_append PySem.F.type_list_append mt_append (pe_ix ix_list (pv 2) (pe_call KRk.ok hr1 (by rfl) KRk.g KRk.kp KRk.b .nil pass0 (pa_cons (pe_op op_catA (pv 5) (pe_tup (pa_cons (pv 3) pa_nil))) pa_nil)) (fun _ _ => rfl)) (pa_cons (pe_op op_catA (pv 5) (pe_tup (pa_cons (pv 3) pa_nil))) pa_nil)))) pss_nil))))))), ?_⟩
  intro D a wl lo rr H0 G R L k
  refine ⟨rfl, fun p G1 s1 np hp => ⟨p, rfl, ⟨_, SqL.of hp⟩, ?_⟩⟩
  have L1 := L.go s1
  have np3 : ∀ r, r < 3 → p ≠ rr r := fun r hr z => by
    obtain ⟨vs, h1, _⟩ := L.at_ r hr
    rw [z, h1] at np
    cases np
  refine for_list (K := K) (a := p) (xs := TOOLS.map V.str) (fun i σ G => i ≤ 9 ∧ ∃ v3 v4 v5, σ = [some (.ref a), some (.ref wl), some (.ref lo), v3, v4, v5, none, none, none, none, none, none, none, none] ∧ LotsI H0 lo rr (lotsN i) G ∧ G p = some (.lst (TOOLS.map V.str)))
    ⟨Nat.zero_le _, none, none, none, rfl, L1, hp⟩ (fun i σ G _ q => by obtain ⟨_, _, _, _, _, _, q⟩ := q; exact SqL.of q) ?_ ?_
  · rintro i y σ G hi ⟨_, v3, v4, v5, rfl, LG, gp⟩
    obtain ⟨i9, rfl⟩ := tools_get hi
    have mi : i ∈ List.range 9 := List.mem_range.mpr i9
    have mn : ∀ x, x < 9 → x ∈ nums := by decide +kernel
    refine ⟨_, rfl, _, rfl, 2, -1, -1, 3, rfl, ?_, ?_⟩
    · exact RgC.neg (by decide) (by decide) (by decide) (by decide)
    refine for_rangeC (lo := 2) (c := -1) (n := 3) (fun k σ G => ∃ v4 v5, σ = [some (.ref a), some (.ref wl), some (.ref lo), some (.str (TOOLS.getD i "")), v4, v5, none, none, none, none, none, none, none, none] ∧ LotsI H0 lo rr (stage i k) G ∧ G p = some (.lst (TOOLS.map V.str)))
      ⟨v4, v5, rfl, LG, gp⟩ ?_ ?_
    · rintro kk σ G hk ⟨v4, v5, rfl, LG, gp⟩
      have mk : kk ∈ List.range 3 := List.mem_range.mpr hk
      have r3 : 2 - kk < 3 := by omega
      have er : (2 : Int) + ((kk : Nat) : Int) * (-1) = ((2 - kk : Nat) : Int) := by omega
      obtain ⟨us, hu, fu⟩ := LG.at_ (2 - kk) r3
      obtain ⟨sl1, sl2⟩ := st_len i mi kk mk
      have lus : us.length = ((stage i kk).getD (2 - kk) []).length := by rw [fu.len, List.length_map]
      refine ⟨_, rfl, _, rfl, lo, _, _, _, rfl, rfl, SqL.of LG.top, by rw [er]; exact at_nat (LG.ref r3), rr (2 - kk), us, rfl, .inl (SqL.of hu), fun D0 nD0 => ⟨D0, rfl, ⟨_, SqL.of upd_same⟩, ?_⟩⟩
      have sD := same_upd (o := .lst us) nD0
      have nD3 : ∀ r, r < 3 → D0 ≠ rr r := fun r hr z => by
        obtain ⟨vs, h1, _⟩ := LG.at_ r hr
        rw [z, h1] at nD0
        cases nD0
      have hD0 := upd_same (H := G) (a := D0) (o := .lst us)
      generalize L2.upd G D0 (.lst us) = G2 at sD hD0
      refine for_list (K := K) (a := D0) (xs := us) (fun m σ G => ∃ v5, σ = [some (.ref a), some (.ref wl), some (.ref lo), some (.str (TOOLS.getD i "")), some (.int (2 + ((kk : Nat) : Int) * (-1))), v5, none, none, none, none, none, none, none, none] ∧
          LotsI H0 lo rr (((((stage i kk).getD (2 - kk) []).take m).map (· ++ [i])).foldl putN (stage i kk)) G ∧ G p = some (.lst (TOOLS.map V.str)) ∧ G D0 = some (.lst us) ∧ F2 (TupR G) us (((stage i kk).getD (2 - kk) []).map ch))
        ⟨v5, rfl, LG.go sD, sD _ _ gp, hD0, fu.mono fun _ _ q => q.same sD⟩ (fun m σ G _ q => by obtain ⟨_, _, _, _, q, _⟩ := q; exact SqL.of q) ?_ ?_
      · rintro m y σ G hm ⟨v5, rfl, LM, gp, gD, fm⟩
        obtain ⟨cs, hcs, hv⟩ := fm.at_ hm
        rw [List.getElem?_map] at hcs
        cases ec : ((stage i kk).getD (2 - kk) [])[m]? with
        | none => rw [ec] at hcs; cases hcs
        | some c =>
          rw [ec] at hcs
          cases hcs
          have c_lt := st_lt i mi kk mk c (List.mem_of_getElem? ec)
          have c_num : ∀ e ∈ c, e ∈ nums := fun e he => mn e (Nat.lt_trans (c_lt e he) i9)
          have c9 : c.length ≤ 512 := st_cl i mi kk mk c (List.mem_of_getElem? ec)
          have hm2 := (List.getElem?_eq_some_iff.mp ec).1
          have eX : ((((stage i kk).getD (2 - kk) []).take (m + 1)).map (· ++ [i])).foldl putN (stage i kk) = putN (((((stage i kk).getD (2 - kk) []).take m).map (· ++ [i])).foldl putN (stage i kk)) (c ++ [i]) := by
            rw [take_snoc ec, List.map_append, List.foldl_append]
            rfl
          rw [eX]
          generalize hX : ((((stage i kk).getD (2 - kk) []).take m).map (· ++ [i])).foldl putN (stage i kk) = X at LM
          have lenX : ∀ r, r < 3 → (X.getD r []).length ≤ 1024 := fun r hr => by
            rw [← hX]
            have h1 := puts_get ((((stage i kk).getD (2 - kk) []).take m).map (· ++ [i])) (stage i kk) r sl1
            have h2 := sl2 r (List.mem_range.mpr hr)
            have h3 := sl2 (2 - kk) (List.mem_range.mpr r3)
            rw [List.length_map, List.length_take] at h1
            omega
          obtain ⟨b, rfl, hb⟩ := id hv
          have ech : ch (c ++ [i]) = ch c ++ [TOOLS.getD i ""] := by simp [ch]
          have ern : lrk (ch (c ++ [i])) = rkN (c ++ [i]) := lrk_ch fun e he => by
            rcases List.mem_append.mp he with he | he
            · exact c_num e he
            · rw [List.mem_singleton.mp he]
              exact mn i i9
          have q3 : rkN (c ++ [i]) < 3 := Nat.lt_succ_of_le (rkN_le _)
          have lcat : (ch c).length + 1 ≤ sizeLine := by
            unfold ch
            rw [List.length_map]
            exact Nat.le_trans (Nat.add_le_add_right c9 1) (by decide)
          have memT : ∀ u ∈ ch (c ++ [i]), u ∈ TOOLS := ch_tools fun e he => by
            rcases List.mem_append.mp he with he | he
            · exact c_num e he
            · rw [List.mem_singleton.mp he]
              exact mn i i9
          refine tif_true (fun G1 s1 => ?_) fun R kR => ?_
          · refine ⟨_, rfl, _, rfl, _, rfl, (by show 1 ≤ sizeLine; decide), fun q nq => ?_⟩
            have t1 := same_upd (o := .tup [.str (TOOLS.getD i "")]) nq
            refine cat_read (c := ch c) (d := [TOOLS.getD i ""]) (t1 _ _ (s1 _ _ hb)) upd_same lcat fun r1 G2' t2 h2 => ?_
            rw [← ech] at h2
            refine ⟨r1, ch (c ++ [i]), rfl, h2, memT, by rw [ech, List.length_append]; unfold ch; rw [List.length_map]; show c.length + 1 ≤ 1000; omega, fun G3 t3 => ?_⟩
            rw [ern]
            have u3 := (s1.trans t1).trans (t2.trans t3)
            have LM3 := LM.go u3
            refine ⟨lo, _, _, _, rfl, rfl, SqL.of LM3.top, at_nat (LM3.ref q3), ?_⟩
            obtain ⟨ws, hw, fw⟩ := LM3.at_ _ q3
            refine ⟨.inl ⟨rfl, _, .inl (.inl hw)⟩, _, rfl, _, rfl, (by show 1 ≤ sizeLine; decide), fun q' nq' => ?_⟩
            have t4 := same_upd (o := .tup [.str (TOOLS.getD i "")]) nq'
            refine cat_read (c := ch c) (d := [TOOLS.getD i ""]) (t4 _ _ (u3 _ _ hb)) upd_same lcat fun r2 G4 t5 h5 => ?_
            rw [← ech] at h5
            have t45 := t4.trans t5
            have LM4 := LM3.go t45
            have hw4 := t45 _ _ hw
            refine ⟨rr (rkN (c ++ [i])), _, _, rfl, rfl, hw4, ?_, ?_⟩
            · rw [fw.len, List.length_map]
              exact Nat.lt_of_le_of_lt (lenX _ q3) (by decide)
            · have low := u3.trans t45
              refine ⟨_, rfl, LM4.put R hw4 (fw.mono fun _ _ q => q.same t45) ⟨r2, rfl, h5⟩, ?_, ?_, fm.mono fun _ _ q => (q.same low).off hw4 _⟩
              · rw [upd_ne (np3 _ q3)]
                exact low _ _ gp
              · rw [upd_ne (nD3 _ q3)]
                exact low _ _ gD
          · refine ⟨_, rfl, (by show 0 ≤ sizeLine; decide), fun q nq => ?_⟩
            have t1 := same_upd (o := .tup []) nq
            refine ⟨tupD (ch c), .tuple [], .tup (SqT.of (t1 _ _ hb)) (dpAll_strs _), .tup (SqT.of upd_same) .nil, shaped_tup (sub_fokc (ch_tools c_num)), rfl, _, rfl, ?_⟩
            rw [eqv_tnil]
            by_cases h0 : c = []
            · subst h0
              exact iteT (kR _ t1)
            · have he : (ch c).isEmpty = false := by
                cases hh : ch c with
                | nil => exact absurd hh (ch_nil h0)
                | cons _ _ => rfl
              rw [he]
              refine iteF ?_
              obtain ⟨zz, hz1, hz2⟩ := last_lt i9 c_lt h0
              have cpos : 0 < (ch c).length := List.length_pos_iff.mpr (ch_nil h0)
              have et : (((((ch c).map V.str).length : Nat) : Int) - 1) = (((ch c).length - 1 : Nat) : Int) := by
                rw [List.length_map]
                omega
              have hb1 : SqT K (L2.upd G q (.tup [])) b ((ch c).map V.str) := SqT.of (t1 _ _ hb)
              refine ⟨_, rfl, _, rfl, b, _, rfl, .inr hb1, _, _, rfl, rfl, b, _, _, .str zz, rfl, rfl, hb1, ?_, _, rfl, _, _, rfl, rfl, _, rfl, ?_⟩
              · rw [et]
                refine at_nat ?_
                rw [List.getElem?_map, hz1]
                rfl
              · have ed : decide (zz.cps.toList < (TOOLS.getD i "").cps.toList) = true := hz2
                rw [ed]
                exact kR _ t1
      · rintro σ G ⟨v5, rfl, LM, gp, gD, fm⟩
        rw [lus, List.take_length] at LM
        refine ⟨_, _, rfl, ?_, gp⟩
        rw [st_step hk]
        exact LM
    · rintro σ G ⟨v4, v5, rfl, LG, gp⟩
      rw [st_next] at LG
      exact ⟨i9, _, v4, v5, rfl, LG, gp⟩
  · rintro σ G ⟨_, v3, v4, v5, rfl, LG, gp⟩
    exact k v3 v4 v5 G LG
end
end Own
set_option Elab.async false
set_option linter.all false
set_option maxRecDepth 100000
set_option maxHeartbeats 4000000
namespace Own
open PySem PySem.Spec PyProof.Rows L2 LamX
/-! ### the lots: the loops -/
section
variable {P : Program} {w : World} {K : PySem.W.Frag} {mg : Str → Option Value} {base : Heap} {CB CD CW CR CT CN fT fN pE tb tr tl : Addr} {dT dN : FuncData}
theorem ok_lots {fd2 : FuncData} (F : FnP K "_law_lots_right" sLots (He.ga K "_law_lots_right") fd2) (hf : He.ga K "_law_lots_right" = He.fAd K ("_law_lots_right", none)) (Z : All P w K mg CB CD CW CR CT CN fT fN pE dT dN) (A3 : Apart tb tr tl)
    (TB : TabB base mg (He.codeOf K ("_law_lots_right", none)) tr) : FnOk P w K mg base CX0 5 (He.ga K "_law_lots_right") fd2 ["_law_state"] (spLots tb tr tl) := by
  have T := Z.t
  obtain ⟨dD, KD⟩ := Z.kDraw (base := base)
  obtain ⟨dP, KP⟩ := Z.kPick (base := base)
  obtain ⟨dTl, KTl⟩ := Z.kLTools (base := base)
  obtain ⟨dRk, KRk⟩ := Z.kLRank (base := base)
  obtain ⟨dW, FW, KW⟩ := Z.kWith (base := base)
  obtain ⟨dL, FL, KL⟩ := Z.kLeast (base := base)
  obtain ⟨dC, FC, gC⟩ := All.mem1 (x := "_law_caught") (st := sCaught) (by simp [FNS]) Z
  have kW := kb_one FW (p := "word") fun _ _ _ _ _ _ _ => rfl
  have kL := kb_one FL (p := "word") fun _ _ _ _ _ _ _ => rfl
  refine FunD.okL F scLots rfl (fun vs H Q E h => ?_) (fun cdv A outer s H vs Q E hlk hcd hr h => ?_)
  · obtain ⟨a, lw, lc, t, rfl, _⟩ := h
    rfl
  · have ec := code_is hf hlk hcd
    subst ec
    obtain ⟨a, lw, lc, t, rfl, S, ht, hT, k⟩ := h
    have hr1 := hr.mono (show 1 ≤ 4 by decide)
    have hr2 := hr.mono (show 2 ≤ 4 by decide)
    have hr3 := hr.mono (show 3 ≤ 4 by decide)
    obtain ⟨u2, h2, r2⟩ := lots2 Z A3 TB A outer s H E hr
    obtain ⟨u1, h1, r1⟩ := lots1 Z A outer s H E hr
    refine ⟨_, PSsT.nox (PSsT.of (pss_cons (ps_par (i := 1) (j := 2) (by rfl) scLots.nd rfl rfl (by decide) rfl rfl (pa_cons (pe_lst (pa_cons pe_str (pa_cons pe_str (pa_cons pe_str pa_nil)))) (pa_cons (pe_lst (pa_cons (pe_lst (pa_cons (pe_tup pa_nil) pa_nil)) (pa_cons (pe_lst pa_nil) (pa_cons (pe_lst pa_nil) pa_nil)))) pa_nil)) (by rfl)) (pss_cons h1 h2))), ?_⟩
    have three : (3 : Nat) ≤ sizeLine := by decide
    refine ⟨three, fun wl nwl => ⟨(by show 0 ≤ sizeLine; decide), fun e0 ne0 => ⟨(by show 1 ≤ sizeLine; decide), fun q0 nq0 => ⟨(by show 0 ≤ sizeLine; decide), fun q1 nq1 => ⟨(by show 0 ≤ sizeLine; decide), fun q2 nq2 => ⟨three, fun lo nlo => ⟨_, _, rfl, ?_⟩⟩⟩⟩⟩⟩⟩
    have s1 := same_upd (o := .lst (WORDS.map V.str)) nwl
    have s2 := same_upd (o := .tup []) ne0
    have s3 := same_upd (o := .lst [.ref e0]) nq0
    have s4 := same_upd (o := .lst []) nq1
    have s5 := same_upd (o := .lst []) nq2
    have s6 := same_upd (o := .lst [.ref q0, .ref q1, .ref q2]) nlo
    let rr : Nat → Addr := fun r => match r with | 0 => q0 | 1 => q1 | _ => q2
    have t3 := s3.trans (s4.trans (s5.trans s6))
    have f0 := nq0
    have f1 := s3.free nq1
    have f2 := (s3.trans s4).free nq2
    have n10 : q1 ≠ q0 := fun z => by rw [z, upd_same] at nq1; cases nq1
    have n20 : q2 ≠ q0 := fun z => by have := s4.free nq2; rw [z, upd_same] at this; cases this
    have n21 : q2 ≠ q1 := fun z => by rw [z, upd_same] at nq2; cases nq2
    have l0 : lo ≠ q0 := fun z => by have := (s4.trans s5).free nlo; rw [z, upd_same] at this; cases this
    have l1 : lo ≠ q1 := fun z => by have := s5.free nlo; rw [z, upd_same] at this; cases this
    have l2 : lo ≠ q2 := fun z => by rw [z, upd_same] at nlo; cases nlo
    refine r1 _ a wl lo rr (L2.upd (L2.upd H wl (.lst (WORDS.map V.str))) e0 (.tup [])) _ ⟨fun r hr' => ?_, fun r s' hr' hs' hne => ?_, fun r hr' => ?_⟩ ⟨t3, upd_same, fun r hr' => ?_, rfl⟩ fun v3 v4 v5 G L => ?_
    · rcases (by omega : r = 0 ∨ r = 1 ∨ r = 2) with rfl | rfl | rfl
      · exact f0
      · exact f1
      · exact f2
    · rcases (by omega : r = 0 ∨ r = 1 ∨ r = 2) with rfl | rfl | rfl <;> rcases (by omega : s' = 0 ∨ s' = 1 ∨ s' = 2) with rfl | rfl | rfl
      · exact absurd rfl hne
      · exact n10.symm
      · exact n20.symm
      · exact n10
      · exact absurd rfl hne
      · exact n21.symm
      · exact n20
      · exact n21
      · exact absurd rfl hne
    · rcases (by omega : r = 0 ∨ r = 1 ∨ r = 2) with rfl | rfl | rfl
      · exact l0
      · exact l1
      · exact l2
    · rcases (by omega : r = 0 ∨ r = 1 ∨ r = 2) with rfl | rfl | rfl
      · exact ⟨_, (s4.trans (s5.trans s6)) _ _ upd_same, .cons ⟨e0, rfl, t3 _ _ upd_same⟩ .nil⟩
      · exact ⟨_, (s5.trans s6) _ _ upd_same, .nil⟩
      · exact ⟨_, s6 _ _ upd_same, .nil⟩
    · have low := (s1.trans s2).trans L.same
      have fw := nwl
      have flo := ((s1.trans s2).trans (s3.trans (s4.trans s5))).free nlo
      refine r2 _ a lw lc t wl lo rr G v3 v4 v5 (S.same low) (Nat.lt_of_lt_of_le ht (by decide)) (hT.ext low) ⟨L.top, L.at_⟩ (L.same _ _ (s2 _ _ upd_same)) (S.new fw).1 (S.new flo).1 (fun r hr' => ?_) k
      rcases (by omega : r = 0 ∨ r = 1 ∨ r = 2) with rfl | rfl | rfl
      · exact (S.new ((s1.trans s2).free f0)).1
      · exact (S.new ((s1.trans s2).free f1)).1
      · exact (S.new ((s1.trans s2).free f2)).1
end
end Own
set_option Elab.async false
set_option linter.all false
set_option maxRecDepth 100000
set_option maxHeartbeats 4000000
namespace Own
open PySem PySem.Spec PyProof.Rows L2 LamX
/-! ### the law: one turn, its first part -/
def forBody : Stmt → List Stmt
  | .For _ _ b _ _ => b
  | _ => []
abbrev lawTurn : List Stmt := forBody ((defBody sLaw).getD 2 (.Pass ⟨0, 0, 0, 0⟩))
abbrev nsLaw : List Str := ["_law_script", "_law_state", "_law_words", "_law_turn", "_law_one", "_law_other", "_law_both", "_law_tool", "_law_told", "_law_odd", "_law_errors", "_law_error"]
theorem scLaw : FnScope nsLaw ["_law_script"] (defScope sLaw) := ⟨rfl, rfl, rfl, by decide +kernel, rfl, by decide +kernel, by decide +kernel⟩
theorem words_fok : ∀ t ∈ WORDS, fok (.str t) = true := by decide +kernel
theorem rk_word (c : List Str) : WORDS.getD (rk c) "" ∈ WORDS := by
  have h := rk_le c
  rcases (by omega : rk c = 0 ∨ rk c = 1 ∨ rk c = 2) with e | e | e <;> rw [e] <;> decide +kernel
def toldD (x : Str) (c : List Str) (y : Str) : PyData := .list [.str x, tupD c, .str y]
theorem told_shaped {x y : Str} {c : List Str} (hx : x ∈ WORDS) (hy : y ∈ WORDS) (hc : FokC c) : SeqAt.shaped (toldD x c y) = true := by
  obtain ⟨h1, h2⟩ := lay_strs c hc
  have q1 : (PyData.str x).canLay0 = true := words_fok x hx
  have q2 : (PyData.str y).canLay0 = true := words_fok y hy
  show (((PyData.str x).canLay0 && (PyData.canLayAll0 (c.map PyData.str) && ((PyData.str y).canLay0 && true))) && decide (max 0 (max (PyData.depthAll (c.map PyData.str) + 1) (max 0 0)) + 1 ≤ 64)) = true
  rw [q1, q2, h1, h2]
  rfl
theorem both_joint (c d : List Str) : (TOOLS.map V.str).filter (fun v => inV v ((c ++ d).map V.str)) = (joint c d).map V.str := by
  unfold joint
  rw [List.filter_map]
  refine congrArg (fun l => l.map V.str) (List.filter_congr fun t _ => ?_)
  show inV (V.str t) _ = _
  rw [inV_str]
  simp
section
variable {P : Program} {w : World} {K : PySem.W.Frag} {mg : Str → Option Value} {base : Heap} {CB CD CW CR CT CN fT fN pE tb tr tl : Addr} {dT dN : FuncData}
abbrev cxLaw (P : Program) (w : World) (K : PySem.W.Frag) (mg : Str → Option Value) (base : Heap) (A : Around) (outer : List Env) (s : Shared) (H : Hp) (E : XK) : Cx := (cxOf CX0 P w K mg base nsLaw "law" (defScope sLaw) (He.ga K "law") (.ref (He.codeOf K ("law", none))) A outer s H E).nox
abbrev deepLaw (K : PySem.W.Frag) (A : Around) (s : Shared) : Around := A.deeper (envOfC "law" (defScope sLaw) s.heap.objs.size (He.ga K "law") (.ref (He.codeOf K ("law", none))))
theorem law1 (Z : All P w K mg CB CD CW CR CT CN fT fN pE dT dN) (A : Around) (outer : List Env) (s : Shared) (H : Hp) (E : XK) (hr : Room 10 (deepLaw K A s)) {uB : TS} (hB : PSs (cxLaw P w K mg base A outer s H E) (lawTurn.drop 5) uB) :
    ∃ u, PSs (cxLaw P w K mg base A outer s H E) lawTurn u ∧
      ∀ (D : Ends) (sa a wl lw lc : Addr) (t : Nat) (v3 v4 v5 v6 v8 v9 v10 : Option V) (G : Hp), StA G a lw lc t → t < 2 ^ 35 → Tabs (TTs tb tr tl) G → G wl = some (.lst (WORDS.map V.str)) → wl ∉ [a, lw] →
        (∀ (c d : List Str) (pc pd : Addr) (v6 v8 : Option V) (G' : Hp), c.Sublist TOOLS → d.Sublist TOOLS → G' pc = some (.tup (c.map V.str)) → G' pd = some (.tup (d.map V.str)) → StA G' a lw lc (t + 20) → Tabs (TTs tb tr tl) G' → G' wl = some (.lst (WORDS.map V.str)) →
          uB D [some (.ref sa), some (.ref a), some (.ref wl), v3, some (.ref pc), some (.ref pd), v6, none, v8, v9, v10, none] G') →
        u D [some (.ref sa), some (.ref a), some (.ref wl), v3, v4, v5, v6, none, v8, v9, v10, none] G := by
  have T := Z.t
  obtain ⟨dTl, KTl⟩ := Z.kLTools (base := base)
  obtain ⟨dRk, KRk⟩ := Z.kLRank (base := base)
  obtain ⟨dCh, KCh⟩ := Z.kLChest (base := base)
  obtain ⟨dS, FS, KS⟩ := Z.kSet (base := base)
  obtain ⟨dJ, FJ, KJ⟩ := Z.kJoint (base := base)
  obtain ⟨dM, FM, KM⟩ := Z.kNoMore (base := base)
  have kS := kb_one FS (p := "chest") fun _ _ _ _ _ _ _ => rfl
  have kJ := kb_two FJ (p := "one") (q := "other") fun _ _ _ _ _ _ _ _ => rfl
  have kM := kb_two FM (p := "one") (q := "other") fun _ _ _ _ _ _ _ _ => rfl
  have hr1 := hr.mono (show 1 ≤ 10 by decide)
  have hr3 := hr.mono (show 3 ≤ 10 by decide)
  refine ⟨_, pss_cons (ps_asg (pe_tup (pa_cons (pe_call KCh.ok hr3 (by rfl) KCh.g KCh.kp KCh.b .nil pass0 (pa_cons (pv 1) pa_nil)) (pa_cons (pe_call KCh.ok hr3 (by rfl) KCh.g KCh.kp KCh.b .nil pass0 (pa_cons (pv 1) pa_nil)) pa_nil))) (pg_tup rfl (pgs_cons (pg_name (i := 4) scLaw.nd rfl (.inr rfl)) (pgs_cons (pg_name (i := 5) scLaw.nd rfl (.inr rfl)) pgs_nil))))
      (pss_cons (ps_set (i := 6) scLaw.nd rfl (.inl rfl) (pe_tupleOf (by rfl) T.tuple (pe_lc (own := [("_law_tool", 7)]) (g := gName 7) (by rfl) scLaw.nd (pi_list (pe_call0 KTl.ok hr1 (by rfl) KTl.g KTl.kp KTl.b .nil pass0)) (blkOk_by (own := [("_law_tool", 7)]) (N := nsLaw) (sc := defScope sLaw) (by decide +kernel))
          (fun _ _ _ _ _ => pg_name (i := 7) scLaw.nd rfl (Or.inl rfl)) (fun _ _ _ _ _ => pts_one (pt_cmpR (op_inK (K := K) rfl) (pv 7) (pe_op (op_catAK (K := K) rfl) (pv 4) (pv 5)) (by rfl))) (fun _ _ _ _ _ => pv 7))))
      (pss_cons (ps_set (i := 8) scLaw.nd rfl (.inl rfl) (pe_lst (pa_cons (pe_kw0 KS.ok hr3 (by rfl) KS.g KS.kp kS passL (pk_cons (pv 4) pk_nil)) (pa_cons (pe_kw0 KJ.ok hr3 (by rfl) KJ.g KJ.kp kJ passL (pk_cons (pv 4) (pk_cons (pv 5) pk_nil))) (pa_cons (pe_call KS.ok hr3 (by rfl) KS.g KS.kp KS.b .nil passL (pa_cons (pe_call KJ.ok hr3 (by rfl) KJ.g KJ.kp KJ.b .nil passL (pa_cons (pv 4) (pa_cons (pv 5) pa_nil))) pa_nil)) pa_nil)))))
      (pss_cons (ps_if (pt_cmpR (op_neD hr.units) (pv 8) (pe_lst (pa_cons (pe_ix ix_list (pv 2) (pe_call KRk.ok hr1 (by rfl) KRk.g KRk.kp KRk.b .nil pass0 (pa_cons (pv 4) pa_nil)) (fun _ _ => rfl)) (pa_cons (pv 6) (pa_cons (pe_ix ix_list (pv 2) (pe_callB (call_max2 rfl) (by rfl) T.max (by decide +kernel) (pa_cons (pe_call KRk.ok hr1 (by rfl) KRk.g KRk.kp KRk.b .nil pass0 (pa_cons (pv 4) pa_nil)) (pa_cons (pe_call KRk.ok hr1 (by rfl) KRk.g KRk.kp KRk.b .nil pass0 (pa_cons (pv 5) pa_nil)) pa_nil))) (fun _ _ => rfl)) pa_nil)))) (nomark _)) (pss_one (ps_ret pe_bl)) pss_nil)
      (pss_cons (ps_if (pt_cmpR op_ne (pe_callB call_repr0 (by rfl) T.repr (by decide +kernel) (pa_cons (pe_kw0 KM.ok hr3 (by rfl) KM.g KM.kp kM passL (pk_cons (pv 4) (pk_cons (pv 5) pk_nil))) pa_nil)) (pe_callB call_repr0 (by rfl) T.repr (by decide +kernel) (pa_cons (pe_cmpR op_le (pe_call KRk.ok hr1 (by rfl) KRk.g KRk.kp KRk.b .nil pass0 (pa_cons (pv 4) pa_nil)) (pe_call KRk.ok hr1 (by rfl) KRk.g KRk.kp KRk.b .nil pass0 (pa_cons (pv 5) pa_nil)) (nomark _)) pa_nil)) (nomark _)) (pss_one (ps_ret pe_bl)) pss_nil) hB)))), ?_⟩
  intro D sa a wl lw lc t v3 v4 v5 v6 v8 v9 v10 G S ht hT hw ow k
  have three : (3 : Nat) ≤ sizeLine := by decide
  refine ⟨_, rfl, a, lw, lc, t, rfl, S, Nat.lt_of_lt_of_le ht (by decide), fun pc c G1 hc S1 K1 npc hpc => ⟨_, rfl, a, lw, lc, _, rfl, S1, by omega, fun pd d G2 hd S2 K2 npd hpd => ⟨(by show 2 ≤ sizeLine; decide), fun t0 nt => ⟨t0, _, rfl, SqT.of upd_same, rfl, _, _, rfl, _, _, rfl, rfl, ?_⟩⟩⟩⟩
  have s3 := same_upd (o := .tup [V.ref pc, .ref pd]) nt
  have hpc3 := s3 _ _ (S1.tupK K2 hpc)
  have hpd3 := s3 _ _ hpd
  have S3 := S2.same s3
  have T3 := (Tabs.kp (Tabs.kp hT S K1) S1 K2).ext s3
  have hw3 := s3 _ _ (K2 _ _ (K1 _ _ hw ow) ow)
  generalize L2.upd G2 t0 (.tup [V.ref pc, .ref pd]) = G3 at hpc3 hpd3 S3 T3 hw3
  have lc9 := sub_len hc
  have ld9 := sub_len hd
  have mc : ∀ t ∈ c, t ∈ TOOLS := fun t h => hc.subset h
  have md : ∀ t ∈ d, t ∈ TOOLS := fun t h => hd.subset h
  have rc : rk c = lrk c := rk_lrk mc
  have rd : rk d = lrk d := rk_lrk md
  have c1000 : c.length ≤ 1000 := by omega
  have d1000 : d.length ≤ 1000 := by omega
  -- both
  refine ⟨rfl, fun p7 G7 s7 np7 hp7 => ⟨p7, rfl, ⟨_, SqL.of hp7⟩, fun D7 nD7 => ?_⟩⟩
  refine lc_filt (p := fun v => inV v ((c ++ d).map V.str)) walk_list nD7 (by decide) (fun H' s' => Same.seq s' (SqL.of hp7)) (by show 7 < 12; decide) (fun v H' hv sH R kR => ?_) fun G8 s8 e8 => ?_
  · obtain ⟨x, _, rfl⟩ := List.mem_map.mp hv
    refine ⟨_, rfl, _, rfl, _, rfl, cat_read (sH _ _ (s7 _ _ hpc3)) (sH _ _ (s7 _ _ hpd3)) (Nat.le_trans (show c.length + d.length ≤ 18 by omega) (by decide)) fun r H2 t2 h2 => ⟨r, _, rfl, .inr (SqT.of h2), rfl, flat_strs _, ?_⟩⟩
    exact ⟨_, rfl, kR _ t2⟩
  rw [both_joint] at e8
  refine .inl ⟨D7, _, rfl, SqL.of e8, fun q nq => ?_⟩
  have s9 := same_upd (o := .tup ((joint c d).map V.str)) nq
  have low9 := (s7.trans s8).trans s9
  have hq9 := upd_same (H := G8) (a := q) (o := .tup ((joint c d).map V.str))
  generalize L2.upd G8 q (.tup ((joint c d).map V.str)) = G9 at s9 low9 hq9
  have hpc9 := low9 _ _ hpc3
  have hpd9 := low9 _ _ hpd3
  -- what is told
  refine ⟨_, rfl, rfl, _, rfl, .inr ⟨c, ⟨pc, rfl, hpc9, hc⟩, fun G10 s10 => ?_⟩⟩
  refine ⟨_, rfl, _, rfl, rfl, _, _, rfl, .inr ⟨c, ⟨pc, rfl, s10 _ _ hpc9, hc⟩, .inr ⟨d, ⟨pd, rfl, s10 _ _ hpd9, hd⟩, fun G11 j1 s11 nj1 hj1 => ?_⟩⟩⟩
  have l11 := s10.trans s11
  refine ⟨_, rfl, _, rfl, _, _, rfl, .inr ⟨c, ⟨pc, rfl, l11 _ _ hpc9, hc⟩, .inr ⟨d, ⟨pd, rfl, l11 _ _ hpd9, hd⟩, fun G12 j2 s12 nj2 hj2 => ?_⟩⟩⟩
  refine ⟨_, rfl, .inr ⟨joint c d, ⟨j2, rfl, hj2, joint_sub c d⟩, fun G13 s13 => ⟨three, fun L13 n13 => ?_⟩⟩⟩
  have s14 := same_upd (o := .lst [V.str (WORDS.getD (rk c) ""), .ref j1, .str (WORDS.getD (rk (joint c d)) "")]) n13
  have hL14 := upd_same (H := G13) (a := L13) (o := .lst [V.str (WORDS.getD (rk c) ""), .ref j1, .str (WORDS.getD (rk (joint c d)) "")])
  have l14 := ((l11.trans s12).trans s13).trans s14
  have hj14 := ((s12.trans s13).trans s14) _ _ hj1
  generalize L2.upd G13 L13 (.lst [V.str (WORDS.getD (rk c) ""), .ref j1, .str (WORDS.getD (rk (joint c d)) "")]) = G14 at s14 hL14 l14 hj14
  have wix : ∀ n, n ≤ 2 → atI (WORDS.map V.str) ((n : Nat) : Int) = some (.str (WORDS.getD n "")) := fun n hn => at_nat (words_get (by omega))
  have r2 : ∀ x : List Str, lrk x ≤ 2 → True := fun _ _ => trivial
  have lrc : lrk c ≤ 2 := rc ▸ rk_le c
  have lrd : lrk d ≤ 2 := rd ▸ rk_le d
  have hwB := l14 _ _ (low9 _ _ hw3)
  refine ⟨_, rfl, _, rfl, _, rfl, _, _, rfl, l14 _ _ hpc9, mc, c1000, fun G15 s15 => ⟨wl, _, _, _, rfl, rfl, SqL.of (s15 _ _ hwB), wix _ lrc, ?_⟩⟩
  have l15 := l14.trans s15
  refine ⟨_, rfl, _, rfl, _, rfl, _, _, rfl, l15 _ _ hpc9, mc, c1000, fun G16 s16 => ⟨_, rfl, _, _, rfl, (l15.trans s16) _ _ hpd9, md, d1000, fun G17 s17 => ⟨_, _, rfl, ?_⟩⟩⟩
  have em : (if ((lrk d : Nat) : Int) > ((lrk c : Nat) : Int) then ((lrk d : Nat) : Int) else ((lrk c : Nat) : Int)) = ((rk (joint c d) : Nat) : Int) := by
    rw [rk_joint mc md, rc, rd]
    split <;> omega
  rw [em]
  have l17 := (l15.trans s16).trans s17
  refine ⟨wl, _, _, _, rfl, rfl, SqL.of ((s15.trans (s16.trans s17)) _ _ hwB), wix _ (rk_le _), three, fun L17 n17 => ?_⟩
  have s18 := same_upd (o := .lst [V.str (WORDS.getD (lrk c) ""), .ref q, .str (WORDS.getD (rk (joint c d)) "")]) n17
  have l18 := l17.trans s18
  have hL18 := upd_same (H := G17) (a := L17) (o := .lst [V.str (WORDS.getD (lrk c) ""), .ref q, .str (WORDS.getD (rk (joint c d)) "")])
  have up := ((s15.trans (s16.trans s17)).trans s18)
  generalize L2.upd G17 L17 (.lst [V.str (WORDS.getD (lrk c) ""), .ref q, .str (WORDS.getD (rk (joint c d)) "")]) = G18 at s18 l18 hL18 up
  have jf : FokC (joint c d) := sub_fokc fun t ht => (joint_sub c d).subset ht
  have sh := told_shaped (x := WORDS.getD (rk c) "") (y := WORDS.getD (rk (joint c d)) "") (c := joint c d) (rk_word c) (rk_word _) jf
  refine ⟨toldD (WORDS.getD (rk c) "") (joint c d) (WORDS.getD (rk (joint c d)) ""), toldD (WORDS.getD (rk c) "") (joint c d) (WORDS.getD (rk (joint c d)) ""), .lst (SqL.of (up _ _ hL14)) (.cons (.str _) (.cons (.tup (SqT.of (up _ _ hj14)) (dpAll_strs _)) (.cons (.str _) .nil))), ?_, sh, sh, ?_⟩
  · rw [rc]
    exact .lst (SqL.of hL18) (.cons (.str _) (.cons (.tup (SqT.of (l18 _ _ hq9)) (dpAll_strs _)) (.cons (.str _) .nil)))
  rw [SeqAt.eqv_refl _ (SeqAt.canLay_of_shaped sh)]
  refine ⟨_, rfl, iteF ?_⟩
  -- no_more
  refine ⟨_, rfl, _, rfl, rfl, _, _, rfl, .inr ⟨c, ⟨pc, rfl, l18 _ _ hpc9, hc⟩, .inr ⟨d, ⟨pd, rfl, l18 _ _ hpd9, hd⟩, fun G19 s19 => ?_⟩⟩⟩
  have l19 := l18.trans s19
  refine ⟨_, _, rfl, rfl, (fun i z => by cases z), ?_⟩
  refine ⟨_, rfl, _, _, rfl, l19 _ _ hpc9, mc, c1000, fun G20 s20 => ⟨_, rfl, _, _, rfl, (l19.trans s20) _ _ hpd9, md, d1000, fun G21 s21 => ⟨_, _, rfl, rfl, ?_⟩⟩⟩
  have l21 := (l19.trans s20).trans s21
  refine ⟨_, _, rfl, rfl, (fun i z => by cases z), ?_⟩
  have e1 : decide (rk c ≤ rk d) = decide (((lrk c : Nat) : Int) ≤ ((lrk d : Nat) : Int)) := by
    rw [rc, rd, Bool.eq_iff_iff, decide_eq_true_iff, decide_eq_true_iff]
    omega
  rw [e1]
  generalize (if decide (((lrk c : Nat) : Int) ≤ ((lrk d : Nat) : Int)) = true then ("True" : Str) else "False") = zz
  refine ⟨rfl, _, rfl, ?_⟩
  have ez : (!decide (V.str zz = V.str zz)) = false := by simp
  rw [ez]
  refine iteF ?_
  have low21 := low9.trans l21
  exact k c d pc pd _ _ G21 hc hd (low21 _ _ hpc3) (low21 _ _ hpd3) ((S3.same low21).more (by omega)) (T3.ext low21) (low21 _ _ hw3)
end
end Own
set_option Elab.async false
set_option linter.all false
set_option maxRecDepth 100000
set_option maxHeartbeats 4000000
namespace Own
open PySem PySem.Spec PyProof.Rows L2 LamX
/-! ### the law: one turn, its second part -/
theorem OddX.ext {H H' : Hp} {x : V} (h : OddX H x) (e : ExtN H H') : OddX H' x := h.go fun p o _ q n => e p o q n
/-- what stands through the five errors -/
structure LwI (a lw lc : Addr) (t : Nat) (wl pc pd : Addr) (c d : List Str) (x : V) (G : Hp) : Prop where
  o : OddX G x
  s : StA G a lw lc t
  w : G wl = some (.lst (WORDS.map V.str))
  c : G pc = some (.tup (c.map V.str))
  d : G pd = some (.tup (d.map V.str))
theorem LwI.ext {a lw lc : Addr} {t : Nat} {wl pc pd : Addr} {c d : List Str} {x : V} {G G' : Hp} (L : LwI a lw lc t wl pc pd c d x G) (e : ExtN G G') : LwI a lw lc t wl pc pd c d x G' :=
  ⟨L.o.ext e, L.s.extN e, e _ _ L.w (fun _ z => by cases z), e _ _ L.c (fun _ z => by cases z), e _ _ L.d (fun _ z => by cases z)⟩
theorem LwI.same {a lw lc : Addr} {t : Nat} {wl pc pd : Addr} {c d : List Str} {x : V} {G G' : Hp} (L : LwI a lw lc t wl pc pd c d x G) (e : Same G G') : LwI a lw lc t wl pc pd c d x G' := L.ext fun b o h _ => e b o h
theorem tNil_in {σ : L2.St} {H : Hp} {k : List V → Hp → Prop} (h : k [] H) : tNil σ H k := h
section
variable {P : Program} {w : World} {K : PySem.W.Frag} {mg : Str → Option Value} {base : Heap} {CB CD CW CR CT CN fT fN pE tb tr tl : Addr} {dT dN : FuncData}
theorem law2 (Z : All P w K mg CB CD CW CR CT CN fT fN pE dT dN) (A3 : Apart tb tr tl) (TBb : TabB base mg (He.codeOf K ("_law_barred_right", none)) tb) (TBl : TabB base mg (He.codeOf K ("law", none)) tl)
    (hfb : He.ga K "_law_barred_right" = He.fAd K ("_law_barred_right", none)) (A : Around) (outer : List Env) (s : Shared) (H : Hp) (E : XK) (hr : Room 10 (deepLaw K A s)) (hg : (deepLaw K A s).guards = some []) :
    ∃ u, PSs (cxLaw P w K mg base A outer s H E) (lawTurn.drop 5) u ∧
      ∀ (D : Ends) (sa a wl lw lc : Addr) (t : Nat) (c d : List Str) (pc pd : Addr) (v3 v6 v8 v9 v10 : Option V) (G : Hp), StA G a lw lc t → t < 2 ^ 35 → Tabs (TTs tb tr tl) G → G wl = some (.lst (WORDS.map V.str)) → wl ∉ [a, lw] →
        c.Sublist TOOLS → d.Sublist TOOLS → G pc = some (.tup (c.map V.str)) → G pd = some (.tup (d.map V.str)) →
        (∀ (v9 v10 : Option V) (G' : Hp), StA G' a lw lc (t + 401) → Tabs (TTs tb tr tl) G' → G' wl = some (.lst (WORDS.map V.str)) →
          D.nx [some (.ref sa), some (.ref a), some (.ref wl), v3, some (.ref pc), some (.ref pd), v6, none, v8, v9, v10, none] G') →
        u D [some (.ref sa), some (.ref a), some (.ref wl), v3, some (.ref pc), some (.ref pd), v6, none, v8, v9, v10, none] G := by
  have T := Z.t
  obtain ⟨dO, KO⟩ := Z.kOdd (base := base)
  obtain ⟨dI, FI, KI⟩ := Z.kIsChest (base := base)
  obtain ⟨dS, FS, KS⟩ := Z.kSet (base := base)
  obtain ⟨dJ, FJ, KJ⟩ := Z.kJoint (base := base)
  obtain ⟨dM, FM, KM⟩ := Z.kNoMore (base := base)
  obtain ⟨dC, FC, gC⟩ := All.mem1 (x := "_law_caught") (st := sCaught) (by simp [FNS]) Z
  obtain ⟨dB, FB, gB⟩ := All.mem1 (x := "_law_barred_right") (st := sBarR) (by simp [FNS]) Z
  have GB : FnOk P w K mg base CX0 10 (He.ga K "_law_barred_right") dB ["_law_state", "_law_chest_here"] (spBarR tb tr tl) := ok_barr FB hfb Z A3 TBb
  have bB : Binds K dB ["_law_state", "_law_chest_here"] [] := FB.bindsN fun _ _ _ _ _ _ us hl => match us, hl with | [_, _], _ => rfl
  have kI := kb_one FI (p := "value") fun _ _ _ _ _ _ _ => rfl
  have hr1 := hr.mono (show 1 ≤ 10 by decide)
  have hr4 := hr.mono (show 4 ≤ 10 by decide)
  have hr5 := hr.mono (show 5 ≤ 10 by decide)
  have hu : (deepLaw K A s).units + 100 < cLine := by have := hr.un; omega
  refine ⟨_, pss_cons (ps_set (i := 9) scLaw.nd rfl (.inr rfl) (pe_call KO.ok hr4 (by rfl) KO.g KO.kp KO.b .nil pass0 (pa_cons (pv 1) (pa_cons (pv 4) pa_nil))))
      (pss_cons (ps_if (pt_cmpR op_ne (pe_callB (call_reprD hg hu) (by rfl) T.repr (by decide +kernel) (pa_cons (pe_lst (pa_cons (pe_kw0 KI.ok hr1 (by rfl) KI.g KI.kp kI pass0 (pk_cons (pv 4) pk_nil)) (pa_cons (pe_call KI.ok hr1 (by rfl) KI.g KI.kp KI.b .nil pass0 (pa_cons (pv 9) pa_nil)) pa_nil))) pa_nil)) pe_str (nomark _)) (pss_one (ps_ret pe_bl)) pss_nil)
      (pss_cons (ps_set (i := 10) scLaw.nd rfl (.inl rfl) (pe_lst (pa_cons (pe_caught (k := 3) FC gC (by rfl) Z.gR TBl rfl (List.mem_cons_of_mem _ (List.mem_cons_of_mem _ List.mem_cons_self)) (TTs.l A3) hr5 (sc := defScope sLaw) rfl (lamS_by (by decide +kernel)) rfl (fun _ _ _ _ _ => rfl)
            (fun A' outer' s' H' E' f' c' hrr => pe_call KS.ok hrr (by rfl) KS.g KS.kp KS.b .nil (passes_call (takes_of rfl rfl rfl rfl) fun _ _ _ _ h => h) (pa_cons (pv 9) pa_nil)))
          (pa_cons (pe_caught (k := 3) FC gC (by rfl) Z.gR TBl rfl (List.mem_cons_of_mem _ (List.mem_cons_of_mem _ List.mem_cons_self)) (TTs.l A3) hr5 (sc := defScope sLaw) rfl (lamS_by (by decide +kernel)) rfl (fun _ _ _ _ _ => rfl)
            (fun A' outer' s' H' E' f' c' hrr => pe_call KJ.ok hrr (by rfl) KJ.g KJ.kp KJ.b .nil (passes_call (takes_of rfl rfl rfl rfl) fun _ _ _ _ h => h) (pa_cons (pv 4) (pa_cons (pv 9) pa_nil))))
          (pa_cons (pe_caught (k := 3) FC gC (by rfl) Z.gR TBl rfl (List.mem_cons_of_mem _ (List.mem_cons_of_mem _ List.mem_cons_self)) (TTs.l A3) hr5 (sc := defScope sLaw) rfl (lamS_by (by decide +kernel)) rfl (fun _ _ _ _ _ => rfl)
            (fun A' outer' s' H' E' f' c' hrr => pe_call KJ.ok hrr (by rfl) KJ.g KJ.kp KJ.b .nil (passes_call (takes_of rfl rfl rfl rfl) fun _ _ _ _ h => h) (pa_cons (pv 9) (pa_cons (pv 4) pa_nil)))) pa_nil)))))
      (pss_cons (ps_set (i := 10) scLaw.nd rfl (.inl rfl) (pe_op op_cat (pv 10) (pe_lst (pa_cons (pe_caught (k := 3) FC gC (by rfl) Z.gR TBl rfl (List.mem_cons_of_mem _ (List.mem_cons_of_mem _ List.mem_cons_self)) (TTs.l A3) hr5 (sc := defScope sLaw) rfl (lamS_by (by decide +kernel)) rfl (fun _ _ _ _ _ => rfl)
            (fun A' outer' s' H' E' f' c' hrr => pe_call KM.ok hrr (by rfl) KM.g KM.kp KM.b .nil (passes_call (takes_of rfl rfl rfl rfl) fun _ _ _ _ h => h) (pa_cons (pv 9) (pa_cons (pv 5) pa_nil))))
          (pa_cons (pe_caught (k := 3) FC gC (by rfl) Z.gR TBl rfl (List.mem_cons_of_mem _ (List.mem_cons_of_mem _ List.mem_cons_self)) (TTs.l A3) hr5 (sc := defScope sLaw) rfl (lamS_by (by decide +kernel)) rfl (fun _ _ _ _ _ => rfl)
            (fun A' outer' s' H' E' f' c' hrr => pe_call KM.ok hrr (by rfl) KM.g KM.kp KM.b .nil (passes_call (takes_of rfl rfl rfl rfl) fun _ _ _ _ h => h) (pa_cons (pv 5) (pa_cons (pv 9) pa_nil)))) pa_nil)))))
      (pss_cons (ps_if (pt_cmpR (op_neD hr.units) (pe_lc (own := [("_law_error", 11)]) (g := gName 11) (by rfl) scLaw.nd (pi_list (pv 10)) (blkOk_by (own := [("_law_error", 11)]) (N := nsLaw) (sc := defScope sLaw) (by decide +kernel))
          (fun _ _ _ _ _ => pg_name (i := 11) scLaw.nd rfl (Or.inl rfl)) (fun _ _ _ _ _ => pts_one (pt_not (pt_val (pe_callB (call_isXK (K := K) rfl) (by rfl) T.isi boot_isinstance (pa_cons (pv 11) (pa_cons (pe_glob (v := .ref CB) (by rfl) Z.eC.g rfl) pa_nil)))))) (fun _ _ _ _ _ => pe_int)) (pe_lst pa_nil) (nomark _)) (pss_one (ps_ret pe_bl)) pss_nil)
      (pss_one (ps_if (pt_not (pt_val (pe_call GB hr (by rfl) gB FB.kp bB .nil pass0 (pa_cons (pv 1) (pa_cons (pv 4) pa_nil))))) (pss_one (ps_ret pe_bl)) pss_nil)))))), ?_⟩
  intro D sa a wl lw lc t c d pc pd v3 v6 v8 v9 v10 G S ht hT hw ow hc hd hpc hpd k
  have two : (2 : Nat) ≤ sizeLine := by decide
  refine ⟨_, rfl, _, rfl, a, lw, lc, t, pc, c, rfl, S, Nat.lt_of_lt_of_le ht (by decide), hpc, hc, fun x G1 hx S1 K1 => ?_⟩
  have hpc1 := S.tupK K1 hpc
  have hpd1 := S.tupK K1 hpd
  have T1 := Tabs.kp hT S K1
  have hw1 := K1 _ _ hw ow
  -- which are chests
  refine ⟨_, rfl, rfl, _, rfl, .inr ⟨pc, _, rfl, hpc1, sub_fok hc, ?_⟩⟩
  rw [chest_sub hc]
  have odd1 : ∀ {Q : VK}, Q (.bl false) G1 → spIsChest K [x] G1 Q E0 := fun {Q} q => by
    rcases hx.bad (K := K) with ⟨ty, e1, e2⟩ | ⟨b, ys, rfl, e1, e2, e3⟩
    · exact ⟨x, rfl, .inl ⟨ty, e1, e2, q⟩⟩
    · exact ⟨_, rfl, .inr ⟨b, ys, rfl, e1, e2, by rw [e3]; exact q⟩⟩
  refine ⟨_, rfl, tNil_in ?_⟩
  refine odd1 ?_
  refine ⟨two, fun L1 n1 => ?_⟩
  have s1 := same_upd (o := .lst [V.bl true, .bl false]) n1
  have hL1 := upd_same (H := G1) (a := L1) (o := .lst [V.bl true, .bl false])
  refine ⟨_, _, rfl, .lst (SqL.of hL1) (.cons (.bl true) (.cons (.bl false) .nil)), rfl, rfl, by decide, by decide, ?_⟩
  have hx2 := hx.same s1
  have S2 := S1.same s1
  have T2 := T1.ext s1
  have hw2 := s1 _ _ hw1
  have hpc2 := s1 _ _ hpc1
  have hpd2 := s1 _ _ hpd1
  generalize L2.upd G1 L1 (.lst [V.bl true, .bl false]) = G2 at hx2 S2 T2 hw2 hpc2 hpd2
  refine ⟨rfl, _, rfl, ?_⟩
  have ez : (!decide (V.str (PyData.list [.bool true, .bool false]).shown = V.str "[True, False]")) = false := by decide +kernel
  rw [ez]
  refine iteF ?_
  -- the five errors
  have I2 : LwI a lw lc (t + 1) wl pc pd c d x G2 := ⟨hx2, S2, hw2, hpc2, hpd2⟩
  refine ⟨T2, fun H3 e3 T3 => ?_⟩
  have I3 := I2.ext e3
  refine ⟨_, rfl, x, rfl, .inl ⟨I3.o.bad, ⟨true, Z.xC, fun _ ea na => ?_, fun z => by cases z⟩⟩⟩
  have s3 := same_upd (o := Caught (.ref CB) none ea) na
  have ha := upd_same (H := H3) (a := ea) (o := Caught (.ref CB) none ea)
  have I4 := I3.same s3
  have T4 := T3.ext s3
  generalize L2.upd H3 ea (Caught (.ref CB) none ea) = H4 at s3 ha I4 T4
  refine ⟨T4, fun H5 e5 T5 => ?_⟩
  have I5 := I4.ext e5
  refine ⟨_, rfl, _, rfl, _, _, rfl, .inr ⟨c, ⟨pc, rfl, I5.c, hc⟩, .inl ⟨I5.o.bad, ⟨true, Z.xC, fun _ eb nb => ?_, fun z => by cases z⟩⟩⟩⟩
  have s5 := same_upd (o := Caught (.ref CB) none eb) nb
  have hb := upd_same (H := H5) (a := eb) (o := Caught (.ref CB) none eb)
  have I6 := I5.same s5
  have T6 := T5.ext s5
  have ha6 := s5 _ _ (e5 _ _ ha fun _ z => by cases z)
  generalize L2.upd H5 eb (Caught (.ref CB) none eb) = H6 at s5 hb I6 T6 ha6
  refine ⟨T6, fun H7 e7 T7 => ?_⟩
  have I7 := I6.ext e7
  refine ⟨_, rfl, _, rfl, _, _, rfl, .inl ⟨I7.o.bad, ⟨true, Z.xC, fun _ ec nc => ?_, fun z => by cases z⟩⟩⟩
  have s7 := same_upd (o := Caught (.ref CB) none ec) nc
  have hcc := upd_same (H := H7) (a := ec) (o := Caught (.ref CB) none ec)
  have I8 := I7.same s7
  have T8 := T7.ext s7
  have ha8 := s7 _ _ (e7 _ _ ha6 fun _ z => by cases z)
  have hb8 := s7 _ _ (e7 _ _ hb fun _ z => by cases z)
  generalize L2.upd H7 ec (Caught (.ref CB) none ec) = H8 at s7 hcc I8 T8 ha8 hb8
  refine ⟨(by show 3 ≤ sizeLine; decide), fun LE nLE => ?_⟩
  have s8 := same_upd (o := .lst [.ref ea, .ref eb, .ref ec]) nLE
  have hLE := upd_same (H := H8) (a := LE) (o := .lst [.ref ea, .ref eb, .ref ec])
  have I9 := I8.same s8
  have T9 := T8.ext s8
  have ha9 := s8 _ _ ha8
  have hb9 := s8 _ _ hb8
  have hc9 := s8 _ _ hcc
  generalize L2.upd H8 LE (.lst [.ref ea, .ref eb, .ref ec]) = H9 at s8 hLE I9 T9 ha9 hb9 hc9
  -- the other two
  refine ⟨_, rfl, T9, fun H10 e10 T10 => ?_⟩
  have I10 := I9.ext e10
  refine ⟨_, rfl, _, rfl, _, _, rfl, .inl ⟨I10.o.bad, ⟨true, Z.xC, fun _ ed nd => ?_, fun z => by cases z⟩⟩⟩
  have s10 := same_upd (o := Caught (.ref CB) none ed) nd
  have hdd := upd_same (H := H10) (a := ed) (o := Caught (.ref CB) none ed)
  have I11 := I10.same s10
  have T11 := T10.ext s10
  have ex11 : ∀ {b : Addr} {o : HO}, H9 b = some o → (∀ ps, o ≠ .tbl ps) → (L2.upd H10 ed (Caught (.ref CB) none ed)) b = some o := fun h n => s10 _ _ (e10 _ _ h n)
  generalize L2.upd H10 ed (Caught (.ref CB) none ed) = H11 at s10 hdd I11 T11 ex11
  refine ⟨T11, fun H12 e12 T12 => ?_⟩
  have I12 := I11.ext e12
  refine ⟨_, rfl, _, rfl, _, _, rfl, .inr ⟨d, ⟨pd, rfl, I12.d, hd⟩, .inl ⟨I12.o.bad, ⟨true, Z.xC, fun _ ee ne => ?_, fun z => by cases z⟩⟩⟩⟩
  have s12 := same_upd (o := Caught (.ref CB) none ee) ne
  have hee := upd_same (H := H12) (a := ee) (o := Caught (.ref CB) none ee)
  have I13 := I12.same s12
  have T13 := T12.ext s12
  have ex13 : ∀ {b : Addr} {o : HO}, H11 b = some o → (∀ ps, o ≠ .tbl ps) → (L2.upd H12 ee (Caught (.ref CB) none ee)) b = some o := fun h n => s12 _ _ (e12 _ _ h n)
  generalize L2.upd H12 ee (Caught (.ref CB) none ee) = H13 at s12 hee I13 T13 ex13
  refine ⟨two, fun LF nLF => ?_⟩
  have s13 := same_upd (o := .lst [.ref ed, .ref ee]) nLF
  refine ⟨LE, LF, _, _, rfl, rfl, s13 _ _ (ex13 (ex11 hLE fun _ z => by cases z) fun _ z => by cases z), upd_same, (by show 5 ≤ sizeLine; decide), fun L nL => ?_⟩
  have s14 := same_upd (o := .lst ([V.ref ea, .ref eb, .ref ec] ++ [.ref ed, .ref ee])) nL
  have hL := upd_same (H := L2.upd H13 LF (.lst [.ref ed, .ref ee])) (a := L) (o := .lst ([V.ref ea, .ref eb, .ref ec] ++ [.ref ed, .ref ee]))
  have s1314 := s13.trans s14
  have I14 := I13.same s1314
  have T14 := T13.ext s1314
  have old : ∀ {b : Addr} {o : HO}, H9 b = some o → (∀ ps, o ≠ .tbl ps) → (L2.upd (L2.upd H13 LF (.lst [.ref ed, .ref ee])) L (.lst ([V.ref ea, .ref eb, .ref ec] ++ [.ref ed, .ref ee]))) b = some o := fun h n => s1314 _ _ (ex13 (ex11 h n) n)
  have ca := old ha9 fun _ z => by cases z
  have cb := old hb9 fun _ z => by cases z
  have cc := old hc9 fun _ z => by cases z
  have cd := s1314 _ _ (ex13 hdd fun _ z => by cases z)
  have ce := s1314 _ _ hee
  generalize L2.upd (L2.upd H13 LF (.lst [.ref ed, .ref ee])) L (.lst ([V.ref ea, .ref eb, .ref ec] ++ [.ref ed, .ref ee])) = H14 at hL I14 T14 ca cb cc cd ce
  -- all are BadChest
  refine ⟨_, rfl, L, rfl, ⟨_, SqL.of hL⟩, fun D20 nD20 => ?_⟩
  refine lc_rel (p := fun _ => false) (c := fun x => x) (rel := fun _ y b => y = b) walk_list nD20 (by show 5 < sizeLine; decide) (fun H' s' => Same.seq s' (SqL.of hL)) (fun _ q => q) (fun _ q _ => q) (fun v => rfl) (fun y H' hy sH R kR => ?_) (fun x H' hx e _ R kR => by cases e) fun H20 ys20 s20 hD20 f20 => ?_
  · have here : ∀ {b : Addr}, H14 b = some (Caught (.ref CB) none b) → y = .ref b → ∃ b', y = .ref b' ∧ H14 b' = some (Caught (.ref CB) none b') := fun {b} h e => ⟨b, e, h⟩
    obtain ⟨b, rfl, hbb⟩ : ∃ b', y = .ref b' ∧ H14 b' = some (Caught (.ref CB) none b') := by
      simp only [List.cons_append, List.nil_append, List.mem_cons, List.not_mem_nil, or_false] at hy
      rcases hy with h | h | h | h | h
      · exact here ca h
      · exact here cb h
      · exact here cc h
      · exact here cd h
      · exact here ce h
    exact ⟨_, rfl, b, CB, none, .ref CB, .ref CB, true, rfl, sH _ _ hbb, rfl, Z.cC, .own CB, kit_self _, true, rfl, kR H' (Same.refl _)⟩
  have ey20 : ys20 = [] := by
    have := f20.len
    rw [List.length_map, List.filter_eq_nil_iff.mpr (fun _ _ => by simp)] at this
    exact List.length_eq_zero_iff.mp this
  subst ey20
  refine tail_ne hD20 rfl fun H21 s21 => ⟨_, rfl, ?_⟩
  refine iteF ?_
  have I21 := I14.same (s20.trans s21)
  have T21 := T14.ext (s20.trans s21)
  -- barred
  refine ⟨_, rfl, _, rfl, a, lw, lc, _, pc, c, rfl, I21.s, by omega, I21.c, hc, T21, fun H22 S22 T22 K22 => ⟨_, rfl, ?_⟩⟩
  refine iteF ?_
  exact k _ _ H22 (S22.more (by omega)) T22 (K22 _ _ I21.w ow fun _ z => by cases z)
end
end Own
set_option Elab.async false
set_option linter.all false
set_option maxRecDepth 100000
set_option maxHeartbeats 4000000
namespace Own
open PySem PySem.Spec PyProof.Rows L2 LamX
/-! ### the law -/
/-- the law's promise, its code objects' tables being empty -/
def spLaw (K : PySem.W.Frag) (tb tr tl : Addr) : Sp := fun vs H Q _ => ∃ (a : Addr) (ns : List Int), vs = [.ref a] ∧ SqL K H a (ns.map V.int) ∧ ns.length ≤ 63 ∧ H tb = some (.tbl #[]) ∧ H tr = some (.tbl #[]) ∧ H tl = some (.tbl #[]) ∧ ∀ H', Q (.bl true) H'
section
variable {P : Program} {w : World} {K : PySem.W.Frag} {mg : Str → Option Value} {base : Heap} {CB CD CW CR CT CN fT fN pE tb tr tl : Addr} {dT dN : FuncData}
theorem ok_law {fd2 : FuncData} (F : FnP K "law" sLaw (He.ga K "law") fd2) (hf : He.ga K "law" = He.fAd K ("law", none)) (hfb : He.ga K "_law_barred_right" = He.fAd K ("_law_barred_right", none)) (hfr : He.ga K "_law_lots_right" = He.fAd K ("_law_lots_right", none))
    (Z : All P w K mg CB CD CW CR CT CN fT fN pE dT dN) (A3 : Apart tb tr tl) (TBb : TabB base mg (He.codeOf K ("_law_barred_right", none)) tb) (TBr : TabB base mg (He.codeOf K ("_law_lots_right", none)) tr) (TBl : TabB base mg (He.codeOf K ("law", none)) tl) :
    FnOkG P w K mg base CX0 11 (He.ga K "law") fd2 ["_law_script"] (spLaw K tb tr tl) := by
  have T := Z.t
  obtain ⟨dG, FG, gG⟩ := All.mem1 (x := "_law_begun") (st := sBegun) (by simp [FNS]) Z
  obtain ⟨dL, FL, gL⟩ := All.mem1 (x := "_law_lots_right") (st := sLots) (by simp [FNS]) Z
  have GG : FnOk P w K mg base CX0 1 (He.ga K "_law_begun") dG ["_law_script"] (spBegun K) := ok_begun FG T
  have bG : Binds K dG ["_law_script"] [] := FG.bindsN fun _ _ _ _ _ _ us hl => match us, hl with | [_], _ => rfl
  have GL : FnOk P w K mg base CX0 5 (He.ga K "_law_lots_right") dL ["_law_state"] (spLots tb tr tl) := ok_lots FL hfr Z A3 TBr
  have bL : Binds K dL ["_law_state"] [] := FL.bindsN fun _ _ _ _ _ _ us hl => match us, hl with | [_], _ => rfl
  refine FunD.okG F scLaw rfl (fun vs H Q E h => ?_) (fun cdv A outer s H vs Q E hlk hcd hg hr h => ?_)
  · obtain ⟨a, ns, rfl, _⟩ := h
    rfl
  · have ec := code_is hf hlk hcd
    subst ec
    obtain ⟨sa, ns, rfl, hS, hl, hTb, hTr, hTl, k⟩ := h
    have hr1 : Room 1 (deepLaw K A s) := hr.mono (by decide)
    have hr5 : Room 5 (deepLaw K A s) := hr.mono (by decide)
    obtain ⟨u2, h2, r2⟩ := law2 Z A3 TBb TBl hfb A outer s H E hr hg
    obtain ⟨u1, h1, r1⟩ := law1 Z A outer s H E hr h2
    refine ⟨_, PSsT.nox (PSsT.of (pss_cons (ps_set (i := 1) scLaw.nd rfl (.inl rfl) (pe_call GG hr1 (by rfl) gG FG.kp bG .nil pass0 (pa_cons (pv 0) pa_nil)))
      (pss_cons (ps_set (i := 2) scLaw.nd rfl (.inl rfl) (pe_lst (pa_cons pe_str (pa_cons pe_str (pa_cons pe_str pa_nil)))))
      (pss_cons (ps_for PassesOwn.never rfl (pi_range1 (by rfl) T.range (pa_cons (pe_op op_add pe_int (pe_callB (call_min2 rfl) (by rfl) T.min (by decide +kernel) (pa_cons (pe_callB call_len_seq (by rfl) T.len PySem.boot_len (pa_cons (pv 0) pa_nil)) (pa_cons pe_int pa_nil)))) pa_nil)) (pg_name (i := 3) scLaw.nd rfl (Or.inl rfl)) h1)
      (pss_one (ps_ret (pe_call GL hr5 (by rfl) gL FL.kp bL .nil pass0 (pa_cons (pv 1) pa_nil)))))))), ?_⟩
    refine ⟨_, rfl, sa, ns, rfl, hS, hl, fun a lw lc H1 na nw nc S1 e1 => ⟨(by show 3 ≤ sizeLine; decide), fun wl nwl => ?_⟩⟩
    have s2 := same_upd (o := .lst (WORDS.map V.str)) nwl
    have e2 := e1.trans s2
    have hw2 := upd_same (H := H1) (a := wl) (o := .lst (WORDS.map V.str))
    have S2 := S1.same s2
    have ow := (S1.new nwl).1
    have T2 : Tabs (TTs tb tr tl) (L2.upd H1 wl (.lst (WORDS.map V.str))) := fun p hp => by
      rcases TTs.cases hp with rfl | rfl | rfl
      · exact TabS.nil (e2 _ _ hTb)
      · exact TabS.nil (e2 _ _ hTr)
      · exact TabS.nil (e2 _ _ hTl)
    have hS2 := e2.seq hS
    refine ⟨_, rfl, sa, _, rfl, .inl hS2, _, _, rfl, _, _, rfl, rfl, _, rfl, ?_, ?_, ?_⟩
    · omega
    · rw [List.length_map]
      omega
    generalize hn : ((2 : Int) + (if (6 : Int) < ((ns.map V.int).length : Nat) then 6 else (((ns.map V.int).length : Nat) : Int))).toNat = n
    have hn8 : n ≤ 8 := by
      rw [← hn]
      split <;> omega
    refine for_range (lo := 0) (n := n) (fun i σ G => ∃ (v3 v4 v5 v6 v8 v9 v10 : Option V), σ = [some (.ref sa), some (.ref a), some (.ref wl), v3, v4, v5, v6, none, v8, v9, v10, none] ∧ StA G a lw lc (500 * i) ∧ Tabs (TTs tb tr tl) G ∧ G wl = some (.lst (WORDS.map V.str)))
      ⟨none, none, none, none, none, none, none, rfl, S2, T2, hw2⟩ ?_ ?_
    · rintro i σ G hi ⟨v3, v4, v5, v6, v8, v9, v10, rfl, SG, TG, gw⟩
      refine r1 _ sa a wl lw lc _ _ v4 v5 v6 v8 v9 v10 G SG (by omega) TG gw ow fun c d pc pd v6 v8 G' hc hd hpc hpd S' T' w' => ?_
      refine r2 _ sa a wl lw lc _ c d pc pd _ v6 v8 v9 v10 G' S' (by omega) T' w' ow hc hd hpc hpd fun v9 v10 G2 S2 T2 w2 => ?_
      exact ⟨_, _, _, _, _, _, _, rfl, S2.more (by omega), T2, w2⟩
    · rintro σ G ⟨v3, v4, v5, v6, v8, v9, v10, rfl, SG, TG, gw⟩
      exact ⟨_, rfl, a, lw, lc, _, rfl, SG, by omega, TG, k⟩
end
end Own
set_option Elab.async false
set_option linter.all false
set_option maxRecDepth 100000
set_option maxHeartbeats 400000
namespace Own
open PySem PySem.Spec PyProof.Rows L2
/-! ### a hook that looks at chosen objects only -/
abbrev Sel : Type := (Addr → Option Obj) → List Addr
/-- the objects that the names stand for -/
def atNames (g : Addr → Option Obj) (xs : List Str) : List Addr := xs.map (He.ga (He.frG g [mainGlobals]))
def growN (g : Addr → Option Obj) : Nat → List Addr → List Addr
  | 0, l => l
  | n + 1, l => growN g n (He.growD g l)
/-- the defs with their code, the classes and tables so many steps deep -/
def selZ (defs : List Str) (deep : List (Nat × List Str)) : Sel := fun g => mainGlobals :: (growN g 1 (atNames g defs) ++ deep.flatMap fun q => growN g q.1 (atNames g q.2))
def KZ (sel : Sel) (g : Addr → Option Obj) : PySem.W.Frag := He.frT g (sel g)
def obsZ (sel : Sel) (fa : List He.Fa) (fn : List He.DefD) (ts : List He.Tab) (tf : List He.Defn) (ex : PySem.W.Frag → Bool) (g : Addr → Option Obj) : He.AlX :=
  (He.obsT fa fn ts (KZ sel g), ex (KZ sel g) && He.tabsB g tf (KZ sel g))
theorem saysZ_of {sel : Sel} {fa : List He.Fa} {fn : List He.DefD} {ts : List He.Tab} {tf : List He.Defn} {ex : PySem.W.Frag → Bool} {w : World} {h : Heap} (e : obsZ sel fa fn ts tf ex h.get? = He.valX fn ts w) : He.SaysX fa fn ts tf ex w h (KZ sel h.get?) := by
  have eT : He.obsT fa fn ts (KZ sel h.get?) = He.valT fn ts w := congrArg (fun z : He.AlX => z.1) e
  have eB : (ex (KZ sel h.get?) && He.tabsB h.get? tf (KZ sel h.get?)) = true := congrArg (fun z : He.AlX => z.2) e
  obtain ⟨b1, b2⟩ := He.ba eB
  have one : ∀ p ∈ tf, PySem.W.codeHdIn (KZ sel h.get?) (He.cT (KZ sel h.get?) p).1 (He.cT (KZ sel h.get?) p).2 = true ∧ ∃ o, h.get? (He.cT (KZ sel h.get?) p).2 = some o ∧ He.emptyTab o = true := fun p hp => by
    obtain ⟨c1, c2⟩ := He.ba (List.all_eq_true.mp b2 p hp)
    refine ⟨c1, ?_⟩
    cases q : h.get? (He.cT (KZ sel h.get?) p).2 with
    | none => rw [q] at c2; cases c2
    | some o => rw [q] at c2; exact ⟨o, rfl, c2⟩
  refine ⟨eT, b1, fun p hp => (one p hp).1, fun p hp => ?_, fun p hp => ?_⟩
  · obtain ⟨_, o, q, z⟩ := one p hp
    exact He.frT_none q z
  · obtain ⟨_, o, q, z⟩ := one p hp
    rw [q, He.emptyTab_eq z]
def hookZ (sel : Sel) (fa : List He.Fa) (fn : List He.DefD) (ts : List He.Tab) (tf : List He.Defn) (ex : PySem.W.Frag → Bool) : PySem.W.Hook where
  α := He.AlX
  obs := fun s => obsZ sel fa fn ts tf ex s.heap.get?
  val := fun w => He.valX fn ts w
  says := fun w h => ∃ K : PySem.W.Frag, K.In h ∧ He.SaysX fa fn ts tf ex w h K
  of := fun _ _ e => ⟨_, He.frT_in, saysZ_of e⟩
  keeps := fun _ _ _ z k => by
    obtain ⟨K, inK, c⟩ := z
    exact ⟨K, PySem.W.Frag.In.keeps inK k, ⟨c.t, c.more, c.hd, c.out, fun p hp => k _ _ (c.empty p hp)⟩⟩
theorem obsZ_eq {sel : Sel} {fa : List He.Fa} {fn : List He.DefD} {ts : List He.Tab} {tf : List He.Defn} {ex : PySem.W.Frag → Bool} {g : Addr → Option Obj} {s : Shared} (h : ∀ a, g a = s.heap.get? a) : obsZ sel fa fn ts tf ex g = (hookZ sel fa fn ts tf ex).obs s := by
  have e : g = s.heap.get? := funext h
  subst e
  rfl
end Own
set_option Elab.async false
set_option linter.all false
set_option maxRecDepth 100000
set_option maxHeartbeats 0
namespace Own
open PySem PySem.Spec PyProof.Rows L2 LamX
/-! ### the head: what the top has left -/
def dF (q : Str × Stmt) : He.DefD := ⟨(q.1, none), q.1, q.1, defArgs q.2, defBody q.2, defScope q.2, [], []⟩
def pTow (K : PySem.W.Frag) : Addr := He.dflAt ("Tower", some "__init__") 0 K
def dTow : He.DefD := ⟨("Tower", some "__init__"), "__init__", "Tower.__init__", defArgs sTowI, defBody sTowI, defScope sTowI, [.adr pTow, .non], []⟩
def dNum : He.DefD := ⟨("Number", some "__init__"), "__init__", "Number.__init__", defArgs sNumI, defBody sNumI, defScope sNumI, [.non], []⟩
def dFra : He.DefD := ⟨("fraction", none), "fraction", "fraction", defArgs sFrac, defBody sFrac, defScope sFrac, [.int 1], []⟩
def fn : List He.DefD := FNS.map dF ++ [dTow, dNum, dFra]
def fa : List He.Fa := [.free "isinstance", .free "int", .free "bool", .free "str", .free "tuple", .free "abs", .free "len", .free "range", .free "list", .free "min", .free "max", .free "enumerate", .free "sorted", .free "dict", .free "repr",
  .glo "BadChest", .glo "BadDrawing", .glo "BadWord", .glo "RulerError", .glo "Tower", .glo "Number", .glo "fraction", .glo "TOOLS", .glo "WORDS", .glo "GREAT_chests", .glo "MIDDLE", .glo "FORMS", .glo "OTHERS",
  .int "MOST" 6, .str "LETTERS" "abcdefghijklmnopqrstuvwxyz", .str "DIGITS" "0123456789",
  .exc "BadChest", .exc "BadDrawing", .exc "BadWord", .exm "BadChest" "RulerError" true, .exm "BadDrawing" "RulerError" true, .exm "BadWord" "RulerError" true,
  .cls "Tower", .cls "Number", .mkr "Tower", .mkr "Number", .noat "Tower" "rows", .noat "Tower" "squares", .noat "Number" "tower", .noat "Number" "vector"] ++ FNS.map fun q => He.Fa.glo q.1
def excCB (K : PySem.W.Frag) (D : Addr) : Bool := He.eqO (PySem.W.findIn K (.ref D) "__getattribute__") (some (some (.builtin "BaseException.__getattribute__"))) && (He.eqO (PySem.W.findIn K (.ref D) "__getattr__") (some none) && (decide (PySem.W.subIn K (.ref D) (.type "BaseException") = some true) &&
  (PySem.W.hasDictIn K D && (He.eqO (PySem.W.findIn K (.ref D) "__class__") (some (some (.builtin "object.__class__"))) && (He.eqO (PySem.W.specialIn K (.builtin "object.__class__") "__get__") (some (some (.builtin "getset_descriptor.__get__"))) &&
  (decide (PySem.W.takesIn K (.builtin "object.__class__") = some true) && decide (PySem.W.mroIn K D (.type "object") = some true)))))))
theorem excC_of {K : PySem.W.Frag} {D : Addr} (h : excCB K D = true) : ExcC K D := by
  obtain ⟨h1, h⟩ := He.ba h
  obtain ⟨h2, h⟩ := He.ba h
  obtain ⟨h3, h⟩ := He.ba h
  obtain ⟨h4, h⟩ := He.ba h
  obtain ⟨h5, h⟩ := He.ba h
  obtain ⟨h6, h⟩ := He.ba h
  obtain ⟨h7, h8⟩ := He.ba h
  exact ⟨He.eqO_ok h1, He.eqO_ok h2, of_decide_eq_true h3, h4, He.eqO_ok h5, He.eqO_ok h6, of_decide_eq_true h7, of_decide_eq_true h8⟩
/-- a tuple of these stands at a -/
def tupAt (K : PySem.W.Frag) (a : Addr) (vs : List V) : Bool := match K.lookup a with
  | some o => decide (o.cls = .type "tuple") && (match o.data with
    | .seq its _ => decide (its.size ≤ sizeLine) && He.relAll vs its.toList
    | _ => false)
  | none => false
theorem tupAt_ok {K : PySem.W.Frag} {a : Addr} {vs : List V} (h : tupAt K a vs = true) : (∃ o, K.lookup a = some o ∧ o.cls = .type "tuple") ∧ ∀ H, SqT K H a vs := by
  unfold tupAt at h
  cases q : K.lookup a with
  | none =>
    rw [q] at h
    cases h
  | some o =>
    rw [q] at h
    obtain ⟨h1, h2⟩ := He.ba h
    obtain ⟨oc, od, dt, osl⟩ := o
    cases dt with
    | seq its n =>
      obtain ⟨h3, h4⟩ := He.ba h2
      exact ⟨⟨_, rfl, of_decide_eq_true h1⟩, fun H => .inr ⟨_, its, n, q, of_decide_eq_true h1, rfl, of_decide_eq_true h3, He.relAll_ok h4⟩⟩
    | _ => cases h2
def plainB (K : PySem.W.Frag) (a : Addr) : Bool := match K.lookup a with
  | some o => decide (o.cls = .type "tuple") && o.dict.isNone
  | none => false
theorem plainB_ok {K : PySem.W.Frag} {a : Addr} (h : plainB K a = true) : ∃ o, K.lookup a = some o ∧ o.cls = .type "tuple" ∧ o.dict = none := by
  unfold plainB at h
  cases q : K.lookup a with
  | none =>
    rw [q] at h
    cases h
  | some o =>
    rw [q] at h
    obtain ⟨h1, h2⟩ := He.ba h
    exact ⟨o, rfl, of_decide_eq_true h1, by
      cases e : o.dict with
      | none => rfl
      | some d =>
        rw [e] at h2
        cases h2⟩
def formB (K : PySem.W.Frag) : Bool := FORM.all fun t => match PySem.W.nsIn K (He.ga K "FORMS") t.1 with
  | some (some (.ref q)) => tupAt K q [.int t.2.1, .int t.2.2]
  | _ => false
theorem formB_ok {K : PySem.W.Frag} (h : formB K = true) : ∀ t ∈ FORM, ∃ q, PySem.W.nsIn K (He.ga K "FORMS") t.1 = some (some (.ref q)) ∧ ∀ H, SqT K H q [.int t.2.1, .int t.2.2] := fun t ht => by
  have h1 := List.all_eq_true.mp h t ht
  split at h1
  · rename_i q e
    exact ⟨q, e, (tupAt_ok h1).2⟩
  · cases h1
def othB (K : PySem.W.Frag) : Bool := FORM.all fun t => match OTHL.lookup t.1 with
  | some z => (match PySem.W.nsIn K (He.ga K "OTHERS") t.1 with
    | some (some (.str y _)) => decide (y = z)
    | _ => false)
  | none => He.eqO (PySem.W.nsIn K (He.ga K "OTHERS") t.1) (some none)
theorem othB_ok {K : PySem.W.Frag} (h : othB K = true) : ∀ t ∈ FORM, (∃ z u, OTHL.lookup t.1 = some z ∧ PySem.W.nsIn K (He.ga K "OTHERS") t.1 = some (some (.str z u))) ∨ (OTHL.lookup t.1 = none ∧ PySem.W.nsIn K (He.ga K "OTHERS") t.1 = some none) := fun t ht => by
  have h1 := List.all_eq_true.mp h t ht
  cases e : OTHL.lookup t.1 with
  | none =>
    rw [e] at h1
    exact .inr ⟨rfl, He.eqO_ok h1⟩
  | some z =>
    rw [e] at h1
    dsimp only at h1
    split at h1
    · rename_i y u e2
      have := of_decide_eq_true h1
      subst this
      exact .inl ⟨_, u, rfl, e2⟩
    · cases h1
def insB (K : PySem.W.Frag) (C : Addr) : Bool := He.eqO (PySem.W.findIn K (.ref C) "__class__") (some (some (.builtin "object.__class__"))) && (He.eqO (PySem.W.specialIn K (.builtin "object.__class__") "__get__") (some (some (.builtin "getset_descriptor.__get__"))) &&
  (decide (PySem.W.takesIn K (.builtin "object.__class__") = some true) && decide (PySem.W.mroIn K C (.type "object") = some true)))
def strsD (l : List Str) : List He.Dv := l.map He.Dv.str
theorem strsD_v (K : PySem.W.Frag) (l : List Str) : (strsD l).map (He.Dv.v K) = l.map V.str := by
  unfold strsD
  rw [List.map_map]
  rfl
abbrev qB : He.Defn := ("_law_barred_right", none)
abbrev qR : He.Defn := ("_law_lots_right", none)
abbrev qL : He.Defn := ("law", none)
def tf : List He.Defn := [qB, qR, qL]
def ts : List He.Tab := [((fun K => He.ga K "FORMS"), FORM.map (·.1)), ((fun K => He.ga K "OTHERS"), OTHL.map (·.1))]
def ex (K : PySem.W.Frag) : Bool := excCB K (He.ga K "BadChest") && (excCB K (He.ga K "BadDrawing") && (excCB K (He.ga K "BadWord") && (He.tupB K "TOOLS" (strsD TOOLS) && (He.tupB K "WORDS" (strsD WORDS) && (He.tupB K "GREAT_chests" (strsD GREAT) && (He.tupB K "MIDDLE" (strsD MIDDLE) &&
  (plainB K (He.ga K "WORDS") && (tupAt K (pTow K) [] && (formB K && (othB K && (insB K (He.ga K "Tower") &&
  (decide ((He.cT K qB).2 ≠ (He.cT K qR).2) && (decide ((He.cT K qB).2 ≠ (He.cT K qL).2) && decide ((He.cT K qR).2 ≠ (He.cT K qL).2))))))))))))))
abbrev LW : PySem.W.OpenLaw := PySem.Challenge.rw_rulerchest_k15_all_chests_by_three_sets
abbrev RW : PySem.W.OpenRow := PySem.W.OpenLaw.row PySem.Challenge.rw_rulerchest_k15_all_chests_by_three_sets
def sel : Sel := selZ ((FNS.map (·.1)) ++ ("fraction" : Str) :: []) [(4, ["Tower", "Number"]), (2, ["RulerError", "BadChest", "BadDrawing", "BadWord"]), (1, ["FORMS", "OTHERS", "TOOLS", "WORDS", "GREAT_chests", "MIDDLE"])]
abbrev hk : PySem.W.Hook := hookZ sel fa fn ts tf ex
def ob (s : PySem.W.SharedT) : He.AlX := obsZ sel fa fn ts tf ex (HandSHeadRun.getT s)
theorem ob_eq (s : PySem.W.SharedT) : ob s = hk.obs s.abs := obsZ_eq (HandSHeadRun.getT_eq s)
def loose : List Str := (["RulerError", "NotTower", "BadParts", "BadNumber", "BadDeed", "BadChest", "BadWord", "BadDrawing", "LETTERS", "DIGITS", "is_whole", "is_fraction", "is_name", "GREAT_vectors", "are_parts", "vec_lowest", "common", "vec_small", "vec_of", "vec_parts", "vec_whole", "vec_unit", "vec_wide", "vec_low", "vec_high", "vec_both", "vec_negated", "vec_halved", "vec_plus", "vec_less"] : List Str) ++ (["vec_same", "scale_of", "raw_times", "vec_times", "rows_below", "vec_rest", "vec_norm", "vec_sign", "vec_turned", "whole_root", "plain_root", "even_root", "vec_root", "written", "rows_joined", "used_rows", "picked", "MOST", "rows_of", "Tower", "need_tower", "spared", "same_value", "Number", "fraction", "sheet", "FORMS", "TOOLS", "OTHERS", "is_deed"] : List Str) ++ (["need_deed", "names_of", "tool_of", "is_drawing", "WORDS", "GREAT_chests", "MIDDLE", "is_chest", "need_chest", "need_word", "rank_of", "set_of", "joint", "no_more", "all_chests", "chests_with", "least_chests", "first_barred", "_law_begun", "_law_stirred", "_law_draw", "_law_pick", "_law_shuffled", "_law_name", "_law_caught", "_law_forms", "_law_has_way", "_law_deed", "_law_tools", "_law_rank"] : List Str) ++ (["_law_chest", "_law_odd_chest", "_law_lots_right", "_law_barred_right"] : List Str)
abbrev rowG : String := "special-get-raises"
theorem run1 (w : World) : HandSHeadRun.RunEqI RW (PySem.W.view RW.prog [0, 104]) hk ob 9000 loose (w.withFollow rowG true) := by
  unfold HandSHeadRun.RunEqI
  kernel_rfl
theorem run2 (w : World) : HandSHeadRun.RunEqI RW (PySem.W.view RW.prog [0, 104]) hk ob 9000 loose (w.withFollow rowG false) := by
  unfold HandSHeadRun.RunEqI
  kernel_rfl
theorem run (w : World) : HandSHeadRun.RunEqI RW (PySem.W.view RW.prog [0, 104]) hk ob 9000 loose w := by
  have h : HandSHeadRun.RunEqI RW (PySem.W.view RW.prog [0, 104]) hk ob 9000 loose (w.withFollow rowG (w.params.followText rowG)) := by
    cases w.params.followText rowG with
    | true => exact run1 w
    | false => exact run2 w
  rwa [World.withFollow_self] at h
theorem facts {w : World} {K : PySem.W.Frag} {h : Heap} {mg : Str → Option Value} {f : Addr} (X : K.In h) (G : h.Ns mainGlobals mg) (hfa : mg ("law" : Str) = some (.ref f)) (c : He.SaysX fa fn ts tf ex w h K) : LawAtG LW w K CX0 11 63 "_law_script" mg f h := by
  have d := c.t.d
  have fr : ∀ x : Str, He.Fa.free x ∈ fa → mg x = none := fun x hx => He.free_ok X G (d.facts hx)
  have gl0 : ∀ x : Str, He.Fa.glo x ∈ fa → mg x = some (.ref (He.ga K x)) := fun x hx => He.glo_ok X G (d.facts hx)
  have gl : ∀ x st, (x, st) ∈ FNS → mg x = some (.ref (He.ga K x)) := fun x st hx => gl0 x (List.mem_append_right _ (List.mem_map.mpr ⟨_, hx, rfl⟩))
  have df : ∀ x st, (x, st) ∈ FNS → ∃ fd, FnP K x st (He.ga K x) fd := fun x st hx => d.defs (d := dF (x, st)) (List.mem_append_left _ (List.mem_map.mpr ⟨_, hx, rfl⟩))
  obtain ⟨m1, m⟩ := He.ba c.more
  obtain ⟨m2, m⟩ := He.ba m
  obtain ⟨m3, m⟩ := He.ba m
  obtain ⟨m4, m⟩ := He.ba m
  obtain ⟨m5, m⟩ := He.ba m
  obtain ⟨m6, m⟩ := He.ba m
  obtain ⟨m7, m⟩ := He.ba m
  obtain ⟨m8, m⟩ := He.ba m
  obtain ⟨m9, m⟩ := He.ba m
  obtain ⟨m10, m⟩ := He.ba m
  obtain ⟨m11, m⟩ := He.ba m
  obtain ⟨m12, m⟩ := He.ba m
  obtain ⟨m13, m⟩ := He.ba m
  obtain ⟨m14, m15⟩ := He.ba m
  obtain ⟨i1, i⟩ := He.ba m12
  obtain ⟨i2, i⟩ := He.ba i
  obtain ⟨i3, i4⟩ := He.ba i
  obtain ⟨dL, FL⟩ := df "law" sLaw (by simp [FNS])
  have e := hfa.symm.trans (gl "law" sLaw (by simp [FNS]))
  cases e
  obtain ⟨x1, x2, x3, x4⟩ := He.exc_ok (d.facts (f := .exc "BadChest") (by simp [fa]))
  obtain ⟨y1, y2, y3, y4⟩ := He.exc_ok (d.facts (f := .exc "BadDrawing") (by simp [fa]))
  obtain ⟨z1, z2, z3, z4⟩ := He.exc_ok (d.facts (f := .exc "BadWord") (by simp [fa]))
  obtain ⟨dT, FT⟩ := d.defs (d := dTow) (by simp [fn])
  obtain ⟨dN, FN⟩ := d.defs (d := dNum) (by simp [fn])
  obtain ⟨dFr, FFr⟩ := d.defs (d := dFra) (by simp [fn])
  obtain ⟨es1, n1, kd1⟩ := c.t.tab 0
  obtain ⟨es2, n2, kd2⟩ := c.t.tab 1
  have Z : All LW.prog w K mg (He.ga K "BadChest") (He.ga K "BadDrawing") (He.ga K "BadWord") (He.ga K "RulerError") (He.ga K "Tower") (He.ga K "Number") (He.ma K (He.ga K "Tower") "__init__") (He.ma K (He.ga K "Number") "__init__") (pTow K) dT dN :=
    { t := ⟨fr _ (by simp [fa]), fr _ (by simp [fa]), fr _ (by simp [fa]), fr _ (by simp [fa]), fr _ (by simp [fa]), fr _ (by simp [fa]), fr _ (by simp [fa]), fr _ (by simp [fa]), fr _ (by simp [fa]), fr _ (by simp [fa]), fr _ (by simp [fa]), fr _ (by simp [fa]), fr _ (by simp [fa]), fr _ (by simp [fa]), fr _ (by simp [fa])⟩
      c := { letters := He.str_ok X G (d.facts (f := .str "LETTERS" "abcdefghijklmnopqrstuvwxyz") (by simp [fa])), digits := He.str_ok X G (d.facts (f := .str "DIGITS" "0123456789") (by simp [fa]))
             tools := ⟨_, gl0 "TOOLS" (by simp [fa]), fun H => strsD_v K TOOLS ▸ He.tupB_ok m4 H⟩, words := ⟨_, gl0 "WORDS" (by simp [fa]), fun H => strsD_v K WORDS ▸ He.tupB_ok m5 H⟩
             wordsT := fun p hp => by
               have e := hp.symm.trans (gl0 "WORDS" (by simp [fa]))
               cases e
               exact plainB_ok m8
             great := ⟨_, gl0 "GREAT_chests" (by simp [fa]), fun H => strsD_v K GREAT ▸ He.tupB_ok m6 H⟩, middle := ⟨_, gl0 "MIDDLE" (by simp [fa]), fun H => strsD_v K MIDDLE ▸ He.tupB_ok m7 H⟩ }
      d := ⟨⟨_, es1, n1, gl0 "FORMS" (by simp [fa]), kd1, formB_ok m10⟩, ⟨_, es2, n2, gl0 "OTHERS" (by simp [fa]), kd2, othB_ok m11⟩⟩
      o := { gT := gl0 _ (by simp [fa]), gN := gl0 _ (by simp [fa]), kT := He.mkr_ok (d.facts (f := .mkr "Tower") (by simp [fa])), kN := He.mkr_ok (d.facts (f := .mkr "Number") (by simp [fa]))
             iT := ⟨He.cls_ok (d.facts (f := .cls "Tower") (by simp [fa])), He.eqO_ok i1, He.eqO_ok i2, of_decide_eq_true i3, of_decide_eq_true i4, kit_self _⟩
             cN := He.cls_ok (d.facts (f := .cls "Number") (by simp [fa])), n1 := He.noat_ok (d.facts (f := .noat "Tower" "rows") (by simp [fa])), n2 := He.noat_ok (d.facts (f := .noat "Tower" "squares") (by simp [fa]))
             n3 := He.noat_ok (d.facts (f := .noat "Number" "tower") (by simp [fa])), n4 := He.noat_ok (d.facts (f := .noat "Number" "vector") (by simp [fa]))
             eE := (tupAt_ok m9).1, sE := (tupAt_ok m9).2, most := He.int_ok X G (d.facts (f := .int "MOST" 6) (by simp [fa])), FT := FT, FN := FN }
      fns := df, gl := gl, frac := ⟨dFr, FFr⟩, gFr := gl0 _ (by simp [fa]), eC := ⟨gl0 _ (by simp [fa]), x1, x2, x3, x4⟩, eD := ⟨gl0 _ (by simp [fa]), y1, y2, y3, y4⟩, eW := ⟨gl0 _ (by simp [fa]), z1, z2, z3, z4⟩
      cC := excC_of m1, cD := excC_of m2, cW := excC_of m3, xC := He.exm_ok (d.facts (f := .exm "BadChest" "RulerError" true) (by simp [fa])), xD := He.exm_ok (d.facts (f := .exm "BadDrawing" "RulerError" true) (by simp [fa])), xW := He.exm_ok (d.facts (f := .exm "BadWord" "RulerError" true) (by simp [fa]))
      gR := gl0 _ (by simp [fa]) }
  have b := FunD.bindsA (ps := ["_law_script"]) FL fun _ _ _ _ _ _ us hl => match us, hl with | [_], _ => rfl
  have t1 : qB ∈ tf := List.mem_cons_self
  have t2 : qR ∈ tf := List.mem_cons_of_mem _ List.mem_cons_self
  have t3 : qL ∈ tf := List.mem_cons_of_mem _ (List.mem_cons_of_mem _ List.mem_cons_self)
  have all : ∀ {p : Addr × Addr}, p ∈ [He.cT K qB, He.cT K qR, He.cT K qL] → ∃ q ∈ tf, p = He.cT K q := fun {p} hp => by
    rcases List.mem_cons.mp hp with e | hp
    · exact ⟨_, t1, e⟩
    rcases List.mem_cons.mp hp with e | hp
    · exact ⟨_, t2, e⟩
    · exact ⟨_, t3, List.mem_singleton.mp hp⟩
  have l1 : He.cT K qB ∈ [He.cT K qB, He.cT K qR, He.cT K qL] := List.mem_cons_self
  have l2 : He.cT K qR ∈ [He.cT K qB, He.cT K qR, He.cT K qL] := List.mem_cons_of_mem _ List.mem_cons_self
  have l3 : He.cT K qL ∈ [He.cT K qB, He.cT K qR, He.cT K qL] := List.mem_cons_of_mem _ (List.mem_cons_of_mem _ List.mem_cons_self)
  refine ⟨dL, [He.cT K qB, He.cT K qR, He.cT K qL], spLaw K (He.cT K qB).2 (He.cT K qR).2 (He.cT K qL).2, fun p hp => ?_, fun p hp => ?_, fun p hp => ?_, fun s v => b s [v] rfl,
    fun H a ns hl _ hT hS => ⟨a, ns, rfl, hS, hl, hT _ l1, hT _ l2, hT _ l3, fun _ => rfl⟩, fun base hK hG hTB => ?_⟩
  · obtain ⟨q, hq, rfl⟩ := all hp
    exact c.empty _ hq
  · obtain ⟨q, hq, rfl⟩ := all hp
    exact c.out _ hq
  · obtain ⟨q, hq, rfl⟩ := all hp
    exact PySem.W.codeHd_of_K X (c.hd _ hq)
  · exact ok_law FL rfl rfl rfl Z ⟨of_decide_eq_true m13, of_decide_eq_true m14, of_decide_eq_true m15⟩ (hTB _ l1) (hTB _ l2) (hTB _ l3)
end Own
open PySem PySem.W PySem.Calls PyProof.Rows
theorem PySem.Challenge.cw_rulerchest_k15_all_chests_by_three_sets_holds : PySem.Challenge.rw_rulerchest_k15_all_chests_by_three_sets.Holds := by
  w_on; o_law
  refine HandSHeadRun.head_imp (r := OpenLaw.row PySem.Challenge.rw_rulerchest_k15_all_chests_by_three_sets) (q := view (OpenLaw.row PySem.Challenge.rw_rulerchest_k15_all_chests_by_three_sets).prog [0, 104]) (H := Own.hk) (ob := Own.ob) (M := 9000) (loose := Own.loose) (d := HandSHeadRun.topDef (OpenLaw.row PySem.Challenge.rw_rulerchest_k15_all_chests_by_three_sets).prog 104) (kwd := []) Own.ob_eq
    Own.run (by kernel_rfl) (by kernel_rfl) (by kernel_rfl) (by rfl) (by first | assumption | decide +kernel) (by decide +kernel) ⟨rfl, rfl, rfl, rfl, rfl, by decide +kernel⟩ ?hw ?hc
  case hw => w_witness2
  case hc =>
    refine Own.walk_ofG (l := PySem.Challenge.rw_rulerchest_k15_all_chests_by_three_sets) (n := 63) (k := 11) (x := "_law_script") (CX := fun _ => L2.CX0) rfl (by decide) (by kernel_rfl) ⟨rfl, by decide, by decide⟩ ?F (fun _ _ _ _ _ z => z)
    intro w mg fa h Y G hmg0
    obtain ⟨K, KX, c⟩ := Y
    have hmg : mg ("law" : PySem.Str) = some (.ref fa) := by
      have e : (HandSHeadRun.topDef (OpenLaw.row PySem.Challenge.rw_rulerchest_k15_all_chests_by_three_sets).prog 104).name = ("law" : PySem.Str) := by kernel_rfl
      rw [← e]
      exact hmg0
    exact ⟨K, KX, Own.facts KX G hmg c⟩
#print axioms PySem.Challenge.cw_rulerchest_k15_all_chests_by_three_sets_holds
