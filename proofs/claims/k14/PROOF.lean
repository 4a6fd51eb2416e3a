import PyProof.Rows.All
import Wide.All
import OpenK.AllK
import Wide.FinOn
import KE.KStateDown
import KE.KMathG
import HandS.ForMost
import HandS.Ends
import HandS.Exc
import HandS.ExcOwn
import HandS.ExcIs
import HandS.TryOnly
import HandS.Defaults
import HandS.Lambda
import HandS.EndBits
import HandS.EndTab
import HandS.IsInst
import HandS.Gcd
import HandS.Wide
import HandS.WideMore
import HandS.WordsExc
import HandS.Conv
import HandS.Flow
import HandS.Replace
import HandS.ReplaceLit
import KE.GoesEnum
import HandS.Iter
import HandS.Walk
import HandS.RaiseMore
import PyProof.ReprRoads
import HandS.HeadWalk
import HandS.Steps
import HandS.Text
import HandS.More
import HandS.Dict
import HandS.HeadHook4
import KE.KExcSuper
import KE.KSuper
import HandS.HeadHook1
import HandS.ExcField
import HandS.Codes
import HandS.Style
import HandS.TupAny
import HandS.TupLe
import HandS.DeepEq
import Lean
import KE.KNestM
import HandS.Head0
import HandS.Head1
import HandS.Head2
import HandS.Head3
import PySem.Challenge.RW_rulerchest_k14_deeds_and_drawings_judged
set_option Elab.async false
set_option linter.all false
set_option maxRecDepth 100000
set_option maxHeartbeats 4000000
namespace Own
open PySem PySem.Spec PyProof.Rows L2 LamX
/-! ### a caught error that is kept as a value -/
/-- an exception object of the class cls (own dict at d) stands at a -/
def Caught (cls : Value) (d : Option Addr) (a : Addr) : HO := .ext fun h => ∃ oe : Obj, h.get? a = some oe ∧ Zc cls d oe ∧ ∃ vs, oe.data = .fields vs
theorem caught_ok {P : Program} {w : World} {H : Hp} {h : Heap} {a : Addr} {cls : Value} {d : Option Addr} {oe : Obj} (e : h.get? a = some oe) (z : Zc cls d oe) (k : ∃ vs, oe.data = .fields vs) : ObjOk P w H h a (Caught cls d a) :=
  ⟨⟨oe, e, z, k⟩, ⟨oe, e⟩, fun _ _ ⟨o1, e1, z1, k1⟩ st => ⟨o1, st _ e1, z1, k1⟩⟩
section
variable {X : Cx} {pins : List (Addr × Obj)}
/-- a new address gets known: nothing of the entry, no cell, no pin stands there -/
theorem note_new {σ : L2.St} {H : Hp} {s : Shared} {a : Addr} {u : HO} (I : Inv X pins σ H s) (na : H a = none) (n0 : X.s_0.heap.get? a = none) (nL : a ≠ X.env.locals) (nC : ∀ x c, X.env.cells.lookup x = some c → c ≠ a) (nP : ∀ p ∈ X.pn ++ pins, p.1 ≠ a)
    (new : ObjOk X.prog X.w (upd H a u) s.heap a u) : Inv X pins σ (upd H a u) s := by
  have apart : ∀ {b : Addr} {o : Obj}, X.s_0.heap.get? b = some o → b ≠ a := fun {b o} e z => by
    rw [z, n0] at e
    cases e
  refine ⟨I.ok, I.os, I.bare, ?_, I.loc, I.cell, ?_, ?_, ?_, ?_, I.len⟩
  · refine ⟨I.base.keep, I.base.slot, fun b o e n hx => ?_, I.base.there, fun b xs e => ?_, fun b o xs e => ?_, fun b ps e => ?_⟩
    · rw [upd_ne (apart e)]
      exact I.base.free b o e n hx
    · have q := I.base.tups b xs e
      rw [upd_ne (ne_of_none q na)]
      exact q
    · have q := I.base.frzs b o xs e
      rw [upd_ne (ne_of_none q na)]
      exact q
    · obtain ⟨more, q⟩ := I.base.tbls b ps e
      exact ⟨more, by rw [upd_ne (ne_of_none q na)]; exact q⟩
  · rw [upd_ne nL.symm]
    exact I.free
  · intro x c e
    rw [upd_ne (nC x c e)]
    exact I.freeC x c e
  · intro p hp
    obtain ⟨h1, h2, h3⟩ := I.pin p hp
    exact ⟨h1, by rw [upd_ne (nP p hp)]; exact h2, h3⟩
  · intro b o e
    by_cases hb : b = a
    · subst hb
      rw [upd_same] at e
      cases e
      exact new
    · rw [upd_ne hb] at e
      exact (I.hok b o e).stay (fun c v _ q => q) (fun c q => by rw [upd_ne (ne_of_none q na)]; exact q) fun c xs q => by rw [upd_ne (ne_of_none q na)]; exact q
/-- what is wished of an error that the clause takes and keeps -/
def wKeep (K : PySem.W.Frag) (c : Value) (i : Nat) (ts : Addr → Value → Option Addr → TS) (D : Ends) : WX := fun cls d σ H =>
  ∃ b, PySem.W.exmOne K cls c = some b ∧ (b = true → ∀ a, H a = none → ts a cls d { nx := fun σ' H' => H' a = none → D.nx (σ'.set i none) (upd H' a (Caught cls d a)), rt := fun _ _ => False } (σ.set i (some (.ref a))) H) ∧ (b = false → False)
/-- try: body / except x as n: suite, the error being known behind it; every error is of that class -/
theorem ps_try_keep {x n : Str} {c : Value} {i : Nat} {body suite : List Stmt} {b0 : Stmt} {np pos pos1 : Pos} {tb : WX → TS} {ts : Addr → Value → Option Addr → TS}
    (hs : X.stack = X.env :: X.outer) (hex : X.ex = []) (hf : X.env.frame = some X.env.locals) (hN : X.N.Nodup) (hi : X.N[i]? = some n) (hln : X.env.kindOf n = some .local) (hc : Names X x c)
    (hb : ∀ (W : WX) (pn : List (Addr × Obj)) (xe : Value → Shared → Prop), Takes (X.tr pn xe) W → PassesOwn (model X.prog X.w) X.A X.env xe → PSs (X.tr pn xe) body (tb W))
    (hsu : ∀ (a : Addr) (oe : Obj) (cls : Value) (d : Option Addr) (pn : List (Addr × Obj)), Zc cls d oe → (∃ vs, oe.data = .fields vs) → PSs (X.suite a ((a, oe) :: pn)) (b0 :: suite) (ts a cls d)) :
    PS X (.Try body [.ExceptHandler (some (.Name x np)) (some n) (b0 :: suite) pos1] [] [] pos) (fun D σ H => tb (wKeep X.K c i ts D) D σ H) := by
  constructor
  intro pins s σ H D I h
  have ok := I.ok
  have frm : X.A.frames = some (X.env :: X.outer) := ok.frames.trans (congrArg some hs)
  refine wpAny_Try_except (wpAny_mono (hb (wKeep X.K c i ts D) (X.pn ++ pins) (fun e t1 => wpAny (model X.prog X.w) X.A (noteFrame e X.env) (fun _ t2 => wpAny (model X.prog X.w) X.A (setFlight e none) (fun _ t3 =>
    wpAny (model X.prog X.w) X.A (handleBy e X.env [.ExceptHandler (some (.Name x np)) (some n) (b0 :: suite) pos1]) (SP X pins D) X.xe t3) X.xe t2) X.xe t1) (fun u t hx => ?_) PassesOwn.looking |>.run [] s σ H D (I.toTry _) h) (fun fl t hq => ?_) (fun _ _ he => he))
  · obtain ⟨a, B, s2, p2, σ2, H2, cls, d, rfl, Jt, nb, up, sky, na, os, ag, b, hb1, hyes, hno⟩ := hx
    have J : Inv X pins σ2 H2 s2 := Jt.ofTry ok
    rw [hs] at sky
    refine Sky.land Zc.steady frm hf sky fun h3 fl3 up3 => ?_
    have J3 : Inv X pins σ2 H2 { t with heap := h3 } := J.landed nb fl3.1 (up.trans up3) os ag
    obtain ⟨oe3, vs3, he3, hz3, hd3⟩ := fl3.there
    have out : a ∉ frs (X.env :: X.outer) := fun hm => by
      obtain ⟨_, o1, e1, no⟩ := fl3.2.2.1.mem hm
      rw [he3] at e1
      cases e1
      exact no _ hd3
    have nL : a ≠ X.env.locals := fun z => out (List.mem_filterMap.mpr ⟨X.env, List.mem_cons_self, by rw [hf, z]⟩)
    have nF : a ∉ X.fs := fun hm => by
      obtain ⟨e1, he1, q⟩ := List.mem_filterMap.mp hm
      exact out (List.mem_filterMap.mpr ⟨e1, List.mem_cons_of_mem _ he1, q⟩)
    -- nothing stood at a when the body was entered
    have nB : B.get? a = none := fl3.2.1
    have n2 : s2.heap.get? a = none := by
      cases q : s2.heap.get? a with
      | none => rfl
      | some o =>
        have z := nb a o q (by rw [hs]; exact out)
        rw [nB] at z
        cases z
    have n0 : X.s_0.heap.get? a = none := by
      cases q : X.s_0.heap.get? a with
      | none => rfl
      | some o =>
        obtain ⟨o1, q1⟩ := J.base.there a o q (by rw [hex]; exact List.not_mem_nil)
        rw [n2] at q1
        cases q1
    have nC : ∀ y c, X.env.cells.lookup y = some c → c ≠ a := fun y c e z => by
      obtain ⟨v, o, q, _⟩ := J.cell y c e
      rw [z, n2] at q
      cases q
    have nP : ∀ p ∈ X.pn ++ pins, p.1 ≠ a := fun p hp z => by
      have q := (J.pin p hp).1
      rw [z, n2] at q
      cases q
    refine wpAny_handleBy_cons (codeAny_handlers_test ?_) (fun z => nomatch z)
    have inS := J3.suite he3 hd3 na nL nF
    have asked : ∀ {Q E : Value → Shared → Prop}, Q c { t with heap := h3 } → wpAny (model X.prog X.w) (X.A.mark (some (.ref a))) (eval (.Name x np) X.env) Q E { t with heap := h3 } := fun {Q E} q => by
      obtain ⟨hg, hdbg, hm⟩ := hc
      rcases hm with hm | ⟨hm, hv, hnn⟩
      · exact ld_glob (X := X.suite a ((a, oe3) :: (X.pn ++ pins))) inS hg hm q hdbg
      · exact ld_blt (X := X.suite a ((a, oe3) :: (X.pn ++ pins))) inS hg hm hv q hnn hdbg
    have kind : PySem.W.Looks (model X.prog X.w) h3 (typeOf (.ref a)) cls := fun A Q E s k q => wpAny_typeOf_ref (k _ _ he3) (by rw [hz3.1]; exact q)
    refine asked ((PySem.W.exm_one (M := model X.prog X.w) (J3.kIn) kind hb1).here ?_)
    cases b with
    | false => exact (hno rfl).elim
    | true =>
      refine codeAny_handlers_suite_as (HandSPX.lands_againZ fl3 fun h4 fl4 up4 => ?_)
      have J4 : Inv X pins σ2 H2 { t with heap := h4 } := J.landed nb fl4.1 ((up.trans up3).trans up4) os ag
      obtain ⟨oe4, vs4, he4, hz4, hd4⟩ := fl4.there
      refine store_ok (X := X.suite a ((a, oe4) :: (X.pn ++ pins))) (v := .ref a) (J4.suite he4 hd4 na nL nF) hN hi (.inl hln) rfl (fun s5 S5 => ?_) (.inr hln)
      refine wpAny_mono ((hsu a oe4 cls d (X.pn ++ pins) hz4 ⟨_, hd4⟩).run [] s5 _ H2 _ S5 (hyes rfl a na)) (fun fl s6 hsp => ?_) (fun _ _ z => False.elim z)
      cases fl with
      | next =>
        obtain ⟨σ6, H6, S6, q6⟩ := hsp
        refine gone_ok (X := X.suite a ((a, oe4) :: (X.pn ++ pins))) S6 hN hi hln fun s7 S7 => ?_
        obtain ⟨e7, n7, _⟩ := S7.pin (a, oe4) (List.mem_append.mpr (.inl List.mem_cons_self))
        exact ⟨_, _, note_new (S7.unsuite ok) n7 n0 nL nC nP (caught_ok e7 hz4 ⟨_, hd4⟩), q6 n7⟩
      | brk =>
        obtain ⟨_, _, _, q6⟩ := hsp
        exact False.elim q6
      | cont =>
        obtain ⟨_, _, _, q6⟩ := hsp
        exact False.elim q6
      | ret u =>
        obtain ⟨_, _, _, _, _, q6⟩ := hsp
        exact False.elim q6
  · cases fl with
    | next =>
      obtain ⟨σ2, H2, J, q⟩ := hq
      exact wpAny_execs_nil ⟨σ2, H2, J.ofTry ok, q⟩
    | brk =>
      obtain ⟨σ2, H2, J, q⟩ := hq
      exact ⟨σ2, H2, J.ofTry ok, q⟩
    | cont =>
      obtain ⟨σ2, H2, J, q⟩ := hq
      exact ⟨σ2, H2, J.ofTry ok, q⟩
    | ret u =>
      obtain ⟨v, σ2, H2, J, r, q⟩ := hq
      exact ⟨v, σ2, H2, J.ofTry ok, r, q⟩
end
theorem tk_len {X : Cx} {W : WX} (tk : Takes X W) {n : Nat} (hn : X.N.length = n) : Takes X (fun cls d σ H => σ.length = n → W cls d σ H) := fun u s' ⟨a, B, sI, pins, σ, H, cls, d, e, I, h1, h2, h3, h4, h5, h6, w⟩ =>
  tk u s' ⟨a, B, sI, pins, σ, H, cls, d, e, I, h1, h2, h3, h4, h5, h6, w (I.len.trans hn)⟩
/-- isinstance(e, c), e an error that was caught and kept, c an own class; or a value of a known kind -/
def rIsX (K : PySem.W.Frag) : List V → Hp → VK → Prop := fun xs H Q => ∃ (a D : Addr) (dd : Option Addr) (c : V) (cv : Value) (b : Bool), xs = [.ref a, c] ∧ H a = some (Caught (.ref D) dd a) ∧ dd = none ∧ ExcC K D ∧ ClsV c cv ∧ PySem.W.kitOne K (.ref D) cv = some b ∧ Q (.bl b) H
theorem call_isX {X : Cx} : CallR X (.builtin "isinstance") (rIsX X.K) := by
  intro pins s σ H xs us Q I r h
  obtain ⟨a, D, dd, c, cv, b, rfl, ha, rfl, C, k, e, q⟩ := h
  obtain ⟨u1, u2, rfl, r1, r2⟩ := vals2 r
  have e2 := k.eq r2
  subst e2
  cases (show u1 = Value.ref a from r1)
  obtain ⟨⟨oe, ho, hz, vs, hv⟩, _, _⟩ := I.hok a _ ha
  have J : PySem.W.InstAt s.heap a oe D none := by
    obtain ⟨oc, od, oda, osl⟩ := oe
    obtain ⟨h1, h2⟩ := hz
    dsimp only at h1 h2 hv
    subst h1 h2 hv
    exact ⟨ho, rfl, rfl, trivial⟩
  exact PySem.W.kia_one (PySem.W.handS_kitx_exc C.hg C.hk C.hs C.hd C.ha C.hn C.ht C.hm) I.kIn J e (fun z => nomatch z) fun tk => ⟨.bl b, H, I.tok tk, rfl, q⟩
/-- f(e, ..) by either of two readings -/
theorem CallR.either {X : Cx} {f : Value} {r1 r2 : List V → Hp → VK → Prop} (h1 : CallR X f r1) (h2 : CallR X f r2) : CallR X f (fun xs H Q => r1 xs H Q ∨ r2 xs H Q) := by
  intro pins s σ H xs us Q I r h
  rcases h with h | h
  · exact h1 pins s σ H xs us Q I r h
  · exact h2 pins s σ H xs us Q I r h
/-! ### the law's own catcher: found = None; try: action() / except E as error: found = error; return found -/
def TKeep (K : PySem.W.Frag) (CS : Addr) : (XK → Hp → VK → Prop) → Hp → VK → Prop := fun tl H Q =>
  tl (fun cls d H' => ∃ b, PySem.W.exmOne K cls (.ref CS) = some b ∧ (b = true → ∀ a, H' a = none → Q (.ref a) (upd H' a (Caught cls d a))) ∧ (b = false → False)) H (fun _ H' => ∃ v, (some (some V.non) : Option (Option V)) = some (some v) ∧ Q v H')
theorem keep_gives {X : Cx} {Ng : List Str} {x a e n f q : Str} {sg : Scope} {g CS : Addr} {cdg : Value} {k1 : Nat} {p1 p2 p3 p4 p5 p6 p7 p8 p9 p10 p11 p12 p13 p14 : Pos}
    (hN : Ng = [a, f, n]) (nd : Ng.Nodup) (hlf : sg.names.lookup f = some .local) (hln : sg.names.lookup n = some .local) (hge : sg.names.lookup e = some .globalImplicit) (hme : X.mg e = some (.ref CS)) (hde : (e == ("__debug__" : Str)) = false)
    (hdf : (f == ("__debug__" : Str)) = false) (hcf : (f == ("__classdict__" : Str)) = false) (hdn : (n == ("__debug__" : Str)) = false) (hcn : (n == ("__classdict__" : Str)) = false) :
    GivesTo X Ng x sg g cdg [.Assign [.Name f p1] (.Constant .none k1 p2) p3, .Try [.Expr (.Call (.Name a p4) [] [] p5) p6] [.ExceptHandler (some (.Name e p7)) (some n) [.Assign [.Name f p8] (.Name n p9) p10] p11] [] [] p12, .Return (some (.Name f p13)) p14] a q (TKeep X.K CS) := by
  subst hN
  intro fa c' s H Q tl act hc h
  have hgl : Gl (cxOf C8.CX0 X.prog X.w X.K X.mg X.base [a, f, n] x sg g cdg X.A X.stack s H C8.E0).nox e := hge
  refine ⟨_, pss_cons (ps_set (X := (cxOf C8.CX0 X.prog X.w X.K X.mg X.base [a, f, n] x sg g cdg X.A X.stack s H C8.E0).nox) (i := 1) nd rfl (Or.inl hlf) pe_non (hf := Or.inr hlf))
    (pss_cons (ps_try_keep (X := (cxOf C8.CX0 X.prog X.w X.K X.mg X.base [a, f, n] x sg g cdg X.A X.stack s H C8.E0).nox) (i := 2) (c := .ref CS)
      (tb := fun W D σ H => ∃ Ech : XK, (∀ cls d σ' H', Ech cls d H' → σ'.length = 3 → W cls d σ' H') ∧ σ[0]? = some (some (.ref fa)) ∧ H c' = some (CodeO c' q) ∧ tl Ech H fun _ H1 => D.nx σ H1)
      (ts := fun a cls d => tAsg (tVar 2) (gName 1))
      rfl rfl rfl nd rfl hln ⟨hgl, hde, .inl hme⟩ (fun W pn xe tk _ => ?_) (fun a oe cls d pn _ _ => pss_one (ps_set (i := 1) nd rfl (Or.inl hlf) (pe_var rfl (Or.inl hln) hdn hcn) (hf := Or.inr hlf))))
    (pss_one (ps_ret (pe_var (i := 1) rfl (Or.inl hlf) hdf hcf)))), ?_⟩
  · refine ⟨fun pins s' σ H' D I h' => ?_⟩
    obtain ⟨Ech, hW, h1, h2, h3⟩ := h'
    have tk2 := tk_len tk (n := 3) rfl
    exact (pss_one (ps_expr (pos := p6) (act (fun cls d σ H => σ.length = 3 → W cls d σ H) pn xe Ech p4 p5 tk2 hW))).run pins s' σ H' D I ⟨h1, h2, h3⟩
  · refine ⟨fun cls d H' => ∃ b, PySem.W.exmOne X.K cls (.ref CS) = some b ∧ (b = true → ∀ a, H' a = none → Q (.ref a) (upd H' a (Caught cls d a))) ∧ (b = false → False), fun cls d σ' H' hE hl => ?_, rfl, hc, h⟩
    obtain ⟨b, e1, e2, e3⟩ := hE
    refine ⟨b, e1, fun hb a na => ?_, e3⟩
    match σ', hl with
    | [u1, u2, u3], _ => exact ⟨_, rfl, fun na => ⟨_, rfl, e2 hb a na⟩⟩
end Own
set_option Elab.async false
set_option linter.all false
set_option maxRecDepth 100000
set_option maxHeartbeats 4000000
namespace Own
open PySem PySem.Spec PyProof.Rows L2
/-! ### rules for code that runs when a token is out -/
/-- a def's promise, kept where a token is out at its call -/
structure FnOkT (P : Program) (w : World) (K : PySem.W.Frag) (mg : Str → Option Value) (base : Heap) (CX : CXT) (k : Nat) (f : Addr) (fd : FuncData) (ps : List Str) (sp : Sp) : Prop where
  len : ∀ vs H Q E, sp vs H Q E → vs.length = ps.length
  run : ∀ (A : Around) (outer : List Env) (s : Shared) (H : Hp) (args : Args) (us : List Value) (vs : List V) (Q : VK) (E : XK), 1 ≤ s.toks → Room k A → Env0 P w K mg base A outer s H → BindsTo s fd args (ps.zip us) → Vals vs us → sp vs H Q E →
    codeAny (model P w) A (.call (.ref f) args) (CR CX outer P w H s Q E) s
/-- the step into the body -/
theorem run_bodyT {CX : CXT} {P : Program} {w : World} {K : PySem.W.Frag} {mg : Str → Option Value} {base : Heap} {k : Nat} {f : Addr} {qual : Str} {body : List Stmt} {scope : Scope} {cdv : Value} {N ps : List Str} (S : FnScope N ps scope)
    {A : Around} {outer : List Env} {s s1 : Shared} {H : Hp} {us : List Value} {vs : List V} {Q : VK} {E : XK} (hr : Room (k + 1) A) (e0 : Env0 P w K mg base A outer s H) (hl : vs.length = ps.length) (r : Vals vs us)
    (x : InCallC s (envOfC qual scope s.heap.objs.size f cdv).locals (bindL (envOfC qual scope s.heap.objs.size f cdv).kindOf (ps.zip us) fun _ => none) (envOfC qual scope s.heap.objs.size f cdv).cells (bindC (envOfC qual scope s.heap.objs.size f cdv).kindOf (ps.zip us) fun _ => none) s1)
    (ht : 1 ≤ s1.toks) (hb : ∃ t, PSsT (cxOf CX P w K mg base N qual scope f cdv A outer s H E) body t ∧ t { nx := fun _ H' => Q .non H', rt := Q } (start N vs) H) :
    codeAny (model P w) A (.func body (envOfC qual scope s.heap.objs.size f cdv)) (CR CX outer P w H s Q E) s1 := by
  obtain ⟨t, hbt, hq⟩ := hb
  have J0 : Inv (cxOf CX P w K mg base N qual scope f cdv A outer s H E) [] (start N vs) H s1 := inv_start S hr.hd e0 hl r x
  refine codeAny_func (wpAny_mono (hbt [] s1 (start N vs) H _ ht J0 hq) (fun fl s2 h2 => ?_) fun _ _ z => z)
  cases fl with
  | ret u => obtain ⟨v, σ2, H2, J, rv, q⟩ := h2; exact ⟨v, H2, J.os, J.bare, J.base, J.hok, rv, q⟩
  | next => obtain ⟨σ2, H2, J, q⟩ := h2; exact ⟨.non, H2, J.os, J.bare, J.base, J.hok, rfl, q⟩
  | brk => obtain ⟨_, _, _, q⟩ := h2; exact False.elim q
  | cont => obtain ⟨_, _, _, q⟩ := h2; exact False.elim q
theorem kinds_of {N ps : List Str} {scope : Scope} (S : FnScope N ps scope) (n : Nat) (us : List Value) : ∀ y ∈ ps.zip us, scope.names.lookup y.1 = some .local ∨ (scope.names.lookup y.1 = some .cell ∧ ((cellsFrom n scope.names []).lookup y.1).isSome = true) := fun y hy => by
  cases S.par y.1 (List.of_mem_zip (a := y.1) (b := y.2) hy).1 with
  | inl q => exact .inl q
  | inr q => exact .inr ⟨q, PySem.W.cellsFrom_some _ _ _ (.inl q)⟩
/-- a def that wants a token at its call -/
theorem FunD.okT {CX : CXT} {P : Program} {w : World} {K : PySem.W.Frag} {mg : Str → Option Value} {base : Heap} {x qual : Str} {params : Arguments} {body : List Stmt} {scope : Scope} {dvs : List V} {kws : List (Str × V)} {f : Addr} {fd : FuncData} {N ps : List Str} {k : Nat} {sp : Sp}
    (F : FunD K x qual params body scope dvs kws f fd) (S : FnScope N ps scope) (len : ∀ vs H Q E, sp vs H Q E → vs.length = ps.length)
    (hbody : ∀ (cdv : Value) (A : Around) (outer : List Env) (s : Shared) (H : Hp) (vs : List V) (Q : VK) (E : XK), (∃ (oc : Value) (od : Option Addr) (dV kV doc pm : Value) (an : Option Addr) (ct : Value) (osl : Array (Option Value)), K.lookup f = some ⟨oc, od, .func (PySem.W.fnOf x qual params body scope dV kV doc pm an cdv ct), osl⟩) → PySem.W.codeIn K cdv qual = true → Room k (A.deeper (envOfC qual scope s.heap.objs.size f cdv)) → sp vs H Q E →
      ∃ t, PSsT (cxOf CX P w K mg base N qual scope f cdv A outer s H E) body t ∧ t { nx := fun _ H' => Q .non H', rt := Q } (start N vs) H) : FnOkT P w K mg base CX (k + 1) f fd ps sp := by
  obtain ⟨oc, od, dV, kV, doc, pm, an, cdv, ct, osl, rfl, lk, hcd, _, _⟩ := F.ex
  refine ⟨len, fun A outer s H args us vs Q E ht hr e0 hb r hsp => ?_⟩
  have inH : K.In s.heap := e0.mod.kin.keeps fun b o e => (e0.bs b o e).1
  have nl : s.heap.NoLimit := e0.mod.nolimit.keeps fun b o e => (e0.bs b o e).1
  refine codeAny_call_function hr.depth (inH _ _ lk) rfl S.co S.gen rfl (PySem.W.codeRec_of inH hcd) (hb _ _ _ _ ?_)
  refine wpAny_mono (PySem.wpAny_toks (wpAny_newFunctionEnv_cells (Q := fun env s1 => env = envOfC qual scope s.heap.objs.size f cdv ∧ InCallC s (envOfC qual scope s.heap.objs.size f cdv).locals (bindL (envOfC qual scope s.heap.objs.size f cdv).kindOf (ps.zip us) fun _ => none) (envOfC qual scope s.heap.objs.size f cdv).cells (bindC (envOfC qual scope s.heap.objs.size f cdv).kindOf (ps.zip us) fun _ => none) s1) S.kind (kinds_of S _ _) fun env he s1 xx => ?_)) (fun env s1 h1 => ?_) fun _ _ z => z.2
  · subst he
    exact ⟨rfl, xx⟩
  · obtain ⟨hk, rfl, xx⟩ := h1
    exact ⟨nl.keeps xx.toInCall.keep, run_bodyT S hr e0 (len _ _ _ _ hsp) r xx (Nat.le_trans ht hk) (hbody _ _ _ _ _ _ _ _ ⟨_, _, _, _, _, _, _, _, _, lk⟩ hcd (hr.deeper _) hsp)⟩
/-- the parameters bound, the first one a plain local name: a token is out -/
theorem bind_tok {M : Model} {A : Around} {E : Value → Shared → Prop} {env : Env} {s0 : Shared} (g : Str × Value → PUnit → Sem (ForInStep PUnit)) (hg : ∀ n v u, g (n, v) u = (do storeName env n v; pure (.yield ⟨⟩))) (hk : env.scope.kind = .function)
    {n : Str} {v : Value} {r : List (Str × Value)} {s : Shared} {Q : PUnit → Shared → Prop} (x : InCallC s0 env.locals (fun _ => none) env.cells (fun _ => none) s) (hn : env.kindOf n = some .local)
    (hr : ∀ y ∈ r, env.kindOf y.1 = some .local ∨ (env.kindOf y.1 = some .cell ∧ (env.cells.lookup y.1).isSome = true))
    (h : ∀ s', 1 ≤ s'.toks → InCallC s0 env.locals (bindL env.kindOf ((n, v) :: r) fun _ => none) env.cells (bindC env.kindOf ((n, v) :: r) fun _ => none) s' → Q ⟨⟩ s') : wpAny M A (forIn ((n, v) :: r) ⟨⟩ g) Q E s := by
  rw [List.forIn_cons, hg]
  refine wpAny_bind (wpAny_bind (wpAny_storeName_local hn x.toInCall.ns (fun h1 hn1 sb => wpAny_pure ?_) (by rw [hk]; rfl)))
  have x1 : InCallC s0 env.locals (fun y => if y = n then some v else none) env.cells (fun _ => none) ({ s with heap := h1, toks := s.toks + 1 } : Shared) := by
    refine ⟨⟨?_, hn1, fun b o e => ?_, x.toInCall.fresh⟩, fun m c hc => ?_, x.apart, x.above⟩
    · obtain ⟨hh, tk, rfl⟩ := x.toInCall.same
      exact ⟨h1, _, rfl⟩
    · exact sb.extBut b o (Nat.ne_of_lt (Nat.lt_of_lt_of_le (Heap.lt_size e) x.toInCall.fresh)) (x.toInCall.keep b o e)
    · exact (x.cell m c hc).sameBut sb (Nat.ne_of_gt (x.above m c (mem_of_lookup hc)))
  refine wpAny_mono (PySem.wpAny_toks_of (n := 1) (show 1 ≤ s.toks + 1 by omega) (wpAny_bindParams (Q := fun _ s' => InCallC s0 env.locals (bindL env.kindOf ((n, v) :: r) fun _ => none) env.cells (bindC env.kindOf ((n, v) :: r) fun _ => none) s') g hg hk r _ _ _ x1 hr fun s' x2 => ?_)) (fun u s' q => h s' q.1 q.2) fun _ _ z => z.2
  unfold bindL bindC
  rw [if_pos hn, if_pos hn]
  exact x2
theorem newEnv_tok {M : Model} {A : Around} {E : Value → Shared → Prop} {s : Shared} {scope : Scope} {globals : Addr} {n : Str} {v : Value} {r : List (Str × Value)} {qual : Str} {func : Option Addr} {code : Value} {builtins : Addr} {Q : Env → Shared → Prop}
    (hk : scope.kind = .function) (h1 : scope.names.lookup n = some .local)
    (hkind : ∀ x ∈ r, scope.names.lookup x.1 = some .local ∨ (scope.names.lookup x.1 = some .cell ∧ ((cellsFrom (s.heap.objs.size + 1) scope.names []).lookup x.1).isSome = true))
    (hQ : ∀ env, env = newEnv scope s.heap.objs.size globals (cellsFrom (s.heap.objs.size + 1) scope.names []) qual func code none builtins →
      ∀ s', 1 ≤ s'.toks → InCallC s env.locals (bindL env.kindOf ((n, v) :: r) fun _ => none) env.cells (bindC env.kindOf ((n, v) :: r) fun _ => none) s' → Q env s') :
    wpAny M A (newFunctionEnv scope globals [] ((n, v) :: r) qual func code none builtins) Q E s := by
  simp only [newFunctionEnv, Option.isSome_none, Bool.false_eq_true, if_false]
  refine wpAny_bind (wpAny_alloc (wpAny_bind (wpAny_layCells _ (fun name kind cells => by cases e : kind == NameKind.cell <;> simp [e]) _ _ _ _ ?_)))
  have lay := cellsFrom_ok scope.names (s.heap.push { cls := .type "frame", data := .dict #[] }) (s.heap.objs.size + 1) [] ⟨fun _ _ hm => (nomatch hm), List.Pairwise.nil⟩ (by rw [Heap.size_push]; exact Nat.le_refl _)
  rw [Heap.size_push] at lay
  have ez : ({ s with heap := s.heap.push { cls := .type "frame", data := .dict #[] } } : Shared).heap.objs.size = s.heap.objs.size + 1 := Heap.size_push ..
  rw [ez]
  refine wpAny_bind (bind_tok (s0 := s) (env := newEnv scope s.heap.objs.size globals (cellsFrom (s.heap.objs.size + 1) scope.names []) qual func code none builtins) _ (fun _ _ _ => rfl) hk ?_ h1 hkind fun s' ht x => wpAny_pure (hQ _ rfl s' ht x))
  exact ⟨⟨⟨_, _, rfl⟩, (Heap.Ns.new s.heap (.type "frame")).keeps (pushCells_keeps _ _), fun b o e => pushCells_keeps _ _ b o (Heap.get?_push_of_some _ e), Nat.le_refl _⟩, fun m c hc => (lay.empty m c (mem_of_lookup hc)).1, lay.apart, fun m c hm => (lay.empty m c hm).2⟩
/-- a def whose first parameter is a plain local name: a token is out in its body -/
theorem FunD.okL {CX : CXT} {P : Program} {w : World} {K : PySem.W.Frag} {mg : Str → Option Value} {base : Heap} {x qual p : Str} {params : Arguments} {body : List Stmt} {scope : Scope} {dvs : List V} {kws : List (Str × V)} {f : Addr} {fd : FuncData} {N ps : List Str} {k : Nat} {sp : Sp}
    (F : FunD K x qual params body scope dvs kws f fd) (S : FnScope N (p :: ps) scope) (hp : scope.names.lookup p = some .local) (len : ∀ vs H Q E, sp vs H Q E → vs.length = (p :: ps).length)
    (hbody : ∀ (cdv : Value) (A : Around) (outer : List Env) (s : Shared) (H : Hp) (vs : List V) (Q : VK) (E : XK), (∃ (oc : Value) (od : Option Addr) (dV kV doc pm : Value) (an : Option Addr) (ct : Value) (osl : Array (Option Value)), K.lookup f = some ⟨oc, od, .func (PySem.W.fnOf x qual params body scope dV kV doc pm an cdv ct), osl⟩) → PySem.W.codeIn K cdv qual = true → Room k (A.deeper (envOfC qual scope s.heap.objs.size f cdv)) → sp vs H Q E →
      ∃ t, PSsT (cxOf CX P w K mg base N qual scope f cdv A outer s H E) body t ∧ t { nx := fun _ H' => Q .non H', rt := Q } (start N vs) H) : FnOk P w K mg base CX (k + 1) f fd (p :: ps) sp := by
  obtain ⟨oc, od, dV, kV, doc, pm, an, cdv, ct, osl, rfl, lk, hcd, _, _⟩ := F.ex
  refine ⟨len, fun A outer s H args us vs Q E hr e0 hb r hsp => ?_⟩
  have inH : K.In s.heap := e0.mod.kin.keeps fun b o e => (e0.bs b o e).1
  have nl : s.heap.NoLimit := e0.mod.nolimit.keeps fun b o e => (e0.bs b o e).1
  refine codeAny_call_function hr.depth (inH _ _ lk) rfl S.co S.gen rfl (PySem.W.codeRec_of inH hcd) (hb _ _ _ _ ?_)
  have hl := len _ _ _ _ hsp
  cases us with
  | nil =>
    rw [r.length] at hl
    cases hl
  | cons u us =>
    refine newEnv_tok (n := p) (v := u) (r := ps.zip us) S.kind hp (fun y hy => kinds_of S _ (u :: us) y (List.mem_cons_of_mem _ hy)) fun env he s1 ht xx => ?_
    subst he
    exact ⟨nl.keeps xx.toInCall.keep, run_bodyT S hr e0 hl r xx ht (hbody _ _ _ _ _ _ _ _ ⟨_, _, _, _, _, _, _, _, _, lk⟩ hcd (hr.deeper _) hsp)⟩
/-! ### tests and statements, a token out -/
def PTT (X : Cx) (e : Expr) (t : TT) : Prop :=
  ∀ (pins : List (Addr × Obj)) (s : Shared) (σ : L2.St) (H : Hp) (Q : Bool → Hp → Prop), 1 ≤ s.toks → Inv X pins σ H s → t σ H Q → wpAny (model X.prog X.w) X.A (isTrue e X.env (eval e X.env)) (TP X pins σ Q) X.xe s
def PWT (X : Cx) (e : Expr) (t : TT) : Prop :=
  ∀ (whole : Sem Value) (pins : List (Addr × Obj)) (s : Shared) (σ : L2.St) (H : Hp) (Q : Bool → Hp → Prop), 1 ≤ s.toks → Inv X pins σ H s → t σ H Q → wpAny (model X.prog X.w) X.A (isTrue e X.env whole) (TP X pins σ Q) X.xe s
/-- the state grows its tokens -/
theorem thnT {α : Type} {t : Sem α} {Q Q' : α → Shared → Prop} {M : Model} {A : Around} {E : Value → Shared → Prop} {s : Shared} (h0 : 1 ≤ s.toks) (h : wpAny M A t Q E s) (hQ : ∀ a s', 1 ≤ s'.toks → Q a s' → Q' a s') : wpAny M A t Q' E s :=
  wpAny_mono (PySem.wpAny_toks_of h0 h) (fun a s' q => hQ a s' q.1 q.2) fun _ _ z => z.2
section
variable {X : Cx} {a b e : Expr} {rest : List Expr} {te : TE} {tA tB2 : TT} {t u : TS} {pos p : Pos}
theorem PTT.of (h : PT X e tA) : PTT X e tA := fun pins s σ H Q _ I q => h.run pins s σ H Q I q
theorem PWT.ptt (h : PWT X e tA) : PTT X e tA := h _
theorem ptt_val (h : PET X e te) (he : ∀ whole, isTrue e X.env whole = (do let v ← whole; standAt e.pos; holding [v] (truthy v)) := by intro _; rfl) : PTT X e (tB te) := by
  intro pins s σ H Q h0 I hw
  refine isTrue_plain (thn (h pins s σ H _ h0 I hw) fun v s1 q => ?_) (he _)
  obtain ⟨y, H1, I1, r1, d, rfl, q⟩ := q
  cases r1
  exact wpAny_truthy_bool ⟨H1, I1, q⟩
theorem ptt_not (ha : PTT X a tA) : PTT X (.UnaryOp .Not a pos) (tNot tA) := fun pins s σ H Q h0 I h => isTrue_not (ha pins s σ H (fun c H1 => Q (!c) H1) h0 I h)
theorem pwt_or1 (ha : PTT X a tA) : PWT X (.BoolOp .Or [a] pos) tA := by
  intro wh pins s σ H Q h0 I h
  refine isTrue_or (thn (ha pins s σ H Q h0 I h) fun c s1 q => ?_)
  cases c with
  | false => exact isTrue_or_nil q
  | true => exact q
theorem pwt_or (ha : PTT X a tA) (hb : PWT X (.BoolOp .Or (b :: rest) pos) tB2) : PWT X (.BoolOp .Or (a :: b :: rest) pos) (tOr tA tB2) := by
  intro wh pins s σ H Q h0 I h
  refine isTrue_or (thnT h0 (ha pins s σ H _ h0 I h) fun c s1 h1 q => ?_)
  obtain ⟨H1, I1, q1⟩ := q
  cases c with
  | true => exact ⟨H1, I1, q1⟩
  | false => exact hb wh pins s1 σ H1 Q h1 I1 q1
theorem pst_ifT {c : Expr} {sa sb : List Stmt} {tc : TT} (hc : PTT X c tc) (ha : PSsT X sa t) (hb : PSsT X sb u) : PST X (.If c sa sb pos) (tIfS tc t u) := by
  intro pins s σ H D h0 I h
  refine wpAny_If (thnT h0 (hc pins s σ H _ h0 I h) fun d s1 h1 q => ?_)
  obtain ⟨H1, I1, q1⟩ := q
  cases d with
  | true => exact ha pins s1 σ H1 D h1 I1 q1
  | false => exact hb pins s1 σ H1 D h1 I1 q1
theorem psstT_nil : PSsT X [] tNext := PSsT.of pss_nil
theorem psstT_one {st : Stmt} (h : PST X st t) : PSsT X [st] t := psst_cons h psstT_nil
/-- f(e, ..), f wanting a token -/
theorem pet_callT {CX : CXT} {k : Nat} {f : Addr} {fd : FuncData} {ps : List Str} {sp : Sp} {dvs : List V} {ds : List Value} {E : XK} {x : Str} {es : List Expr} {ta : TA} (F : FnOkT X.prog X.w X.K X.mg X.base CX k f fd ps sp) (hr : Room k X.A) (hg : Gl X x) (hm : X.mg x = some (.ref f))
    (hk : PySem.W.keepIn X.K (.ref f) = true) (hb : Binds X.K fd ps ds) (hd : Vals dvs ds) (hx : Passes CX X E) (ha : PA X (e :: es) ta) (hdb : (x == ("__debug__" : Str)) = false := by decide)
    (he : starEach (e :: es) X.env = (false, eval e X.env) :: starEach es X.env := by rfl) (hpl : (backTo pos (starEach es X.env)).any (·.1) = false := by rfl) : PET X (.Call (.Name x p) (e :: es) [] pos) (tCall sp dvs E ta) := by
  intro pins s σ H Q h0 I h
  refine wpAny_Call_Name_kw (ld_glob I hg hm ?_ hdb)
  refine PySem.W.callWith_K (h₀ := X.base) I.ok.mod.kin hk (thnT h0 (ha.run pos pins s σ H _ I h) fun us s1 h1 ⟨vs, H1, I1, r, q⟩ => ⟨I1.kIn, ?_⟩) he hpl
  have r2 : Vals (vs ++ dvs) (us ++ ds) := r.append hd
  have hl : (us ++ ds).length = ps.length := r2.length ▸ F.len _ _ _ _ q
  refine wpAny_call (codeAny_mono (F.run X.A X.stack s1 H1 ⟨us, []⟩ (us ++ ds) (vs ++ dvs) Q E h1 hr I1.env0 (hb s1 us I1.kIn hl) r2 q) fun res s2 hq => ?_)
  cases res with
  | error er => exact hx pins σ H1 s1 er s2 I1 hq
  | ok fl =>
    cases fl with
    | ret v => exact I1.after hq
    | next => exact False.elim hq
    | brk => exact False.elim hq
    | cont => exact False.elim hq
/-- for, its body wanting a token -/
theorem pst_forT {tg iter : Expr} {body : List Stmt} {wi : TI} {g : TG} {tb : TS} (hp : PassesOwn (model X.prog X.w) X.A X.env X.xe) (hc : X.calm = true) (hi : PI X tg iter wi) (hg : PG X tg g) (hb : PSsT X body tb)
    (hs : ∀ x, foldedSetIterable iter X.env x = pure x := by intro _; rfl) : PST X (.For tg iter body [] pos) (tFor wi g tb) := by
  intro pins s σ H D h0 I h
  refine wpAny_For (thnT h0 (hi.run pins s σ H _ I h) fun v sa ha h1 => thnT ha h1 fun itv sb hb2 h2 => ?_) hs
  obtain ⟨it, fp, tn, Jf, Hb, e, Ib, T, stb, fb, W, ⟨n0, wn0⟩, turn⟩ := h2
  subst e
  have fix : ∀ {G : Hp}, (∀ c ∈ fp, G c = none) → ∀ c ∈ fp, FpOk X pins G c := fun hn c hcm => ⟨hn c hcm, (fb c hcm).2⟩
  refine codeAny_forLoop_any (fun n s' => 1 ≤ s'.toks ∧ ∃ i τ G, Inv X pins τ G s' ∧ tn i s'.heap ∧ (∀ c ∈ fp, G c = none) ∧ W i n τ G) ?_ n0 ⟨hb2, 0, σ, Hb, Ib, stb, fun c hcm => (fb c hcm).1, wn0⟩
  rintro n sc ⟨hto, i, τ, G, Ic, stc, frc, wc⟩
  rcases turn i n τ G wc with ⟨stop, qn⟩ | ⟨go, N, hN, step⟩
  · refine wpAny_passesOwn hp (thn (T.done X rfl rfl rfl hc i pins sc τ G X.xe Ic (fix frc) stc stop) fun r sd hd => ?_)
    obtain ⟨rfl, Id⟩ := hd
    exact wpAny_execs_nil ⟨τ, G, Id, qn⟩
  · refine wpAny_passesOwn hp (thnT hto (T.item X rfl rfl rfl hc i pins sc τ G X.xe Ic (fix frc) stc go) fun r sd td hd => ?_)
    obtain ⟨w, rfl, hd⟩ := hd
    refine wpAny_passesOwn hp (thnT td hd fun _ se te he => ?_)
    obtain ⟨y, Ge, Ie, re, ye, ste, fre⟩ := he
    have Ip := Ie.pinned (fix fre) (T.obj _ _ ste)
    refine wpAny_passesOwn hp (thnT te (hg.run _ se τ Ge y w _ Ip re (step y Ge ye)) fun _ sf tf hf => ?_)
    obtain ⟨τf, Gf, If, qf⟩ := hf
    refine wpAny_passesOwn hp (thnT tf (hb _ sf τf Gf _ tf If qf) fun fl sg tg2 qg => ?_)
    have back : ∀ {τg : L2.St} {Gg : Hp}, Inv X (pins ++ pinsAt fp se.heap) τg Gg sg → N τg Gg → ∃ m, m < n ∧ (1 ≤ sg.toks ∧ ∃ i τ' G', Inv X pins τ' G' sg ∧ tn i sg.heap ∧ (∀ c ∈ fp, G' c = none) ∧ W i m τ' G') := fun {τg Gg} Ig ng => by
      obtain ⟨m, hm, wm⟩ := hN τg Gg ng
      have pinned : ∀ c ∈ fp, ∀ o, se.heap.get? c = some o → sg.heap.get? c = some o ∧ Gg c = none := fun c hcm o eo => by
        have z := Ig.pin (c, o) (List.mem_append_right _ (List.mem_append_right _ (mem_pinsAt hcm eo)))
        exact ⟨z.1, z.2.1⟩
      refine ⟨m, hm, tg2, i + 1, τg, Gg, Ig.unpinned, T.keep _ _ _ ste fun c hcm o eo => (pinned c hcm o eo).1, fun c hcm => ?_, wm⟩
      obtain ⟨o, eo, _⟩ := T.obj _ _ ste c hcm
      exact (pinned c hcm o eo).2
    cases fl with
    | next =>
      obtain ⟨τg, Gg, Ig, ng⟩ := qg
      exact back Ig ng
    | cont =>
      obtain ⟨τg, Gg, Ig, ng⟩ := qg
      exact back Ig ng
    | brk =>
      obtain ⟨τg, Gg, Ig, qz⟩ := qg
      exact ⟨τg, Gg, Ig.unpinned, qz⟩
    | ret v =>
      obtain ⟨xv, τg, Gg, Ig, rv, qz⟩ := qg
      exact ⟨xv, τg, Gg, Ig.unpinned, rv, qz⟩
end
end Own
set_option Elab.async false
set_option linter.all false
set_option maxRecDepth 100000
set_option maxHeartbeats 4000000
namespace Own
open PySem PySem.Spec PyProof.Rows L2
/-! ### enumerate over a tuple, and over what is a list or a tuple -/
section
open PySem (wpAny_stack_any)
theorem meets_enum1 {v : Value} {o : Obj} {G : Heap → Prop} (B : Begins v o G) :
    Meets (Builtin.«enumerate.__new__» ⟨[.type "enumerate", v], []⟩) (fun _ R s => G s.heap ∧
      R (.ok (.ret (.ref (s.heap.push o).objs.size))) { s with heap := (s.heap.push o).push { cls := .type "enumerate", data := .fields #[.none, .bool false, .ref s.heap.objs.size, rawInt 0, .none, .none] } }) := by
  refine Meets.of_wp fun prog w A R s h => ?_
  obtain ⟨hp, gg, dd, tk, os⟩ := s
  obtain ⟨hG, hR⟩ := h
  have hsub := sub_enumerate
  have q1 : ∀ {A2 : Around} {E : Value → Shared → Prop} {Q : Value → Shared → Prop}, Q (.ref hp.objs.size) ⟨hp.push o, gg, dd, tk, os⟩ → wpAny (model prog w) A2 (pyIter v) Q E ⟨hp, gg, dd, tk, os⟩ := fun q => B.iter prog w _ _ ⟨hp, gg, dd, tk, os⟩ _ hG q
  wp_walk using q1
  refine wpAny_stack_any fun st => wpAny_pure ?_
  split
  · rename_i c _ _ _ _ _
    cases (c == Value.type "enumerate") with
    | false => wp_walk using q1; exact ⟨_, rfl, hR⟩
    | true => wp_walk using q1; exact ⟨_, rfl, hR⟩
  · wp_walk using q1
    exact ⟨_, rfl, hR⟩
theorem call_enum_tuple {prog : Program} {w : World} {A : Around} {E : Value → Shared → Prop} {s : Shared} {l : Addr} {items : Array Value} {Q : Value → Shared → Prop} (hT : s.heap.IsTuple l items)
    (h : ∀ h', IsEnum h' (s.heap.objs.size + 1) s.heap.objs.size 0 .none → h'.IsTupleIter s.heap.objs.size l 0 → (∀ b o, s.heap.get? b = some o → h'.get? b = some o) → Q (.ref (s.heap.objs.size + 1)) { s with heap := h' }) :
    wpAny (model prog w) A (call (.type "enumerate") [.ref l]) Q E s := by
  refine callType_new F.called_enumerate (by decide) (F.typeCall_enumerate_1 _) (F.newCall_enumerate_1 _) (fun obj => F.args_object_init_2 obj _) F.entry_enumerate_new (meets_enum1 (begins_tuple l items)) ⟨hT, ?_⟩
  have hz : (s.heap.push { cls := .type "tuple_iterator", data := .fields #[.ref l, .int 0 0] }).objs.size = s.heap.objs.size + 1 := Heap.size_push ..
  show _ ∧ _
  rw [hz]
  have atE := Heap.get?_push_size (s.heap.push { cls := .type "tuple_iterator", data := .fields #[.ref l, .int 0 0] }) (o := { cls := .type "enumerate", data := .fields #[.none, .bool false, .ref s.heap.objs.size, rawInt 0, .none, .none] }) rfl
  rw [hz] at atE
  exact ⟨⟨_, atE, rfl⟩, h _ atE ⟨_, Heap.get?_push_of_some _ (Heap.get?_push_size _ rfl), rfl, rfl⟩ fun b o x => Heap.get?_push_of_some _ (Heap.get?_push_of_some _ x)⟩
end
theorem next_enum_tupEnd {prog : Program} {w : World} {A : Around} {E : Value → Shared → Prop} {s : Shared} {e it l : Addr} {i : Nat} {items : Array Value} {old : Value} {Q : Option Value → Shared → Prop} (hh : A.handled = none)
    (he : IsEnum s.heap e it i old) (hit : s.heap.IsTupleIter it l i) (hl : s.heap.IsTuple l items) (hx : items[i]? = none) (hQ : ∀ h', Heap.ExtBut it s.heap h' → Q none { s with heap := h' }) : wpAny (model prog w) A (pyNext (.ref e)) Q E s := by
  have ty : s.TypeIs (.ref e) "enumerate" := ⟨_, he, rfl⟩
  unfold pyNext
  refine wpAny_bind (wpAny_attempt (wpAny_callSpecial?_slot (name := Str.ofString "__next__") ty F.slot_enumerate_next (wpAny_call_entry F.slot_enumerate_next ty F.entry_enumerate_next ?_ (F.args_enumerate_next_1 _))))
  show wpAny _ _ (field (.ref e) 2 >>= _) _ _ s
  refine wpAny_bind (wpAny_field he rfl (x := .ref it) rfl (wpAny_bind (wpAny_nextOf_tuple_end (show A.in1.handled = none from hh) hit hl hx fun h1 x he1 hx1 => ?_)))
  obtain ⟨o, ho, hc⟩ := hx1
  exact wpAny_bind (wpAny_isInstance (T := "StopIteration") (b := true) ⟨o, ho, hc⟩ isSubtype_stop (wpAny_pure (hQ _ he1)))
def IteT (K : PySem.W.Frag) (a : Addr) : It :=
  ⟨fun i H => ∃ (xs : List V) (x : V), SqT K H a xs ∧ xs[i]? = some x, fun i H v H' => ∃ T x, v = .ref T ∧ H T = none ∧ H' = L2.upd H T (.tup [.int (i : Nat), x]) ∧ ∀ xs, SqT K H a xs → xs[i]? = some x, fun i H => ∃ xs : List V, SqT K H a xs ∧ xs.length ≤ i⟩
theorem turn_enumT {P : Program} {w : World} {K : PySem.W.Frag} {elts : List Expr} {kk : Nat} {tpos : Pos} (a e it : Addr) :
    Turn P w K (.Tuple elts kk tpos) (IteT K a) [e, it] e (fun i h => (∃ old, IsEnum h e it ((i : Nat) : Int) old) ∧ h.IsTupleIter it a i ∧ e ≠ it) := by
  have two : ∀ {b : Addr}, b ∈ [e, it] → b = e ∨ b = it := fun hb => by simpa using hb
  refine ⟨by simp, fun i h st b hb => ?_, fun i h h' st k => ?_, ?_, ?_, fun A i s Q E st h => ?_⟩
  · obtain ⟨⟨old, he⟩, ⟨o, ho, hc, hd⟩, _⟩ := st
    cases two hb with
    | inl z => subst z; exact ⟨_, he, fun v q => nomatch q⟩
    | inr z => subst z; exact ⟨o, ho, fun v q => by rw [hd] at q; cases q⟩
  · obtain ⟨⟨old, he⟩, hi, hne⟩ := st
    exact ⟨⟨old, k e (by simp) _ he⟩, hi.at fun o q => k it (by simp) o q, hne⟩
  · intro X hP hw hK hc i pins s σ H E I hf st hg
    subst hP hw hK
    obtain ⟨⟨old, he⟩, hit, hne⟩ := st
    obtain ⟨xs, x, hq, hx⟩ := hg
    obtain ⟨its, rv, p, hz⟩ := I.tuple hq
    have pT : s.heap.IsTuple a its.toArray := p
    have eN : e ≠ a := fun z => by
      obtain ⟨o, ho, hcl, _⟩ := pT
      subst z
      rw [he] at ho
      cases ho
      injection hcl with q
      revert q
      decide
    have iN : a ≠ it := fun z => by
      obtain ⟨o, ho, hcl, _⟩ := pT
      obtain ⟨o2, ho2, hcl2, _⟩ := hit
      subst z
      rw [ho] at ho2
      cases ho2
      rw [hcl] at hcl2
      injection hcl2 with q
      revert q
      decide
    have el : e < s.heap.objs.size := Heap.lt_size he
    have il : it < s.heap.objs.size := by
      obtain ⟨_, q, _⟩ := hit
      exact Heap.lt_size q
    have hlen := (List.getElem?_eq_some_iff.mp hx).1
    have hn := rv.length
    refine wpAny_pyNext_enum_itemC (Draws.tuple (A := X.A.in1) (show X.A.in1.handled = none from I.ok.hd hc) it a iN its.toArray) he ⟨hit, pT⟩ (by simp; omega) hne (by simp [hne, eN]) fun u h1 tk hu ho hst hT hsz hk => ?_
    refine ⟨_, rfl, wpAny_letOwnedTupleGo_enum (s := { s with heap := h1, toks := tk + 1 }) ho fun h2 he2 sb => ?_⟩
    have hT2 : h2.get? s.heap.objs.size = some { cls := .type "tuple", data := .seq #[.int i tk, u] } := (sb.2 _ (Nat.ne_of_gt el)).trans hT
    have ru : RelV x u := by
      obtain ⟨u2, hu2, r2⟩ := rv.get hx
      have : its.toArray[i]? = its[i]? := by simp
      rw [this, hu2] at hu
      cases hu
      exact r2
    have I1 : Inv X pins σ (L2.upd H s.heap.objs.size (.tup [.int (i : Nat), x])) { s with heap := h2, toks := tk + 1 } :=
      I.turnedNew (ch := [e, it]) (fun b ob hb q => (sb.2 b (fun z => hb (by simp [z]))).trans (hk b ob (fun z => hb (by simp [z])) (fun z => hb (by simp [z])) q)) hf (Nat.le_refl _)
        ⟨by show 2 ≤ sizeLine; decide, [.int i tk, u], .cons ⟨_, rfl⟩ (.cons ru .nil), ⟨_, hT2, rfl, _, rfl⟩⟩
    refine ⟨.ref s.heap.objs.size, _, I1, rfl, ⟨_, x, rfl, I.hok.fresh (Nat.le_refl _), rfl, fun ys hy => by rw [I.tuple_inj hy hq]; exact hx⟩, ⟨⟨u, ?_⟩, hst.1.at fun o q => (sb.2 it (Ne.symm hne)).trans q, hne⟩, fun b hb => ?_⟩
    · have e1 : ((i + 1 : Nat) : Int) = (i : Int) + 1 := by omega
      rw [e1]
      exact he2
    · have lt : b < s.heap.objs.size := by
        cases two hb with
        | inl z => subst z; exact el
        | inr z => subst z; exact il
      rw [upd_ne (Nat.ne_of_lt lt)]
      exact (hf b hb).1
  · intro X hP hw hK hc i pins s σ H E I hf st hg
    subst hP hw hK
    obtain ⟨⟨old, he⟩, hit, hne⟩ := st
    obtain ⟨xs, hq, hx⟩ := hg
    obtain ⟨its, rv, p, hz⟩ := I.tuple hq
    obtain ⟨f0, f1, f2, f3, f4, f5⟩ := hf it (by simp)
    have pT : s.heap.IsTuple a its.toArray := p
    have hl := rv.length
    exact next_enum_tupEnd (I.ok.hd hc) he hit pT (by simp; omega) fun h1 eb => ⟨rfl, I.turned (t' := s.toks) (fun b o hb q => eb b o hb q) f0 f1 f3 f4 f5⟩
  · obtain ⟨⟨old, he⟩, _⟩ := st
    exact wpAny_pyIter_enum he h
/-- enumerate(e), e a list or a tuple -/
def iEnumS (K : PySem.W.Frag) (ta : TA) : TI := fun σ H R => ta σ H fun vs H1 => ∃ a, vs = [.ref a] ∧ ((∃ xs, SqL K H1 a xs ∧ R (Ite K a) H1) ∨ ∃ xs, SqT K H1 a xs ∧ R (IteT K a) H1)
theorem pi_enumS {X : Cx} {e : Expr} {ta : TA} {p pos tpos : Pos} {elts : List Expr} {kk : Nat} (hg : Gl X "enumerate") (hm : X.mg "enumerate" = none) (ha : PA X [e] ta) (hs : starEach [e] X.env = [(false, eval e X.env)] := by rfl) :
    PI X (.Tuple elts kk tpos) (.Call (.Name "enumerate" p) [e] [] pos) (iEnumS X.K ta) := by
  refine ⟨fun pins s σ H R I h => ?_⟩
  refine Call_ (ld_blt I hg hm boot_enumerate (PyProof.Rows.callWith_type1 (thn (ha.run pos pins s σ H _ I h) fun us s1 h1 => ?_) hs rfl))
  obtain ⟨vs, H1, I1, r1, a, rfl, q⟩ := h1
  match us, r1 with
  | [_], .cons r .nil =>
    cases r
    have low : ∀ b ∈ [s1.heap.objs.size + 1, s1.heap.objs.size], s1.heap.objs.size ≤ b := fun b hb => by
      have : b = s1.heap.objs.size + 1 ∨ b = s1.heap.objs.size := by simpa using hb
      omega
    rcases q with ⟨xs, hq, q⟩ | ⟨xs, hq, q⟩
    · obtain ⟨its, rv, pl, hz⟩ := I1.list hq
      refine call_enumerate_list pl.isList fun h2 he hit hsz hk => wpAny_pyIter_enum he ?_
      exact ⟨s1.heap.objs.size + 1, [s1.heap.objs.size + 1, s1.heap.objs.size], _, _, H1, rfl, I1.kept (t' := s1.toks) hk, turn_enum a _ _, ⟨⟨.none, he⟩, hit, Nat.succ_ne_self _⟩, fun b hb => I1.fpOk (low b hb) (I1.hok.fresh (low b hb)), q⟩
    · obtain ⟨its, rv, pl, hz⟩ := I1.tuple hq
      refine call_enum_tuple (show s1.heap.IsTuple a its.toArray from pl) fun h2 he hit hk => wpAny_pyIter_enum he ?_
      exact ⟨s1.heap.objs.size + 1, [s1.heap.objs.size + 1, s1.heap.objs.size], _, _, H1, rfl, I1.kept (t' := s1.toks) hk, turn_enumT a _ _, ⟨⟨.none, he⟩, hit, Nat.succ_ne_self _⟩, fun b hb => I1.fpOk (low b hb) (I1.hok.fresh (low b hb)), q⟩
theorem walk_enumT {K : PySem.W.Frag} {a : Addr} {xs : List V} : Walk (IteT K a) xs.length (fun H => SqT K H a xs) (YPair (fun i => some (.int (i : Nat))) (fun i => xs[i]?)) := by
  refine ⟨fun i _ hi q => ⟨xs, xs[i], q, by simp [hi]⟩, fun _ q => ⟨xs, q, Nat.le_refl _⟩, fun i H v H' _ q y => ?_⟩
  obtain ⟨T, x, e1, e2, e3, e4⟩ := y
  exact ⟨T, _, x, e1, e2, e3, rfl, e4 xs q⟩
end Own
set_option Elab.async false
set_option linter.all false
set_option maxRecDepth 100000
set_option maxHeartbeats 4000000
namespace Own
open PySem PySem.Spec PyProof.Rows L2 LamX
/-! ### f(k = v, ..), all by keywords -/
section
variable {X : Cx} {CX : CXT} {k : Nat} {f : Addr} {fd : FuncData} {ps ks : List Str} {sp : Sp} {E : XK} {x : Str} {p pos : Pos} {kws : List Keyword} {tk : TA} {g : List Value → List Value → List Value} {gV : List V → List V → List V}
def tCallK0 (m : Nat) (sp : Sp) (gV : List V → List V → List V) (E : XK) (tk : TA) : TE := fun σ H Q => tk σ H fun zs H2 => zs.length = m ∧ sp (gV [] zs) H2 Q E
theorem pe_kw0 (F : FnOk X.prog X.w X.K X.mg X.base CX k f fd ps sp) (hr : Room k X.A) (hg : Gl X x) (hm : X.mg x = some (.ref f)) (hk : PySem.W.keepIn X.K (.ref f) = true) (hb : KBn X.K fd ps 0 ks g gV) (hx : Passes CX X E) (hkw : PK X kws tk)
    (hall : (backToKw pos (keywordEach kws X.env)).all (·.1.isSome) = true := by rfl) (hks : (backToKw pos (keywordEach kws X.env)).filterMap (·.1) = ks := by rfl) (hdb : (x == ("__debug__" : Str)) = false := by decide)
    (hpl : ((backTo pos (starEach [] X.env)).any (·.1) || (backToKw pos (keywordEach kws X.env)).any (·.1.isNone)) = false := by rfl) : PE X (.Call (.Name x p) [] kws pos) (tCallK0 ks.length sp gV E tk) := by
  constructor
  intro pins s σ H Q I h
  refine wpAny_Call_Name_kw (ld_glob I hg hm (PySem.W.callWith_KW0 (h₀ := X.base) I.ok.mod.kin hk hall (thn (hkw.run pos pins s σ H _ I h) fun ws s2 ⟨zs, H2, I2, rz, l2, q2⟩ => ⟨I2.kIn, ?_⟩) hpl) hdb)
  rw [hks]
  exact run_fnN (us := []) (vs := []) F hr hb hx I2 .nil rz rfl l2 q2
end
theorem kb_one {K : PySem.W.Frag} {x qual : Str} {params : Arguments} {body : List Stmt} {scope : Scope} {kws : List (Str × V)} {f : Addr} {fd : FuncData} {p : Str} (F : FunD K x qual params body scope [] kws f fd)
    (h : ∀ (kV doc pm : Value) (an : Option Addr) (cdv ct u : Value), bindArgs (PySem.W.fnOf x qual params body scope .none kV doc pm an cdv ct) ⟨[], [(p, u)]⟩ = pure [(p, u)]) : KBn K fd [p] 0 [p] (fun _ ws => ws) (fun _ zs => zs) := by
  obtain ⟨oc, od, dV, kV, doc, pm, an, cdv, ct, osl, rfl, lk, hcd, hD, hK⟩ := F.ex
  refine ⟨fun s us ws X l1 l2 => ?_, fun _ r => r⟩
  match us, ws, l1, l2 with
  | [], [u], _, _ =>
    rcases hD with ⟨_, rfl⟩ | ⟨e, _⟩
    · exact .of_eq (h kV doc pm an cdv ct u)
    · exact absurd rfl e
/-- len of a list, a tuple, the written part told by its own name -/
theorem call_lenK {X : Cx} {K : PySem.W.Frag} (hK : X.K = K) : CallR X (.builtin "len") (fun xs H Q => ∃ p ys, xs = [.ref p] ∧ (SqL K H p ys ∨ SqT K H p ys) ∧ Q (.int (List.length ys)) H) := by
  subst hK
  exact call_len_seq
end Own
set_option Elab.async false
set_option linter.all false
set_option maxRecDepth 100000
set_option maxHeartbeats 400000
namespace L2
open PySem PySem.Spec PyProof.Rows
/-! ### repr -/
/-- the text of a flat value -/
def flatT : V → Option Str
  | .non => some "None"
  | .bl b => some (if b then "True" else "False")
  | .int i => some (toString i)
  | _ => none
/-- repr of None, a truth value, a number -/
def rRepr0 : List V → Hp → VK → Prop := fun vs H Q => ∃ (x : V) (z : Str), vs = [x] ∧ flatT x = some z ∧ (∀ i, x = .int i → i.natAbs.log2 < 1920) ∧ Q (.str z) H
/-- repr of data of any depth, nothing being written just now -/
def rReprD (K : PySem.W.Frag) : List V → Hp → VK → Prop := fun vs H Q => ∃ (a : Addr) (d : PyData), vs = [.ref a] ∧ Dp K H (.ref a) d ∧ d.showable = true ∧ d.hasDict = false ∧ d.depth ≤ 64 ∧ d.shown.length ≤ sizeLine ∧ Q (.str d.shown) H
section
variable {X : Cx}
theorem call_repr0 : CallR X (.builtin "repr") rRepr0 := by
  intro pins s σ H xs us Q I r h
  obtain ⟨x, z, rfl, hz, hi, q⟩ := h
  obtain ⟨u, rfl, ru⟩ := vals1 r
  cases x with
  | non =>
    cases ru
    cases hz
    exact P.repr_of_none ⟨.str _, H, I.tok _, ⟨_, rfl⟩, q⟩
  | bl b =>
    cases ru
    cases hz
    exact P.repr_of_bool ⟨.str _, H, I.tok _, ⟨_, rfl⟩, q⟩
  | int i =>
    obtain ⟨t, rfl⟩ := ru
    cases hz
    exact P.repr_of_int (hi i rfl) ⟨.str _, H, I.tok _, ⟨_, rfl⟩, q⟩
  | str _ => cases hz
  | byt _ => cases hz
  | flt _ => cases hz
  | ref _ => cases hz
  | ty _ => cases hz
theorem call_reprD (hg : X.A.guards = some []) (hu : X.A.units + 100 < cLine) : CallR X (.builtin "repr") (rReprD X.K) := by
  intro pins s σ H xs us Q I r h
  obtain ⟨a, d, rfl, hd, h1, h2, h3, h4, q⟩ := h
  obtain ⟨u, rfl, ru⟩ := vals1 r
  cases ru
  obtain ⟨as, rd⟩ := Dp.reads I d _ _ hd rfl
  exact repr_of_reads' rd h1 (PyData.noDict_hsm h2) hg (by omega) (fun _ _ e => e) (fun h' u tk hk => ⟨.str _, H, I.kept (t' := tk) hk, ⟨u, rfl⟩, q⟩) h4
end
end L2
set_option Elab.async false
set_option linter.all false
set_option maxRecDepth 100000
set_option maxHeartbeats 400000
namespace Own
open PySem PySem.Spec PyProof.Rows L2 LamX
/-! ### a law that asks for the repr of lists: nothing is being written at its call -/
/-- a def's promise, kept where no repr is under way at its call -/
structure FnOkG (P : Program) (w : World) (K : PySem.W.Frag) (mg : Str → Option Value) (base : Heap) (CX : CXT) (k : Nat) (f : Addr) (fd : FuncData) (ps : List Str) (sp : Sp) : Prop where
  len : ∀ vs H Q E, sp vs H Q E → vs.length = ps.length
  run : ∀ (A : Around) (outer : List Env) (s : Shared) (H : Hp) (args : Args) (us : List Value) (vs : List V) (Q : VK) (E : XK), A.guards = some [] → Room k A → Env0 P w K mg base A outer s H → BindsTo s fd args (ps.zip us) → Vals vs us → sp vs H Q E →
    codeAny (model P w) A (.call (.ref f) args) (CR CX outer P w H s Q E) s
theorem FunD.okG {CX : CXT} {P : Program} {w : World} {K : PySem.W.Frag} {mg : Str → Option Value} {base : Heap} {x qual p : Str} {params : Arguments} {body : List Stmt} {scope : Scope} {dvs : List V} {kws : List (Str × V)} {f : Addr} {fd : FuncData} {N ps : List Str} {k : Nat} {sp : Sp}
    (F : FunD K x qual params body scope dvs kws f fd) (S : FnScope N (p :: ps) scope) (hp : scope.names.lookup p = some .local) (len : ∀ vs H Q E, sp vs H Q E → vs.length = (p :: ps).length)
    (hbody : ∀ (cdv : Value) (A : Around) (outer : List Env) (s : Shared) (H : Hp) (vs : List V) (Q : VK) (E : XK), (∃ (oc : Value) (od : Option Addr) (dV kV doc pm : Value) (an : Option Addr) (ct : Value) (osl : Array (Option Value)), K.lookup f = some ⟨oc, od, .func (PySem.W.fnOf x qual params body scope dV kV doc pm an cdv ct), osl⟩) → PySem.W.codeIn K cdv qual = true → (A.deeper (envOfC qual scope s.heap.objs.size f cdv)).guards = some [] →
      Room k (A.deeper (envOfC qual scope s.heap.objs.size f cdv)) → sp vs H Q E → ∃ t, PSsT (cxOf CX P w K mg base N qual scope f cdv A outer s H E) body t ∧ t { nx := fun _ H' => Q .non H', rt := Q } (start N vs) H) : FnOkG P w K mg base CX (k + 1) f fd (p :: ps) sp := by
  obtain ⟨oc, od, dV, kV, doc, pm, an, cdv, ct, osl, rfl, lk, hcd, _, _⟩ := F.ex
  refine ⟨len, fun A outer s H args us vs Q E hg hr e0 hb r hsp => ?_⟩
  have inH : K.In s.heap := e0.mod.kin.keeps fun b o e => (e0.bs b o e).1
  have hl := len _ _ _ _ hsp
  refine codeAny_call_function hr.depth (inH _ _ lk) rfl S.co S.gen rfl (PySem.W.codeRec_of inH hcd) (hb _ _ _ _ ?_)
  match us, r.length with
  | [], z => rw [z] at hl; cases hl
  | u :: us, _ =>
    refine newEnv_tok (n := p) (v := u) (r := ps.zip us) S.kind hp (fun y hy => kinds_of S _ (u :: us) y (List.mem_cons_of_mem _ hy)) fun env he s1 ht xx => ?_
    subst he
    exact ⟨(e0.mod.nolimit.keeps fun b o e => (e0.bs b o e).1).keeps xx.toInCall.keep, run_bodyT S hr e0 hl r xx ht (hbody _ _ _ _ _ _ _ _ ⟨_, _, _, _, _, _, _, _, _, lk⟩ hcd hg (hr.deeper _) hsp)⟩
/-! ### the end -/
section
variable {P : Program} {w : World} {K : PySem.W.Frag} {mg mb : Str → Option Value} {a : Addr} {T : List Addr} {h : Heap} {vs : List Value} {ns : List Int}
/-- the abstract heap at the law's call: the tables, and the script where it is not written -/
def H0 (K : PySem.W.Frag) (T : List Addr) (a : Addr) (vs : List Value) (ns : List Int) : Hp := fun b =>
  if b ∈ T then some (.tbl #[]) else if b = a ∧ K.lookup b = none then some (.frz { cls := .type "list", data := .seq vs.toArray } (.lst (ns.map V.int))) else none
theorem H0_tab {b : Addr} (hb : b ∈ T) : H0 K T a vs ns b = some (.tbl #[]) := if_pos hb
theorem H0_cases (b : Addr) : (b ∈ T ∧ H0 K T a vs ns b = some (.tbl #[])) ∨ (b ∉ T ∧ b = a ∧ K.lookup b = none ∧ H0 K T a vs ns b = some (.frz { cls := .type "list", data := .seq vs.toArray } (.lst (ns.map V.int)))) ∨ (b ∉ T ∧ ¬ (b = a ∧ K.lookup b = none) ∧ H0 K T a vs ns b = none) := by
  by_cases m : b ∈ T
  · exact .inl ⟨m, if_pos m⟩
  · by_cases e : b = a ∧ K.lookup b = none
    · exact .inr (.inl ⟨m, e.1, e.2, (if_neg m).trans (if_pos e)⟩)
    · exact .inr (.inr ⟨m, e, (if_neg m).trans (if_neg e)⟩)
/-- what is neither a plain list nor an empty record is not tracked -/
theorem H0_off {b : Addr} {o : Obj} (tab : ∀ b ∈ T, h.get? b = some { cls := .none, data := .fields #[] }) (ha : h.get? a = some { cls := .type "list", data := .seq vs.toArray }) (e : h.get? b = some o) (n1 : ∀ vs n, o.data ≠ .seq vs n) (n2 : o.data ≠ .fields #[]) : H0 K T a vs ns b = none := by
  rcases H0_cases (K := K) (T := T) (a := a) (vs := vs) (ns := ns) b with ⟨m, _⟩ | ⟨_, rfl, _, _⟩ | ⟨_, _, q⟩
  · have := e.symm.trans (tab b m)
    cases this
    exact absurd rfl n2
  · have := e.symm.trans ha
    cases this
    exact absurd rfl (n1 _ _)
  · exact q
theorem H0_ok (tab : ∀ b ∈ T, h.get? b = some { cls := .none, data := .fields #[] }) (ha : h.get? a = some { cls := .type "list", data := .seq vs.toArray }) (hi : IntsAre vs ns) (hl : ns.length ≤ sizeLine) : HOk P w (H0 K T a vs ns) h := by
  intro b u z
  rcases H0_cases (K := K) (T := T) (a := a) (vs := vs) (ns := ns) b with ⟨m, q⟩ | ⟨_, rfl, _, q⟩ | ⟨_, _, q⟩
  · cases q.symm.trans z
    exact tab b m
  · cases q.symm.trans z
    exact ⟨ha, by rw [List.length_map]; exact hl, vs, _, vals_ints hi, ha⟩
  · cases q.symm.trans z
theorem H0_list (nT : ∀ b ∈ T, h.get? b = some { cls := .none, data := .fields #[] }) (KX : K.In h) (ha : h.get? a = some { cls := .type "list", data := .seq vs.toArray }) (hi : IntsAre vs ns) (hl : ns.length ≤ sizeLine) : SqL K (H0 K T a vs ns) a (ns.map V.int) := by
  cases hk : K.lookup a with
  | some o =>
    cases (KX a o hk).symm.trans ha
    exact .inr ⟨_, vs.toArray, _, hk, rfl, rfl, rfl, by rw [List.size_toArray, hi.length]; exact hl, by simpa using vals_ints hi⟩
  | none =>
    have m : a ∉ T := fun m => by
      have := ha.symm.trans (nT a m)
      cases this
    exact .inl (.inr ⟨_, (if_neg m).trans (if_pos ⟨rfl, hk⟩)⟩)
end
section
variable {P : Program} {w : World} {K : PySem.W.Frag} {mg mb : Str → Option Value} {CX : CXT} {k : Nat} {fa a : Addr} {cs : List (Addr × Addr)} {fd : FuncData} {x : Str} {sp : Sp} {s₁ : Shared} {vs : List Value} {ns : List Int}
theorem law_callG (KX : K.In s₁.heap) (hns : s₁.heap.Ns mainGlobals mg) (hb : s₁.heap.Ns builtinsNs mb) (hbb : ∀ x : Str, x ≠ "__name__" → mb x = bootBuiltins x) (hlim : s₁.heap.NoLimit) (hg : s₁.gens = #[])
    (hT : ∀ p ∈ cs, s₁.heap.get? p.2 = some { cls := .none, data := .fields #[] }) (nT : ∀ p ∈ cs, K.lookup p.2 = none) (C : ∀ p ∈ cs, PySem.W.CodeHd s₁.heap p.1 p.2)
    (hbm : ∃ (bm : Addr) (ob : Obj), mg "__builtins__" = some (.ref bm) ∧ bm ≠ builtinsNs ∧ s₁.heap.get? bm = some ob ∧ ob.cls = .type "module" ∧ ob.dict = some builtinsNs ∧ ob.data = .plain)
    (ha : s₁.heap.get? a = some { cls := .type "list", data := .seq vs.toArray }) (hi : IntsAre vs ns) (hl : ns.length ≤ sizeLine) (hr : Room k callerA)
    (F : ∀ base : Heap, K.In base → base.Ns mainGlobals mg → (∀ p ∈ cs, TabB base mg p.1 p.2) → FnOkG P w K mg base CX k fa fd [x] sp) (hbind : ∀ (s : Shared) (u : Value), BindsTo s fd ⟨[u], []⟩ [(x, u)])
    (hsp : ∀ H : Hp, (∀ p ∈ cs, H p.2 = some (.tbl #[])) → SqL K H a (ns.map V.int) → sp [.ref a] H (fun v _ => v = .bl true) fun _ _ _ => False) (hCX : ∀ H e s', CX [] H s₁ (fun _ _ _ => False) e s' → False) :
    codeAny (model P w) callerA (.call (.ref fa) ⟨[.ref a], []⟩) (fun r s' => r = .ok (.ret (.bool true)) ∧ OldK s₁.heap s'.heap ∧ s'.os = s₁.os ∧ AllBare s'.gens) s₁ := by
  have tab : ∀ b ∈ cs.map (·.2), s₁.heap.get? b = some { cls := .none, data := .fields #[] } := fun b m => by
    obtain ⟨p, hp, rfl⟩ := List.mem_map.mp m
    exact hT p hp
  have here : ∀ p ∈ cs, H0 K (cs.map (·.2)) a vs ns p.2 = some (.tbl #[]) := fun p hp => H0_tab (List.mem_map.mpr ⟨p, hp, rfl⟩)
  have off : ∀ {b : Addr} {o : Obj}, s₁.heap.get? b = some o → (∀ vs n, o.data ≠ .seq vs n) → o.data ≠ .fields #[] → H0 K (cs.map (·.2)) a vs ns b = none := fun e n1 n2 => H0_off tab ha e n1 n2
  have kin : ∀ b o, K.lookup b = some o → H0 K (cs.map (·.2)) a vs ns b = none := fun b o e => by
    rcases H0_cases (K := K) (T := cs.map (·.2)) (a := a) (vs := vs) (ns := ns) b with ⟨m, _⟩ | ⟨_, _, n, _⟩ | ⟨_, _, q⟩
    · obtain ⟨p, hp, rfl⟩ := List.mem_map.mp m
      rw [nT p hp] at e
      cases e
    · rw [n] at e
      cases e
    · exact q
  have hok : HOk P w (H0 K (cs.map (·.2)) a vs ns) s₁.heap := H0_ok tab ha hi hl
  have old : ∀ {b : Addr} {o : Obj}, s₁.heap.get? b = some o → H0 K (cs.map (·.2)) a vs ns b ≠ none → (∃ p ∈ cs, b = p.2) ∨ ∃ ob xs, H0 K (cs.map (·.2)) a vs ns b = some (.frz ob (.lst xs)) := fun {b o} _ ne => by
    rcases H0_cases (K := K) (T := cs.map (·.2)) (a := a) (vs := vs) (ns := ns) b with ⟨m, _⟩ | ⟨_, _, _, q⟩ | ⟨_, _, q⟩
    · obtain ⟨p, hp, e⟩ := List.mem_map.mp m
      exact .inl ⟨p, hp, e.symm⟩
    · exact .inr ⟨_, _, q⟩
    · exact absurd q ne
  have lst := H0_list (K := K) (T := cs.map (·.2)) tab KX ha hi hl
  generalize H0 K (cs.map (·.2)) a vs ns = H at here off kin hok old lst
  have dic : ∀ {b : Addr} {m : Str → Option Value}, s₁.heap.Ns b m → (hidT s₁.heap H).Ns b m := fun {b m} z => by
    obtain ⟨o, es, ep, e, d, r⟩ := z
    exact ⟨o, es, ep, hidT_get e (off e (fun _ _ q => by rw [d] at q; cases q) fun q => by rw [d] at q; cases q), d, r⟩
  have kb : K.In (hidT s₁.heap H) := fun b o e => hidT_get (KX b o e) (kin b o e)
  have lim : (hidT s₁.heap H).NoLimit := by
    obtain ⟨mc, h1, h2⟩ := hlim
    exact ⟨mc, dic h1, h2⟩
  have tabs : ∀ p ∈ cs, TabB (hidT s₁.heap H) mg p.1 p.2 := fun p hp => by
    refine ⟨?_, ?_, fun z => ?_⟩
    · obtain ⟨o, us, file, tf, flags, tg, inF, text, tt, e1, r1, r2, r3, rs⟩ := C p hp
      refine ⟨o, us, file, tf, flags, tg, inF, text, tt, hidT_get e1 (off e1 (fun _ _ q => by rw [r2] at q; cases q) fun q => ?_), r1, r2, r3, rs⟩
      rw [r2] at q
      cases q
      simp at r3
    · obtain ⟨bm, ob, b1, b2, b3, b4, b5, b6⟩ := hbm
      refine ⟨bm, ob, b1, b2, fun q => ?_, fun q => ?_, hidT_get b3 (off b3 (fun _ _ q => by rw [b6] at q; cases q) fun q => by rw [b6] at q; cases q), b4, b5, b6⟩
      · obtain ⟨o, es, ep, e, hd, _⟩ := hns
        rw [q, e] at b3
        cases b3
        rw [hd] at b6
        cases b6
      · rw [q, hT p hp] at b3
        cases b3
        cases b6
    · obtain ⟨o, es, ep, e, hd, _⟩ := hns
      rw [z, hT p hp] at e
      cases e
      cases hd
  have env : Env0 P w K mg (hidT s₁.heap H) callerA [] s₁ H :=
    { frames := rfl, mod := ⟨kb, dic hns, ⟨mb, dic hb, hbb⟩, lim⟩, bs := fun b o e => of_hidT e, bsz := Nat.le_of_eq (hidT_size _ _), funs := trivial, frf := (fun b m => by cases m), hok := hok, bare := .of_eq hg }
  refine codeAny_mono ((F _ kb (dic hns) tabs).run callerA [] s₁ H ⟨[.ref a], []⟩ [.ref a] [.ref a] _ _ rfl hr env (hbind s₁ (.ref a)) (.cons rfl .nil) (hsp H here lst)) fun r s' z => ?_
  match r, z with
  | .error e, z => exact (hCX H e s' z).elim
  | .ok .next, z => exact False.elim z
  | .ok .brk, z => exact False.elim z
  | .ok .cont, z => exact False.elim z
  | .ok (.ret u), z =>
    obtain ⟨v, H', os, bare, un, hok', ru, rfl⟩ := z
    cases ru
    have more : ∀ p ∈ cs, ∃ m : Array Value, s'.heap.get? p.2 = some { cls := .none, data := .fields m } := fun p hp => by
      obtain ⟨m, z⟩ := un.tbls p.2 #[] (here p hp)
      exact ⟨_, hok' p.2 _ z⟩
    have rest : ∀ b o, s₁.heap.get? b = some o → (∀ p ∈ cs, b ≠ p.2) → s'.heap.get? b = some o := fun b o e nb => by
      by_cases q : H b = none
      · exact un.keep b o e q (by intro z; cases z) (by intro z; cases z)
      · rcases old e q with ⟨p, hp, z⟩ | ⟨ob, xs, z⟩
        · exact absurd z (nb p hp)
        · have z1 := (hok b _ z).1
          cases z1.symm.trans e
          exact (hok' b _ (un.frzs b _ _ z)).1
    refine ⟨rfl, ⟨fun b o e => ?_, fun b o e => ?_⟩, os, bare⟩
    · by_cases q : ∃ p ∈ cs, b = p.2
      · obtain ⟨p, hp, rfl⟩ := q
        obtain ⟨m, hm⟩ := more p hp
        cases (hT p hp).symm.trans e
        exact .inr (.inl ⟨((C p hp).tab (hT p hp)).isCodeTable, rfl, #[], m, rfl, by rw [Array.empty_append]; exact hm⟩)
      · exact .inl (rest b o e fun p hp z => q ⟨p, hp, z⟩)
    · by_cases q : ∃ p ∈ cs, b = p.2
      · obtain ⟨p, hp, rfl⟩ := q
        obtain ⟨m, hm⟩ := more p hp
        exact ⟨_, hm⟩
      · exact ⟨o, rest b o e fun p hp z => q ⟨p, hp, z⟩⟩
/-- what is known of the law's promise at the head's heap -/
def LawAtG (l : PySem.W.OpenLaw) (w : World) (K : PySem.W.Frag) (CX : CXT) (k n : Nat) (x : Str) (mg : Str → Option Value) (fa : Addr) (h : Heap) : Prop :=
  ∃ (fd : FuncData) (cs : List (Addr × Addr)) (sp : Sp), (∀ p ∈ cs, h.get? p.2 = some { cls := .none, data := .fields #[] }) ∧ (∀ p ∈ cs, K.lookup p.2 = none) ∧ (∀ p ∈ cs, PySem.W.CodeHd h p.1 p.2) ∧ (∀ (s : Shared) (u : Value), BindsTo s fd ⟨[u], []⟩ [(x, u)]) ∧
    (∀ (H : Hp) (a : Addr) (ns : List Int), ns.length ≤ n → (∀ z ∈ ns, Builtin.Int.intBits z ≤ 1048576) → (∀ p ∈ cs, H p.2 = some (.tbl #[])) → SqL K H a (ns.map V.int) → sp [.ref a] H (fun v _ => v = .bl true) fun _ _ _ => False) ∧
    ∀ base : Heap, K.In base → base.Ns mainGlobals mg → (∀ p ∈ cs, TabB base mg p.1 p.2) → FnOkG l.prog w K mg base CX k fa fd [x] sp
theorem walk_ofG {l : PySem.W.OpenLaw} {n k : Nat} {q : Program} {loose : List Str} {XP : (Str → Option Value) → Heap → Prop} {YP : World → Heap → Prop} {d : DefRec} {CX : World → CXT} {x : Str} (hn : l.most = some n) (hn2 : n ≤ sizeLine) (hdf : d.params.defaults = []) (hr : Room k callerA)
    (F : ∀ (w : World) (mg : Str → Option Value) (fa : Addr) (h : Heap), YP w h → h.Ns mainGlobals mg → mg d.name = some (.ref fa) → ∃ K : PySem.W.Frag, K.In h ∧ LawAtG l w K (CX w) k n x mg fa h)
    (hCX : ∀ (w : World) (H : Hp) (s : Shared) (e : Value) (s' : Shared), CX w [] H s (fun _ _ _ => False) e s' → False) : PySem.W.WalkO q loose XP YP l.row.toRowW d [] (fun f vs => PySem.call f vs) := by
  refine Att.attach_callB hn hdf fun w s₀ s₁ mg mb fa o pm cd doc a vs ns G Y ho hd hcd hmg hobj hints hlen hbits hg => ?_
  obtain ⟨K, KX, fd, cs, sp, hT, nT, C, hb, hsp, hF⟩ := F w mg fa _ Y G.T.g hmg
  exact law_callG KX G.T.g G.T.b G.T.builtins G.T.nolimit hg hT nT C G.T.bmain hobj hints (Nat.le_trans hlen hn2) hr hF hb (fun H hH hS => hsp H a ns hlen hbits hH hS) fun H e s' => hCX w H s₁ e s'
end
end Own
set_option Elab.async false
set_option linter.all false
set_option maxRecDepth 100000
set_option maxHeartbeats 400000
namespace Own
open PySem PySem.Spec PyProof.Rows L2
/-! ### two lists, item by item -/
inductive F2 {α β : Type} (R : α → β → Prop) : List α → List β → Prop
  | nil : F2 R [] []
  | cons {a : α} {b : β} {as : List α} {bs : List β} : R a b → F2 R as bs → F2 R (a :: as) (b :: bs)
section
variable {α β : Type} {R R' : α → β → Prop}
theorem F2.mono (h : ∀ a b, R a b → R' a b) : ∀ {as : List α} {bs : List β}, F2 R as bs → F2 R' as bs
  | _, _, .nil => .nil
  | _, _, .cons h1 h2 => .cons (h _ _ h1) (h2.mono h)
theorem F2.snoc : ∀ {as : List α} {bs : List β} {a : α} {b : β}, F2 R as bs → R a b → F2 R (as ++ [a]) (bs ++ [b])
  | _, _, _, _, .nil, h => .cons h .nil
  | _, _, _, _, .cons h1 h2, h => .cons h1 (h2.snoc h)
theorem F2.app : ∀ {as as' : List α} {bs bs' : List β}, F2 R as bs → F2 R as' bs' → F2 R (as ++ as') (bs ++ bs')
  | _, _, _, _, .nil, h => h
  | _, _, _, _, .cons h1 h2, h => .cons h1 (h2.app h)
theorem F2.len : ∀ {as : List α} {bs : List β}, F2 R as bs → as.length = bs.length
  | _, _, .nil => rfl
  | _, _, .cons _ h => congrArg (· + 1) h.len
theorem F2.at_ : ∀ {as : List α} {bs : List β} {i : Nat} {a : α}, F2 R as bs → as[i]? = some a → ∃ b, bs[i]? = some b ∧ R a b
  | _, _, 0, _, .cons h _, e => by cases e; exact ⟨_, rfl, h⟩
  | _, _, i + 1, _, .cons _ h, e => h.at_ (i := i) e
theorem F2.at' : ∀ {as : List α} {bs : List β} {i : Nat} {b : β}, F2 R as bs → bs[i]? = some b → ∃ a, as[i]? = some a ∧ R a b
  | _, _, 0, _, .cons h _, e => by cases e; exact ⟨_, rfl, h⟩
  | _, _, i + 1, _, .cons _ h, e => h.at' (i := i) e
theorem F2.left : ∀ {as : List α} {bs : List β} {a : α}, F2 R as bs → a ∈ as → ∃ b ∈ bs, R a b
  | _, _, _, .cons h r, m => by
    rcases List.mem_cons.mp m with rfl | m
    · exact ⟨_, List.mem_cons_self, h⟩
    · obtain ⟨b, hb, q⟩ := r.left m
      exact ⟨b, List.mem_cons_of_mem _ hb, q⟩
theorem F2.right : ∀ {as : List α} {bs : List β} {b : β}, F2 R as bs → b ∈ bs → ∃ a ∈ as, R a b
  | _, _, _, .cons h r, m => by
    rcases List.mem_cons.mp m with rfl | m
    · exact ⟨_, List.mem_cons_self, h⟩
    · obtain ⟨a, ha, q⟩ := r.right m
      exact ⟨a, List.mem_cons_of_mem _ ha, q⟩
theorem F2.map_eq {f : β → α} : ∀ {as : List α} {bs : List β}, F2 (fun a b => a = f b) as bs → as = bs.map f
  | _, _, .nil => rfl
  | _, _, .cons h r => by rw [h, r.map_eq]; rfl
theorem F2.of_map {f : β → α} : ∀ {bs : List β}, (∀ b ∈ bs, R (f b) b) → F2 R (bs.map f) bs
  | [], _ => .nil
  | b :: bs, h => .cons (h b List.mem_cons_self) (F2.of_map fun c hc => h c (List.mem_cons_of_mem _ hc))
/-- the left one rearranged: so is the right one -/
theorem F2.perm {as as' : List α} (p : as'.Perm as) : ∀ {bs : List β}, F2 R as bs → ∃ bs', bs'.Perm bs ∧ F2 R as' bs' := by
  induction p with
  | nil => intro bs h; cases h; exact ⟨[], .nil, .nil⟩
  | cons x p ih =>
    intro bs h
    cases h with
    | cons h1 h2 =>
      obtain ⟨b, pb, q⟩ := ih h2
      exact ⟨_ :: b, pb.cons _, .cons h1 q⟩
  | swap x y l =>
    intro bs h
    cases h with
    | cons h1 h2 =>
      cases h2 with
      | cons h3 h4 => exact ⟨_, .swap _ _ _, .cons h3 (.cons h1 h4)⟩
  | trans p1 p2 ih1 ih2 =>
    intro bs h
    obtain ⟨b1, q1, f1⟩ := ih2 h
    obtain ⟨b2, q2, f2⟩ := ih1 f1
    exact ⟨b2, q2.trans q1, f2⟩
end
theorem take_snoc {α : Type} {l : List α} {i : Nat} {x : α} (h : l[i]? = some x) : l.take (i + 1) = l.take i ++ [x] := by
  rw [List.take_succ, h]
  rfl
theorem same_upd {H : Hp} {a : Addr} {o : HO} (h : H a = none) : Same H (L2.upd H a o) := fun b u e => by
  rw [upd_ne (ne_of_none e h)]
  exact e
/-! ### comprehensions that change nothing but what they make -/
section
variable {It0 : It} {G : Hp → Prop} {Y : Nat → Hp → V → Hp → Prop} {tt : TT} {te : TE} {m : Nat} {σ : L2.St} {H1 : Hp} {D : Addr} {Qd : Hp → Prop}
/-- what is made stands to c x as rel says -/
theorem lc_rel {β : Type} {xs : List V} {p : V → Bool} {c : V → β} {rel : Hp → V → β → Prop} (w : Walk It0 xs.length G (YAt xs)) (hD : H1 D = none) (hz : xs.length < sizeLine) (hG : ∀ H', Same H1 H' → G H') (rs : ∀ {H H' y b}, Same H H' → rel H y b → rel H' y b)
    (ru : ∀ {H y b l}, H D = some (.lst l) → rel H y b → ∀ l', rel (upd H D (.lst l')) y b)
    (h2 : ∀ v, wipe ((wipe σ [m]).set m (some v)) [m] = wipe σ [m])
    (ht : ∀ x H', x ∈ xs → Same H1 H' → ∀ R : Bool → Hp → Prop, (∀ H'', Same H' H'' → R (p x) H'') → tt ((wipe σ [m]).set m (some x)) H' R)
    (he : ∀ x H', x ∈ xs → p x = true → Same H1 H' → ∀ R : V → Hp → Prop, (∀ y H'', Same H' H'' → rel H'' y (c x) → R y H'') → te ((wipe σ [m]).set m (some x)) H' R)
    (hd : ∀ H' ys, Same H1 H' → H' D = some (.lst ys) → F2 (rel H') ys ((xs.filter p).map c) → Qd H') :
    ∃ W : Nat → Nat → Hp → Prop, (∃ m, W 0 m (upd H1 D (.lst []))) ∧ ∀ i k H, W i k H →
      (It0.stop i H ∧ Qd H) ∨ (It0.go i H ∧ ∃ Nx : Hp → Prop, (∀ H', Nx H' → ∃ k', k' < k ∧ W (i + 1) k' H') ∧ ∀ x H', It0.yld i H x H' → gName m x (wipe σ [m]) H' fun σ2 H2 => wipe σ2 [m] = wipe σ [m] ∧ tt σ2 H2 fun b H3 =>
        if b = true then te σ2 H3 fun y H4 => ∃ acc, H4 D = some (.lst acc) ∧ acc.length < sizeLine ∧ Nx (upd H4 D (.lst (acc ++ [y]))) else Nx H3) := by
  refine lc_it w (fun i H => Same H1 H ∧ ∃ ys, H D = some (.lst ys) ∧ F2 (rel H) ys (((xs.take i).filter p).map c)) ⟨same_upd hD, [], upd_same, .nil⟩ (fun i H _ q => hG H q.1) ?_ ?_
  · rintro i x H H' hi ⟨sH, ys, eD, f⟩ ⟨rfl, hx⟩
    have mx : x ∈ xs := List.mem_of_getElem? hx
    have et := take_snoc hx
    refine ⟨h2 x, ht x H' mx sH _ fun H2 s2 => ?_⟩
    cases e : p x with
    | false =>
      rw [if_neg Bool.false_ne_true]
      refine ⟨sH.trans s2, ys, s2 _ _ eD, ?_⟩
      rw [et, List.filter_append, List.filter_cons_of_neg (by rw [e]; exact Bool.false_ne_true), List.filter_nil, List.append_nil]
      exact f.mono fun _ _ q => rs s2 q
    | true =>
      rw [if_pos rfl]
      refine he x H2 mx e (sH.trans s2) _ fun y H3 s3 ry => ?_
      have e3 := s3 _ _ (s2 _ _ eD)
      refine ⟨ys, e3, ?_, ?_⟩
      · have l1 := f.len
        rw [List.length_map] at l1
        have l2 := List.length_filter_le p (xs.take i)
        rw [List.length_take] at l2
        omega
      · refine ⟨fun b o hb => ?_, ys ++ [y], upd_same, ?_⟩
        · have nb : b ≠ D := fun z => by rw [z, hD] at hb; cases hb
          rw [upd_ne nb]
          exact s3 _ _ (s2 _ _ (sH _ _ hb))
        · rw [et, List.filter_append, List.filter_cons_of_pos e, List.filter_nil, List.map_append]
          exact (f.mono fun _ _ q => ru e3 (rs s3 (rs s2 q)) _).snoc (ru e3 ry _)
  · rintro H ⟨sH, ys, eD, f⟩
    rw [List.take_length] at f
    exact hd H ys sH eD f
/-- a filter -/
theorem lc_filt {xs : List V} {p : V → Bool} (w : Walk It0 xs.length G (YAt xs)) (hD : H1 D = none) (hz : xs.length < sizeLine) (hG : ∀ H', Same H1 H' → G H') (hm : m < σ.length)
    (ht : ∀ x H', x ∈ xs → Same H1 H' → ∀ R : Bool → Hp → Prop, (∀ H'', Same H' H'' → R (p x) H'') → tt ((wipe σ [m]).set m (some x)) H' R)
    (hd : ∀ H', Same H1 H' → H' D = some (.lst (xs.filter p)) → Qd H') :
    ∃ W : Nat → Nat → Hp → Prop, (∃ m, W 0 m (upd H1 D (.lst []))) ∧ ∀ i k H, W i k H →
      (It0.stop i H ∧ Qd H) ∨ (It0.go i H ∧ ∃ Nx : Hp → Prop, (∀ H', Nx H' → ∃ k', k' < k ∧ W (i + 1) k' H') ∧ ∀ x H', It0.yld i H x H' → gName m x (wipe σ [m]) H' fun σ2 H2 => wipe σ2 [m] = wipe σ [m] ∧ tt σ2 H2 fun b H3 =>
        if b = true then tVar m σ2 H3 fun y H4 => ∃ acc, H4 D = some (.lst acc) ∧ acc.length < sizeLine ∧ Nx (upd H4 D (.lst (acc ++ [y]))) else Nx H3) := by
  refine lc_rel (p := p) (c := fun x => x) (rel := fun _ y x => y = x) w hD hz hG (fun _ q => q) (fun _ q _ => q) (fun v => ?_) ht (fun x H' mx _ _ R k => ⟨x, ?_, k x H' (Same.refl _) rfl⟩) fun H' ys sH eD f => hd H' sH ?_
  · show ((σ.set m none).set m (some v)).set m none = σ.set m none
    rw [List.set_set, List.set_set]
  · show ((σ.set m none).set m (some x))[m]? = _
    rw [List.getElem?_set_self (by rw [List.length_set]; exact hm)]
  · rw [eD, f.map_eq (f := fun x => x), List.map_id', List.map_id']
end
end Own
set_option Elab.async false
set_option linter.all false
set_option maxRecDepth 100000
set_option maxHeartbeats 400000
namespace Own
open PySem PySem.Spec PyProof.Rows L2
/-! ### lists of flat values against [] -/
def fd : V → PyData
  | .bl b => .bool b
  | .int i => .int i
  | .str x => .str x
  | _ => .none
def fok : V → Bool
  | .non => true
  | .bl _ => true
  | .int _ => true
  | .str x => x.cps.all (· < 0x110000)
  | _ => false
theorem dp_flat1 {K : PySem.W.Frag} {H : Hp} : ∀ {x : V}, fok x = true → Dp K H x (fd x) ∧ (fd x).canLay0 = true ∧ (fd x).depth = 0
  | .non, _ => ⟨.non, rfl, rfl⟩
  | .bl b, _ => ⟨.bl b, rfl, rfl⟩
  | .int i, _ => ⟨.int i, rfl, rfl⟩
  | .str x, h => ⟨.str x, h, rfl⟩
theorem dp_flat {K : PySem.W.Frag} {H : Hp} : ∀ {xs : List V}, xs.all fok = true → DpAll K H xs (xs.map fd) ∧ PyData.canLayAll0 (xs.map fd) = true ∧ PyData.depthAll (xs.map fd) = 0
  | [], _ => ⟨.nil, rfl, rfl⟩
  | x :: r, h => by
    rw [List.all_cons, Bool.and_eq_true] at h
    obtain ⟨a1, a2, a3⟩ := dp_flat1 (K := K) (H := H) h.1
    obtain ⟨b1, b2, b3⟩ := dp_flat (K := K) (H := H) h.2
    refine ⟨.cons a1 b1, ?_, ?_⟩
    · show ((fd x).canLay0 && PyData.canLayAll0 (r.map fd)) = true
      rw [a2, b2]
      rfl
    · show max (fd x).depth (PyData.depthAll (r.map fd)) = 0
      rw [a3, b3]
      rfl
theorem shaped_flat (K : PySem.W.Frag) (H : Hp) {xs : List V} (h : xs.all fok = true) : SeqAt.shaped (.list (xs.map fd)) = true := by
  obtain ⟨_, a, b⟩ := dp_flat (K := K) (H := H) h
  show (PyData.canLayAll0 (xs.map fd) && decide (PyData.depthAll (xs.map fd) + 1 ≤ 64)) = true
  rw [a, b]
  rfl
theorem eqv_nil2 (xs : List V) : PyData.eqv (.list (xs.map fd)) (.list []) = xs.isEmpty := by
  cases xs <;> rfl
theorem ne_nil {K : PySem.W.Frag} {H : Hp} {a b : Addr} {xs : List V} {Q : VK} (ha : SqL K H a xs) (hb : SqL K H b []) (hf : xs.all fok = true) (q : Q (.bl (!xs.isEmpty)) H) : rNeD K (.ref a) (.ref b) H Q :=
  ⟨_, _, .lst ha (dp_flat hf).1, .lst hb .nil, shaped_flat K H hf, rfl, by rw [eqv_nil2]; exact q⟩
theorem eq_nil {K : PySem.W.Frag} {H : Hp} {a b : Addr} {xs : List V} {Q : VK} (ha : SqL K H a xs) (hb : SqL K H b []) (hf : xs.all fok = true) (q : Q (.bl xs.isEmpty) H) : rEqD K (.ref a) (.ref b) H Q :=
  ⟨_, _, .lst ha (dp_flat hf).1, .lst hb .nil, shaped_flat K H hf, rfl, by rw [eqv_nil2]; exact q⟩
theorem cut_drop {xs : List V} {k : Nat} (h : k ≤ xs.length) : cutV xs (some (k : Int)) none = xs.drop k := by
  show (xs.drop (HT.sIx xs.length 0 (some (k : Int)))).take (HT.sIx xs.length xs.length none - HT.sIx xs.length 0 (some (k : Int))) = _
  rw [HT.sIx_none, HT.sIx_nat, Nat.min_eq_left h]
  exact List.take_of_length_le (by rw [List.length_drop]; exact Nat.le_refl _)
theorem decStr {x y : Str} : decide (V.str x = V.str y) = decide (x = y) := by
  rw [Bool.eq_iff_iff]
  simp
theorem at_nat {xs : List V} {k : Nat} {v : V} (h : xs[k]? = some v) : atI xs ((k : Nat) : Int) = some v := atI_nat h
theorem inV_str (w : Str) : ∀ xs : List Str, inV (.str w) (xs.map V.str) = decide (w ∈ xs)
  | [] => rfl
  | x :: r => by
    show ((x == w) || inV (.str w) (r.map V.str)) = _
    rw [inV_str w r]
    by_cases h : x = w
    · subst h
      simp
    · have h2 : ¬ w = x := fun z => h z.symm
      have h3 : (x == w) = false := by simpa using h
      rw [h3]
      simp [h2]
theorem fok_ints (is : List Int) : (is.map V.int).all fok = true := by
  rw [List.all_map, List.all_eq_true]
  intro _ _
  rfl

theorem seqT {K : PySem.W.Frag} {H H' : Hp} {a : Addr} {xs : List V} (e : Same H H') (h : SqT K H a xs) : SqT K H' a xs := by
  rcases h with (h | ⟨o, h⟩) | h
  · exact .inl (.inl (e _ _ h))
  · exact .inl (.inr ⟨o, e _ _ h⟩)
  · exact .inr h
/-- .. != [], .. == [] behind a list of flat values -/
theorem tail_ne {K : PySem.W.Frag} {σ : L2.St} {H : Hp} {D : Addr} {xs : List V} {Q : VK} (hD : H D = some (.lst xs)) (hf : xs.all fok = true) (k : ∀ H', Same H H' → Q (.bl (!xs.isEmpty)) H') : tLst tNil σ H fun y H2 => rNeD K (.ref D) y H2 Q := by
  refine ⟨(by show 0 ≤ sizeLine; decide), fun q nq => ?_⟩
  have s := same_upd (o := .lst []) nq
  exact ne_nil (SqL.of (s _ _ hD)) (SqL.of upd_same) hf (k _ s)
theorem tail_eq {K : PySem.W.Frag} {σ : L2.St} {H : Hp} {D : Addr} {xs : List V} {Q : VK} (hD : H D = some (.lst xs)) (hf : xs.all fok = true) (k : ∀ H', Same H H' → Q (.bl xs.isEmpty) H') : tLst tNil σ H fun y H2 => rEqD K (.ref D) y H2 Q := by
  refine ⟨(by show 0 ≤ sizeLine; decide), fun q nq => ?_⟩
  have s := same_upd (o := .lst []) nq
  exact eq_nil (SqL.of (s _ _ hD)) (SqL.of upd_same) hf (k _ s)
theorem all_filter {xs : List V} {p : V → Bool} (h : xs.all fok = true) : (xs.filter p).all fok = true := by
  rw [List.all_eq_true] at h ⊢
  exact fun x hx => h x (List.mem_filter.mp hx).1
theorem filter_any {xs : List V} {p : V → Bool} : (!(xs.filter p).isEmpty) = xs.any p := by
  induction xs with
  | nil => rfl
  | cons x r ih =>
    cases e : p x with
    | true => simp [e]
    | false =>
      rw [List.filter_cons_of_neg (by rw [e]; exact Bool.false_ne_true), ih]
      simp [e]
/-- [x for x in t if T] != [], t a tuple -/
theorem any_ne {K : PySem.W.Frag} {σ : L2.St} {H : Hp} {Q : VK} {a : Addr} {xs : List V} {p : V → Bool} {tt : TT} {m : Nat} (hs : SqT K H a xs) (hf : xs.all fok = true) (hz : xs.length < sizeLine) (hm : m < σ.length)
    (ht : ∀ x H', x ∈ xs → Same H H' → ∀ R : Bool → Hp → Prop, (∀ H'', Same H' H'' → R (p x) H'') → tt ((wipe σ [m]).set m (some x)) H' R) (k : ∀ H', Same H H' → Q (.bl (xs.any p)) H') :
    ∃ b, V.ref a = .ref b ∧ (∃ ys, SqT K H b ys) ∧ ∀ D, H D = none → ∃ W : Nat → Nat → Hp → Prop, (∃ m, W 0 m (L2.upd H D (.lst []))) ∧ ∀ i k H, W i k H →
      ((Itt K b).stop i H ∧ tLst tNil σ H fun y H2 => rNeD K (.ref D) y H2 Q) ∨ ((Itt K b).go i H ∧ ∃ Nx : Hp → Prop, (∀ H', Nx H' → ∃ k', k' < k ∧ W (i + 1) k' H') ∧ ∀ x H', (Itt K b).yld i H x H' → gName m x (wipe σ [m]) H' fun σ2 H2 => wipe σ2 [m] = wipe σ [m] ∧ tt σ2 H2 fun b H3 =>
        if b = true then tVar m σ2 H3 fun y H4 => ∃ acc, H4 D = some (.lst acc) ∧ acc.length < sizeLine ∧ Nx (L2.upd H4 D (.lst (acc ++ [y]))) else Nx H3) := by
  refine ⟨a, rfl, ⟨_, hs⟩, fun D nD => lc_filt (p := p) walk_tup nD hz (fun H' s => seqT s hs) hm ht fun H' s eD => ?_⟩
  exact tail_ne eD (all_filter hf) fun H'' s2 => by
    rw [filter_any]
    exact k H'' (s.trans s2)
/-! ### within a comprehension's block: K told -/
section
variable {X : Cx} {K : PySem.W.Frag}
theorem op_inK (h : X.K = K) : OpR X (compareOp .In) (rIn K false) := h ▸ op_in_seq
theorem op_notInK (h : X.K = K) : OpR X (compareOp .NotIn) (rIn K true) := h ▸ op_notIn_seq
theorem ix_tupK (h : X.K = K) : IxR X (rIxT K) := h ▸ ix_tup
theorem op_eqDK (h : X.K = K) (hu : X.A.units + 64 < cLine) : OpR X (compareOp .Eq) (rEqD K) := h ▸ op_eqD hu
theorem op_neDK (h : X.K = K) (hu : X.A.units + 64 < cLine) : OpR X (compareOp .NotEq) (rNeD K) := h ▸ op_neD hu
end
end Own
set_option Elab.async false
set_option linter.all false
set_option maxRecDepth 100000
set_option maxHeartbeats 400000
namespace L2
open PySem PySem.Spec PyProof.Rows
/-! ### d.get(k, x) of a written dict -/
section
variable {X : Cx} {d : Addr} {es : Array DictEntry} {n : Nat}
theorem mt_get_kd (D : KDict X.K X.w d es n) : MtR X "dict.get" (fun x xs H Q => ∃ (z : Str) (dv : V), x = .ref d ∧ xs = [.str z, dv] ∧ ((∃ u0 v0, PySem.W.nsIn X.K d z = some (some u0) ∧ RelV v0 u0 ∧ Q v0 H) ∨ (PySem.W.nsIn X.K d z = some none ∧ Q dv H))) := by
  intro pins s σ H x xs v us Q I rx rs h
  obtain ⟨z, dv, rfl, rfl, h⟩ := h
  cases rx
  obtain ⟨u1, u2, rfl, r1, r2⟩ := vals2 rs
  obtain ⟨t, rfl⟩ := r1
  have hm := PySem.W.mapOf_K (prog := X.prog) (w := X.w) I.kIn D.at_ D.lit
  refine call_meetsIn PySem.F.slot_dict_get hm.typeIs PySem.F.entry_dict_get (PySem.F.args_dict_get_3 _ _ _) (meets_dict_get_default (PySem.strKind X.prog X.w) d (PySem.strKind_is X.prog X.w z t) D.low u2) ⟨_, hm, ?_⟩
  rcases h with ⟨u0, v0, e, r, q⟩ | ⟨e, q⟩
  · rw [PySem.W.find_K D.at_ e]
    exact ⟨v0, H, I.tok _, r, q⟩
  · rw [PySem.W.find_K D.at_ e]
    exact ⟨dv, H, I.tok _, r2, q⟩
/-- o.get(e, f), o a written dict -/
def tGetK (K : PySem.W.Frag) (d : Addr) (td : TE) (t : TA) : TE := fun σ H Q => td σ H fun x H1 => x = .ref d ∧ t σ H1 fun xs H2 => ∃ (z : Str) (dv : V), xs = [.str z, dv] ∧ ((∃ u0 v0, PySem.W.nsIn K d z = some (some u0) ∧ RelV v0 u0 ∧ Q v0 H2) ∨ (PySem.W.nsIn K d z = some none ∧ Q dv H2))
theorem pe_getK {o e : Expr} {ex : List Expr} {apos cpos : Pos} {td : TE} {t : TA} (D : KDict X.K X.w d es n) (ho : PE X o td) (ha : PA X (e :: ex) t) (hbase : attributeBase o "get" X.env (eval o X.env) = eval o X.env := by rfl)
    (hfew : ((backTo cpos (starEach (e :: ex) X.env)).all (fun x => !x.1) && (backToKw cpos (keywordEach [] X.env)).all (fun x => x.1.isSome)
      && decide ((e :: ex).length + ([] : List Keyword).length + (if ([] : List Keyword).isEmpty then 0 else 1) < 30)) = true := by rfl)
    (hline : (apos.endLine == cpos.line) = true := by rfl) (hs : starEach (e :: ex) X.env = (false, eval e X.env) :: starEach ex X.env := by rfl) (hplain : (backTo cpos (starEach ex X.env)).any (·.1) = false := by rfl) :
    PE X (.Call (.Attribute o "get" apos) (e :: ex) [] cpos) (tGetK X.K d td t) := by
  refine ⟨fun pins s σ H Q I h => ?_⟩
  refine wpAny_Call_method hbase hfew hline PySem.F.plainAttrs_dict PySem.F.slot_dict_get PySem.F.type_dict_get (thn (ho.run pins s σ H _ I h) fun u s1 q => ?_)
  obtain ⟨x, H1, I1, rx, rfl, q1⟩ := q
  cases rx
  have hm := PySem.W.mapOf_K (prog := X.prog) (w := X.w) I1.kIn D.at_ D.lit
  refine ⟨hm.typeIs, hm.noDict, ?_⟩
  have hA := ha.run cpos pins s1 σ H1 _ I1 q1
  rw [hs] at hA ⊢
  refine Calls.callWith_builtin (by show (false || (backTo cpos (starEach ex X.env)).any (·.1)) = false; rw [hplain] <;> rfl) (Calls.evalArgs_plain ?_)
  exact thn hA fun us s2 q2 => by
    obtain ⟨vs, H2, I2, r2, z, dv, e2, q3⟩ := q2
    exact mt_get_kd D pins s2 σ H2 (.ref d) vs (.ref d) us Q I2 rfl r2 ⟨z, dv, rfl, e2, q3⟩
end
end L2
set_option Elab.async false
set_option linter.all false
set_option maxRecDepth 100000
set_option maxHeartbeats 400000
namespace Own
open PySem PySem.Spec PyProof.Rows L2
/-! ### a hook that looks at chosen objects only -/
abbrev Sel : Type := (Addr → Option Obj) → List Addr
/-- the objects that the names stand for -/
def atNames (g : Addr → Option Obj) (xs : List Str) : List Addr := xs.map (He.ga (He.frG g [mainGlobals]))
def growN (g : Addr → Option Obj) : Nat → List Addr → List Addr
  | 0, l => l
  | n + 1, l => growN g n (He.growD g l)
/-- the defs with their code, the classes and tables so many steps deep -/
def selZ (defs : List Str) (deep : List (Nat × List Str)) : Sel := fun g => mainGlobals :: (growN g 1 (atNames g defs) ++ deep.flatMap fun q => growN g q.1 (atNames g q.2))
def KZ (sel : Sel) (g : Addr → Option Obj) : PySem.W.Frag := He.frT g (sel g)
def obsZ (sel : Sel) (fa : List He.Fa) (fn : List He.DefD) (ts : List He.Tab) (tf : List He.Defn) (ex : PySem.W.Frag → Bool) (g : Addr → Option Obj) : He.AlX :=
  (He.obsT fa fn ts (KZ sel g), ex (KZ sel g) && He.tabsB g tf (KZ sel g))
theorem saysZ_of {sel : Sel} {fa : List He.Fa} {fn : List He.DefD} {ts : List He.Tab} {tf : List He.Defn} {ex : PySem.W.Frag → Bool} {w : World} {h : Heap} (e : obsZ sel fa fn ts tf ex h.get? = He.valX fn ts w) : He.SaysX fa fn ts tf ex w h (KZ sel h.get?) := by
  have eT : He.obsT fa fn ts (KZ sel h.get?) = He.valT fn ts w := congrArg (fun z : He.AlX => z.1) e
  have eB : (ex (KZ sel h.get?) && He.tabsB h.get? tf (KZ sel h.get?)) = true := congrArg (fun z : He.AlX => z.2) e
  obtain ⟨b1, b2⟩ := He.ba eB
  have one : ∀ p ∈ tf, PySem.W.codeHdIn (KZ sel h.get?) (He.cT (KZ sel h.get?) p).1 (He.cT (KZ sel h.get?) p).2 = true ∧ ∃ o, h.get? (He.cT (KZ sel h.get?) p).2 = some o ∧ He.emptyTab o = true := fun p hp => by
    obtain ⟨c1, c2⟩ := He.ba (List.all_eq_true.mp b2 p hp)
    refine ⟨c1, ?_⟩
    cases q : h.get? (He.cT (KZ sel h.get?) p).2 with
    | none => rw [q] at c2; cases c2
    | some o => rw [q] at c2; exact ⟨o, rfl, c2⟩
  refine ⟨eT, b1, fun p hp => (one p hp).1, fun p hp => ?_, fun p hp => ?_⟩
  · obtain ⟨_, o, q, z⟩ := one p hp
    exact He.frT_none q z
  · obtain ⟨_, o, q, z⟩ := one p hp
    rw [q, He.emptyTab_eq z]
def hookZ (sel : Sel) (fa : List He.Fa) (fn : List He.DefD) (ts : List He.Tab) (tf : List He.Defn) (ex : PySem.W.Frag → Bool) : PySem.W.Hook where
  α := He.AlX
  obs := fun s => obsZ sel fa fn ts tf ex s.heap.get?
  val := fun w => He.valX fn ts w
  says := fun w h => ∃ K : PySem.W.Frag, K.In h ∧ He.SaysX fa fn ts tf ex w h K
  of := fun _ _ e => ⟨_, He.frT_in, saysZ_of e⟩
  keeps := fun _ _ _ z k => by
    obtain ⟨K, inK, c⟩ := z
    exact ⟨K, PySem.W.Frag.In.keeps inK k, ⟨c.t, c.more, c.hd, c.out, fun p hp => k _ _ (c.empty p hp)⟩⟩
theorem obsZ_eq {sel : Sel} {fa : List He.Fa} {fn : List He.DefD} {ts : List He.Tab} {tf : List He.Defn} {ex : PySem.W.Frag → Bool} {g : Addr → Option Obj} {s : Shared} (h : ∀ a, g a = s.heap.get? a) : obsZ sel fa fn ts tf ex g = (hookZ sel fa fn ts tf ex).obs s := by
  have e : g = s.heap.get? := funext h
  subst e
  rfl
end Own
set_option Elab.async false
set_option linter.all false
set_option maxRecDepth 100000
set_option maxHeartbeats 4000000
/-! ### an own error with one field: def __init__(self, p): super().__init__('..'); self.f = p -/
namespace PySem
namespace SupX
open PySem.W PySem.Calls PyProof.Rows PySem.HandSPX
/-- what is fixed of the text: the class's name, the parameter, the field, the message -/
structure Txt where
  x : Str
  p : Str
  f : Str
  m : Str
def iA (t : Txt) (p1 p2 : Pos) : Arguments := { posonlyargs := [], args := [{ arg := "self", annotation := none, pos := p1 }, { arg := t.p, annotation := none, pos := p2 }], vararg := none, kwonlyargs := [], kw_defaults := [], kwarg := none, defaults := [] }
def iB (t : Txt) (j : Nat) (q1 q2 q3 q4 q5 q6 q7 q8 q9 q10 : Pos) : List Stmt := [.Expr (.Call (.Attribute (.Call (.Name "super" q1) [] [] q2) "__init__" q3) [.Constant (.str t.m) j q4] [] q5) q6, .Assign [.Attribute (.Name "self" q7) t.f q8] (.Name t.p q9) q10]
def iS (t : Txt) : Scope := { kind := .function, names := [(PySem.Str.ofString "self", .local), (t.p, .local), (PySem.Str.ofString "__class__", .free), (PySem.Str.ofString "super", .globalImplicit)], isGenerator := false, isCoroutine := false, more := [] }
/-- what the written part says of the class at C, of its __init__ at fI, of the cell at cc -/
structure Has (prog : Program) (K : Frag) (mg : Str → Option Value) (t : Txt) (C fI : Addr) : Prop where
  gC : mg t.x = some (.ref C)
  cls : ∃ nm q N bs bm sn sub ab col dd k0 k1 k2 k3 k5, K.lookup C = some (excClassObj nm q C N bs bm true sn sub ab col dd k0 k1 k2 k3 k5 "ValueError.__new__") ∧ refsVE bm = true
  sa : findIn K (.ref C) "__setattr__" = some (some (.builtin "object.__setattr__"))
  noN : findIn K (.ref C) t.f = some none
  iC : findIn K (.ref C) "__init__" = some (some (.ref fI))
  tC : typeIn K (.ref fI) = some (.type "function")
  kC : keepIn K (.ref C) = true
  exC : subIn K (.ref C) (.type "BaseException") = some true
  tyC : typeIn K (.ref C) = some (.type "type")
  sVE : subIn K (.ref C) (.type "ValueError") = some true
  mro : mroIn K C (.ref C) = some true
  sup : ks_superIn K C C "__init__" = some (some (.builtin "ValueError.__init__"))
  ini : excInitIn K C He.veBase "ValueError.__new__" = true
  tp : nsIn K cStatics "thirdparty.any" = some none
  gS : mg "super" = none
  pn : (t.p == ("__debug__" : Str)) = false ∧ t.p ≠ "self"
  lself : (iS t).names.lookup ("self" : Str) = some .local
  lp : (iS t).names.lookup t.p = some .local
  lcls : (iS t).names.lookup ("__class__" : Str) = some .free
  lsup : (iS t).names.lookup ("super" : Str) = some .globalImplicit
  fn : ∃ (cc cda : Addr) (oc ccl cl : Value) (od cdd cld : Option Addr) (kV doc pm : Value) (an : Option Addr) (ct : Value) (osl ccs csl : Array (Option Value)) (vs : Array Value) (file : Str) (tf : Tok) (qual : Str) (j : Nat) (p1 p2 q1 q2 q3 q4 q5 q6 q7 q8 q9 q10 : Pos),
    K.lookup fI = some ⟨oc, od, .func (fnX "__init__" qual (iA t p1 p2) (iB t j q1 q2 q3 q4 q5 q6 q7 q8 q9 q10) (iS t) [("__class__", cc)] .none kV doc pm an (.ref cda) ct), osl⟩ ∧ codeIn K (.ref cda) qual = true ∧
      K.lookup cda = some ⟨ccl, cdd, .fields vs, ccs⟩ ∧ vs[2]? = some (.str file tf) ∧ ((prog.main.file : Str) == file) = true ∧ K.lookup cc = some ⟨cl, cld, .cell (some (.ref C)), csl⟩ ∧
      (∀ a b : Value, bindArgs (fnX "__init__" qual (iA t p1 p2) (iB t j q1 q2 q3 q4 q5 q6 q7 q8 q9 q10) (iS t) [("__class__", cc)] .none kV doc pm an (.ref cda) ct) ⟨[a, b], []⟩ = pure [(("self" : Str), a), (t.p, b)]) ∧
      (∀ env : Env, ∃ pl : Sem Bool, eval (.Call (.Attribute (.Call (.Name "super" q1) [] [] q2) "__init__" q3) [.Constant (.str t.m) j q4] [] q5) env = (do
        let ov ← attributeBase (.Call (.Name "super" q1) [] [] q2) "__init__" env (eval (.Call (.Name "super" q1) [] [] q2) env)
        standAt q3.atName
        let (f, first) ← holding [ov] (getMethod ov "__init__" pl)
        callWith q5 f first (backTo q5 (starEach [.Constant (.str t.m) j q4] env)) []))
  top : (prog.main.scope.names.lookup ("super" : Str)).isSome = false
theorem one_size (v : Value) : [v].length ≤ sizeLine := by
  rw [sizeLine_eq]
  exact (by decide : 1 ≤ 16777216)
/-- what __init__ leaves of a fresh exception at x -/
structure InitEnd (h h' : Heap) (f : Str) (x C dx t1 : Addr) (v : Value) : Prop where
  keep : ∀ b o, b ≠ x → h.get? b = some o → h'.get? b = some o
  obj : h'.get? x = some { cls := .ref C, dict := some dx, data := .fields #[.ref t1, .none, .none, .none, .bool false, .none] }
  dbig : h.objs.size ≤ dx
  dne : dx ≠ x
  ns : h'.Ns1 dx (fun y => if y = f then some v else none)
/-- a made error -/
structure OwnMade (h h' : Heap) (f : Str) (e C d : Addr) (v : Value) : Prop where
  keep : ∀ b o, h.get? b = some o → h'.get? b = some o
  new : h.objs.size ≤ e
  obj : ∃ oe vs, h'.get? e = some oe ∧ oe.cls = .ref C ∧ oe.dict = some d ∧ oe.data = .fields vs ∧ vs[1]? = some .none
  dbig : h.objs.size ≤ d
  dne : d ≠ e
  ns : h'.Ns1 d (fun y => if y = f then some v else none)
section
variable {prog : Program} {w : World} {A : Around} {E : Value → Shared → Prop} {R : Result → Shared → Prop} {s : Shared} {K : Frag} {mg mb : Str → Option Value} {t : Txt} {C fI : Addr}
theorem sup_init (T : Has prog K mg t C fI) {x t0 : Addr} {v : Value} (X : K.In s.heap) (hlim : s.heap.NoLimit) (hg : s.heap.Ns mainGlobals mg) (hb : s.heap.Ns builtinsNs mb) (hsb : mb "super" = some (.type "super")) (hx : s.heap.get? x = some (excO C t0)) (hnx : K.lookup x = none) (hroom : A.depth < recursionLimit)
    (hq : ∀ h' tk dx t1, InitEnd s.heap h' t.f x C dx t1 v → R (.ok (.ret .none)) { s with heap := h', toks := tk }) :
    codeAny (model prog w) A (.call (.ref fI) ⟨[.ref x, v], []⟩) R s := by
  obtain ⟨cc, cda, oc, ccl, cl, od, cdd, cld, kV, doc, pm, an, ct, osl, ccs, csl, vs, file, tf, qual, j, p1, p2, q1, q2, q3, q4, q5, q6, q7, q8, q9, q10, ho, hcd, hcode, hvs, hfile, hcell, hbind, hev⟩ := T.fn
  obtain ⟨nm, q, N, bs, bm, sn, sub, ab, col, dd, k0, k1, k2, k3, k5, hC, hbm⟩ := T.cls
  have hcl : clsIn K C = some { name := nm, bases := bs, mro := .ref C :: bm, ns := N, qualname := q, hasDict := true, slotNames := sn, subclasses := sub, abstract := ab, collection := col, hasDel := false } := by unfold clsIn; rw [hC] <;> rfl
  have nps : ((PySem.Str.ofString "self" : Str) == t.p) = false := by
    rw [beq_eq_false_iff_ne]
    exact fun e => T.pn.2 e.symm
  have nps2 : (t.p == (PySem.Str.ofString "self" : Str)) = false := by
    rw [beq_eq_false_iff_ne]
    exact T.pn.2
  have lself := T.lself
  have lp := T.lp
  refine ks_codeAny_call_defAt (binds := [("self", .ref x), (t.p, v)]) hroom (X _ _ ho) rfl hlim (codeRec_of X hcd) rfl (BindsTo.of_eq ?_) (by intro y hy; unfold iS at hy; simp at hy; rcases hy with rfl | rfl | rfl | rfl <;> simp) (by
    intro y hy
    rcases List.mem_cons.mp hy with e | hy
    · rw [e]; exact lself
    · rw [List.mem_singleton.mp hy]; exact lp) (fun h₁ hn k => ?_) rfl rfl rfl
  · exact hbind _ _
  have hxL : x ≠ s.heap.objs.size := Nat.ne_of_lt (Heap.lt_size hx)
  have F : Fr (hideAll s.heap [x]) s.heap.objs.size h₁ (fun y => ([(("self" : Str), Value.ref x), (t.p, v)] : List (Str × Value)).reverse.lookup y) := ⟨hn, fun b o e => k b o (of_hideAll _ e), Nat.le_of_eq (hideAll_size _ _)⟩
  have Nw : News (hideAll s.heap [x]) s.heap.objs.size h₁ [(x, excObj C t0 none .none)] := fun p hp => by
    rw [List.mem_singleton.mp hp]
    exact ⟨k _ _ hx, hxL, hideAll_none _ List.mem_cons_self⟩
  have X₀ : K.In (hideAll s.heap [x]) := fun a o e => hideAll_get _ (X a o e) fun m => by
    rw [List.mem_singleton.mp m, hnx] at e
    cases e
  have mself : (fun y => ([(("self" : Str), Value.ref x), (t.p, v)] : List (Str × Value)).reverse.lookup y) "self" = some (.ref x) := by
    show List.lookup ("self" : Str) [(t.p, v), (("self" : Str), Value.ref x)] = _
    simp only [List.lookup, nps, beq_self_eq_true]
  have mp : (fun y => ([(("self" : Str), Value.ref x), (t.p, v)] : List (Str × Value)).reverse.lookup y) t.p = some v := by
    show List.lookup t.p [(t.p, v), (("self" : Str), Value.ref x)] = _
    simp only [List.lookup, beq_self_eq_true]
  generalize (fun y => ([(("self" : Str), Value.ref x), (t.p, v)] : List (Str × Value)).reverse.lookup y) = mm at F mself mp hn
  have X₁ : K.In h₁ := X₀.keeps F.keep
  have I : InstAt h₁ x (excObj C t0 none .none) C none := ⟨k _ _ hx, rfl, rfl, trivial⟩
  have hC1 := X₁ _ _ hC
  -- super()
  obtain ⟨oD, hD1, hD2⟩ : ∃ oD, h₁.get? C = some oD ∧ oD.data = .cls { name := nm, bases := bs, mro := .ref C :: bm, ns := N, qualname := q, hasDict := true, slotNames := sn, subclasses := sub, abstract := ab, collection := col, hasDel := false } := ⟨_, hC1, rfl⟩
  obtain ⟨pl, hpl⟩ := hev (callEnv (fnX "__init__" qual (iA t p1 p2) (iB t j q1 q2 q3 q4 q5 q6 q7 q8 q9 q10) (iS t) [("__class__", cc)] .none kV doc pm an (.ref cda) ct) s.heap.objs.size fI)
  refine ks_wpAt_execs_cons (ks_wpAt_Expr_any (ks_wpAt_MethodCall (pl := pl) ?_ hpl))
  refine ks_wpAt_super_base T.lsup T.lcls rfl rfl (X₁ _ _ ho) rfl rfl rfl (X₁ _ _ hcode) rfl hvs hfile T.top ?_
  refine ks_loadName_global rfl T.lsup (loadGlobal_builtin (hg.keeps k) T.gS (hb.keeps k) hsb ⟨rfl, ?_⟩)
  refine wpAny_loadName_free rfl T.lcls rfl ⟨_, X₁ _ _ hcell, rfl⟩ ?_
  refine wpAny_loadName_local rfl lself hn mself ?_
  refine ks_wpAny_isType_cls hD1 hD2 ⟨rfl, ?_⟩
  refine ks_wpAny_call_super hD1 hD2 I.at_ I.cls (fun c e => by cases e) (looks_mroIn X₁ T.mro) (fun h₂ e2 kk => ?_)
  obtain ⟨F2, N2, _⟩ := ks_newsPush (s := { s with heap := h₁, toks := s.toks + 2 }) F Nw rfl e2 kk
  refine kxs_method (s := { s with heap := h₂, toks := s.toks + 2 }) kxs_ValueError F2 X₀ N2 List.mem_cons_self (ox := excObj C t0 none .none) (odx := none) ⟨kk _ _ I.at_, rfl, rfl, trivial⟩ T.tp T.sup T.sVE rfl (fun u h₃ F3 N3 _ => ?_)
  refine kxs_callWith1 N3 List.mem_cons_self ?_
  refine spliced_cons (Constant_str (k := j) (pos := q4) ?_)
  refine spliced_nil ⟨kxs_at N3 List.mem_cons_self, ?_⟩
  refine kxs_call F3 X₀ N3 PySem.F.excBase_ValueError T.ini List.mem_cons_self (.tail ?_ (.tail ?_ (.head (fun p hp => nomatch hp)))) (one_size _) (fun t1 h₄ F4 N4 _ => ?_)
  · exact fun e => by
      have q := (N3 (u, kxs_mw "ValueError.__init__" x) List.mem_cons_self).1
      have q2 := (N3 (x, excObj C t0 none .none) (by simp)).1
      rw [show u = x from e] at q
      rw [q] at q2
      cases q2
  · exact fun e => by
      have q := (N3 (_, ks_superObj C x C) (List.mem_cons_of_mem _ List.mem_cons_self)).1
      have q2 := (N3 (x, excObj C t0 none .none) (by simp)).1
      rw [show _ = x from e] at q
      rw [q] at q2
      cases q2
  · -- self.f = p
    have hx4 : h₄.get? x = some (excObj C t1 none .none) := (N4 (x, excObj C t1 none .none) (by simp)).1
    have X₄ : K.In h₄ := X₀.keeps F4.keep
    refine wpAt_of_wpAny (wpAny_execs_cons (plainObj_wpAny_Assign_Attribute ?_))
    refine wpAny_Name (wpAny_loadName_local rfl lp F4.ns mp ?_) T.pn.1
    refine wpAny_Name (wpAny_loadName_local rfl lself F4.ns mself ?_) (by decide)
    refine set_plain X₄ (ox := excObj C t1 none .none) (od := none) ⟨hx4, rfl, rfl, trivial⟩ T.sa ?_
    refine exc_osa X₄ hx4 hcl (show refsVE (.ref C :: bm) = true from hbm) rfl T.noN (fun h₅ tk₅ dx k₅ dn dne hx5 hn5 => ?_)
    refine wpAny_execs_nil (hq h₅ tk₅ dx t1 ⟨fun b o hb e => k₅ b o hb (F4.keep b o (hideAll_get _ e fun m => hb (List.mem_singleton.mp m))), hx5, ?_, dne, hn5⟩)
    have z : s.heap.objs.size < h₄.objs.size := F4.ns.lt
    exact Nat.le_of_lt (Nat.lt_of_lt_of_le z dn)
/-- C(e): a new error with its field -/
theorem sup_made (T : Has prog K mg t C fI) {v : Value} (X : K.In s.heap) (hlim : s.heap.NoLimit) (hg : s.heap.Ns mainGlobals mg) (hb : s.heap.Ns builtinsNs mb) (hsb : mb "super" = some (.type "super")) (hroom : A.depth + 1 < recursionLimit)
    (hq : ∀ h' tk e d, OwnMade s.heap h' t.f e C d v → R (.ok (.ret (.ref e))) { s with heap := h', toks := tk }) :
    codeAny (model prog w) A (.call (.ref C) ⟨[v], []⟩) R s := by
  obtain ⟨nm, q, N, bs, bm, sn, sub, ab, col, dd, k0, k1, k2, k3, k5, hC, hbm⟩ := T.cls
  obtain ⟨hp, g, dr, tk, os⟩ := s
  have k : ∀ b o, hp.get? b = some o → ((hp.push (kdv_tup [v])).push (excO C hp.objs.size)).get? b = some o := fun b o e => Heap.get?_push_of_some _ (Heap.get?_push_of_some _ e)
  have hget : ((hp.push (kdv_tup [v])).push (excO C hp.objs.size)).get? (hp.objs.size + 1) = some (excO C hp.objs.size) := by heap_get
  have hnx : K.lookup (hp.objs.size + 1) = none := by
    cases e : K.lookup (hp.objs.size + 1) with
    | none => rfl
    | some o =>
      have z : hp.get? (hp.objs.size + 1) = some o := X _ _ e
      exact absurd (Nat.lt_of_succ_lt (Heap.lt_size z)) (Nat.lt_irrefl _)
  refine call_own F.excBase_ValueError (fun X => refsVE_contains X bm hbm) (X _ _ hC) (looks_findIn X T.iC) (fun self => bind_fn X self T.tC) (one_size v) ?_
  refine sup_init (s := ⟨(hp.push (kdv_tup [v])).push (excO C hp.objs.size), g, dr, tk, os⟩) T (X.keeps k) (hlim.keeps k) (hg.keeps k) (hb.keeps k) hsb hget hnx ?_ fun h' tk' dx t1 ⟨k', hx, dn, dne, hns⟩ => ?_
  · show A.depth + 1 < recursionLimit
    exact hroom
  · have old : ∀ b o, hp.get? b = some o → h'.get? b = some o := fun b o e => k' b o (Nat.ne_of_lt (Nat.lt_succ_of_lt (Heap.lt_size e))) (k b o e)
    have z : hp.objs.size + 1 + 1 ≤ dx := by
      first
        | (simpa only [Heap.size_push] using dn)
        | exact dn
        | (have q := dn; rw [Heap.size_push, Heap.size_push] at q; exact q)
    exact ⟨rfl, hq h' tk' (hp.objs.size + 1) dx ⟨old, Nat.le_succ _, ⟨_, _, hx, rfl, rfl, rfl, rfl⟩, Nat.le_trans (Nat.le_trans (Nat.le_succ _) (Nat.le_succ _)) z, dne, hns⟩⟩
end
end SupX
end PySem
set_option Elab.async false
set_option linter.all false
set_option maxRecDepth 100000
set_option maxHeartbeats 4000000
namespace PySem.W
open PySem PySem.Spec PySem.Calls PyProof.Rows
section
variable {prog : Program} {w : World} {A : Around} {E : Value → Shared → Prop} {s : Shared} {K : Frag} {x D : Addr} {ox : Obj} {od : Option Obj}
theorem find_data_any {C : Addr} {name : Str} {a g : Value} (h1 : (clsIn K C).isSome = true) (h2 : findIn K (.ref C) name = some (some a)) (h3 : specialIn K a "__get__" = some (some g)) (h4 : takesIn K a = some true) : findObj K C od name = some (.bind g a) := by
  cases e : clsIn K C with
  | none =>
    rw [e] at h1
    cases h1
  | some cd =>
    unfold findObj
    rw [e, Option.bind_some, h2, Option.bind_some]
    simp [h3, h4]
theorem own_class_any {Q : Option Value → Shared → Prop} (C : L2.ExcC K D) (X : K.In s.heap) (I : InstAt s.heap x ox D od) (h : Q (some (.ref D)) { s with toks := s.toks + 1 }) : wpAny (model prog w) A (getAttr? (.ref x) "__class__") Q E s := by
  have hfo : findObj K D od "__class__" = some (.bind (.builtin "getset_descriptor.__get__") (.builtin "object.__class__")) := find_data_any (by
    obtain ⟨cd, hc, _⟩ := any_some C.hd
    rw [hc]
    rfl) C.ha C.hn C.ht
  obtain ⟨hp, g, d, t, os⟩ := s
  have la := I.type (M := model prog w)
  have lb := looks_findIn (M := model prog w) X C.hg
  have lc := looks_findIn (M := model prog w) X C.hk
  have ld := looks_find (M := model prog w) X I hfo
  have sub : Looks (model prog w) hp (isInstance (.ref x) (.type "BaseException")) true := la.andThen (looks_subIn X C.hs)
  have z0 : (false && onTheHeap (Value.builtin "BaseException.__getattribute__")) = false := rfl
  have z2 : (Value.builtin "BaseException.__getattribute__" == Value.builtin "object.__getattribute__") = false := by decide +kernel
  have z1 : (onTheHeap (Value.ref D) && Value.builtin "BaseException.__getattribute__" == Value.builtin "object.__getattribute__") = false := by
    rw [z2]
    rfl
  unfold getAttr?
  unfold getAttrBy?
  unfold getAttrBy
  refine wpAny_bind (wpAny_mkText (wpAny_bind (wpAny_attempt (wpAny_holding (wpAny_bind (la.at (wpAny_bind (lb.at ?_))))))))
  show wpAny _ _ (if (onTheHeap (Value.ref D) && Value.builtin "BaseException.__getattribute__" == Value.builtin "object.__getattribute__") = true then _ else _) _ _ _
  rw [z1, if_neg Bool.false_ne_true]
  unfold getAttrByItsOwn
  unfold hookBefore
  refine wpAny_bind ?_
  rw [if_pos (show onTheHeap (Value.ref D) = true from rfl)]
  refine lc.at (wpAny_bind (wpAny_attempt (wpAny_holding ?_)))
  unfold callGetattribute
  rw [z0, if_neg Bool.false_ne_true]
  unfold boundAndCalled
  rw [PySem.F.excAttr_ValueError.ga.bind (.ref x)]
  refine wpAny_bind (wpAny_pure ?_)
  show wpAny _ _ (call (.builtin "BaseException.__getattribute__") [.ref x, .str "__class__" t]) _ _ _
  refine wpAny_call (codeAny_call_builtin PySem.F.excAttr_ValueError.ga.plain PySem.F.entry_bexc_ga ?_)
  refine @check_slot (model prog w) _ _ ⟨hp, g, d, t + 1, os⟩ "BaseException.__getattribute__" "BaseException" "__getattribute__" (.ref x) [.str "__class__" t] [] _ (by decide +kernel) (by decide +kernel) sub (PySem.F.args_bexc_ga (.ref x) (.str "__class__" t)) ?_
  unfold Builtin.«object.__getattribute__»
  refine wpAny_bind (wpAny_of_eq (a := ((Value.ref x : Value), [Value.str "__class__" t])) (by first | rfl | (simp only [slotArgs]; rfl)) ?_)
  refine wpAny_bind (wpAny_pure (wpAny_bind (la.at (wpAny_bind (ld.at ?_)))))
  show wpAny _ _ (holding [Value.builtin "object.__class__"] (call (.builtin "getset_descriptor.__get__") [.builtin "object.__class__", .ref x, .ref D]) >>= ret) _ _ _
  refine wpAny_bind (wpAny_holding (wpAny_call (class_get (s := ⟨hp, g, d, t + 1, os⟩) (ox := ox) (od := od) X I C.hm ?_)))
  refine wpAny_pure ?_
  show wpAny _ _ (handedOut (.ref D)) _ _ _
  rw [handedOut_of (v := .ref D) rfl]
  first
    | exact wpAny_pure (wpAny_pure h)
    | exact wpAny_pure h
    | exact wpAny_pure (wpAny_bind (wpAny_pure (wpAny_pure h)))
theorem kit_exc_any (C : L2.ExcC K D) : KitX K (.ref x) (.ref D) (fun h => InstAt h x ox D od) where
  ty := fun _ _ _ I => I.type
  it := fun _ _ X _ => by
    obtain ⟨cd, hc, _⟩ := any_some C.hd
    unfold clsIn at hc
    split at hc
    · rename_i ho
      intro A' Q' E' s' k q
      unfold isType
      unfold loadHead
      exact wpAny_bind (wpAny_loadPart (k _ _ (X _ _ ho)) (wpAny_pure q))
    · cases hc
  ne := fun h tp dd its n sl X htp => by
    obtain ⟨cd, hc, _⟩ := any_some C.hd
    refine Bool.eq_false_iff.mpr fun q => ?_
    obtain rfl : D = tp := Value.ref.inj (beq_iff_eq.mp q)
    unfold clsIn at hc
    split at hc
    · rename_i ho
      have z := (X _ _ ho).symm.trans htp
      cases z
    · cases hc
  ca := fun X I k => own_class_any C X I k
end
end PySem.W
namespace Own
open PySem PySem.Spec PyProof.Rows L2 LamX
theorem relO_one {f : Str} {v : V} {u : Value} (r : RelV v u) (y : Str) : RelO (List.lookup y [(f, v)]) (if y = f then some u else none) := by
  by_cases h : y = f
  · subst h
    rw [if_pos rfl]
    have q : List.lookup y [(y, v)] = some v := by simp [List.lookup]
    rw [q]
    exact r
  · rw [if_neg h]
    have e : (y == f) = false := by simpa using h
    have q : List.lookup y [(f, v)] = none := by simp [List.lookup, e]
    rw [q]
    trivial
section
variable {X : Cx} {C fI : Addr}
/-- x(e), x such an error class -/
def tMkS (C : Addr) (f : Str) (ta : TA) : L2.St → Hp → XK → Prop := fun σ H Q => ta σ H fun vs H1 => ∃ v, vs = [v] ∧ ∀ d, H1 d = none → Q (.ref C) (some d) (upd H1 d (.xd [(f, v)]))
theorem pmk_sup {t : SupX.Txt} {a : Expr} {ta : TA} {p pos : Pos} {k : Nat} (T : SupX.Has X.prog X.K X.mg t C fI) (hr : Room k X.A) (ha : PA X [a] ta) (hg : Gl X t.x) (hdb : (t.x == ("__debug__" : Str)) = false)
    (he : starEach (a :: []) X.env = (false, eval a X.env) :: starEach [] X.env := by rfl) (hpl : (backTo pos (starEach [] X.env)).any (·.1) = false := by rfl) : PMk X (.Call (.Name t.x p) [a] [] pos) (tMkS C t.f ta) := by
  intro pins s σ H Q I h
  refine wpAny_Call_Name_kw (ld_glob I hg T.gC ?_ hdb)
  refine PySem.W.callWith_K (h₀ := X.base) I.ok.mod.kin T.kC (thn (ha.run pos pins s σ H _ I h) fun us s1 ⟨vs, H1, I1, r1, v, ev, q1⟩ => ?_) he hpl
  subst ev
  refine ⟨I1.kIn, ?_⟩
  obtain ⟨v1, rfl, rv⟩ := vals1 r1
  show wpAny _ _ (call (.ref C) [v1]) _ _ _
  have hlim := I1.nolimit
  obtain ⟨mb, hmb, hbo⟩ := I1.ok.mod.blt
  have hNs := I1.ok.mod.glob.keeps I1.bk
  have hBs := hmb.keeps I1.bk
  obtain ⟨hp, g, dr, tk, os⟩ := s1
  refine wpAny_call (SupX.sup_made T I1.kIn hlim hNs hBs ((hbo "super" (by decide)).trans (by decide +kernel)) (by have := hr.dp; omega) fun h1 tk1 e d M => ?_)
  show MkP X pins σ Q (.ref e) ⟨h1, g, dr, tk1, os⟩
  obtain ⟨oe, fv, hoe, hc, hd, hdat, hn1⟩ := M.obj
  have hns := M.ns
  obtain ⟨G1, g1, g2⟩ := restrict h1 fun b => decide (b ≠ e)
  have gk : ∀ b, b ≠ e → G1.get? b = h1.get? b := fun b hb => g1 b (decide_eq_true hb)
  have ge : G1.get? e = none := g2 e (by simp)
  have old : ∀ b o, hp.get? b = some o → G1.get? b = some o := fun b o q => (gk b (Nat.ne_of_lt (Nat.lt_of_lt_of_le (Heap.lt_size q) M.new))).trans (M.keep b o q)
  have ob : ObjOk X.prog X.w (upd H1 d (.xd [(t.f, v)])) G1 d (.xd [(t.f, v)]) := ⟨_, hns.at (fun o q => (gk d M.dne).trans q), fun y => relO_one rv y⟩
  have J : Inv X pins σ (upd H1 d (.xd [(t.f, v)])) ⟨G1, g, dr, tk1, os⟩ := I1.laid (t' := tk1) old M.dbig ob
  refine ⟨e, oe, fv, ⟨G1, g, dr, tk1, os⟩, _, .ref C, some d, rfl, J, fun b o q => ?_, ge, hoe, ⟨hc, hd⟩, hdat, hn1, ?_, rfl, I1.bare, raises_own T.exC T.tyC, q1 d (I1.hok.fresh M.dbig)⟩
  · by_cases hb : b = e
    · have q2 : G1.get? b = some o := q
      rw [hb, ge] at q2
      cases q2
    · exact (gk b hb).symm.trans q
  · rw [upd_ne (Ne.symm M.dne)]
    exact I1.hok.fresh M.new
/-- e.f, e an error that was caught and kept -/
def tKf (K : PySem.W.Frag) (f : Str) (te : TE) : TE := fun σ H Q => te σ H fun x H1 => ∃ (a C dd : Addr) (fs : List (Str × V)) (v : V), x = .ref a ∧ H1 a = some (Caught (.ref C) (some dd) a) ∧ XfC K C ∧ PySem.W.findIn K (.ref C) f = some none ∧ H1 dd = some (.xd fs) ∧ fs.lookup f = some v ∧ Q v H1
theorem pe_kf {e : Expr} {te : TE} {pos : Pos} {n : Str} (he : PE X e te) (hb : attributeBase e n X.env (eval e X.env) = eval e X.env := by rfl) : PE X (.Attribute e n pos) (tKf X.K n te) := by
  constructor
  intro pins s σ H Q I h
  refine attr_of hb (thn (he.run pins s σ H _ I h) fun u s1 ⟨x, H1, I1, rx, a, C, dd, fs, v, ex, ea, T, hno, ed, l, q⟩ => ?_)
  subst ex
  obtain rfl : u = Value.ref a := rx
  obtain ⟨⟨oe, ho, hz, vs, hd⟩, _, _⟩ := I1.hok a _ ea
  obtain ⟨mA, hns, hr⟩ := (show ObjOk X.prog X.w H1 s1.heap dd (.xd fs) from I1.hok dd _ ed)
  obtain ⟨od, hod, hl⟩ := lookIn_ns hns
  obtain ⟨u, hu, ru⟩ := RelO.some_of (v := v) (o := mA n) (by rw [← l]; exact hr n)
  have J : PySem.W.InstAt s1.heap a oe C (some od) := ⟨ho, hz.1, by unfold PySem.W.notCls; rw [hd] <;> rfl, by rw [hz.2]; exact hod⟩
  exact HandSPX.exc_get I1.kIn J T.ga T.gg T.exC (PySem.W.findObj_own T.hdC hno rfl (by rw [hl, hu])) (handed_of ru) ⟨v, H1, I1.tok _, ru, q⟩
/-- isinstance(e, c), e an error with fields that was caught and kept -/
def rIsD (K : PySem.W.Frag) : List V → Hp → VK → Prop := fun xs H Q => ∃ (a D dd : Addr) (fs : List (Str × V)) (c : V) (cv : Value) (b : Bool), xs = [.ref a, c] ∧ H a = some (Caught (.ref D) (some dd) a) ∧ H dd = some (.xd fs) ∧ ExcC K D ∧ ClsV c cv ∧ PySem.W.kitOne K (.ref D) cv = some b ∧ Q (.bl b) H
theorem call_isD : CallR X (.builtin "isinstance") (rIsD X.K) := by
  intro pins s σ H xs us Q I r h
  obtain ⟨a, D, dd, fs, c, cv, b, rfl, ha, hdd, C, k, e, q⟩ := h
  obtain ⟨u1, u2, rfl, r1, r2⟩ := vals2 r
  have e2 := k.eq r2
  subst e2
  cases (show u1 = Value.ref a from r1)
  obtain ⟨⟨oe, ho, hz, vs, hv⟩, _, _⟩ := I.hok a _ ha
  obtain ⟨mA, hns, hr⟩ := (show ObjOk X.prog X.w H s.heap dd (.xd fs) from I.hok dd _ hdd)
  obtain ⟨od, hod, hl⟩ := lookIn_ns hns
  have J : PySem.W.InstAt s.heap a oe D (some od) := ⟨ho, hz.1, by unfold PySem.W.notCls; rw [hv] <;> rfl, by rw [hz.2]; exact hod⟩
  exact PySem.W.kia_one (PySem.W.kit_exc_any C) I.kIn J e (fun z => nomatch z) fun tk => ⟨.bl b, H, I.tok tk, rfl, q⟩
end
end Own
set_option Elab.async false
set_option linter.all false
set_option maxRecDepth 100000
set_option maxHeartbeats 1000000
namespace Own
open PySem PySem.Spec PyProof.Rows L2
/-! ### a hook that also holds the statics, and tells of functions with closures -/
abbrev InitW : Type := Option (Str × Str × Arguments × FuncBody × Scope × Addr × List Str × Addr)
def initW (K : PySem.W.Frag) (p : He.Defn) : InitW := match K.lookup (He.fAd K p) with
  | some ⟨_, _, .func fd, _⟩ => some (fd.name, fd.qualname, fd.params, fd.body, fd.scope, fd.globals, fd.closure.map (·.1), fd.builtins)
  | _ => none
def KOf (n : Nat) (g : Addr → Option Obj) : PySem.W.Frag := He.frT g (cStatics :: He.asD g n)
abbrev AlY : Type := He.AlX × List InitW
def obsY (n : Nat) (fa : List He.Fa) (fn : List He.DefD) (tf : List He.Defn) (ex : PySem.W.Frag → Bool) (ini : List (He.Defn × InitW)) (g : Addr → Option Obj) : AlY :=
  ((He.obsT fa fn [] (KOf n g), ex (KOf n g) && He.tabsB g tf (KOf n g)), ini.map fun p => initW (KOf n g) p.1)
def valY (fn : List He.DefD) (ini : List (He.Defn × InitW)) (w : World) : AlY := (He.valX fn [] w, ini.map (·.2))
structure SaysY (fa : List He.Fa) (fn : List He.DefD) (tf : List He.Defn) (ex : PySem.W.Frag → Bool) (ini : List (He.Defn × InitW)) (w : World) (h : Heap) (K : PySem.W.Frag) : Prop where
  x : He.SaysX fa fn [] tf ex w h K
  i : ∀ p ∈ ini, initW K p.1 = p.2
theorem map_mem_eq {α β : Type} {f g : α → β} : ∀ {l : List α}, l.map f = l.map g → ∀ p ∈ l, f p = g p
  | [], _, p, hp => by cases hp
  | a :: r, h, p, hp => by
    injection h with h1 h2
    rcases List.mem_cons.mp hp with rfl | hp
    · exact h1
    · exact map_mem_eq h2 p hp
theorem saysY_of {n : Nat} {fa : List He.Fa} {fn : List He.DefD} {tf : List He.Defn} {ex : PySem.W.Frag → Bool} {ini : List (He.Defn × InitW)} {w : World} {h : Heap} (e : obsY n fa fn tf ex ini h.get? = valY fn ini w) : SaysY fa fn tf ex ini w h (KOf n h.get?) := by
  have eT : He.obsT fa fn [] (KOf n h.get?) = He.valT fn [] w := congrArg (fun z : AlY => z.1.1) e
  have eB : (ex (KOf n h.get?) && He.tabsB h.get? tf (KOf n h.get?)) = true := congrArg (fun z : AlY => z.1.2) e
  have eI : ini.map (fun p => initW (KOf n h.get?) p.1) = ini.map (·.2) := congrArg (fun z : AlY => z.2) e
  obtain ⟨b1, b2⟩ := He.ba eB
  have one : ∀ p ∈ tf, PySem.W.codeHdIn (KOf n h.get?) (He.cT (KOf n h.get?) p).1 (He.cT (KOf n h.get?) p).2 = true ∧ ∃ o, h.get? (He.cT (KOf n h.get?) p).2 = some o ∧ He.emptyTab o = true := fun p hp => by
    obtain ⟨c1, c2⟩ := He.ba (List.all_eq_true.mp b2 p hp)
    refine ⟨c1, ?_⟩
    cases q : h.get? (He.cT (KOf n h.get?) p).2 with
    | none => rw [q] at c2; cases c2
    | some o => rw [q] at c2; exact ⟨o, rfl, c2⟩
  refine ⟨⟨eT, b1, fun p hp => (one p hp).1, fun p hp => ?_, fun p hp => ?_⟩, fun p hp => map_mem_eq eI p hp⟩
  · obtain ⟨_, o, q, z⟩ := one p hp
    exact He.frT_none q z
  · obtain ⟨_, o, q, z⟩ := one p hp
    rw [q, He.emptyTab_eq z]
def hookY (n : Nat) (fa : List He.Fa) (fn : List He.DefD) (tf : List He.Defn) (ex : PySem.W.Frag → Bool) (ini : List (He.Defn × InitW)) : PySem.W.Hook where
  α := AlY
  obs := fun s => obsY n fa fn tf ex ini s.heap.get?
  val := fun w => valY fn ini w
  says := fun w h => ∃ K : PySem.W.Frag, K.In h ∧ SaysY fa fn tf ex ini w h K
  of := fun _ _ e => ⟨_, He.frT_in, saysY_of e⟩
  keeps := fun _ _ _ z k => by
    obtain ⟨K, inK, c⟩ := z
    exact ⟨K, PySem.W.Frag.In.keeps inK k, ⟨⟨c.x.t, c.x.more, c.x.hd, c.x.out, fun p hp => k _ _ (c.x.empty p hp)⟩, c.i⟩⟩
theorem obsY_eq {n : Nat} {fa : List He.Fa} {fn : List He.DefD} {tf : List He.Defn} {ex : PySem.W.Frag → Bool} {ini : List (He.Defn × InitW)} {g : Addr → Option Obj} {s : Shared} (h : ∀ a, g a = s.heap.get? a) : obsY n fa fn tf ex ini g = (hookY n fa fn tf ex ini).obs s := by
  have e : g = s.heap.get? := funext h
  subst e
  rfl
/-! ### what the head says of an error class with one field -/
def clsB (K : PySem.W.Frag) (C : Addr) : Bool := match K.lookup C with
  | some ⟨.type "type", _, .cls cd, sl⟩ => (match cd.mro, sl.toList with
    | .ref C2 :: bm, [_, _, _, _, some (.builtin m), _] => decide (C2 = C) && (decide (m = "ValueError.__new__") && (!cd.hasDel && (cd.hasDict && PySem.HandSPX.refsVE bm)))
    | _, _ => false)
  | _ => false
theorem clsB_ok {K : PySem.W.Frag} {C : Addr} (h : clsB K C = true) : ∃ nm q N bs bm sn sub ab col dd k0 k1 k2 k3 k5, K.lookup C = some (PySem.excClassObj nm q C N bs bm true sn sub ab col dd k0 k1 k2 k3 k5 "ValueError.__new__") ∧ PySem.HandSPX.refsVE bm = true := by
  unfold clsB at h
  split at h
  · rename_i dd cd sl ho
    split at h
    · rename_i C2 bm k0 k1 k2 k3 m k5 hm hs
      obtain ⟨h1, h⟩ := He.ba h
      obtain ⟨h2, h⟩ := He.ba h
      obtain ⟨h3, h⟩ := He.ba h
      obtain ⟨h4, h5⟩ := He.ba h
      have e1 := of_decide_eq_true h1
      have e2 := of_decide_eq_true h2
      subst e1 e2
      obtain ⟨nm, bs, mro, ns, qn, hd, sn, sub, ab, col, del⟩ := cd
      dsimp only at hm h3 h4
      have h3' : del = false := by simpa using h3
      subst hm h3' h4
      obtain ⟨l⟩ := sl
      dsimp only at hs
      subst hs
      exact ⟨nm, qn, ns, bs, bm, sn, sub, ab, col, dd, k0, k1, k2, k3, k5, ho, h5⟩
    · cases h
  · cases h
def fileB (K : PySem.W.Frag) (a : Addr) (file : Str) : Bool := match K.lookup a with
  | some ⟨_, _, .fields vs, _⟩ => (match vs[(2 : Nat)]? with
    | some (Value.str f _) => decide (f = file)
    | _ => false)
  | _ => false
theorem fileB_ok {K : PySem.W.Frag} {a : Addr} {file : Str} (h : fileB K a file = true) : ∃ c d vs sl t, K.lookup a = some ⟨c, d, .fields vs, sl⟩ ∧ vs[2]? = some (.str file t) := by
  unfold fileB at h
  split at h
  · rename_i c d vs sl ho
    split at h
    · rename_i f t hv
      have e := of_decide_eq_true h
      subst e
      exact ⟨c, d, vs, sl, t, ho, hv⟩
    · cases h
  · cases h
def cellB (K : PySem.W.Frag) (a C : Addr) : Bool := match K.lookup a with
  | some ⟨_, _, .cell (some (.ref c)), _⟩ => decide (c = C)
  | _ => false
theorem cellB_ok {K : PySem.W.Frag} {a C : Addr} (h : cellB K a C = true) : ∃ c d sl, K.lookup a = some ⟨c, d, .cell (some (.ref C)), sl⟩ := by
  unfold cellB at h
  split at h
  · rename_i c d c2 sl ho
    have e := of_decide_eq_true h
    subst e
    exact ⟨c, d, sl, ho⟩
  · cases h
def fnB (K : PySem.W.Frag) (C fI : Addr) (file : Str) : Bool := match K.lookup fI with
  | some ⟨_, _, .func fd, _⟩ => (match fd.defaults, fd.code, fd.closure with
    | .none, .ref cda, [(_, cc)] => PySem.W.codeIn K (.ref cda) fd.qualname && (fileB K cda file && cellB K cc C)
    | _, _, _ => false)
  | _ => false
theorem fnB_ok {K : PySem.W.Frag} {C : Addr} {p : He.Defn} {file qual : Str} {params : Arguments} {body : List Stmt} {scope : Scope} (h : fnB K C (He.fAd K p) file = true) (hi : initW K p = some (("__init__" : Str), qual, params, FuncBody.stmts body, scope, mainGlobals, [("__class__" : Str)], builtinsNs)) :
    ∃ (cc cda : Addr) (oc ccl cl : Value) (od cdd cld : Option Addr) (kV doc pm : Value) (an : Option Addr) (ct : Value) (osl ccs csl : Array (Option Value)) (vs : Array Value) (tf : Tok),
      K.lookup (He.fAd K p) = some ⟨oc, od, .func (PySem.W.fnX "__init__" qual params body scope [("__class__", cc)] .none kV doc pm an (.ref cda) ct), osl⟩ ∧ PySem.W.codeIn K (.ref cda) qual = true ∧
      K.lookup cda = some ⟨ccl, cdd, .fields vs, ccs⟩ ∧ vs[2]? = some (.str file tf) ∧ K.lookup cc = some ⟨cl, cld, .cell (some (.ref C)), csl⟩ := by
  unfold fnB at h
  unfold initW at hi
  split at h
  · rename_i oc od fd osl ho
    rw [ho] at hi
    have hi2 : (fd.name, fd.qualname, fd.params, fd.body, fd.scope, fd.globals, fd.closure.map (·.1), fd.builtins) = (("__init__" : Str), qual, params, FuncBody.stmts body, scope, mainGlobals, [("__class__" : Str)], builtinsNs) := Option.some.inj hi
    split at h
    · rename_i cda n cc h1 h2 h3
      obtain ⟨g1, g⟩ := He.ba h
      obtain ⟨g2, g3⟩ := He.ba g
      obtain ⟨ccl, cdd, vs, ccs, tf, q1, q2⟩ := fileB_ok g2
      obtain ⟨cl, cld, csl, q3⟩ := cellB_ok g3
      obtain ⟨nm, qn, pr, bd, sc, gb, clo, df, kV, doc, pm, an, cd, ct, bi⟩ := fd
      dsimp only at h1 h2 h3 hi2 g1
      subst h1 h2 h3
      injection hi2 with i1 hi2
      injection hi2 with i2 hi2
      injection hi2 with i3 hi2
      injection hi2 with i4 hi2
      injection hi2 with i5 hi2
      injection hi2 with i6 hi2
      injection hi2 with i7 i8
      have en : n = ("__class__" : Str) := by
        have : [n] = [("__class__" : Str)] := i7
        injection this
      subst i1 i2 i3 i4 i5 i6 i8 en
      exact ⟨cc, cda, oc, ccl, cl, od, cdd, cld, kV, doc, pm, an, ct, osl, ccs, csl, vs, tf, ho, g1, q1, q2, q3⟩
    · cases h
  · cases h
def supB (K : PySem.W.Frag) (t : SupX.Txt) (file : Str) : Bool :=
  He.eqO (PySem.W.findIn K (.ref (He.ga K t.x)) "__setattr__") (some (some (.builtin "object.__setattr__"))) && (He.eqO (PySem.W.findIn K (.ref (He.ga K t.x)) t.f) (some none) && (He.eqO (PySem.W.findIn K (.ref (He.ga K t.x)) "__init__") (some (some (.ref (He.fAd K (t.x, some "__init__"))))) &&
  (decide (PySem.W.typeIn K (.ref (He.fAd K (t.x, some "__init__"))) = some (.type "function")) && (PySem.W.keepIn K (.ref (He.ga K t.x)) && (decide (PySem.W.subIn K (.ref (He.ga K t.x)) (.type "BaseException") = some true) && (decide (PySem.W.typeIn K (.ref (He.ga K t.x)) = some (.type "type")) &&
  (decide (PySem.W.subIn K (.ref (He.ga K t.x)) (.type "ValueError") = some true) && (decide (PySem.W.mroIn K (He.ga K t.x) (.ref (He.ga K t.x)) = some true) && (He.eqO (PySem.W.ks_superIn K (He.ga K t.x) (He.ga K t.x) "__init__") (some (some (.builtin "ValueError.__init__"))) &&
  (PySem.W.excInitIn K (He.ga K t.x) He.veBase "ValueError.__new__" && (He.eqO (PySem.W.nsIn K cStatics "thirdparty.any") (some none) && (clsB K (He.ga K t.x) && fnB K (He.ga K t.x) (He.fAd K (t.x, some "__init__")) file))))))))))))
theorem has_of {prog : Program} {K : PySem.W.Frag} {mg : Str → Option Value} {t : SupX.Txt} {file qual : Str} {j : Nat} {p1 p2 q1 q2 q3 q4 q5 q6 q7 q8 q9 q10 : Pos} (h : supB K t file = true) (gC : mg t.x = some (.ref (He.ga K t.x))) (gS : mg "super" = none) (hfile : ((prog.main.file : Str) == file) = true)
    (htop : (prog.main.scope.names.lookup ("super" : Str)).isSome = false) (hi : initW K (t.x, some "__init__") = some (("__init__" : Str), qual, SupX.iA t p1 p2, FuncBody.stmts (SupX.iB t j q1 q2 q3 q4 q5 q6 q7 q8 q9 q10), SupX.iS t, mainGlobals, [("__class__" : Str)], builtinsNs))
    (pn : (t.p == ("__debug__" : Str)) = false ∧ t.p ≠ "self") (l1 : (SupX.iS t).names.lookup ("self" : Str) = some .local) (l2 : (SupX.iS t).names.lookup t.p = some .local) (l3 : (SupX.iS t).names.lookup ("__class__" : Str) = some .free) (l4 : (SupX.iS t).names.lookup ("super" : Str) = some .globalImplicit)
    (hbind : ∀ (cl : List (Str × Addr)) (kV doc pm : Value) (an : Option Addr) (cdv ct a b : Value), bindArgs (PySem.W.fnX "__init__" qual (SupX.iA t p1 p2) (SupX.iB t j q1 q2 q3 q4 q5 q6 q7 q8 q9 q10) (SupX.iS t) cl .none kV doc pm an cdv ct) ⟨[a, b], []⟩ = pure [(("self" : Str), a), (t.p, b)])
    (hev : ∀ env : Env, ∃ pl : Sem Bool, eval (.Call (.Attribute (.Call (.Name "super" q1) [] [] q2) "__init__" q3) [.Constant (.str t.m) j q4] [] q5) env = (do
        let ov ← attributeBase (.Call (.Name "super" q1) [] [] q2) "__init__" env (eval (.Call (.Name "super" q1) [] [] q2) env)
        standAt q3.atName
        let (f, first) ← holding [ov] (getMethod ov "__init__" pl)
        callWith q5 f first (backTo q5 (starEach [.Constant (.str t.m) j q4] env)) [])) :
    SupX.Has prog K mg t (He.ga K t.x) (He.fAd K (t.x, some "__init__")) := by
  unfold supB at h
  obtain ⟨h1, h⟩ := He.ba h
  obtain ⟨h2, h⟩ := He.ba h
  obtain ⟨h3, h⟩ := He.ba h
  obtain ⟨h4, h⟩ := He.ba h
  obtain ⟨h5, h⟩ := He.ba h
  obtain ⟨h6, h⟩ := He.ba h
  obtain ⟨h7, h⟩ := He.ba h
  obtain ⟨h8, h⟩ := He.ba h
  obtain ⟨h9, h⟩ := He.ba h
  obtain ⟨h10, h⟩ := He.ba h
  obtain ⟨h11, h⟩ := He.ba h
  obtain ⟨h12, h⟩ := He.ba h
  obtain ⟨h13, h14⟩ := He.ba h
  obtain ⟨cc, cda, oc, ccl, cl, od, cdd, cld, kV, doc, pm, an, ct, osl, ccs, csl, vs, tf, r1, r2, r3, r4, r5⟩ := fnB_ok h14 hi
  exact { gC := gC, cls := clsB_ok h13, sa := He.eqO_ok h1, noN := He.eqO_ok h2, iC := He.eqO_ok h3, tC := of_decide_eq_true h4, kC := h5, exC := of_decide_eq_true h6, tyC := of_decide_eq_true h7, sVE := of_decide_eq_true h8, mro := of_decide_eq_true h9,
          sup := He.eqO_ok h10, ini := h11, tp := He.eqO_ok h12, gS := gS, pn := pn, lself := l1, lp := l2, lcls := l3, lsup := l4,
          fn := ⟨cc, cda, oc, ccl, cl, od, cdd, cld, kV, doc, pm, an, ct, osl, ccs, csl, vs, file, tf, qual, j, p1, p2, q1, q2, q3, q4, q5, q6, q7, q8, q9, q10, r1, r2, r3, r4, hfile, r5, fun a b => hbind _ _ _ _ _ _ _ a b, hev⟩, top := htop }
end Own
set_option Elab.async false
set_option linter.all false
set_option maxRecDepth 100000
set_option maxHeartbeats 4000000
namespace Own
open PySem PySem.Spec PyProof.Rows L2 LamX
/-! ### the text -/
def top (i : Nat) : Stmt := PySem.Challenge.pw_rulerchest_k14_deeds_and_drawings_judged.main.body.getD i (.Pass ⟨0, 0, 0, 0⟩)
abbrev sWhole : Stmt := top 20
abbrev sName : Stmt := top 22
abbrev sLowest : Stmt := top 26
abbrev sRowsOf : Stmt := top 60
abbrev cTower : Stmt := top 61
abbrev sNeedT : Stmt := top 62
abbrev cNumber : Stmt := top 66
abbrev sIsNum : Stmt := top 67
abbrev sFrac : Stmt := top 69
abbrev sIsPt : Stmt := top 83
abbrev sSheet : Stmt := top 85
abbrev sIsPts : Stmt := top 98
abbrev sDeed : Stmt := top 102
abbrev sNeedD : Stmt := top 103
abbrev sNames : Stmt := top 104
abbrev sTool : Stmt := top 105
abbrev sOnNames : Stmt := top 106
abbrev sDrawing : Stmt := top 107
abbrev sLaid : Stmt := top 121
abbrev sBegun : Stmt := top 123
abbrev sStir : Stmt := top 124
abbrev sDraw : Stmt := top 125
abbrev sPick : Stmt := top 126
abbrev sShuf : Stmt := top 127
abbrev sLName : Stmt := top 128
abbrev sCaught : Stmt := top 129
abbrev sForms : Stmt := top 130
abbrev sHasWay : Stmt := top 131
abbrev sLDeed : Stmt := top 132
abbrev sNameDue : Stmt := top 133
abbrev sDeedDue : Stmt := top 134
abbrev sBent : Stmt := top 135
abbrev sDrawDue : Stmt := top 136
abbrev sSteps : Stmt := top 137
abbrev sBentS : Stmt := top 138
abbrev sToldR : Stmt := top 139
abbrev sErrR : Stmt := top 140
abbrev sLaw : Stmt := top 141
abbrev FnP (K : PySem.W.Frag) (x : Str) (st : Stmt) (f : Addr) (fd : FuncData) : Prop := FunD K x x (defArgs st) (defBody st) (defScope st) [] [] f fd
/-! ### kinds of values -/
/-- isinstance(x, int) is i, isinstance(x, bool) is b -/
def Kind (K : PySem.W.Frag) (H : Hp) (x : V) (i b : Bool) : Prop := ∃ t : String, TyX K H x (.type t) ∧ kitB t "int" = some i ∧ kitB t "bool" = some b
theorem Kind.int {K : PySem.W.Frag} {H : Hp} (z : Int) : Kind K H (.int z) true false := ⟨"int", .base (.int z), by decide +kernel, by decide +kernel⟩
theorem Kind.bl {K : PySem.W.Frag} {H : Hp} (z : Bool) : Kind K H (.bl z) true true := ⟨"bool", .base (.bl z), by decide +kernel, by decide +kernel⟩
theorem Kind.non {K : PySem.W.Frag} {H : Hp} : Kind K H .non false false := ⟨"NoneType", .base .non, by decide +kernel, by decide +kernel⟩
theorem Kind.str {K : PySem.W.Frag} {H : Hp} (z : Str) : Kind K H (.str z) false false := ⟨"str", .base (.str z), by decide +kernel, by decide +kernel⟩
theorem Kind.lst {K : PySem.W.Frag} {H : Hp} {a : Addr} {xs : List V} (e : H a = some (.lst xs)) : Kind K H (.ref a) false false := ⟨"list", .base (.lst e), by decide +kernel, by decide +kernel⟩
theorem Kind.tup {K : PySem.W.Frag} {H : Hp} {a : Addr} {xs : List V} (e : H a = some (.tup xs)) : Kind K H (.ref a) false false := ⟨"tuple", .base (.tup e), by decide +kernel, by decide +kernel⟩
theorem Kind.dict {K : PySem.W.Frag} {H : Hp} {a : Addr} {kvs : List (Key × V)} (e : H a = some (.dK kvs)) : Kind K H (.ref a) false false := ⟨"dict", .base (.dK e), by decide +kernel, by decide +kernel⟩
/-! ### what the walk asks of the module -/
structure Txt (K : PySem.W.Frag) (mg : Str → Option Value) : Prop where
  isi : mg "isinstance" = none
  int : mg "int" = none
  bool : mg "bool" = none
  str : mg "str" = none
  tuple : mg "tuple" = none
  abs : mg "abs" = none
  len : mg "len" = none
  range : mg "range" = none
  list : mg "list" = none
  min : mg "min" = none
  max : mg "max" = none
  enum : mg "enumerate" = none
  sorted : mg "sorted" = none
  dict : mg "dict" = none
  repr : mg "repr" = none
def spWhole (K : PySem.W.Frag) : Sp := fun vs H Q _ => ∃ x i b, vs = [x] ∧ Kind K H x i b ∧ Q (.bl (i && !b)) H
section
variable {P : Program} {w : World} {K : PySem.W.Frag} {mg : Str → Option Value} {base : Heap} {f : Addr} {fd : FuncData}
theorem scWhole : FnScope ["value"] ["value"] (defScope sWhole) := ⟨rfl, rfl, rfl, by decide +kernel, rfl, by decide +kernel, by decide +kernel⟩
theorem ok_whole (F : FnP K "is_whole" sWhole f fd) (T : Txt K mg) : FnOk P w K mg base CX0 1 f fd ["value"] (spWhole K) := by
  refine F.ok scWhole (fun vs H Q E h => ?_) (fun cdv A outer s H vs Q E hr h => ?_)
  · obtain ⟨x, i, b, rfl, _⟩ := h
    rfl
  · obtain ⟨x, i, b, rfl, ⟨t, ty, e1, e2⟩, k⟩ := h
    refine ⟨_, PSs.nox (pss_one (ps_ret (pe_and (pe_callB call_isi (by rfl) T.isi boot_isinstance (pa_cons (pv 0) (pa_cons (pe_bltn (v := .ty "int") (by rfl) T.int boot_int rfl) pa_nil)))
      (pe_one (pe_not (pe_callB call_isi (by rfl) T.isi boot_isinstance (pa_cons (pv 0) (pa_cons (pe_bltn (v := .ty "bool") (by rfl) T.bool boot_bool rfl) pa_nil)))))))), ?_⟩
    refine ⟨_, rfl, x, .ty "int", .type t, .type "int", i, rfl, .ty _, ty, kit_ty e1, i, rfl, ?_⟩
    cases i with
    | false =>
      refine iteF ?_
      exact k
    | true =>
      refine iteT ?_
      exact ⟨_, rfl, x, .ty "bool", .type t, .type "bool", b, rfl, .ty _, ty, kit_ty e2, b, rfl, k⟩
end
end Own
set_option Elab.async false
set_option linter.all false
set_option maxRecDepth 100000
set_option maxHeartbeats 4000000
namespace Own
open PySem PySem.Spec PyProof.Rows L2 LamX
theorem yes_if {σ : L2.St} {H : Hp} {A B : Hp → Prop} (h : A H) : tYes σ H (fun b H3 => if b = true then A H3 else B H3) := by
  show if true = true then A H else B H
  rw [if_pos rfl]
  exact h
/-! ### the law's draws: a state of two lists and two wholes -/
def stK (lw lc : Addr) (r u : Int) : List (Key × V) := [(.inr "wide", .ref lw), (.inr "cells", .ref lc), (.inr "rest", .int r), (.inr "turn", .int u)]
theorem stK_wide (lw lc : Addr) (r u : Int) : valV (stK lw lc r u) (.inr "wide") = some (.ref lw) := by kernel_rfl
theorem stK_cells (lw lc : Addr) (r u : Int) : valV (stK lw lc r u) (.inr "cells") = some (.ref lc) := by kernel_rfl
theorem stK_rest (lw lc : Addr) (r u : Int) : valV (stK lw lc r u) (.inr "rest") = some (.int r) := by kernel_rfl
theorem stK_turn (lw lc : Addr) (r u : Int) : valV (stK lw lc r u) (.inr "turn") = some (.int u) := by kernel_rfl
theorem stK_putRest (lw lc : Addr) (r u z : Int) : putK (stK lw lc r u) (.inr "rest") (.int z) = stK lw lc z u := by kernel_rfl
theorem stK_putTurn (lw lc : Addr) (r u z : Int) : putK (stK lw lc r u) (.inr "turn") (.int z) = stK lw lc r z := by kernel_rfl
theorem stK_new (lw lc : Addr) : mergeK [] (stK lw lc 0 0) = stK lw lc 0 0 := by kernel_rfl
theorem dget_k {H : Hp} {a : Addr} {kvs : List (Key × V)} (k : Key) {v : V} (h : H a = some (.dK kvs)) (e : valV kvs k = some v) : DGet H a (kV k) (some v) := e ▸ DGet.k h
theorem dput_k {H : Hp} {a : Addr} {kvs kvs' : List (Key × V)} (k : Key) {v : V} (h : H a = some (.dK kvs)) (hl : kvs.length < sizeLine) (e : putK kvs k v = kvs') : DPut H a (kV k) v (upd H a (.dK kvs')) := e ▸ DPut.k h hl
/-- the state at a, its turns being at most t -/
structure StA (H : Hp) (a lw lc : Addr) (t : Nat) : Prop where
  ex : ∃ (ws cs : List Int) (r u : Int), H a = some (.dK (stK lw lc r u)) ∧ H lw = some (.lst (ws.map V.int)) ∧ H lc = some (.lst (cs.map V.int)) ∧ 0 ≤ r ∧ 0 ≤ u ∧ u ≤ t ∧ (∀ z ∈ ws, 0 ≤ z) ∧ ws.length ≤ 63
  ne : lw ≠ lc
/-- all that was tracked is as it was, but for what stands at xs -/
def Kp (xs : List Addr) (H H' : Hp) : Prop := ∀ b o, H b = some o → b ∉ xs → H' b = some o
theorem Kp.refl (xs : List Addr) (H : Hp) : Kp xs H H := fun _ _ h _ => h
theorem Kp.trans {xs : List Addr} {H H1 H2 : Hp} (a : Kp xs H H1) (b : Kp xs H1 H2) : Kp xs H H2 := fun c o h n => b c o (a c o h n) n
theorem Kp.of {xs : List Addr} {H H' : Hp} (e : Same H H') : Kp xs H H' := fun b o h _ => e b o h
theorem Kp.upd {xs : List Addr} {H : Hp} {a : Addr} {o : HO} (h : a ∈ xs) : Kp xs H (L2.upd H a o) := fun b u e n => by
  rw [upd_ne (fun z => n (by rw [z]; exact h))]
  exact e
theorem Same.upd {H : Hp} {a : Addr} {o : HO} (h : H a = none) : Same H (L2.upd H a o) := fun b u e => by
  rw [upd_ne (ne_of_none e h)]
  exact e
theorem Kp.weak {xs ys : List Addr} {H H' : Hp} (a : Kp xs H H') (h : ∀ b ∈ xs, b ∈ ys) : Kp ys H H' := fun b o e n => a b o e fun z => n (h b z)
theorem StA.same {H H' : Hp} {a lw lc : Addr} {t : Nat} (S : StA H a lw lc t) (e : Same H H') : StA H' a lw lc t := by
  obtain ⟨⟨ws, cs, r, u, h1, h2, h3, h4⟩, ne⟩ := S
  exact ⟨⟨ws, cs, r, u, e _ _ h1, e _ _ h2, e _ _ h3, h4⟩, ne⟩
theorem StA.more {H : Hp} {a lw lc : Addr} {t t' : Nat} (S : StA H a lw lc t) (h : t ≤ t') : StA H a lw lc t' := by
  obtain ⟨⟨ws, cs, r, u, h1, h2, h3, h4, h5, h6, h7⟩, ne⟩ := S
  exact ⟨⟨ws, cs, r, u, h1, h2, h3, h4, h5, by omega, h7⟩, ne⟩
def spBegun (K : PySem.W.Frag) : Sp := fun vs H Q _ => ∃ (s : Addr) (ns : List Int), vs = [.ref s] ∧ SqL K H s (ns.map V.int) ∧ ns.length ≤ 63 ∧
  ∀ a lw lc H', H a = none → H lw = none → H lc = none → StA H' a lw lc 0 → Same H H' → Q (.ref a) H'
def spStir : Sp := fun vs H Q _ => ∃ (a lw lc : Addr) (t : Nat), vs = [.ref a] ∧ StA H a lw lc t ∧ t < 2 ^ 40 ∧
  ∀ z H', 0 ≤ z → StA H' a lw lc (t + 1) → Kp [a] H H' → Q (.int z) H'
def spDraw : Sp := fun vs H Q _ => ∃ (a lw lc : Addr) (t : Nat) (n : Int), vs = [.ref a, .int n] ∧ StA H a lw lc t ∧ t < 2 ^ 40 ∧ 0 < n ∧ n < 2 ^ 128 ∧
  ∀ z H', 0 ≤ z → z < n → StA H' a lw lc (t + 1) → Kp [a, lw] H H' → Q (.int z) H'
def spPick (K : PySem.W.Frag) : Sp := fun vs H Q _ => ∃ (a lw lc : Addr) (t : Nat) (l : Addr) (xs : List V), vs = [.ref a, .ref l] ∧ StA H a lw lc t ∧ t < 2 ^ 40 ∧ H l = some (.lst xs) ∧ l ≠ lw ∧ 0 < xs.length ∧ xs.length ≤ 1000 ∧
  ∀ (i : Nat) x H', xs[i]? = some x → StA H' a lw lc (t + 1) → Kp [a, lw] H H' → Q x H'
section
variable {P : Program} {w : World} {K : PySem.W.Frag} {mg : Str → Option Value} {base : Heap} {f fS fD : Addr} {fd fdS fdD : FuncData}
theorem scBegun : FnScope ["_law_script", "_law_wide", "_law_cell"] ["_law_script"] (defScope sBegun) := ⟨rfl, rfl, rfl, by decide +kernel, rfl, by decide +kernel, by decide +kernel⟩
theorem ok_begun (F : FnP K "_law_begun" sBegun f fd) (T : Txt K mg) : FnOk P w K mg base CX0 1 f fd ["_law_script"] (spBegun K) := by
  refine F.ok scBegun (fun vs H Q E h => ?_) (fun cdv A outer s H vs Q E hr h => ?_)
  · obtain ⟨x, i, rfl, _⟩ := h
    rfl
  · obtain ⟨x, ns, rfl, hS, hl, k⟩ := h
    refine ⟨_, PSs.nox (pss_cons (ps_setLc (i := 1) (own := [("_law_cell", 2)]) (g := gName 2) (by rfl) scBegun.nd rfl rfl (sw_true rfl rfl rfl (by decide +kernel)) (pi_list (pv 0)) (blkOk_by (own := [("_law_cell", 2)]) (N := ["_law_script", "_law_wide", "_law_cell"]) (sc := defScope sBegun) (by decide +kernel))
        (fun _ _ _ _ _ => pg_name (i := 2) scBegun.nd rfl (Or.inl rfl))
        (fun _ _ _ _ _ => pts_one (pt_cmpR op_ge (pe_callB call_abs (by rfl) T.abs (by decide +kernel) (pa_cons (pv 2) pa_nil)) (pe_op op_pow pe_int pe_int) (nomark _)))
        (fun _ _ _ _ _ => pe_op op_sub (pe_callB call_abs (by rfl) T.abs (by decide +kernel) (pa_cons (pv 2) pa_nil)) (pe_op op_pow pe_int pe_int)))
      (pss_one (ps_ret (pe_disp (pps_cons pe_str (pv 1) (pps_cons pe_str (pe_lc (own := [("_law_cell", 2)]) (g := gName 2) (tt := tYes) (by rfl) scBegun.nd (pi_list (pv 0)) (blkOk_by (own := [("_law_cell", 2)]) (N := ["_law_script", "_law_wide", "_law_cell"]) (sc := defScope sBegun) (by decide +kernel))
        (fun _ _ _ _ _ => pg_name (i := 2) scBegun.nd rfl (Or.inl rfl)) (fun _ _ _ _ _ => pts_nil) (fun _ _ _ _ _ => pe_callB call_abs (by rfl) T.abs (by decide +kernel) (pa_cons (pv 2) pa_nil)))
        (pps_cons pe_str pe_int (pps_cons pe_str pe_int pps_nil)))) (by rfl) (by rfl) (fun z => by cases z) (by decide))))), ?_⟩
    refine ⟨_, rfl, x, rfl, ⟨_, hS⟩, fun lw nw => ?_⟩
    have sw : ∀ o, Same H (L2.upd H lw o) := fun o => Same.upd nw
    refine lc_list (K := K) (a := x) (xs := ns.map V.int) (fun i H1 => ∃ ws : List Int, H1 = L2.upd H lw (.lst (ws.map V.int)) ∧ (∀ z ∈ ws, 0 ≤ z) ∧ ws.length ≤ i) ⟨[], rfl, (fun z hz => by cases hz), Nat.le_refl _⟩ (fun i H1 _ ⟨ws, e, _⟩ => by rw [e]; exact (sw _).seq hS) ?_ ?_
    · rintro i y H1 hi ⟨ws, rfl, h0, hw⟩
      obtain ⟨z, hz, rfl⟩ : ∃ z, ns[i]? = some z ∧ y = V.int z := by
        rw [List.getElem?_map] at hi
        cases e : ns[i]? with
        | none =>
          rw [e] at hi
          cases hi
        | some z =>
          rw [e] at hi
          exact ⟨z, rfl, (Option.some.inj hi).symm⟩
      have hin : i < 63 := Nat.lt_of_lt_of_le (List.getElem?_eq_some_iff.mp hz).1 hl
      refine ⟨rfl, _, rfl, z, rfl, _, _, rfl, rfl, ⟨by decide, by decide, by decide⟩, _, _, rfl, rfl, _, rfl, ?_⟩
      refine ite2 (fun hc => ?_) fun _ => ⟨ws, rfl, h0, by omega⟩
      refine ⟨_, rfl, z, rfl, _, _, rfl, rfl, ⟨by decide, by decide, by decide⟩, _, _, rfl, rfl, _, upd_same, (by rw [List.length_map]; exact Nat.lt_of_le_of_lt (Nat.le_trans hw (Nat.le_of_lt hin)) (by decide)), ?_⟩
      refine ⟨ws ++ [(if z < 0 then -z else z) - 10 ^ (18 : Int).toNat], ?_, fun q hq => ?_, by simp; omega⟩
      · rw [upd_upd, List.map_append]
        all_goals rfl
      · rcases List.mem_append.mp hq with m | m
        · exact h0 q m
        · have hc' := of_decide_eq_true hc
          rw [List.mem_singleton] at m
          subst m
          omega
    · rintro H1 ⟨ws, rfl, h0, hw⟩
      intro a na
      have nL : a ≠ lw := fun z => by
        rw [z, upd_same] at na
        cases na
      have na0 : H a = none := by
        rw [upd_ne nL] at na
        exact na
      have s1 : Same H (L2.upd (L2.upd H lw (.lst (ws.map V.int))) a (.dK [])) := (sw _).trans (Same.upd na)
      refine ⟨_, rfl, ?_⟩
      refine ⟨_, rfl, x, rfl, ⟨_, s1.seq hS⟩, fun lc nc => ?_⟩
      have sc : ∀ o, Same (L2.upd (L2.upd H lw (.lst (ws.map V.int))) a (.dK [])) (L2.upd (L2.upd (L2.upd H lw (.lst (ws.map V.int))) a (.dK [])) lc o) := fun o => Same.upd nc
      refine lc_list (K := K) (a := x) (xs := ns.map V.int) (fun i H1 => ∃ cs : List Int, H1 = L2.upd (L2.upd (L2.upd H lw (.lst (ws.map V.int))) a (.dK [])) lc (.lst (cs.map V.int)) ∧ cs.length = i) ⟨[], rfl, rfl⟩ (fun i H1 _ ⟨cs, e, _⟩ => by rw [e]; exact (s1.trans (sc _)).seq hS) ?_ ?_
      · rintro i y H1 hi ⟨cs, rfl, hcs⟩
        obtain ⟨z, hz, rfl⟩ : ∃ z, ns[i]? = some z ∧ y = V.int z := by
          rw [List.getElem?_map] at hi
          cases e : ns[i]? with
          | none =>
            rw [e] at hi
            cases hi
          | some z =>
            rw [e] at hi
            exact ⟨z, rfl, (Option.some.inj hi).symm⟩
        have hin : i < 63 := Nat.lt_of_lt_of_le (List.getElem?_eq_some_iff.mp hz).1 hl
        refine ⟨rfl, ?_⟩
        refine yes_if ?_
        refine ⟨_, rfl, z, rfl, _, upd_same, (by rw [List.length_map, hcs]; exact Nat.lt_trans hin (by decide)), ?_⟩
        exact ⟨cs ++ [if z < 0 then -z else z], by rw [upd_upd, List.map_append]; all_goals rfl, by simp [hcs]⟩
      · rintro H1 ⟨cs, rfl, hcs⟩
        have nLC : lw ≠ lc := ne_of_none (by rw [upd_ne nL.symm]; exact upd_same) nc
        have nAC : a ≠ lc := ne_of_none upd_same nc
        have hlw : ws.length ≤ 63 := by
          rw [List.length_map] at hw
          omega
        refine ⟨by rw [upd_ne nAC]; exact upd_same, stK lw lc 0 0, rfl, (by show 4 ≤ 15; decide), ?_⟩
        rw [stK_new]
        have nc0 : H lc = none := (s1.free nc)
        refine k a lw lc _ na0 nw nc0 ⟨⟨ws, cs, 0, 0, upd_same, ?_, ?_, Int.le_refl _, Int.le_refl _, Int.le_refl _, h0, hlw⟩, nLC⟩ ?_
        · rw [upd_ne nL.symm, upd_ne nLC, upd_ne nL.symm, upd_same]
        · rw [upd_ne nAC.symm, upd_same]
        · intro b o e
          rw [upd_ne (ne_of_none e na0)]
          exact (s1.trans (sc _)) b o e
end
end Own
set_option Elab.async false
set_option linter.all false
set_option maxRecDepth 100000
set_option maxHeartbeats 4000000
namespace Own
open PySem PySem.Spec PyProof.Rows L2 LamX
section
variable {P : Program} {w : World} {K : PySem.W.Frag} {mg : Str → Option Value} {base : Heap} {f fS fD : Addr} {fd fdS fdD : FuncData}
theorem ints_at {ns : List Int} {i : Nat} {y : V} (h : (ns.map V.int)[i]? = some y) : ∃ z, ns[i]? = some z ∧ y = V.int z := by
  rw [List.getElem?_map] at h
  cases e : ns[i]? with
  | none =>
    rw [e] at h
    cases h
  | some z =>
    rw [e] at h
    exact ⟨z, rfl, (Option.some.inj h).symm⟩
theorem scStir : FnScope ["_law_state", "_law_turn", "_law_found", "_law_prime", "_law_blend", "_law_cell"] ["_law_state"] (defScope sStir) := ⟨rfl, rfl, rfl, by decide +kernel, rfl, by decide +kernel, by decide +kernel⟩
def primes : List Int := [2147483647, 2147483629, 2147483587, 2147483579]
theorem ok_stir (F : FnP K "_law_stirred" sStir f fd) (T : Txt K mg) : FnOk P w K mg base CX0 1 f fd ["_law_state"] spStir := by
  refine F.ok scStir (fun vs H Q E h => ?_) (fun cdv A outer s H vs Q E hr h => ?_)
  · obtain ⟨a, lw, lc, t, rfl, _⟩ := h
    rfl
  · obtain ⟨a, lw, lc, t, rfl, S, ht, k⟩ := h
    have hu := hu_of hr
    refine ⟨_, PSs.nox (pss_cons (ps_par (i := 1) (j := 2) rfl scStir.nd rfl rfl (by decide) rfl rfl (pa_cons (pe_op op_add (pe_dget hu (pv 0) pe_str (fun _ _ => rfl)) pe_int) (pa_cons pe_int pa_nil)) (by rfl))
      (pss_cons (ps_dput hu (pv 0) pe_str (pv 1) rfl)
      (pss_cons (ps_for PassesOwn.never rfl (pi_list (pe_lst (pa_cons pe_int (pa_cons pe_int (pa_cons pe_int (pa_cons pe_int pa_nil)))))) (pg_name (i := 3) scStir.nd rfl (Or.inl rfl))
        (pss_cons (ps_set (i := 4) scStir.nd rfl (Or.inl rfl) (pe_op op_add (pe_op op_mul pe_int (pv 1)) (pe_op op_fdiv (pv 3) pe_int)))
        (pss_cons (ps_for PassesOwn.never rfl (pi_list (pe_dget hu (pv 0) pe_str (fun _ _ => rfl))) (pg_name (i := 5) scStir.nd rfl (Or.inl rfl))
          (pss_one (ps_set (i := 4) scStir.nd rfl (Or.inl rfl) (pe_op op_mod (pe_callTy call_int1 (by rfl) T.int boot_int (pa_cons (pe_op op_add (pe_op op_add (pe_op op_mul (pv 4) pe_int) (pv 5)) (pv 1)) pa_nil)) (pv 3)))))
        (pss_one (ps_set (i := 2) scStir.nd rfl (Or.inl rfl) (pe_op op_add (pe_op op_mul (pv 2) pe_int) (pe_op op_mod (pe_callTy call_int1 (by rfl) T.int boot_int (pa_cons (pe_op op_pow (pv 4) pe_int) pa_nil)) (pv 3))))))))
      (pss_one (ps_ret (pv 2)))))), ?_⟩
    obtain ⟨⟨ws, cs, r, u, h1, h2, h3, hr0, hu0, hut, hw0, hwl⟩, ne⟩ := S
    refine ⟨_, rfl, a, _, rfl, dget_k (.inr "turn") h1 (stK_turn ..), _, _, rfl, rfl, _, _, rfl, ?_⟩
    refine ⟨_, rfl, _, rfl, a, _, rfl, dput_k (.inr "turn") h1 (by show 4 < sizeLine; decide) (stK_putTurn ..), ?_⟩
    have nlw : lw ≠ a := ne_of h2 h1 (by intro z; cases z)
    have nlc : lc ≠ a := ne_of h3 h1 (by intro z; cases z)
    refine ⟨(by show 4 ≤ sizeLine; decide), fun p hp => ?_⟩
    have npa : p ≠ a := (ne_of_none upd_same hp).symm
    have npw : p ≠ lw := (ne_of_none (by rw [upd_ne nlw]; exact h2) hp).symm
    have npc : p ≠ lc := (ne_of_none (by rw [upd_ne nlc]; exact h3) hp).symm
    have hp0 : H p = none := by
      rw [upd_ne npa] at hp
      exact hp
    have np0 : SqL K (L2.upd (L2.upd H a (.dK (stK lw lc r (u + 1)))) p (.lst (primes.map V.int))) p (primes.map V.int) := SqL.of upd_same
    have atA : (L2.upd (L2.upd H a (.dK (stK lw lc r (u + 1)))) p (.lst (primes.map V.int))) a = some (.dK (stK lw lc r (u + 1))) := by rw [upd_ne npa.symm, upd_same]
    have atC : (L2.upd (L2.upd H a (.dK (stK lw lc r (u + 1)))) p (.lst (primes.map V.int))) lc = some (.lst (cs.map V.int)) := by rw [upd_ne npc.symm, upd_ne nlc]; exact h3
    refine ⟨p, rfl, ⟨_, np0⟩, for_list (K := K) (a := p) (xs := primes.map V.int) (fun i σ H1 => ∃ (z : Int) (v3 v4 v5 : Option V), σ = [some (.ref a), some (.int (u + 1)), some (.int z), v3, v4, v5] ∧ 0 ≤ z ∧ H1 = L2.upd (L2.upd H a (.dK (stK lw lc r (u + 1)))) p (.lst (primes.map V.int)))
      ⟨0, none, none, none, rfl, Int.le_refl _, rfl⟩ (fun i σ H1 _ ⟨_, _, _, _, _, _, e⟩ => by rw [e]; exact np0) ?_ ?_⟩
    · rintro i y σ H1 hi ⟨z, v3, v4, v5, rfl, hz, rfl⟩
      obtain ⟨q, hq, rfl⟩ := ints_at hi
      have hq2 : 2000000000 < q ∧ q < 3000000000 := by
        match i, hq with
        | 0, hq => cases hq; exact ⟨by decide, by decide⟩
        | 1, hq => cases hq; exact ⟨by decide, by decide⟩
        | 2, hq => cases hq; exact ⟨by decide, by decide⟩
        | 3, hq => cases hq; exact ⟨by decide, by decide⟩
        | j + 4, hq => cases hq
      refine ⟨_, rfl, _, _, rfl, rfl, .inl ⟨by decide, by decide⟩, _, rfl, _, _, rfl, rfl, ⟨by decide, by decide⟩, _, _, rfl, rfl, ?_⟩
      refine ⟨_, rfl, a, _, rfl, dget_k (.inr "cells") atA (stK_cells ..), lc, rfl, ⟨_, SqL.of atC⟩, ?_⟩
      refine for_list (K := K) (a := lc) (xs := cs.map V.int) (fun i σ H1 => ∃ (b : Int) (v5 : Option V), σ = [some (.ref a), some (.int (u + 1)), some (.int z), some (.int q), some (.int b), v5] ∧ 0 ≤ b ∧ b < 2 ^ 60 ∧ H1 = L2.upd (L2.upd H a (.dK (stK lw lc r (u + 1)))) p (.lst (primes.map V.int)))
        ⟨48271 * (u + 1) + q / 37, v5, rfl, by omega, by omega, rfl⟩ (fun i σ H1 _ ⟨_, _, _, _, _, e⟩ => by rw [e]; exact SqL.of atC) ?_ ?_
      · rintro j y σ H1 hj ⟨b, v5, rfl, hb0, hb1, rfl⟩
        obtain ⟨c, hc, rfl⟩ := ints_at hj
        refine ⟨_, rfl, _, _, rfl, rfl, .inr ⟨by decide, by decide⟩, _, rfl, _, _, rfl, rfl, _, rfl, _, _, rfl, rfl, .inl ⟨_, rfl, _, rfl, _, _, rfl, rfl, (by omega), ?_⟩⟩
        have m1 := Int.emod_nonneg (b * 69621 + c + (u + 1)) (show q ≠ 0 by omega)
        have m2 := Int.emod_lt_of_pos (b * 69621 + c + (u + 1)) (show 0 < q by omega)
        exact ⟨_, _, rfl, m1, by omega, rfl⟩
      · rintro σ H1 ⟨b, v5, rfl, hb0, hb1, rfl⟩
        refine ⟨_, rfl, _, _, rfl, rfl, .inr ⟨by decide, by decide⟩, _, rfl, _, _, rfl, rfl, ⟨by decide, by decide, by omega⟩, .inl ⟨_, rfl, _, rfl, _, _, rfl, rfl, (by omega), _, _, rfl, rfl, ?_⟩⟩
        have m1 := Int.emod_nonneg (b ^ (5 : Int).toNat) (show q ≠ 0 by omega)
        exact ⟨_, _, _, _, rfl, by omega, rfl⟩
    · rintro σ H1 ⟨z, v3, v4, v5, rfl, hz, rfl⟩
      refine ⟨_, rfl, ?_⟩
      refine k z _ hz ⟨⟨ws, cs, r, u + 1, atA, ?_, atC, hr0, by omega, by omega, hw0, hwl⟩, ne⟩ fun b o e nb => ?_
      · rw [upd_ne npw.symm, upd_ne nlw]
        exact h2
      · have nb2 : b ≠ a := fun z => nb (List.mem_singleton.mpr z)
        rw [upd_ne (ne_of_none e hp0), upd_ne nb2]
        exact e
end
end Own
set_option Elab.async false
set_option linter.all false
set_option maxRecDepth 100000
set_option maxHeartbeats 4000000
namespace Own
open PySem PySem.Spec PyProof.Rows L2 LamX
section
variable {P : Program} {w : World} {K : PySem.W.Frag} {mg : Str → Option Value} {base : Heap} {f fS fD : Addr} {fd fdS fdD : FuncData}
theorem dpAll_ints {H : Hp} : ∀ ws : List Int, DpAll K H (ws.map V.int) (ws.map PyData.int)
  | [] => .nil
  | z :: r => .cons (.int z) (dpAll_ints r)
theorem shaped_ints : ∀ ws : List Int, SeqAt.shaped (.list (ws.map PyData.int)) = true := by
  intro ws
  have h : ∀ l : List Int, PyData.canLayAll0 (l.map PyData.int) = true ∧ PyData.depthAll (l.map PyData.int) = 0 := by
    intro l
    induction l with
    | nil => exact ⟨rfl, rfl⟩
    | cons z r ih =>
      refine ⟨?_, ?_⟩
      · show (true && PyData.canLayAll0 (r.map PyData.int)) = true
        rw [ih.1]
        rfl
      · show max 0 (PyData.depthAll (r.map PyData.int)) = 0
        rw [ih.2]
        rfl
  show (PyData.canLayAll0 (ws.map PyData.int) && decide (PyData.depthAll (ws.map PyData.int) + 1 ≤ 64)) = true
  rw [(h ws).1, (h ws).2]
  rfl
theorem eqv_nil (ws : List Int) : PyData.eqv (.list (ws.map PyData.int)) (.list []) = ws.isEmpty := by
  cases ws <;> rfl
theorem scDraw : FnScope ["_law_state", "_law_room", "_law_found"] ["_law_state", "_law_room"] (defScope sDraw) := ⟨rfl, rfl, rfl, by decide +kernel, rfl, by decide +kernel, by decide +kernel⟩
theorem ok_draw (F : FnP K "_law_draw" sDraw f fd) (FS : FnP K "_law_stirred" sStir fS fdS) (gS : mg "_law_stirred" = some (.ref fS)) (T : Txt K mg) : FnOk P w K mg base CX0 2 f fd ["_law_state", "_law_room"] spDraw := by
  have GS : FnOk P w K mg base CX0 1 fS fdS ["_law_state"] spStir := ok_stir FS T
  have bS : Binds K fdS ["_law_state"] [] := FS.bindsN fun _ _ _ _ _ _ us hl => match us, hl with | [_], _ => rfl
  refine F.ok scDraw (fun vs H Q E h => ?_) (fun cdv A outer s H vs Q E hr h => ?_)
  · obtain ⟨a, lw, lc, t, n, rfl, _⟩ := h
    rfl
  · obtain ⟨a, lw, lc, t, n, rfl, S, ht, hn0, hn1, k⟩ := h
    have hu := hu_of hr
    refine ⟨_, PSs.nox (pss_cons (ps_if (pt_cmpR op_eq (pe_dget hu (pv 0) pe_str (fun _ _ => rfl)) pe_int (nomark _))
        (pss_one (ps_dput hu (pv 0) pe_str (pe_ifExp (pt_cmpR (op_neD hr.units) (pe_dget hu (pv 0) pe_str (fun _ _ => rfl)) (pe_lst pa_nil) (nomark _))
          (pe_bm PySem.F.plainAttrs_list PySem.F.slot_list_pop PySem.F.type_list_pop mt_popAt (pe_dget hu (pv 0) pe_str (fun _ _ => rfl)) (pa_cons pe_int pa_nil))
          (pe_call GS hr (by rfl) gS FS.kp bS .nil pass0 (pa_cons (pv 0) pa_nil))) rfl)) pss_nil)
      (pss_cons (ps_set (i := 2) scDraw.nd rfl (Or.inl rfl) (pe_op op_mod (pe_callTy call_int1 (by rfl) T.int boot_int (pa_cons (pe_dget hu (pv 0) pe_str (fun _ _ => rfl)) pa_nil)) (pv 1)))
      (pss_cons (ps_dput hu (pv 0) pe_str (pe_op op_fdivW (pe_dget hu (pv 0) pe_str (fun _ _ => rfl)) (pv 1)) rfl)
      (pss_one (ps_ret (pv 2)))))), ?_⟩
    -- what comes behind the first if
    have rest : ∀ H1, StA H1 a lw lc (t + 1) → Kp [a, lw] H H1 → ∀ x y : Option V, (tSeq (tAsg (tOp (rI (fun _ j => 0 < j) fun i j => .int (i % j)) (tCB (fun xs H Q => (∃ i, xs = [.int i] ∧ Q (.int i) H) ∨ ∃ k, xs = [.bl k] ∧ Q (.int (if k then 1 else 0)) H) (tCons (tDGet (tVar 0) (tC (.str "rest"))) tNil)) (tVar 1)) (gName 2))
        (tSeq (sDPut (tVar 0) (tC (.str "rest")) (tOp (rI CDivW fun i j => .int (i / j)) (tDGet (tVar 0) (tC (.str "rest"))) (tVar 1))) (tRet (tVar 2)))) { nx := fun _ H' => Q .non H', rt := Q } [some (.ref a), some (.int n), none] H1 := by
      intro H1 S1 K1 x y
      obtain ⟨⟨ws, cs, r, u, h1, h2, h3, hr0, hu0, hut, hw0, hwl⟩, ne⟩ := S1
      refine ⟨_, rfl, a, _, rfl, dget_k (.inr "rest") h1 (stK_rest ..), .inl ⟨_, rfl, _, rfl, _, _, rfl, rfl, hn0, ?_⟩⟩
      refine ⟨_, rfl, a, _, rfl, dget_k (.inr "rest") h1 (stK_rest ..), _, rfl, _, _, rfl, rfl, wide_div (b := 128) hn0 (by omega) (by decide) (by decide), _, rfl, a, _, rfl, dput_k (.inr "rest") h1 (by show 4 < sizeLine; decide) (stK_putRest ..), _, rfl, ?_⟩
      have nlw : lw ≠ a := ne_of h2 h1 (by intro z; cases z)
      have nlc : lc ≠ a := ne_of h3 h1 (by intro z; cases z)
      refine k _ _ (Int.emod_nonneg _ (by omega)) (Int.emod_lt_of_pos _ hn0) ⟨⟨ws, cs, r / n, u, upd_same, by rw [upd_ne nlw]; exact h2, by rw [upd_ne nlc]; exact h3, Int.ediv_nonneg hr0 (by omega), hu0, hut, hw0, hwl⟩, ne⟩ (K1.trans (Kp.upd (by simp)))
    obtain ⟨⟨ws, cs, r, u, h1, h2, h3, hr0, hu0, hut, hw0, hwl⟩, ne⟩ := id S
    have nlw : lw ≠ a := ne_of h2 h1 (by intro z; cases z)
    have nlc : lc ≠ a := ne_of h3 h1 (by intro z; cases z)
    refine ⟨_, rfl, a, _, rfl, dget_k (.inr "rest") h1 (stK_rest ..), rfl, _, rfl, ?_⟩
    refine ite2 (fun _ => ?_) (fun _ => rest H (S.more (Nat.le_succ t)) (Kp.refl _ _) none none)
    refine ⟨_, rfl, a, _, rfl, dget_k (.inr "wide") h1 (stK_wide ..), (by show 0 ≤ sizeLine; decide), fun p hp => ?_⟩
    have se : Same H (L2.upd H p (.lst [])) := Same.upd hp
    refine ⟨_, _, .lst (SqL.of (se _ _ h2)) (dpAll_ints ws), .lst (SqL.of upd_same) .nil, shaped_ints ws, rfl, _, rfl, ?_⟩
    rw [eqv_nil]
    have S1 := S.same se
    cases ws with
    | nil =>
      refine iteF ?_
      refine ⟨_, rfl, a, lw, lc, t, rfl, S1, ht, fun z H' hz S2 K2 => ?_⟩
      obtain ⟨⟨ws, cs, r, u, h1, h2, h3, hr0, hu0, hut, hw0, hwl⟩, ne⟩ := id S2
      have nlw : lw ≠ a := ne_of h2 h1 (by intro z; cases z)
      have nlc : lc ≠ a := ne_of h3 h1 (by intro z; cases z)
      refine ⟨_, rfl, a, _, rfl, dput_k (.inr "rest") h1 (by show 4 < sizeLine; decide) (stK_putRest ..), ?_⟩
      exact rest _ ⟨⟨ws, cs, z, u, upd_same, by rw [upd_ne nlw]; exact h2, by rw [upd_ne nlc]; exact h3, hz, hu0, hut, hw0, hwl⟩, ne⟩ (((Kp.of se).trans (K2.weak (by simp))).trans (Kp.upd (by simp))) none none
    | cons q ws =>
      refine iteT ?_
      have h1' := se _ _ h1
      have h2' := se _ _ h2
      refine ⟨_, rfl, a, _, rfl, dget_k (.inr "wide") h1' (stK_wide ..), .inl ⟨rfl, _, .inl (.inl h2')⟩, lw, _, 0, 0, .int q, rfl, rfl, h2', by decide, by decide, ?_, rfl, ?_⟩
      · unfold seqIndex?
        simp
      · have S3 : StA (L2.upd (L2.upd (L2.upd H p (.lst [])) lw (.lst (ws.map V.int))) a (.dK (stK lw lc q u))) a lw lc (t + 1) := by
          refine ⟨⟨ws, cs, q, u, upd_same, ?_, ?_, hw0 q List.mem_cons_self, hu0, by omega, fun z hz => hw0 z (List.mem_cons_of_mem _ hz), by rw [List.length_cons] at hwl; omega⟩, ne⟩
          · rw [upd_ne nlw, upd_same]
          · rw [upd_ne nlc, upd_ne ne.symm]
            exact se _ _ h3
        refine ⟨_, rfl, a, _, rfl, dput_k (.inr "rest") (by rw [upd_ne nlw.symm]; exact h1') (by show 4 < sizeLine; decide) (stK_putRest ..), ?_⟩
        exact rest _ S3 (((Kp.of se).trans (Kp.upd (by simp))).trans (Kp.upd (by simp))) none none
theorem scPick : FnScope ["_law_state", "_law_some"] ["_law_state", "_law_some"] (defScope sPick) := ⟨rfl, rfl, rfl, by decide +kernel, rfl, by decide +kernel, by decide +kernel⟩
theorem ok_pick (F : FnP K "_law_pick" sPick f fd) (FD : FnP K "_law_draw" sDraw fD fdD) (FS : FnP K "_law_stirred" sStir fS fdS) (gD : mg "_law_draw" = some (.ref fD)) (gS : mg "_law_stirred" = some (.ref fS)) (T : Txt K mg) : FnOk P w K mg base CX0 3 f fd ["_law_state", "_law_some"] (spPick K) := by
  have GD : FnOk P w K mg base CX0 2 fD fdD ["_law_state", "_law_room"] spDraw := ok_draw FD FS gS T
  have bD : Binds K fdD ["_law_state", "_law_room"] [] := FD.bindsN fun _ _ _ _ _ _ us hl => match us, hl with | [_, _], _ => rfl
  refine F.ok scPick (fun vs H Q E h => ?_) (fun cdv A outer s H vs Q E hr h => ?_)
  · obtain ⟨a, lw, lc, t, l, xs, rfl, _⟩ := h
    rfl
  · obtain ⟨a, lw, lc, t, l, xs, rfl, S, ht, hl, nl, h0, h1, k⟩ := h
    refine ⟨_, PSs.nox (pss_one (ps_ret (pe_ix ix_list (pv 1) (pe_call GD hr (by rfl) gD FD.kp bD .nil pass0 (pa_cons (pv 0) (pa_cons (pe_callB call_len_seq (by rfl) T.len PySem.boot_len (pa_cons (pv 1) pa_nil)) pa_nil))) (fun _ _ => rfl)))), ?_⟩
    refine ⟨_, rfl, _, rfl, _, rfl, l, _, rfl, .inl (SqL.of hl), a, lw, lc, t, _, rfl, S, ht, by omega, by omega, fun z H' hz0 hz1 S' K' => ?_⟩
    obtain ⟨⟨ws, cs, r, u, e1, _⟩, _⟩ := id S
    have na : l ≠ a := ne_of hl e1 (by intro z; cases z)
    have hl' := K' l _ hl (by simp [na, nl])
    obtain ⟨j, rfl⟩ : ∃ j : Nat, z = (j : Int) := ⟨z.toNat, by omega⟩
    have hj : j < xs.length := by omega
    refine ⟨l, _, _, xs[j], rfl, rfl, SqL.of hl', atI_nat (List.getElem?_eq_getElem hj), ?_⟩
    exact k j _ H' (List.getElem?_eq_getElem hj) S' K'
end
end Own
set_option Elab.async false
set_option linter.all false
set_option maxRecDepth 100000
set_option maxHeartbeats 400000
namespace Own
open PySem PySem.Spec PyProof.Rows L2
/-! ### walking what is a list or a tuple -/
def iSeqS (K : PySem.W.Frag) (tl : TE) : TI := fun σ H R => tl σ H fun x H1 => ∃ a, x = .ref a ∧ ((∃ xs, SqL K H1 a xs ∧ R (Itl K a) H1) ∨ ∃ xs, SqT K H1 a xs ∧ R (Itt K a) H1)
section
variable {X : Cx} {tg : Expr}
theorem fp_new {pins : List (Addr × Obj)} {σ : L2.St} {H : Hp} {s : Shared} (I : Inv X pins σ H s) : ∀ b ∈ [s.heap.objs.size], FpOk X pins H b := fun b hb => by
  cases List.mem_singleton.mp hb
  exact I.fpOk (Nat.le_refl _) (I.hok.fresh (Nat.le_refl _))
theorem kept_new {pins : List (Addr × Obj)} {σ : L2.St} {H : Hp} {s : Shared} (I : Inv X pins σ H s) (o : Obj) : Inv X pins σ H { s with heap := s.heap.push o } := I.kept (t' := s.toks) fun _ _ e => Heap.get?_push_of_some _ e
theorem pi_seqS {l : Expr} {tl : TE} (hl : PE X l tl) : PI X tg l (iSeqS X.K tl) := by
  constructor
  intro pins s σ H R I h
  refine thn (hl.run pins s σ H _ I h) fun v s1 h1 => ?_
  obtain ⟨x, H1, I1, r1, a, rfl, q1⟩ := h1
  cases r1
  rcases q1 with ⟨xs, hq, q⟩ | ⟨xs, hq, q⟩
  · obtain ⟨its, _, p, _⟩ := I1.list hq
    exact wpAny_pyIter_list p.isList ⟨_, _, _, _, H1, rfl, kept_new I1 _, turn_list a _, ⟨_, Heap.get?_push_size _ rfl, rfl, rfl⟩, fp_new I1, q⟩
  · obtain ⟨its, _, p, _⟩ := I1.tuple hq
    exact wpAny_pyIter_tuple (items := its.toArray) p ⟨_, _, _, _, H1, rfl, kept_new I1 _, turn_tuple a _, ⟨_, Heap.get?_push_size _ rfl, rfl, rfl⟩, fp_new I1, q⟩
theorem sql_keep {K : PySem.W.Frag} {H G : Hp} {a : Addr} {xs : List V} (h : SqL K H a xs) (e : ∀ o, H a = some o → G a = some o) : SqL K G a xs := by
  rcases h with (h | ⟨o, h⟩) | h
  · exact .inl (.inl (e _ h))
  · exact .inl (.inr ⟨o, e _ h⟩)
  · exact .inr h
theorem sqt_keep {K : PySem.W.Frag} {H G : Hp} {a : Addr} {xs : List V} (h : SqT K H a xs) (e : ∀ o, H a = some o → G a = some o) : SqT K G a xs := by
  rcases h with (h | ⟨o, h⟩) | h
  · exact .inl (.inl (e _ h))
  · exact .inl (.inr ⟨o, e _ h⟩)
  · exact .inr h
/-- what is a list or a tuple, walked: the walk is told by what it yields -/
def iSeqW (K : PySem.W.Frag) (tl : TE) : TI := fun σ H R => tl σ H fun x H1 => ∃ a xs, x = .ref a ∧ (SqL K H1 a xs ∨ SqT K H1 a xs) ∧ ∀ (J : It) (GG : Hp → Prop), Walk J xs.length GG (YAt xs) → (∀ G, (∀ o, H1 a = some o → G a = some o) → GG G) → R J H1
theorem pi_seqW {l : Expr} {tl : TE} (hl : PE X l tl) : PI X tg l (iSeqW X.K tl) := by
  constructor
  intro pins s σ H R I h
  refine thn (hl.run pins s σ H _ I h) fun v s1 h1 => ?_
  obtain ⟨x, H1, I1, r1, a, xs, rfl, hq, q⟩ := h1
  cases r1
  rcases hq with hq | hq
  · obtain ⟨its, _, p, _⟩ := I1.list hq
    exact wpAny_pyIter_list p.isList ⟨_, _, _, _, H1, rfl, kept_new I1 _, turn_list a _, ⟨_, Heap.get?_push_size _ rfl, rfl, rfl⟩, fp_new I1, q _ _ walk_list fun G e => sql_keep hq e⟩
  · obtain ⟨its, _, p, _⟩ := I1.tuple hq
    exact wpAny_pyIter_tuple (items := its.toArray) p ⟨_, _, _, _, H1, rfl, kept_new I1 _, turn_tuple a _, ⟨_, Heap.get?_push_size _ rfl, rfl, rfl⟩, fp_new I1, q _ _ walk_tup fun G e => sqt_keep hq e⟩
end
end Own
set_option Elab.async false
set_option linter.all false
set_option maxRecDepth 100000
set_option maxHeartbeats 400000
namespace Own
open PySem PySem.Spec PyProof.Rows L2
/-! ### deeds and drawings, in plain words -/
def LET : List Nat := ("abcdefghijklmnopqrstuvwxyz" : Str).cps.toList
def LEDI : List Nat := ("abcdefghijklmnopqrstuvwxyz" ++ "0123456789" : Str).cps.toList
def NameOk (z : Str) : Prop := z.length ≤ 8 ∧ z ≠ "" ∧ (∀ c ∈ z.cps.toList.head?, c ∈ LET) ∧ ∀ c ∈ z.cps.toList, c ∈ LEDI
instance (z : Str) : Decidable (NameOk z) := by
  unfold NameOk
  exact inferInstance
def FORM : List (Str × Nat × Nat) := ("meet", 4, 0) :: ("upright", 5, 0) :: ("gauge", 2, 0) :: ("dividers", 4, 0) :: ("halver", 5, 0) :: ("strip", 5, 0) :: ("disc", 2, 1) :: ("rims", 4, 1) :: ("corner", 4, 1) :: ("compass", 4, 1) :: ("circles", 4, 1) :: []
def OTHL : List (Str × Str) := ("meet", "") :: ("upright", "square") :: ("circles", "compass") :: []
def toolS (w : Str) : Str := (OTHL.lookup w).getD w
structure Deed where
  word : Str
  names : List Str
  way : List Int
def Deed.vs (d : Deed) : List V := .str d.word :: (d.names.map V.str ++ d.way.map V.int)
/-- a right deed -/
def DeedOk (d : Deed) : Prop := ∃ m k, (d.word, m, k) ∈ FORM ∧ d.names.length = m ∧ (∀ z ∈ d.names, NameOk z) ∧ d.way.length = k ∧ ∀ z ∈ d.way, 1 ≤ z ∧ z ≤ 2
/-- names once each -/
def once (ns : List Str) : List Str := ns.foldl (fun l x => if x ∈ l then l else l ++ [x]) []
theorem once_from : ∀ (ns l : List Str) (x : Str), x ∈ ns.foldl (fun l x => if x ∈ l then l else l ++ [x]) l ↔ x ∈ l ∨ x ∈ ns
  | [], l, x => by simp
  | y :: ns, l, x => by
    rw [List.foldl_cons, once_from ns]
    by_cases h : y ∈ l
    · rw [if_pos h, List.mem_cons]
      constructor
      · rintro (a | a)
        · exact .inl a
        · exact .inr (.inr a)
      · rintro (a | rfl | a)
        · exact .inl a
        · exact .inl h
        · exact .inr a
    · rw [if_neg h, List.mem_append, List.mem_singleton, List.mem_cons]
      constructor
      · rintro ((a | a) | a)
        · exact .inl a
        · exact .inr (.inl a)
        · exact .inr (.inr a)
      · rintro (a | a | a)
        · exact .inl (.inl a)
        · exact .inl (.inr a)
        · exact .inr a
theorem once_mem (ns : List Str) (x : Str) : x ∈ once ns ↔ x ∈ ns := by
  unfold once
  rw [once_from]
  simp
theorem once_len : ∀ (ns l : List Str), (ns.foldl (fun l x => if x ∈ l then l else l ++ [x]) l).length ≤ l.length + ns.length
  | [], l => by simp
  | y :: ns, l => by
    rw [List.foldl_cons]
    have := once_len ns (if y ∈ l then l else l ++ [y])
    rw [List.length_cons]
    split at this
    · rename_i h
      rw [if_pos h]
      omega
    · rename_i h
      rw [if_neg h]
      rw [List.length_append, List.length_singleton] at this
      omega
/-- a drawing, judged from the known names on (none: no step at all) -/
def drawB : List Str → List (Option (Str × Deed)) → Bool
  | _, [] => true
  | _, none :: _ => false
  | kn, some (n, d) :: r => decide (n ∉ kn) && (d.names.all (fun z => decide (z ∈ kn)) && drawB (kn ++ [n]) r)
theorem form_facts : ∀ t ∈ FORM, t.1 ≠ "" ∧ fok (.str t.1) = true ∧ t.2.1 ≤ 5 ∧ t.2.2 ≤ 1 := by decide +kernel
end Own
set_option Elab.async false
set_option linter.all false
set_option maxRecDepth 100000
set_option maxHeartbeats 400000
namespace Own
open PySem PySem.Spec PyProof.Rows L2
/-! ### data of any kind at a value, none of it at the places N -/
mutual
inductive Dq (N : List Addr) (H : Hp) : V → PyData → Prop
  | non : Dq N H .non .none
  | bl (b : Bool) : Dq N H (.bl b) (.bool b)
  | int (i : Int) : Dq N H (.int i) (.int i)
  | str (z : Str) : Dq N H (.str z) (.str z)
  | lst {a : Addr} {xs : List V} {ds : List PyData} : a ∉ N → H a = some (.lst xs) → DqAll N H xs ds → Dq N H (.ref a) (.list ds)
  | tup {a : Addr} {xs : List V} {ds : List PyData} : a ∉ N → H a = some (.tup xs) → DqAll N H xs ds → Dq N H (.ref a) (.tuple ds)
  | dict {a : Addr} {kvs : List (Key × V)} : a ∉ N → H a = some (.dK kvs) → Dq N H (.ref a) (.dict [])
inductive DqAll (N : List Addr) (H : Hp) : List V → List PyData → Prop
  | nil : DqAll N H [] []
  | cons {v : V} {vs : List V} {d : PyData} {ds : List PyData} : Dq N H v d → DqAll N H vs ds → DqAll N H (v :: vs) (d :: ds)
end
/-- all but what stands at xs and the tables is as it was -/
def KpE (xs : List Addr) (H H' : Hp) : Prop := ∀ b o, H b = some o → b ∉ xs → (∀ ps, o ≠ .tbl ps) → H' b = some o
mutual
theorem Dq.keep {N : List Addr} {H H' : Hp} (k : KpE N H H') : ∀ (d : PyData) (v : V), Dq N H v d → Dq N H' v d
  | .none, _, h => by
    cases h
    exact .non
  | .bool b, _, h => by
    cases h
    exact .bl b
  | .int i, _, h => by
    cases h
    exact .int i
  | .str z, _, h => by
    cases h
    exact .str z
  | .list ds, _, h => by
    cases h with
    | lst n e a => exact .lst n (k _ _ e n fun _ z => by cases z) (DqAll.keep k ds _ a)
  | .tuple ds, _, h => by
    cases h with
    | tup n e a => exact .tup n (k _ _ e n fun _ z => by cases z) (DqAll.keep k ds _ a)
  | .dict _, _, h => by
    cases h with
    | dict n e => exact .dict n (k _ _ e n fun _ z => by cases z)
theorem DqAll.keep {N : List Addr} {H H' : Hp} (k : KpE N H H') : ∀ (ds : List PyData) (vs : List V), DqAll N H vs ds → DqAll N H' vs ds
  | [], _, h => by
    cases h
    exact .nil
  | d :: ds, _, h => by
    cases h with
    | cons h1 h2 => exact .cons (Dq.keep k d _ h1) (DqAll.keep k ds _ h2)
end
mutual
theorem Dq.weak {N M : List Addr} {H : Hp} (s : ∀ b ∈ M, b ∈ N) : ∀ (d : PyData) (v : V), Dq N H v d → Dq M H v d
  | .none, _, h => by
    cases h
    exact .non
  | .bool b, _, h => by
    cases h
    exact .bl b
  | .int i, _, h => by
    cases h
    exact .int i
  | .str z, _, h => by
    cases h
    exact .str z
  | .list ds, _, h => by
    cases h with
    | lst n e a => exact .lst (fun z => n (s _ z)) e (DqAll.weak s ds _ a)
  | .tuple ds, _, h => by
    cases h with
    | tup n e a => exact .tup (fun z => n (s _ z)) e (DqAll.weak s ds _ a)
  | .dict _, _, h => by
    cases h with
    | dict n e => exact .dict (fun z => n (s _ z)) e
theorem DqAll.weak {N M : List Addr} {H : Hp} (s : ∀ b ∈ M, b ∈ N) : ∀ (ds : List PyData) (vs : List V), DqAll N H vs ds → DqAll M H vs ds
  | [], _, h => by
    cases h
    exact .nil
  | d :: ds, _, h => by
    cases h with
    | cons h1 h2 => exact .cons (Dq.weak s d _ h1) (DqAll.weak s ds _ h2)
end
theorem Dq.none_N {N : List Addr} {H : Hp} {d : PyData} {v : V} (h : Dq N H v d) : Dq [] H v d := Dq.weak (fun _ z => by cases z) d v h
theorem KpE.same {H H' : Hp} (e : Same H H') (N : List Addr) : KpE N H H' := fun b o h _ _ => e b o h
theorem KpE.of {xs : List Addr} {H H' : Hp} (k : ∀ b o, H b = some o → b ∉ xs → H' b = some o) : KpE xs H H' := fun b o e n _ => k b o e n
theorem KpE.trans {xs : List Addr} {H H1 H2 : Hp} (a : KpE xs H H1) (b : KpE xs H1 H2) : KpE xs H H2 := fun c o e n m => b c o (a c o e n m) n m
theorem KpE.refl (xs : List Addr) (H : Hp) : KpE xs H H := fun _ _ h _ _ => h
theorem Dq.same {N : List Addr} {H H' : Hp} {d : PyData} {v : V} (h : Dq N H v d) (e : Same H H') : Dq N H' v d := Dq.keep (KpE.same e N) d v h
theorem DqAll.same {N : List Addr} {H H' : Hp} {ds : List PyData} {vs : List V} (h : DqAll N H vs ds) (e : Same H H') : DqAll N H' vs ds := DqAll.keep (KpE.same e N) ds vs h
theorem DqAll.f2 {N : List Addr} {H : Hp} : ∀ {vs : List V} {ds : List PyData}, DqAll N H vs ds → F2 (Dq N H) vs ds
  | _, [], h => by
    cases h
    exact .nil
  | _, d :: ds, h => by
    cases h with
    | cons h1 h2 => exact .cons h1 h2.f2
theorem DqAll.of {N : List Addr} {H : Hp} : ∀ {vs : List V} {ds : List PyData}, F2 (Dq N H) vs ds → DqAll N H vs ds
  | _, _, .nil => .nil
  | _, _, .cons h1 h2 => .cons h1 (DqAll.of h2)
mutual
theorem Dq.dp {K : PySem.W.Frag} {N : List Addr} {H : Hp} : ∀ (d : PyData) (v : V), Dq N H v d → d.canLay0 = true → Dp K H v d
  | .none, _, h, _ => by
    cases h
    exact .non
  | .bool b, _, h, _ => by
    cases h
    exact .bl b
  | .int i, _, h, _ => by
    cases h
    exact .int i
  | .str z, _, h, _ => by
    cases h
    exact .str z
  | .list ds, _, h, c => by
    cases h with
    | lst n e a => exact .lst (SqL.of e) (DqAll.dp ds _ a c)
  | .tuple ds, _, h, c => by
    cases h with
    | tup n e a => exact .tup (SqT.of e) (DqAll.dp ds _ a c)
  | .dict _, _, _, c => by cases c
theorem DqAll.dp {K : PySem.W.Frag} {N : List Addr} {H : Hp} : ∀ (ds : List PyData) (vs : List V), DqAll N H vs ds → PyData.canLayAll0 ds = true → DpAll K H vs ds
  | [], _, h, _ => by
    cases h
    exact .nil
  | d :: ds, _, h, c => by
    have c' : (d.canLay0 && PyData.canLayAll0 ds) = true := c
    rw [Bool.and_eq_true] at c'
    cases h with
    | cons h1 h2 => exact .cons (Dq.dp d _ h1 c'.1) (DqAll.dp ds _ h2 c'.2)
end
/-! #### of what type -/
def tyOf : PyData → String
  | .none => "NoneType"
  | .bool _ => "bool"
  | .int _ => "int"
  | .str _ => "str"
  | .list _ => "list"
  | .tuple _ => "tuple"
  | .dict _ => "dict"
theorem Dq.ty {K : PySem.W.Frag} {N : List Addr} {H : Hp} {d : PyData} {v : V} (h : Dq N H v d) : TyX K H v (.type (tyOf d)) := by
  cases h with
  | non => exact .base .non
  | bl b => exact .base (.bl b)
  | int i => exact .base (.int i)
  | str z => exact .base (.str z)
  | lst _ e _ => exact .base (.lst e)
  | tup _ e _ => exact .base (.tup e)
  | dict _ e => exact .base (.dK e)
def isT : PyData → Bool
  | .tuple _ => true
  | _ => false
theorem k_NoneType_tuple : kitB "NoneType" "tuple" = some false := by decide +kernel
theorem k_bool_tuple : kitB "bool" "tuple" = some false := by decide +kernel
theorem k_int_tuple : kitB "int" "tuple" = some false := by decide +kernel
theorem k_str_tuple : kitB "str" "tuple" = some false := by decide +kernel
theorem k_list_tuple : kitB "list" "tuple" = some false := by decide +kernel
theorem k_tuple_tuple : kitB "tuple" "tuple" = some true := by decide +kernel
theorem k_dict_tuple : kitB "dict" "tuple" = some false := by decide +kernel
theorem kit_tuple : ∀ d : PyData, kitB (tyOf d) "tuple" = some (isT d)
  | .none => k_NoneType_tuple
  | .bool _ => k_bool_tuple
  | .int _ => k_int_tuple
  | .str _ => k_str_tuple
  | .list _ => k_list_tuple
  | .tuple _ => k_tuple_tuple
  | .dict _ => k_dict_tuple
def isL : PyData → Bool
  | .list _ => true
  | _ => false
theorem k_NoneType_list : kitB "NoneType" "list" = some false := by decide +kernel
theorem k_bool_list : kitB "bool" "list" = some false := by decide +kernel
theorem k_int_list : kitB "int" "list" = some false := by decide +kernel
theorem k_str_list : kitB "str" "list" = some false := by decide +kernel
theorem k_list_list : kitB "list" "list" = some true := by decide +kernel
theorem k_tuple_list : kitB "tuple" "list" = some false := by decide +kernel
theorem k_dict_list : kitB "dict" "list" = some false := by decide +kernel
theorem kit_list : ∀ d : PyData, kitB (tyOf d) "list" = some (isL d)
  | .none => k_NoneType_list
  | .bool _ => k_bool_list
  | .int _ => k_int_list
  | .str _ => k_str_list
  | .list _ => k_list_list
  | .tuple _ => k_tuple_list
  | .dict _ => k_dict_list
def isS : PyData → Bool
  | .str _ => true
  | _ => false
theorem k_NoneType_str : kitB "NoneType" "str" = some false := by decide +kernel
theorem k_bool_str : kitB "bool" "str" = some false := by decide +kernel
theorem k_int_str : kitB "int" "str" = some false := by decide +kernel
theorem k_str_str : kitB "str" "str" = some true := by decide +kernel
theorem k_list_str : kitB "list" "str" = some false := by decide +kernel
theorem k_tuple_str : kitB "tuple" "str" = some false := by decide +kernel
theorem k_dict_str : kitB "dict" "str" = some false := by decide +kernel
theorem kit_str : ∀ d : PyData, kitB (tyOf d) "str" = some (isS d)
  | .none => k_NoneType_str
  | .bool _ => k_bool_str
  | .int _ => k_int_str
  | .str _ => k_str_str
  | .list _ => k_list_str
  | .tuple _ => k_tuple_str
  | .dict _ => k_dict_str
def isI : PyData → Bool
  | .bool _ => true
  | .int _ => true
  | _ => false
theorem k_NoneType_int : kitB "NoneType" "int" = some false := by decide +kernel
theorem k_bool_int : kitB "bool" "int" = some true := by decide +kernel
theorem k_int_int : kitB "int" "int" = some true := by decide +kernel
theorem k_str_int : kitB "str" "int" = some false := by decide +kernel
theorem k_list_int : kitB "list" "int" = some false := by decide +kernel
theorem k_tuple_int : kitB "tuple" "int" = some false := by decide +kernel
theorem k_dict_int : kitB "dict" "int" = some false := by decide +kernel
theorem kit_int : ∀ d : PyData, kitB (tyOf d) "int" = some (isI d)
  | .none => k_NoneType_int
  | .bool _ => k_bool_int
  | .int _ => k_int_int
  | .str _ => k_str_int
  | .list _ => k_list_int
  | .tuple _ => k_tuple_int
  | .dict _ => k_dict_int
def isB : PyData → Bool
  | .bool _ => true
  | _ => false
theorem k_NoneType_bool : kitB "NoneType" "bool" = some false := by decide +kernel
theorem k_bool_bool : kitB "bool" "bool" = some true := by decide +kernel
theorem k_int_bool : kitB "int" "bool" = some false := by decide +kernel
theorem k_str_bool : kitB "str" "bool" = some false := by decide +kernel
theorem k_list_bool : kitB "list" "bool" = some false := by decide +kernel
theorem k_tuple_bool : kitB "tuple" "bool" = some false := by decide +kernel
theorem k_dict_bool : kitB "dict" "bool" = some false := by decide +kernel
theorem kit_bool : ∀ d : PyData, kitB (tyOf d) "bool" = some (isB d)
  | .none => k_NoneType_bool
  | .bool _ => k_bool_bool
  | .int _ => k_int_bool
  | .str _ => k_str_bool
  | .list _ => k_list_bool
  | .tuple _ => k_tuple_bool
  | .dict _ => k_dict_bool
def isD : PyData → Bool
  | .dict _ => true
  | _ => false
theorem k_NoneType_dict : kitB "NoneType" "dict" = some false := by decide +kernel
theorem k_bool_dict : kitB "bool" "dict" = some false := by decide +kernel
theorem k_int_dict : kitB "int" "dict" = some false := by decide +kernel
theorem k_str_dict : kitB "str" "dict" = some false := by decide +kernel
theorem k_list_dict : kitB "list" "dict" = some false := by decide +kernel
theorem k_tuple_dict : kitB "tuple" "dict" = some false := by decide +kernel
theorem k_dict_dict : kitB "dict" "dict" = some true := by decide +kernel
theorem kit_dict : ∀ d : PyData, kitB (tyOf d) "dict" = some (isD d)
  | .none => k_NoneType_dict
  | .bool _ => k_bool_dict
  | .int _ => k_int_dict
  | .str _ => k_str_dict
  | .list _ => k_list_dict
  | .tuple _ => k_tuple_dict
  | .dict _ => k_dict_dict
/-! #### small data -/
mutual
def sml : PyData → Bool
  | .str z => decide (z.length ≤ 1000)
  | .list ds => decide (ds.length ≤ 1000) && smls ds
  | .tuple ds => decide (ds.length ≤ 1000) && smls ds
  | _ => true
def smls : List PyData → Bool
  | [] => true
  | d :: ds => sml d && smls ds
end
def gdb (d : PyData) : Bool := d.canLay0 && (decide (d.depth ≤ 50) && sml d)
theorem smls_mem : ∀ {ds : List PyData}, smls ds = true → ∀ d ∈ ds, sml d = true
  | [], _, d, hd => by cases hd
  | e :: ds, h, d, hd => by
    have h' : (sml e && smls ds) = true := h
    rw [Bool.and_eq_true] at h'
    rcases List.mem_cons.mp hd with rfl | hd
    · exact h'.1
    · exact smls_mem h'.2 d hd
theorem lay_mem : ∀ {ds : List PyData}, PyData.canLayAll0 ds = true → ∀ d ∈ ds, d.canLay0 = true
  | [], _, d, hd => by cases hd
  | e :: ds, h, d, hd => by
    have h' : (e.canLay0 && PyData.canLayAll0 ds) = true := h
    rw [Bool.and_eq_true] at h'
    rcases List.mem_cons.mp hd with rfl | hd
    · exact h'.1
    · exact lay_mem h'.2 d hd
theorem lay_all : ∀ {ds : List PyData}, (∀ d ∈ ds, d.canLay0 = true) → PyData.canLayAll0 ds = true
  | [], _ => rfl
  | e :: ds, h => by
    show (e.canLay0 && PyData.canLayAll0 ds) = true
    rw [h e List.mem_cons_self, lay_all fun d hd => h d (List.mem_cons_of_mem _ hd)]
    rfl
theorem depth_mem : ∀ {ds : List PyData} {n : Nat}, PyData.depthAll ds ≤ n → ∀ d ∈ ds, d.depth ≤ n
  | [], _, _, d, hd => by cases hd
  | e :: ds, n, h, d, hd => by
    have h' : max e.depth (PyData.depthAll ds) ≤ n := h
    rcases List.mem_cons.mp hd with rfl | hd
    · omega
    · exact depth_mem (by omega) d hd
theorem depth_all : ∀ {ds : List PyData} {n : Nat}, (∀ d ∈ ds, d.depth ≤ n) → PyData.depthAll ds ≤ n
  | [], n, _ => Nat.zero_le _
  | e :: ds, n, h => by
    show max e.depth (PyData.depthAll ds) ≤ n
    have := h e List.mem_cons_self
    have := depth_all fun d hd => h d (List.mem_cons_of_mem _ hd)
    omega
theorem gdb_list {ds : List PyData} (h : gdb (.list ds) = true) : ds.length ≤ 1000 ∧ ∀ d ∈ ds, gdb d = true := by
  have h' : (PyData.canLayAll0 ds && (decide (PyData.depthAll ds + 1 ≤ 50) && (decide (ds.length ≤ 1000) && smls ds))) = true := h
  rw [Bool.and_eq_true, Bool.and_eq_true, Bool.and_eq_true, decide_eq_true_iff, decide_eq_true_iff] at h'
  obtain ⟨a, b, c, e⟩ := h'
  refine ⟨c, fun d hd => ?_⟩
  unfold gdb
  have := depth_mem (n := 49) (by omega) d hd
  rw [lay_mem a d hd, decide_eq_true (by omega : d.depth ≤ 50), smls_mem e d hd]
  rfl
theorem gdb_tuple {ds : List PyData} (h : gdb (.tuple ds) = true) : ds.length ≤ 1000 ∧ ∀ d ∈ ds, gdb d = true := gdb_list (ds := ds) h
theorem gdb_str {z : Str} (h : gdb (.str z) = true) : z.length ≤ 1000 ∧ fok (.str z) = true := by
  have h' : (z.cps.all (· < 0x110000) && (decide ((0 : Nat) ≤ 50) && decide (z.length ≤ 1000))) = true := h
  rw [Bool.and_eq_true, Bool.and_eq_true, decide_eq_true_iff, decide_eq_true_iff] at h'
  exact ⟨h'.2.2, h'.1⟩
theorem gdb_lay {d : PyData} (h : gdb d = true) : d.canLay0 = true ∧ d.depth ≤ 50 := by
  unfold gdb at h
  rw [Bool.and_eq_true, Bool.and_eq_true, decide_eq_true_iff] at h
  exact ⟨h.1, h.2.1⟩
/-- a value: a dict, or small data -/
def vdb (d : PyData) : Bool := isD d || gdb d
/-- a value that may hold such -/
def wdb : PyData → Bool
  | .list ds => decide (ds.length ≤ 1000) && ds.all vdb
  | .tuple ds => decide (ds.length ≤ 1000) && ds.all vdb
  | d => vdb d
/-! #### [x for x in .. if T] != [] over such -/
section
variable {It0 : It} {G : Hp → Prop} {tt : TT} {m : Nat} {σ : L2.St} {H1 : Hp} {D : Addr} {Qd : Hp → Prop}
theorem lc_any {N : List Addr} {xs : List V} {ds : List PyData} {p : PyData → Bool} (w : Walk It0 xs.length G (YAt xs)) (hf : F2 (Dq N H1) xs ds) (hD : H1 D = none) (hz : xs.length < sizeLine) (hG : ∀ H', Same H1 H' → G H') (hm : m < σ.length)
    (ht : ∀ (x : V) (d : PyData) H', d ∈ ds → Dq N H' x d → Same H1 H' → ∀ R : Bool → Hp → Prop, (∀ H'', Same H' H'' → R (p d) H'') → tt ((wipe σ [m]).set m (some x)) H' R)
    (hd : ∀ H' ys es, Same H1 H' → H' D = some (.lst ys) → F2 (Dq N H') ys es → (∀ e ∈ es, e ∈ ds) → ys.isEmpty = !ds.any p → Qd H') :
    ∃ W : Nat → Nat → Hp → Prop, (∃ m, W 0 m (upd H1 D (.lst []))) ∧ ∀ i k H, W i k H →
      (It0.stop i H ∧ Qd H) ∨ (It0.go i H ∧ ∃ Nx : Hp → Prop, (∀ H', Nx H' → ∃ k', k' < k ∧ W (i + 1) k' H') ∧ ∀ x H', It0.yld i H x H' → gName m x (wipe σ [m]) H' fun σ2 H2 => wipe σ2 [m] = wipe σ [m] ∧ tt σ2 H2 fun b H3 =>
        if b = true then tVar m σ2 H3 fun y H4 => ∃ acc, H4 D = some (.lst acc) ∧ acc.length < sizeLine ∧ Nx (upd H4 D (.lst (acc ++ [y]))) else Nx H3) := by
  have len := hf.len
  refine lc_it w (fun i H => Same H1 H ∧ ∃ ys es, H D = some (.lst ys) ∧ F2 (Dq N H1) ys es ∧ (∀ e ∈ es, e ∈ ds) ∧ ys.length ≤ i ∧ ys.isEmpty = !(ds.take i).any p) ⟨same_upd hD, [], [], upd_same, .nil, (fun _ h => by cases h), Nat.le_refl _, rfl⟩ (fun i H _ q => hG H q.1) ?_ ?_
  · rintro i x H H' hi ⟨sH, ys, es, eD, f, sub, ly, em⟩ ⟨rfl, hx⟩
    obtain ⟨d, hd', hxd⟩ := hf.at_ hx
    have md : d ∈ ds := List.mem_of_getElem? hd'
    have et := take_snoc hd'
    refine ⟨?_, ht x d H' md (hxd.same sH) sH _ fun H2 s2 => ?_⟩
    · show ((σ.set m none).set m (some x)).set m none = σ.set m none
      rw [List.set_set, List.set_set]
    cases e : p d with
    | false =>
      rw [if_neg Bool.false_ne_true]
      refine ⟨sH.trans s2, ys, es, s2 _ _ eD, f, sub, by omega, ?_⟩
      rw [et, List.any_append, em]
      simp [e]
    | true =>
      rw [if_pos rfl]
      refine ⟨x, ?_, ys, s2 _ _ eD, by omega, ?_⟩
      · show ((σ.set m none).set m (some x))[m]? = _
        rw [List.getElem?_set_self (by rw [List.length_set]; exact hm)]
      have sN : Same H1 (upd H2 D (.lst (ys ++ [x]))) := fun b o hb => by
        have nb : b ≠ D := fun z => by rw [z, hD] at hb; cases hb
        rw [upd_ne nb]
        exact s2 _ _ (sH _ _ hb)
      refine ⟨sN, ys ++ [x], es ++ [d], upd_same, ?_, fun q hq => ?_, by rw [List.length_append]; show ys.length + 1 ≤ i + 1; omega, ?_⟩
      · exact f.snoc hxd
      · rcases List.mem_append.mp hq with hq | hq
        · exact sub q hq
        · rw [List.mem_singleton.mp hq]
          exact md
      · rw [et, List.any_append]
        simp [e]
  · rintro H ⟨sH, ys, es, eD, f, sub, ly, em⟩
    rw [len, List.take_length] at em
    exact hd H ys es sH eD (f.mono fun _ _ q => q.same sH) sub em
end
end Own
set_option Elab.async false
set_option linter.all false
set_option maxRecDepth 100000
set_option maxHeartbeats 400000
namespace Own
open PySem PySem.Spec PyProof.Rows L2
/-! ### any value, judged -/
def nameB : PyData → Bool
  | .str z => decide (NameOk z)
  | _ => false
def wayB : PyData → Bool
  | .int i => decide (1 ≤ i) && decide (i ≤ 2)
  | _ => false
def formB2 (q : Nat × Nat) (r : List PyData) : Bool := decide (r.length = q.1 + q.2) && ((r.take q.1).all nameB && (r.drop q.1).all wayB)
def deedB : PyData → Bool
  | .tuple (.str w :: r) => match FORM.lookup w with
    | some q => formB2 q r
    | none => false
  | _ => false
def strD : PyData → Str
  | .str z => z
  | _ => ""
def dnames : PyData → List Str
  | .tuple (.str w :: r) => match FORM.lookup w with
    | some q => (r.take q.1).map strD
    | none => []
  | _ => []
def Deed.pys (d : Deed) : List PyData := .str d.word :: (d.names.map PyData.str ++ d.way.map PyData.int)
def Deed.py (d : Deed) : PyData := .tuple d.pys
theorem form_look : ∀ t ∈ FORM, FORM.lookup t.1 = some t.2 := by decide +kernel
theorem look_mem {α β : Type} [BEq α] [LawfulBEq α] {w : α} {q : β} : ∀ {l : List (α × β)}, l.lookup w = some q → (w, q) ∈ l
  | [], h => by cases h
  | (a, b) :: l, h => by
    rw [List.lookup_cons] at h
    cases e : w == a with
    | true =>
      rw [e] at h
      have := eq_of_beq e
      subst this
      cases h
      exact List.mem_cons_self
    | false =>
      rw [e] at h
      exact List.mem_cons_of_mem _ (look_mem h)
theorem all_name (ns : List Str) (h : ∀ z ∈ ns, NameOk z) : (ns.map PyData.str).all nameB = true := by
  rw [List.all_map, List.all_eq_true]
  exact fun z hz => decide_eq_true (h z hz)
theorem all_way (is : List Int) (h : ∀ z ∈ is, 1 ≤ z ∧ z ≤ 2) : (is.map PyData.int).all wayB = true := by
  rw [List.all_map, List.all_eq_true]
  intro z hz
  show (decide (1 ≤ z) && decide (z ≤ 2)) = true
  rw [decide_eq_true (h z hz).1, decide_eq_true (h z hz).2]
  rfl
theorem deedB_of {d : Deed} (h : DeedOk d) : deedB d.py = true := by
  obtain ⟨m, k, hm, nm, okN, nk, okW⟩ := h
  show (match FORM.lookup d.word with
    | some q => formB2 q (d.names.map PyData.str ++ d.way.map PyData.int)
    | none => false) = true
  rw [form_look _ hm]
  show formB2 (m, k) _ = true
  unfold formB2
  have l1 : (d.names.map PyData.str).length = m := by rw [List.length_map, nm]
  rw [List.take_left' l1, List.drop_left' l1, all_name _ okN, all_way _ okW, decide_eq_true (by simp [nm, nk])]
  rfl
theorem strs_of : ∀ {l : List PyData}, l.all nameB = true → ∃ ns : List Str, l = ns.map PyData.str ∧ ∀ z ∈ ns, NameOk z
  | [], _ => ⟨[], rfl, fun _ h => by cases h⟩
  | d :: l, h => by
    rw [List.all_cons, Bool.and_eq_true] at h
    obtain ⟨ns, rfl, ok⟩ := strs_of h.2
    cases d with
    | str z =>
      refine ⟨z :: ns, rfl, fun y hy => ?_⟩
      rcases List.mem_cons.mp hy with rfl | hy
      · exact of_decide_eq_true h.1
      · exact ok y hy
    | _ => cases h.1
theorem ints_of : ∀ {l : List PyData}, l.all wayB = true → ∃ is : List Int, l = is.map PyData.int ∧ ∀ z ∈ is, 1 ≤ z ∧ z ≤ 2
  | [], _ => ⟨[], rfl, fun _ h => by cases h⟩
  | d :: l, h => by
    rw [List.all_cons, Bool.and_eq_true] at h
    obtain ⟨ns, rfl, ok⟩ := ints_of h.2
    cases d with
    | int z =>
      refine ⟨z :: ns, rfl, fun y hy => ?_⟩
      rcases List.mem_cons.mp hy with rfl | hy
      · have q : (decide (1 ≤ y) && decide (y ≤ 2)) = true := h.1
        rw [Bool.and_eq_true, decide_eq_true_iff, decide_eq_true_iff] at q
        exact q
      · exact ok y hy
    | _ => cases h.1
theorem deedB_ok {e : PyData} (h : deedB e = true) : ∃ d : Deed, e = d.py ∧ DeedOk d := by
  unfold deedB at h
  split at h
  · rename_i w r
    split at h
    · rename_i q hq
      have hm := look_mem hq
      unfold formB2 at h
      rw [Bool.and_eq_true, Bool.and_eq_true, decide_eq_true_iff] at h
      obtain ⟨h1, h2, h3⟩ := h
      obtain ⟨ns, e1, ok1⟩ := strs_of h2
      obtain ⟨is, e2, ok2⟩ := ints_of h3
      have e3 : r = ns.map PyData.str ++ is.map PyData.int := by rw [← e1, ← e2, List.take_append_drop]
      have l1 : ns.length = q.1 := by
        have := congrArg List.length e1
        rw [List.length_take, List.length_map] at this
        omega
      have l2 : is.length = q.2 := by
        have := congrArg List.length e2
        rw [List.length_drop, List.length_map] at this
        omega
      exact ⟨⟨w, ns, is⟩, by rw [e3]; rfl, q.1, q.2, hm, l1, ok1, l2, ok2⟩
    · cases h
  · cases h
theorem dnames_py {d : Deed} (h : DeedOk d) : dnames d.py = d.names := by
  obtain ⟨m, k, hm, nm, okN, nk, okW⟩ := h
  show (match FORM.lookup d.word with
    | some q => ((d.names.map PyData.str ++ d.way.map PyData.int).take q.1).map strD
    | none => []) = d.names
  rw [form_look _ hm]
  show ((d.names.map PyData.str ++ d.way.map PyData.int).take m).map strD = d.names
  rw [List.take_left' (by rw [List.length_map, nm]), List.map_map]
  exact List.map_id _
def StepOk (kn : List Str) (n : Str) (e : PyData) : Prop := NameOk n ∧ n ∉ kn ∧ deedB e = true ∧ ∀ z ∈ dnames e, z ∈ kn
instance (kn : List Str) (n : Str) (e : PyData) : Decidable (StepOk kn n e) := by
  unfold StepOk
  exact inferInstance
def stepB (kn : List Str) : PyData → Option Str
  | .tuple [.str n, e] => if StepOk kn n e then some n else none
  | _ => none
def goesB : List Str → List PyData → Bool
  | _, [] => true
  | kn, d :: r => match stepB kn d with
    | some n => goesB (kn ++ [n]) r
    | none => false
def itemsOf : PyData → Option (List PyData)
  | .list ds => some ds
  | .tuple ds => some ds
  | _ => none
def drawV (kn : List Str) (d : PyData) : Bool := match itemsOf d with
  | some ds => goesB kn ds
  | none => false
theorem goes_bad {kn : List Str} {d : PyData} {r : List PyData} (h : stepB kn d = none) : goesB kn (d :: r) = false := by
  show (match stepB kn d with
    | some n => goesB (kn ++ [n]) r
    | none => false) = false
  rw [h]
theorem goes_good {kn : List Str} {n : Str} {e : PyData} {r : List PyData} (h : StepOk kn n e) : goesB kn (.tuple [.str n, e] :: r) = goesB (kn ++ [n]) r := by
  show (match (if StepOk kn n e then some n else none : Option Str) with
    | some n => goesB (kn ++ [n]) r
    | none => false) = _
  rw [if_pos h]
theorem step_no {kn : List Str} {n : Str} {e : PyData} (h : ¬ StepOk kn n e) : stepB kn (.tuple [.str n, e]) = none := if_neg h
/-- words that may stand ahead of a tuple -/
def Ready (NOW : List Str) (d : PyData) : Prop := ∀ w r, d = .tuple (.str w :: r) → (∃ q, FORM.lookup w = some q) ∨ w ∈ NOW
theorem Ready.other {NOW : List Str} {d : PyData} (h : isT d = false) : Ready NOW d := fun w r e => by
  rw [e] at h
  cases h
theorem Ready.py {NOW : List Str} {d : Deed} (h : DeedOk d) : Ready NOW d.py := fun w r e => by
  obtain ⟨m, k, hm, _⟩ := h
  have e2 : d.word = w := by
    injection e with e
    injection e with e _
    injection e
  rw [← e2]
  exact .inl ⟨_, form_look _ hm⟩
/-! #### what stands there -/
theorem dq_strs {N : List Addr} {H : Hp} : ∀ {ns : List Str} {xs : List V} {ds : List PyData}, DqAll N H xs (ns.map PyData.str ++ ds) → ∃ ys, xs = ns.map V.str ++ ys ∧ DqAll N H ys ds
  | [], xs, ds, h => ⟨xs, rfl, h⟩
  | n :: ns, xs, ds, h => by
    cases h with
    | cons h1 h2 =>
      obtain ⟨ys, rfl, q⟩ := dq_strs h2
      cases h1
      exact ⟨ys, rfl, q⟩
theorem dq_ints {N : List Addr} {H : Hp} : ∀ {is : List Int} {xs : List V}, DqAll N H xs (is.map PyData.int) → xs = is.map V.int
  | [], xs, h => by
    cases h
    rfl
  | n :: ns, xs, h => by
    cases h with
    | cons h1 h2 =>
      rw [dq_ints h2]
      cases h1
      rfl
theorem Dq.deed {N : List Addr} {H : Hp} {v : V} {d : Deed} (h : Dq N H v d.py) : ∃ a, v = .ref a ∧ a ∉ N ∧ H a = some (.tup d.vs) := by
  cases h with
  | tup n e a =>
    cases a with
    | cons h1 h2 =>
      obtain ⟨ys, rfl, q⟩ := dq_strs h2
      have := dq_ints q
      subst this
      cases h1
      exact ⟨_, rfl, n, e⟩
theorem dq_str_of {N : List Addr} {H : Hp} : ∀ (ns : List Str) {xs : List V} {ds : List PyData}, DqAll N H xs ds → DqAll N H (ns.map V.str ++ xs) (ns.map PyData.str ++ ds)
  | [], _, _, h => h
  | n :: ns, _, _, h => .cons (.str n) (dq_str_of ns h)
theorem dq_int_of {N : List Addr} {H : Hp} : ∀ (is : List Int), DqAll N H (is.map V.int) (is.map PyData.int)
  | [] => .nil
  | n :: ns => .cons (.int n) (dq_int_of ns)
theorem Dq.of_deed {N : List Addr} {H : Hp} {a : Addr} {d : Deed} (n : a ∉ N) (h : H a = some (.tup d.vs)) : Dq N H (.ref a) d.py :=
  .tup n h (.cons (.str _) (dq_str_of _ (dq_int_of _)))
/-! #### lists of such -/
theorem F2.drop {α β : Type} {R : α → β → Prop} : ∀ {as : List α} {bs : List β} (n : Nat), F2 R as bs → F2 R (as.drop n) (bs.drop n)
  | _, _, 0, h => h
  | _, _, _ + 1, .nil => .nil
  | _, _, n + 1, .cons _ h => F2.drop n h
theorem F2.take {α β : Type} {R : α → β → Prop} : ∀ {as : List α} {bs : List β} (n : Nat), F2 R as bs → F2 R (as.take n) (bs.take n)
  | _, _, 0, _ => .nil
  | _, _, _ + 1, .nil => .nil
  | _, _, n + 1, .cons h1 h => .cons h1 (F2.take n h)
theorem dp_some {K : PySem.W.Frag} {N : List Addr} {H : Hp} {ys : List V} {es : List PyData} (h : F2 (Dq N H) ys es) (g : ∀ e ∈ es, gdb e = true) : DpAll K H ys es ∧ PyData.canLayAll0 es = true ∧ PyData.depthAll es ≤ 50 := by
  have c := lay_all fun e he => (gdb_lay (g e he)).1
  exact ⟨DqAll.dp es ys (DqAll.of h) c, c, depth_all fun e he => (gdb_lay (g e he)).2⟩
theorem eqv_nilL (es : List PyData) : PyData.eqv (.list es) (.list []) = es.isEmpty := by
  cases es <;> rfl
theorem tail_neD {K : PySem.W.Frag} {N : List Addr} {σ : L2.St} {H : Hp} {D : Addr} {ys : List V} {es : List PyData} {Q : VK} (hD : H D = some (.lst ys)) (hf : F2 (Dq N H) ys es) (g : ∀ e ∈ es, gdb e = true) (k : ∀ H', Same H H' → Q (.bl (!ys.isEmpty)) H') : tLst tNil σ H fun y H2 => rNeD K (.ref D) y H2 Q := by
  refine ⟨(by show 0 ≤ sizeLine; decide), fun q nq => ?_⟩
  have s := same_upd (o := .lst []) nq
  obtain ⟨a, b, c⟩ := dp_some (K := K) (hf.mono fun _ _ z => z.same s) g
  refine ⟨.list es, .list [], .lst (SqL.of (s _ _ hD)) a, .lst (SqL.of upd_same) .nil, ?_, rfl, ?_⟩
  · show (PyData.canLayAll0 es && decide (PyData.depthAll es + 1 ≤ 64)) = true
    rw [b, decide_eq_true (by omega)]
    rfl
  · rw [eqv_nilL]
    have e : es.isEmpty = ys.isEmpty := by
      have := hf.len
      cases ys <;> cases es <;> first | rfl | cases this
    rw [e]
    exact k _ s
end Own
set_option Elab.async false
set_option linter.all false
set_option maxRecDepth 100000
set_option maxHeartbeats 400000
namespace Own
open PySem PySem.Spec PyProof.Rows L2 LamX
/-! ### what the walk asks of the module -/
/-- the module's constants -/
structure Cst (K : PySem.W.Frag) (mg : Str → Option Value) : Prop where
  letters : ∃ t, mg "LETTERS" = some (.str "abcdefghijklmnopqrstuvwxyz" t)
  digits : ∃ t, mg "DIGITS" = some (.str "0123456789" t)
/-- the module's two tables -/
structure Dct (NOW : List Str) (K : PySem.W.Frag) (w : World) (mg : Str → Option Value) : Prop where
  forms : ∃ p es n, mg "FORMS" = some (.ref p) ∧ KDict K w p es n ∧ (∀ t ∈ FORM, ∃ q, PySem.W.nsIn K p t.1 = some (some (.ref q)) ∧ ∀ H, SqT K H q [.int t.2.1, .int t.2.2]) ∧ ∀ z ∈ NOW, PySem.W.nsIn K p z = some none
  others : ∃ p es n, mg "OTHERS" = some (.ref p) ∧ KDict K w p es n ∧ ∀ t ∈ FORM, (∃ z u, OTHL.lookup t.1 = some z ∧ PySem.W.nsIn K p t.1 = some (some (.str z u))) ∨ (OTHL.lookup t.1 = none ∧ PySem.W.nsIn K p t.1 = some none)
/-- an error class without fields -/
structure ExcT (K : PySem.W.Frag) (mg : Str → Option Value) (x : Str) (C : Addr) : Prop where
  g : mg x = some (.ref C)
  x : PySem.W.excIn K C He.veBase "ValueError.__new__" = true
  k : PySem.W.keepIn K (.ref C) = true
  b : PySem.W.subIn K (.ref C) (.type "BaseException") = some true
  t : PySem.W.typeIn K (.ref C) = some (.type "type")
/-- a def of the module, ready to be called -/
structure Fk (P : Program) (w : World) (K : PySem.W.Frag) (mg : Str → Option Value) (base : Heap) (CX : CXT) (k : Nat) (x : Str) (fd : FuncData) (ps : List Str) (sp : Sp) : Prop where
  ok : FnOk P w K mg base CX k (He.ga K x) fd ps sp
  b : Binds K fd ps []
  kp : PySem.W.keepIn K (.ref (He.ga K x)) = true
  g : mg x = some (.ref (He.ga K x))
def signs (z : Str) : List V := z.cps.toList.map fun c => V.str ⟨#[c]⟩
theorem walk_signs {z : Str} : Walk (Its z) (signs z).length (fun _ => True) (YAt (signs z)) := by
  have e : (signs z).length = z.cps.size := by unfold signs; rw [List.length_map, Array.length_toList]
  rw [e]
  refine walk_str.mono (fun _ h => h) fun i H x H' hi _ y => ?_
  obtain ⟨e1, c, hc, rfl⟩ := y
  refine ⟨e1, ?_⟩
  unfold signs
  rw [List.getElem?_map, Array.getElem?_toList, hc]
  rfl
theorem signs_len (z : Str) : (signs z).length = z.length := by
  unfold signs
  rw [List.length_map]
  rfl
theorem cut_mid {xs : List V} {i j : Nat} (hj : j ≤ xs.length) (hi : i ≤ j) : cutV xs (some (i : Int)) (some (j : Int)) = (xs.drop i).take (j - i) := by
  show (xs.drop (HT.sIx xs.length 0 (some (i : Int)))).take (HT.sIx xs.length xs.length (some (j : Int)) - HT.sIx xs.length 0 (some (i : Int))) = _
  rw [HT.sIx_nat, HT.sIx_nat, Nat.min_eq_left hj, Nat.min_eq_left (by omega)]
theorem cut_mid1 {xs : List V} {m : Nat} (hj : 1 + m ≤ xs.length) : cutV xs (some 1) (some (1 + (m : Int))) = (xs.drop 1).take m := by
  have e : (1 + (m : Int)) = ((1 + m : Nat) : Int) := by omega
  rw [e]
  have := cut_mid (i := 1) hj (by omega)
  rw [Nat.add_sub_cancel_left] at this
  exact this
theorem cut_notwhole {xs : List V} {j : Option Int} (h : 0 < xs.length) : ¬ (HT.sIx xs.length 0 (some 1) = 0 ∧ HT.sIx xs.length xs.length j = xs.length) := by
  rintro ⟨h1, _⟩
  have e : HT.sIx xs.length 0 (some ((1 : Nat) : Int)) = min 1 xs.length := HT.sIx_nat _ _ _
  have h' : HT.sIx xs.length 0 (some ((1 : Nat) : Int)) = 0 := h1
  omega
theorem fok_name {z : Str} (h : NameOk z) : fok (.str z) = true := by
  show z.cps.all (· < 0x110000) = true
  rw [← Array.all_toList, List.all_eq_true]
  intro c hc
  have h1 : ∀ c ∈ LEDI, c < 0x110000 := by decide +kernel
  exact decide_eq_true (h1 c (h.2.2.2 c hc))
theorem fok_names {ns : List Str} (h : ∀ z ∈ ns, NameOk z) : (ns.map V.str).all fok = true := by
  rw [List.all_map, List.all_eq_true]
  exact fun z hz => fok_name (h z hz)
theorem fok_signs {z : Str} (h : fok (.str z) = true) : ∀ x ∈ signs z, fok x = true := fun x hx => by
  obtain ⟨c, hc, rfl⟩ := List.mem_map.mp hx
  have h' : z.cps.all (· < 0x110000) = true := h
  rw [← Array.all_toList, List.all_eq_true] at h'
  have := h' c hc
  show (#[c] : Array Nat).all (· < 0x110000) = true
  rw [← Array.all_toList]
  show (decide (c < 0x110000) && true) = true
  rw [this]
  rfl
end Own
set_option Elab.async false
set_option linter.all false
set_option maxRecDepth 100000
set_option maxHeartbeats 400000
namespace Own
open PySem PySem.Spec PyProof.Rows L2 LamX
/-! ### is_name of any value -/
def spName : Sp := fun vs H Q _ => ∃ (x : V) (d : PyData), vs = [x] ∧ Dq [] H x d ∧ vdb d = true ∧ ∀ H', Same H H' → Q (.bl (nameB d)) H'
/-- a sign that may stand in a name -/
def ledB : V → Bool
  | .str z => decide (∀ c ∈ z.cps.toList, c ∈ LEDI)
  | _ => false
theorem name_none {d : PyData} (h : isS d = false) : nameB d = false := by
  cases d <;> first | rfl | cases h
theorem vdb_gdb {d : PyData} (h : vdb d = true) (n : isD d = false) : gdb d = true := by
  unfold vdb at h
  rw [n] at h
  exact h
theorem name_eq {z : Str} {c : Nat} {r : List Nat} (ec : z.cps.toList = c :: r) (h8 : z.length ≤ 8) : nameB (.str z) = (decide (c ∈ LET) && !(signs z).any fun x => !ledB x) := by
  show decide (NameOk z) = _
  have z2 : z ≠ "" := fun e => by
    rw [e] at ec
    cases ec
  have e1 : (!(signs z).any fun x => !ledB x) = decide (∀ c ∈ z.cps.toList, c ∈ LEDI) := by
    rw [Bool.eq_iff_iff, Bool.not_eq_true', ← Bool.not_eq_true, List.any_eq_true, decide_eq_true_iff]
    constructor
    · intro h c hc
      refine Classical.byContradiction fun n => h ⟨.str ⟨#[c]⟩, List.mem_map.mpr ⟨c, hc, rfl⟩, ?_⟩
      show (!decide (∀ x ∈ ([c] : List Nat), x ∈ LEDI)) = true
      simpa using n
    · rintro h ⟨x, hx, hn⟩
      obtain ⟨c, hc, rfl⟩ := List.mem_map.mp hx
      have : (!decide (∀ x ∈ ([c] : List Nat), x ∈ LEDI)) = true := hn
      have q := h c hc
      simp [q] at this
  rw [e1, Bool.eq_iff_iff, decide_eq_true_iff, Bool.and_eq_true, decide_eq_true_iff, decide_eq_true_iff]
  unfold NameOk
  rw [ec]
  constructor
  · rintro ⟨_, _, a, b⟩
    exact ⟨a c rfl, b⟩
  · rintro ⟨a, b⟩
    exact ⟨h8, z2, fun y hy => by cases hy; exact a, b⟩
section
variable {P : Program} {w : World} {K : PySem.W.Frag} {mg : Str → Option Value} {base : Heap} {f fN fI fD : Addr} {fd2 fdN fdI fdD : FuncData}
theorem scName : FnScope ["value", "mark"] ["value"] (defScope sName) := ⟨rfl, rfl, rfl, by decide +kernel, rfl, by decide +kernel, by decide +kernel⟩
theorem ok_name (F : FnP K "is_name" sName f fd2) (T : Txt K mg) (C : Cst K mg) : FnOk P w K mg base CX0 1 f fd2 ["value"] spName := by
  obtain ⟨tl, hl⟩ := C.letters
  obtain ⟨td, hd⟩ := C.digits
  refine F.ok scName (fun vs H Q E h => ?_) (fun cdv A outer s H vs Q E hr h => ?_)
  · obtain ⟨x, d, rfl, _⟩ := h
    rfl
  · obtain ⟨x, d, rfl, hx, vd, k⟩ := h
    refine ⟨_, PSs.nox (pss_cons (ps_if (PW.pt (pw_or (pt_not (pt_val (pe_callB call_isi (by rfl) T.isi boot_isinstance (pa_cons (pv 0) (pa_cons (pe_bltn (v := .ty "str") (by rfl) T.str (by decide +kernel) rfl) pa_nil)))))
        (pw_or (pt_cmpR op_eq (pv 0) pe_str (nomark _)) (pw_or1 (pt_cmpR op_gt (pe_callB call_len_str (by rfl) T.len PySem.boot_len (pa_cons (pv 0) pa_nil)) pe_int (nomark _)))))) (pss_one (ps_ret pe_bl)) pss_nil)
      (pss_one (ps_ret (pe_and (pe_cmpR op_in_sign (pe_ix ix_str (pv 0) pe_int (fun _ _ => rfl)) (pe_glob (v := .str "abcdefghijklmnopqrstuvwxyz") (by rfl) hl ⟨_, rfl⟩) (by rfl))
        (pe_one (pe_cmpR (op_eqD hr.units) (pe_lc (own := [("mark", 1)]) (g := gName 1) (by rfl) scName.nd (pi_str (pv 0)) (blkOk_by (own := [("mark", 1)]) (N := ["value", "mark"]) (sc := defScope sName) (by decide +kernel))
          (fun _ _ _ _ _ => pg_name (i := 1) scName.nd rfl (Or.inl rfl)) (fun _ _ _ _ _ => pts_one (pt_cmpR op_notIn_sign (pv 1) (pe_op op_add_str (pe_glob (v := .str "abcdefghijklmnopqrstuvwxyz") (by rfl) hl ⟨_, rfl⟩) (pe_glob (v := .str "0123456789") (by rfl) hd ⟨_, rfl⟩)) (by rfl))) (fun _ _ _ _ _ => pv 1)) (pe_lst pa_nil) (nomark _))))))), ?_⟩
    refine ⟨_, rfl, x, .ty "str", .type (tyOf d), .type "str", isS d, rfl, .ty _, hx.ty, kit_ty (kit_str d), _, rfl, ?_⟩
    cases es : isS d with
    | false =>
      refine iteT ?_
      have q := k H (Same.refl _)
      rw [name_none es] at q
      exact q
    | true =>
      refine iteF ?_
      obtain ⟨z, rfl⟩ : ∃ z, d = .str z := by
        cases d <;> first | exact ⟨_, rfl⟩ | cases es
      obtain ⟨zl, zf⟩ := gdb_str (vdb_gdb vd rfl)
      cases hx
      have zs : z.length ≤ sizeLine := Nat.le_trans zl (by decide)
      refine ⟨_, rfl, rfl, _, rfl, ?_⟩
      rw [decStr]
      by_cases z2 : z = ""
      · rw [decide_eq_true z2]
        refine iteT ?_
        have q := k H (Same.refl _)
        have e : nameB (.str z) = false := decide_eq_false fun h => h.2.1 z2
        rw [e] at q
        exact q
      rw [decide_eq_false z2]
      refine iteF ?_
      refine ⟨_, rfl, z, rfl, zs, _, _, rfl, rfl, _, rfl, ?_⟩
      by_cases z8 : z.length ≤ 8
      · have e8 : decide ((8 : Int) < ((z.length : Nat) : Int)) = false := decide_eq_false (by omega)
        rw [e8]
        refine iteF ?_
        obtain ⟨c, r, ec⟩ : ∃ c r, z.cps.toList = c :: r := by
          cases e : z.cps.toList with
          | nil =>
            exfalso
            apply z2
            exact TL.ext_tl e
          | cons c r => exact ⟨c, r, rfl⟩
        have en := name_eq ec z8
        rw [en] at k
        refine ⟨_, rfl, z, _, c, rfl, rfl, zs, ?_, ⟨c, _, rfl, rfl, decide (c ∈ LET), rfl, ?_⟩⟩
        · rw [ec]
          exact atI_nat (j := 0) rfl
        cases hc : decide (c ∈ LET) with
        | false =>
          refine iteF ?_
          have q := k H (Same.refl _)
          rw [hc] at q
          exact q
        | true =>
          refine iteT ?_
          refine ⟨_, rfl, z, rfl, fun D nD => ?_⟩
          have sl : (signs z).length < sizeLine := by
            rw [signs_len]
            exact Nat.lt_of_le_of_lt z8 (by decide)
          refine lc_filt (p := fun x => !ledB x) walk_signs nD sl (fun _ _ => trivial) (by show 1 < 2; decide) (fun x H' hx _ R kR => ?_) fun H' sH eD => ?_
          · obtain ⟨c, hc, rfl⟩ := List.mem_map.mp hx
            refine ⟨_, rfl, _, _, rfl, rfl, by decide, ⟨c, _, rfl, rfl, _, rfl, ?_⟩⟩
            have e1 : ledB (V.str ⟨#[c]⟩) = decide (c ∈ ("abcdefghijklmnopqrstuvwxyz" ++ "0123456789" : Str).cps.toList) := by
              show decide (∀ x ∈ ([c] : List Nat), x ∈ LEDI) = _
              rw [Bool.eq_iff_iff, decide_eq_true_iff, decide_eq_true_iff]
              exact ⟨fun h => h c (by simp), fun h y hy => by rw [List.mem_singleton.mp hy]; exact h⟩
            have q := kR H' (Same.refl _)
            rw [e1] at q
            exact q
          · refine tail_eq eD (all_filter (List.all_eq_true.mpr (fok_signs zf))) fun H'' s2 => ?_
            have q := k H'' (sH.trans s2)
            rw [hc, Bool.true_and, ← filter_any, Bool.not_not] at q
            exact q
      · have e8 : decide ((8 : Int) < ((z.length : Nat) : Int)) = true := decide_eq_true (by omega)
        rw [e8]
        refine iteT ?_
        have q := k H (Same.refl _)
        have e : nameB (.str z) = false := decide_eq_false fun h => z8 h.1
        rw [e] at q
        exact q
end
end Own
set_option Elab.async false
set_option linter.all false
set_option maxRecDepth 100000
set_option maxHeartbeats 400000
namespace Own
open PySem PySem.Spec PyProof.Rows L2 LamX
/-! ### deeds, any value -/
theorem Dq.kind {K : PySem.W.Frag} {N : List Addr} {H : Hp} {d : PyData} {v : V} (h : Dq N H v d) : Kind K H v (isI d) (isB d) := ⟨tyOf d, h.ty, kit_int d, kit_bool d⟩
def DeedIn (NOW : List Str) (H : Hp) (x : V) (d : PyData) : Prop := Dq [] H x d ∧ vdb d = true ∧ Ready NOW d
theorem DeedIn.same {NOW : List Str} {H H' : Hp} {x : V} {d : PyData} (h : DeedIn NOW H x d) (e : Same H H') : DeedIn NOW H' x d := ⟨h.1.same e, h.2⟩
theorem strok_of {z : Str} {n : Nat} (h : NameOk z) (hn : 8 ≤ n) : z.length ≤ n := Nat.le_trans h.1 hn
def spDeed (NOW : List Str) : Sp := fun vs H Q _ => ∃ (x : V) (d : PyData), vs = [x] ∧ DeedIn NOW H x d ∧ ∀ H', Same H H' → Q (.bl (deedB d)) H'
def spNeedD (NOW : List Str) (CD : Addr) : Sp := fun vs H Q E => ∃ (x : V) (d : PyData), vs = [x] ∧ DeedIn NOW H x d ∧ ((deedB d = true ∧ ∀ H', Same H H' → Q .non H') ∨ (deedB d = false ∧ ∀ H', Same H H' → E (.ref CD) none H'))
/-- a def of a deed: an error for what is none -/
def spOfDeed (NOW : List Str) (CD : Addr) (R : Deed → VK → Hp → Prop) : Sp := fun vs H Q E => ∃ (x : V) (d : PyData), vs = [x] ∧ DeedIn NOW H x d ∧ ((∃ dd, d = dd.py ∧ DeedOk dd ∧ R dd Q H) ∨ (deedB d = false ∧ ∀ H', Same H H' → E (.ref CD) none H'))
def rNames : Deed → VK → Hp → Prop := fun d Q H => ∀ p H', Same H H' → H p = none → H' p = some (.tup ((once d.names).map V.str)) → Q (.ref p) H'
def rTool : Deed → VK → Hp → Prop := fun d Q H => ∀ H', Same H H' → Q (.str (toolS d.word)) H'
theorem deed_head (d : Deed) : atI d.vs (0 : Int) = some (.str d.word) := at_nat (k := 0) rfl
theorem deed_len (d : Deed) : d.vs.length = 1 + d.names.length + d.way.length := by
  unfold Deed.vs
  rw [List.length_cons, List.length_append, List.length_map, List.length_map]
  omega
theorem deed_names {d : Deed} {m : Nat} (h : d.names.length = m) : cutV d.vs (some 1) (some (1 + (m : Int))) = d.names.map V.str := by
  rw [cut_mid1 (by rw [deed_len]; omega)]
  unfold Deed.vs
  rw [List.drop_succ_cons, List.drop_zero, ← h]
  exact List.take_left' (by rw [List.length_map])
theorem deed_notwhole {d : Deed} {j : Option Int} : ¬ (HT.sIx d.vs.length 0 (some 1) = 0 ∧ HT.sIx d.vs.length d.vs.length j = d.vs.length) := cut_notwhole (by rw [deed_len]; omega)
theorem deed_none {d : PyData} (h : isT d = false) : deedB d = false := by
  cases d <;> first | rfl | cases h
theorem deed_head_none {e : PyData} {r : List PyData} (h : isS e = false) : deedB (.tuple (e :: r)) = false := by
  cases e <;> first | rfl | cases h
theorem deedB_cons (w : Str) (r : List PyData) {q : Nat × Nat} (h : FORM.lookup w = some q) : deedB (.tuple (.str w :: r)) = formB2 q r := by
  show (match FORM.lookup w with
    | some q => formB2 q r
    | none => false) = _
  rw [h]
theorem deedB_no (w : Str) (r : List PyData) (h : FORM.lookup w = none) : deedB (.tuple (.str w :: r)) = false := by
  show (match FORM.lookup w with
    | some q => formB2 q r
    | none => false) = _
  rw [h]
section
variable {NOW : List Str} {P : Program} {w : World} {K : PySem.W.Frag} {mg : Str → Option Value} {base : Heap} {f fN fI fD CD : Addr} {fd2 fdN fdI fdD : FuncData}
theorem scDeed : FnScope ["value", "many", "ways", "name"] ["value"] (defScope sDeed) := ⟨rfl, rfl, rfl, by decide +kernel, rfl, by decide +kernel, by decide +kernel⟩
theorem ok_deed (F : FnP K "is_deed" sDeed f fd2) (KN : Fk P w K mg base CX0 1 "is_name" fdN ["value"] spName) (KI : Fk P w K mg base CX0 1 "is_whole" fdI ["value"] (spWhole K)) (T : Txt K mg) (W : Dct NOW K w mg) (hNOW : ∀ z ∈ NOW, FORM.lookup z = none) :
    FnOk P w K mg base CX0 2 f fd2 ["value"] (spDeed NOW) := by
  obtain ⟨pf, es, n0, hpf, DF, atF, noF⟩ := W.forms
  refine F.ok scDeed (fun vs H Q E h => ?_) (fun cdv A outer s H vs Q E hr h => ?_)
  · obtain ⟨x, d, rfl, _⟩ := h
    rfl
  · obtain ⟨x, d, rfl, ⟨hx, vd, rdy⟩, k⟩ := h
    refine ⟨_, PSs.nox (pss_cons (ps_if (PW.pt (pw_or (pt_not (pt_val (pe_callB call_isi (by rfl) T.isi boot_isinstance (pa_cons (pv 0) (pa_cons (pe_bltn (v := .ty "tuple") (by rfl) T.tuple (by decide +kernel) rfl) pa_nil)))))
        (pw_or (pt_cmpR op_eq (pe_callB call_len_seq (by rfl) T.len PySem.boot_len (pa_cons (pv 0) pa_nil)) pe_int (nomark _)) (pw_or1 (pt_not (pt_val (pe_callB call_isi (by rfl) T.isi boot_isinstance (pa_cons (pe_ix ix_tup (pv 0) pe_int (fun _ _ => rfl)) (pa_cons (pe_bltn (v := .ty "str") (by rfl) T.str (by decide +kernel) rfl) pa_nil))))))))) (pss_one (ps_ret pe_bl)) pss_nil)
      (pss_cons (ps_if (pt_cmpR (op_notIn_kd DF) (pe_ix ix_tup (pv 0) pe_int (fun _ _ => rfl)) (pe_glob (v := .ref pf) (by rfl) hpf rfl) (by rfl)) (pss_one (ps_ret pe_bl)) pss_nil)
      (pss_cons (ps_asg (pe_ix ix_kdict (pe_glob (v := .ref pf) (by rfl) hpf rfl) (pe_ix ix_tup (pv 0) pe_int (fun _ _ => rfl)) (fun _ _ => rfl)) (pg_tup rfl (pgs_cons (pg_name (i := 1) scDeed.nd rfl (.inl rfl)) (pgs_cons (pg_name (i := 2) scDeed.nd rfl (.inl rfl)) pgs_nil))))
      (pss_cons (ps_if (pt_cmpR op_ne (pe_callB call_len_seq (by rfl) T.len PySem.boot_len (pa_cons (pv 0) pa_nil)) (pe_op op_add (pe_op op_add pe_int (pv 1)) (pv 2)) (nomark _)) (pss_one (ps_ret pe_bl)) pss_nil)
      (pss_cons (ps_if (pt_cmpR (op_neD hr.units) (pe_lc (own := [("name", 3)]) (g := gName 3) (by rfl) scDeed.nd (pi_tup (pe_slice sl_tup (pv 0) (po_some pe_int) (po_some (pe_op op_add pe_int (pv 1))))) (blkOk_by (own := [("name", 3)]) (N := ["value", "many", "ways", "name"]) (sc := defScope sDeed) (by decide +kernel))
          (fun _ _ _ _ _ => pg_name (i := 3) scDeed.nd rfl (Or.inl rfl)) (fun _ _ _ _ _ => pts_one (pt_not (pt_val (pe_call KN.ok hr (by rfl) KN.g KN.kp KN.b .nil pass0 (pa_cons (pv 3) pa_nil))))) (fun _ _ _ _ _ => pv 3)) (pe_lst pa_nil) (nomark _)) (pss_one (ps_ret pe_bl)) pss_nil)
      (pss_one (ps_ret (pe_or (pe_cmpR op_eq (pv 2) pe_int (nomark _)) (pe_one (pe_and (pe_call KI.ok hr (by rfl) KI.g KI.kp KI.b .nil pass0 (pa_cons (pe_ix ix_tup (pv 0) (pe_op op_add pe_int (pv 1)) (fun _ _ => rfl)) pa_nil))
        (pe_one (pe_chain op_le op_le pe_int (pe_ix ix_tup (pv 0) (pe_op op_add pe_int (pv 1)) (fun _ _ => rfl)) pe_int)))))))))))), ?_⟩
    have k0 := k H (Same.refl _)
    refine ⟨_, rfl, x, .ty "tuple", .type (tyOf d), .type "tuple", isT d, rfl, .ty _, hx.ty, kit_ty (kit_tuple d), _, rfl, ?_⟩
    cases eT : isT d with
    | false =>
      refine iteT ?_
      rw [deed_none eT] at k0
      exact k0
    | true =>
    refine iteF ?_
    cases hx with
    | non => cases eT
    | bl => cases eT
    | int => cases eT
    | str => cases eT
    | lst => cases eT
    | dict => cases eT
    | @tup a xs ds na ha hds =>
    have hs : SqT K H a xs := SqT.of ha
    obtain ⟨l1000, gds⟩ := gdb_tuple (vdb_gdb vd rfl)
    have f2 := hds.f2
    have len := f2.len
    refine ⟨_, rfl, a, _, rfl, .inr hs, rfl, _, rfl, ?_⟩
    cases hds with
    | nil =>
      refine iteT ?_
      exact k0
    | @cons v0 vs0 d0 ds0 h0 h1 =>
    have e0 : decide (V.int (((v0 :: vs0).length : Nat) : Int) = V.int 0) = false := decide_eq_false (by simp only [V.int.injEq, List.length_cons]; omega)
    rw [e0]
    refine iteF ?_
    have at0 : atI (v0 :: vs0) (0 : Int) = some v0 := at_nat (k := 0) rfl
    refine ⟨_, rfl, a, _, _, _, rfl, rfl, hs, at0, v0, .ty "str", .type (tyOf d0), .type "str", isS d0, rfl, .ty _, h0.ty, kit_ty (kit_str d0), _, rfl, ?_⟩
    cases eS : isS d0 with
    | false =>
      refine iteT ?_
      rw [deed_head_none eS] at k0
      exact k0
    | true =>
    refine iteF ?_
    obtain ⟨wd, rfl⟩ : ∃ z, d0 = .str z := by
      cases d0 <;> first | exact ⟨_, rfl⟩ | cases eS
    cases h0
    rcases rdy wd ds0 rfl with ⟨⟨m, kk⟩, hq⟩ | hno
    rotate_left
    · refine ⟨_, rfl, a, _, _, _, rfl, rfl, hs, at0, wd, _, rfl, rfl, noF wd hno, _, rfl, ?_⟩
      refine iteT ?_
      rw [deedB_no _ _ (hNOW _ hno)] at k0
      exact k0
    have hm := look_mem hq
    obtain ⟨f1, _, f3, f4⟩ := form_facts _ hm
    obtain ⟨q, hq2, sq⟩ := atF _ hm
    have eB := deedB_cons wd ds0 hq
    rw [eB] at k k0
    refine ⟨_, rfl, a, _, _, _, rfl, rfl, hs, at0, wd, _, rfl, rfl, hq2, _, rfl, ?_⟩
    refine iteF ?_
    refine ⟨_, rfl, a, _, _, _, rfl, rfl, hs, at0, pf, wd, .ref q, rfl, rfl, ⟨es, n0, _, DF.at_, DF.lit, hq2, rfl⟩, ?_⟩
    refine ⟨q, _, rfl, sq H, rfl, _, _, rfl, _, _, rfl, rfl, ?_⟩
    refine ⟨_, rfl, a, _, rfl, .inr hs, _, rfl, _, _, rfl, rfl, _, rfl, _, _, rfl, rfl, rfl, _, rfl, ?_⟩
    have l2 : vs0.length = ds0.length := by simpa using len
    by_cases hl : ds0.length = m + kk
    rotate_left
    · have e1 : (!decide (V.int (((V.str wd :: vs0).length : Nat) : Int) = V.int (1 + (m : Int) + (kk : Int)))) = true := by
        rw [decide_eq_false (by simp only [V.int.injEq, List.length_cons]; omega)]
        rfl
      rw [e1]
      refine iteT ?_
      have : formB2 (m, kk) ds0 = false := by
        unfold formB2
        rw [decide_eq_false hl]
        rfl
      rw [this] at k0
      exact k0
    have e1 : (!decide (V.int (((V.str wd :: vs0).length : Nat) : Int) = V.int (1 + (m : Int) + (kk : Int)))) = false := by
      rw [decide_eq_true (by simp only [V.int.injEq, List.length_cons]; omega)]
      rfl
    rw [e1]
    refine iteF ?_
    refine ⟨_, rfl, _, rfl, _, rfl, _, _, rfl, rfl, _, rfl, a, _, rfl, hs, cut_notwhole (by simp), fun p np => ?_⟩
    have lm : 1 + m ≤ (V.str wd :: vs0).length := by
      rw [List.length_cons, l2, hl]
      omega
    rw [cut_mid1 (m := m) lm, List.drop_succ_cons, List.drop_zero]
    have s1 := same_upd (o := .tup (vs0.take m)) np
    have f3' : m ≤ 5 := f3
    have hz : (vs0.take m).length < sizeLine := by
      rw [List.length_take]
      exact Nat.lt_of_le_of_lt (Nat.le_trans (Nat.min_le_left _ _) f3') (by decide)
    have hp := upd_same (H := H) (a := p) (o := .tup (vs0.take m))
    have gt : ∀ e ∈ ds0.take m, gdb e = true := fun e he => gds e (List.mem_cons_of_mem _ (List.mem_of_mem_take he))
    refine ⟨p, rfl, ⟨_, SqT.of hp⟩, fun D nD => ?_⟩
    refine lc_any (N := []) (ds := ds0.take m) (p := fun e => !nameB e) walk_tup (F2.take m (h1.same s1).f2) nD hz (fun H' s' => SqT.of (s' _ _ hp)) (by show 3 < 4; decide) (fun y e H' he hy _ R kR => ?_) fun H1 ys es1 sH eD f5 sub em => ?_
    · refine ⟨_, rfl, y, e, rfl, hy, ?_, fun H2 s3 => ⟨_, rfl, kR H2 s3⟩⟩
      unfold vdb
      rw [gt e he, Bool.or_true]
    refine tail_neD eD f5 (fun e he => gt e (sub e he)) fun H2 s2 => ⟨_, rfl, ?_⟩
    rw [em, Bool.not_not]
    have sA := (s1.trans sH).trans s2
    have k2 := k H2 sA
    unfold formB2 at k2
    rw [decide_eq_true hl, Bool.true_and] at k2
    have eN : (ds0.take m).any (fun e => !nameB e) = !(ds0.take m).all nameB := by
      rw [List.all_eq_not_any_not, Bool.not_not]
    rw [eN]
    have e3 : formB2 (m, kk) ds0 = ((ds0.take m).all nameB && (ds0.drop m).all wayB) := by
      unfold formB2
      rw [decide_eq_true hl, Bool.true_and]
    cases eA : (ds0.take m).all nameB with
    | false =>
      refine iteT ?_
      have k2' : Q (.bl ((ds0.take m).all nameB && (ds0.drop m).all wayB)) H2 := k2
      rw [eA] at k2'
      exact k2'
    | true =>
    have k2' : Q (.bl ((ds0.take m).all nameB && (ds0.drop m).all wayB)) H2 := k2
    rw [eA, Bool.true_and] at k2'
    refine iteF ?_
    refine ⟨_, rfl, rfl, _, rfl, ?_⟩
    by_cases hk : kk = 0
    · subst hk
      have e5 : ds0.drop m = [] := List.drop_eq_nil_of_le (by omega)
      rw [e5] at k2'
      exact iteT k2'
    have e4 : decide (V.int (kk : Int) = V.int 0) = false := decide_eq_false (by simp only [V.int.injEq]; omega)
    rw [e4]
    refine iteF ?_
    have f4' : kk ≤ 1 := f4
    have k1 : kk = 1 := by omega
    subst k1
    obtain ⟨eW, hW⟩ : ∃ e, ds0.drop m = [e] := by
      have : (ds0.drop m).length = 1 := by
        rw [List.length_drop, hl]
        omega
      match hd : ds0.drop m, this with
      | [e], _ => exact ⟨e, rfl⟩
    have hat0 : ds0[m]? = some eW := by
      have : (ds0.drop m)[0]? = some eW := by rw [hW]; rfl
      rw [List.getElem?_drop] at this
      simpa using this
    obtain ⟨vW, hvW, hqW⟩ := h1.f2.at' hat0
    have hat : atI (V.str wd :: vs0) (1 + (m : Int)) = some vW := by
      have e6 : (1 + (m : Int)) = ((m + 1 : Nat) : Int) := by omega
      rw [e6]
      exact at_nat hvW
    have hs2 : SqT K H2 a (V.str wd :: vs0) := seqT sA hs
    rw [hW] at k2'
    refine ⟨_, rfl, _, rfl, _, _, rfl, rfl, a, _, _, _, rfl, rfl, hs2, hat, vW, isI eW, isB eW, rfl, (hqW.same sA).kind, _, rfl, ?_⟩
    have k3 : Q (.bl (wayB eW)) H2 := by
      have : [eW].all wayB = wayB eW := by simp
      rw [this] at k2'
      exact k2'
    cases hqW with
    | int z =>
      refine iteT ?_
      have k4 : Q (.bl (decide (1 ≤ z) && decide (z ≤ 2))) H2 := k3
      refine ⟨_, rfl, _, rfl, _, _, rfl, rfl, a, _, _, _, rfl, rfl, hs2, hat, _, _, rfl, rfl, decide (1 ≤ z), rfl, ?_⟩
      cases eZ : decide (1 ≤ z) with
      | false =>
        rw [eZ] at k4
        exact iteF k4
      | true =>
        rw [eZ] at k4
        refine iteT ?_
        exact ⟨_, _, rfl, rfl, k4⟩
    | non => exact iteF k3
    | bl => exact iteF k3
    | str => exact iteF k3
    | lst => exact iteF k3
    | tup => exact iteF k3
    | dict => exact iteF k3
theorem scNeedD : FnScope ["deed"] ["deed"] (defScope sNeedD) := ⟨rfl, rfl, rfl, by decide +kernel, rfl, by decide +kernel, by decide +kernel⟩
theorem ok_needd (F : FnP K "need_deed" sNeedD f fd2) (KD : Fk P w K mg base CX0 2 "is_deed" fdD ["value"] (spDeed NOW)) (B : ExcT K mg "BadDeed" CD) : FnOk P w K mg base (L2.CX P w) 3 f fd2 ["deed"] (spNeedD NOW CD) := by
  refine F.ok scNeedD (fun vs H Q E h => ?_) (fun cdv A outer s H vs Q E hr h => ?_)
  · obtain ⟨x, d, rfl, _⟩ := h
    rfl
  · obtain ⟨x, d, rfl, hx, k⟩ := h
    refine ⟨_, pss_one (ps_if (pt_not (pt_val (pe_call KD.ok hr (by rfl) KD.g KD.kp KD.b .nil pass0 (pa_cons (pv 0) pa_nil)))) (pss_one (ps_raise rfl (takes_of rfl rfl rfl rfl) (pmk_own PySem.F.excBase_ValueError B.x B.g B.k (raises_own B.b B.t) rfl))) pss_nil), ?_⟩
    refine ⟨_, rfl, x, d, rfl, hx, fun H1 s1 => ⟨_, rfl, ?_⟩⟩
    rcases k with ⟨e, k⟩ | ⟨e, k⟩
    · rw [e]
      exact iteF (k H1 s1)
    · rw [e]
      exact iteT (k H1 s1)
theorem scTool : FnScope ["deed"] ["deed"] (defScope sTool) := ⟨rfl, rfl, rfl, by decide +kernel, rfl, by decide +kernel, by decide +kernel⟩
theorem ok_tool (F : FnP K "tool_of" sTool f fd2) (KD : Fk P w K mg base (L2.CX P w) 3 "need_deed" fdD ["deed"] (spNeedD NOW CD)) (W : Dct NOW K w mg) : FnOk P w K mg base (L2.CX P w) 4 f fd2 ["deed"] (spOfDeed NOW CD rTool) := by
  obtain ⟨po, es, n0, hpo, DO, atO⟩ := W.others
  refine F.ok scTool (fun vs H Q E h => ?_) (fun cdv A outer s H vs Q E hr h => ?_)
  · obtain ⟨x, d, rfl, _⟩ := h
    rfl
  · obtain ⟨x, d, rfl, hx, k⟩ := h
    refine ⟨_, pss_cons (ps_expr (pe_call KD.ok hr (by rfl) KD.g KD.kp KD.b .nil (passes_call (takes_of rfl rfl rfl rfl) fun _ _ _ _ h => h) (pa_cons (pv 0) pa_nil)))
      (PSs.nox (pss_one (ps_ret (pe_getK DO (pe_glob (v := .ref po) (by rfl) hpo rfl) (pa_cons (pe_ix ix_tup (pv 0) pe_int (fun _ _ => rfl)) (pa_cons (pe_ix ix_tup (pv 0) pe_int (fun _ _ => rfl)) pa_nil)))))), ?_⟩
    rcases k with ⟨dd, rfl, ok, k⟩ | ⟨e, k⟩
    rotate_left
    · exact ⟨_, rfl, x, d, rfl, hx, .inr ⟨e, k⟩⟩
    refine ⟨_, rfl, x, _, rfl, hx, .inl ⟨deedB_of ok, fun H1 s1 => ?_⟩⟩
    obtain ⟨a, rfl, _, ha⟩ := hx.1.deed
    have hs : SqT K H1 a dd.vs := SqT.of (s1 _ _ ha)
    obtain ⟨m, kk, hm, _⟩ := ok
    refine ⟨rfl, _, rfl, a, _, _, _, rfl, rfl, hs, deed_head dd, _, rfl, a, _, _, _, rfl, rfl, hs, deed_head dd, dd.word, .str dd.word, rfl, ?_⟩
    have q := k H1 s1
    unfold toolS at q
    rcases atO _ hm with ⟨z, u, e1, e2⟩ | ⟨e1, e2⟩
    · rw [e1] at q
      exact .inl ⟨_, .str z, e2, ⟨u, rfl⟩, q⟩
    · rw [e1] at q
      exact .inr ⟨e2, q⟩
theorem scNames : FnScope ["deed", "found", "name"] ["deed"] (defScope sNames) := ⟨rfl, rfl, rfl, by decide +kernel, rfl, by decide +kernel, by decide +kernel⟩
theorem once_step (ns : List Str) (i : Nat) (z : Str) (h : ns[i]? = some z) : once (ns.take (i + 1)) = if z ∈ once (ns.take i) then once (ns.take i) else once (ns.take i) ++ [z] := by
  unfold once
  rw [take_snoc h, List.foldl_append]
  rfl
theorem flat_strs (c : List Str) : (c.map V.str).all flatV = true := by
  rw [List.all_map, List.all_eq_true]
  intro _ _
  rfl
theorem ok_names (F : FnP K "names_of" sNames f fd2) (KD : Fk P w K mg base (L2.CX P w) 3 "need_deed" fdD ["deed"] (spNeedD NOW CD)) (T : Txt K mg) (W : Dct NOW K w mg) : FnOk P w K mg base (L2.CX P w) 4 f fd2 ["deed"] (spOfDeed NOW CD rNames) := by
  obtain ⟨pf, es, nE, hpf, DF, atF, _⟩ := W.forms
  refine F.ok scNames (fun vs H Q E h => ?_) (fun cdv A outer s H vs Q E hr h => ?_)
  · obtain ⟨x, d, rfl, _⟩ := h
    rfl
  · obtain ⟨x, d, rfl, hx, k⟩ := h
    refine ⟨_, pss_cons (ps_expr (pe_call KD.ok hr (by rfl) KD.g KD.kp KD.b .nil (passes_call (takes_of rfl rfl rfl rfl) fun _ _ _ _ h => h) (pa_cons (pv 0) pa_nil)))
      (PSs.nox (pss_cons (ps_set (i := 1) scNames.nd rfl (.inl rfl) (pe_lst pa_nil))
      (pss_cons (ps_for PassesOwn.never rfl (pi_tup (pe_slice sl_tup (pv 0) (po_some pe_int) (po_some (pe_op op_add pe_int (pe_ix ix_tup (pe_ix ix_kdict (pe_glob (v := .ref pf) (by rfl) hpf rfl) (pe_ix ix_tup (pv 0) pe_int (fun _ _ => rfl)) (fun _ _ => rfl)) pe_int (fun _ _ => rfl)))))) (pg_name (i := 2) scNames.nd rfl (Or.inl rfl))
        (pss_one (ps_if (pt_cmpR op_notIn_seq (pv 2) (pv 1) (by rfl)) (pss_one (ps_expr (pe_bm PySem.F.plainAttrs_list PySem.F.slot_list_append PySem.F.type_list_append mt_append (pv 1) (pa_cons (pv 2) pa_nil)))) pss_nil)))
      (pss_one (ps_ret (pe_tupleOf (by rfl) T.tuple (pv 1))))))), ?_⟩
    rcases k with ⟨d, rfl, ok, k⟩ | ⟨e, k⟩
    rotate_left
    · exact ⟨_, rfl, x, d, rfl, hx, .inr ⟨e, k⟩⟩
    refine ⟨_, rfl, x, _, rfl, hx, .inl ⟨deedB_of ok, fun H1 s1 => ?_⟩⟩
    obtain ⟨a, rfl, _, ha⟩ := hx.1.deed
    obtain ⟨m, kk, hm, nm, okN, _⟩ := id ok
    obtain ⟨q, hq, sq⟩ := atF _ hm
    obtain ⟨f1, f2, f3, f4⟩ := form_facts _ hm
    refine ⟨(by show 0 ≤ sizeLine; decide), fun l0 n0 => ?_⟩
    have s2 := same_upd (o := .lst []) n0
    generalize hH2 : L2.upd H1 l0 (.lst []) = H2 at s2
    have hl0 : H2 l0 = some (.lst []) := by rw [← hH2, upd_same]
    have hs : SqT K H2 a d.vs := SqT.of (s2 _ _ (s1 _ _ ha))
    refine ⟨_, rfl, _, rfl, _, rfl, a, _, _, _, rfl, rfl, hs, deed_head d, pf, d.word, .ref q, rfl, rfl, ⟨es, nE, _, DF.at_, DF.lit, hq, rfl⟩, q, _, _, _, rfl, rfl, sq H2, at_nat (k := 0) rfl, _, _, rfl, rfl, _, rfl, a, _, rfl, hs, deed_notwhole, fun p np => ?_⟩
    rw [deed_names nm]
    have s3 := same_upd (o := .tup (d.names.map V.str)) np
    have npl : l0 ≠ p := ne_of_none hl0 np
    generalize hH3 : L2.upd H2 p (.tup (d.names.map V.str)) = H3 at s3
    have hp : H3 p = some (.tup (d.names.map V.str)) := by rw [← hH3, upd_same]
    have hl3 := s3 _ _ hl0
    have low := (s1.trans s2).trans s3
    have lz : H l0 = none := s1.free n0
    refine ⟨p, rfl, ⟨_, SqT.of hp⟩, ?_⟩
    refine for_tup (K := K) (a := p) (xs := d.names.map V.str) (fun i σ G => ∃ v2, σ = [some (.ref a), some (.ref l0), v2] ∧ Kp [l0] H3 G ∧ G l0 = some (.lst ((once (d.names.take i)).map V.str))) ⟨none, rfl, Kp.refl _ _, hl3⟩ (fun i σ G _ ⟨_, _, kG, _⟩ => SqT.of (kG _ _ hp (by simp [npl.symm]))) ?_ ?_
    · rintro i y σ G hi ⟨v2, rfl, kG, gl⟩
      rw [List.getElem?_map] at hi
      cases ez : d.names[i]? with
      | none => rw [ez] at hi; cases hi
      | some z =>
        rw [ez] at hi
        cases hi
        refine ⟨_, rfl, _, rfl, l0, _, rfl, .inl (SqL.of gl), rfl, flat_strs _, _, rfl, ?_⟩
        rw [inV_str]
        have eo := once_step d.names i z ez
        by_cases hz : z ∈ once (d.names.take i)
        · rw [if_pos hz] at eo
          rw [decide_eq_true hz]
          refine iteF ?_
          exact ⟨_, rfl, kG, by rw [eo]; exact gl⟩
        · rw [if_neg hz] at eo
          rw [decide_eq_false hz]
          refine iteT ?_
          have len : (once (d.names.take i)).length ≤ 5 := by
            have h1 := once_len (d.names.take i) []
            have h2 : (d.names.take i).length ≤ 5 := by
              rw [List.length_take, nm]
              have f3' : m ≤ 5 := f3
              omega
            have h3 : ([] : List Str).length = 0 := rfl
            unfold once
            omega
          refine ⟨_, rfl, .inl ⟨rfl, _, .inl (.inl gl)⟩, _, rfl, l0, _, _, rfl, rfl, gl, by rw [List.length_map]; exact Nat.lt_of_le_of_lt len (by decide), ?_⟩
          refine ⟨_, rfl, kG.trans (Kp.upd (by simp)), ?_⟩
          rw [upd_same, eo, List.map_append]
          rfl
    · rintro σ G ⟨v2, rfl, kG, gl⟩
      rw [List.length_map, List.take_length] at gl
      refine ⟨_, rfl, .inl ⟨l0, _, rfl, SqL.of gl, fun r nr => ?_⟩⟩
      have s4 := same_upd (o := .tup ((once d.names).map V.str)) nr
      have hr0 : H r = none := by
        cases e : H r with
        | none => rfl
        | some o =>
          have : r ≠ l0 := fun z => by rw [z, lz] at e; cases e
          have := kG _ _ (low _ _ e) (by simp [this])
          rw [nr] at this
          cases this
      refine k r _ (fun b o e => s4 _ _ (kG _ _ (low _ _ e) ?_)) hr0 upd_same
      have : b ≠ l0 := fun z => by rw [z, lz] at e; cases e
      simp [this]
end
end Own
set_option Elab.async false
set_option linter.all false
set_option maxRecDepth 100000
set_option maxHeartbeats 400000
namespace Own
open PySem PySem.Spec PyProof.Rows L2 LamX
/-! ### the sheet: towers and numbers -/
theorem pe_never {X : Cx} {e : Expr} : PE X e fun _ _ _ => False := ⟨fun _ _ _ _ _ _ h => h.elim⟩
theorem pt_never {X : Cx} {e : Expr} : PT X e fun _ _ _ => False := ⟨fun _ _ _ _ _ _ h => h.elim⟩
def clsBody (s : Stmt) : List Stmt := match s with
  | .ClassDef _ _ _ b _ _ _ _ _ _ _ => b
  | _ => []
abbrev sTowI : Stmt := (clsBody cTower).getD 0 (.Pass ⟨0, 0, 0, 0⟩)
abbrev sNumI : Stmt := (clsBody cNumber).getD 0 (.Pass ⟨0, 0, 0, 0⟩)
/-- what the walk asks of the two classes -/
structure Obj2 (K : PySem.W.Frag) (mg : Str → Option Value) (CT CN fT fN pE : Addr) (dT dN : FuncData) : Prop where
  gT : mg "Tower" = some (.ref CT)
  gN : mg "Number" = some (.ref CN)
  kT : Mk K CT fT
  kN : Mk K CN fN
  iT : C8.InsC K CT
  cN : Cls K CN
  iN : C8.InsC K CN
  intN : PySem.W.kitOne K (.type "int") (.ref CN) = some false
  n1 : NoAttr K CT "rows"
  n2 : NoAttr K CT "squares"
  n3 : NoAttr K CN "tower"
  n4 : NoAttr K CN "vector"
  eE : ∃ o, K.lookup pE = some o ∧ o.cls = .type "tuple"
  sE : ∀ H, SqT K H pE []
  most : ∃ t, mg "MOST" = some (.int 6 t)
  FT : FunD K "__init__" "Tower.__init__" (defArgs sTowI) (defBody sTowI) (defScope sTowI) [.ref pE, .non] [] fT dT
  FN : FunD K "__init__" "Number.__init__" (defArgs sNumI) (defBody sNumI) (defScope sNumI) [.non] [] fN dN
def spRows (pE : Addr) : Sp := fun vs H Q _ => vs = [.ref pE] ∧ ∀ p H', Same H H' → H p = none → H' p = some (.tup []) → Q (.ref p) H'
def spTowI (CT pE : Addr) : Sp := fun vs H Q _ => ∃ (x dx : Addr), vs = [.ref x, .ref pE, .non] ∧ H x = some (.ins CT dx []) ∧ ∀ H' fs, Kp [x] H H' → H' x = some (.ins CT dx fs) → Q .non H'
def spNeedT (CT : Addr) : Sp := fun vs H Q _ => ∃ (x dx : Addr) (fs : List (Str × V)), vs = [.ref x] ∧ H x = some (.ins CT dx fs) ∧ Q .non H
def spLowest : Sp := fun vs H Q _ => ∃ (v ws : Addr) (n : Int), vs = [.ref v] ∧ H v = some (.tup [.ref ws, .int 1]) ∧ H ws = some (.tup [.int n]) ∧ Q (.ref v) H
def spNumI (CT CN : Addr) : Sp := fun vs H Q _ => ∃ (x dx t dt : Addr) (fs : List (Str × V)) (pp v ws : Addr) (n : Int), vs = [.ref x, .ref t, pp |> V.ref, .ref v] ∧ H x = some (.ins CN dx []) ∧ H t = some (.ins CT dt fs) ∧ H v = some (.tup [.ref ws, .int 1]) ∧ H ws = some (.tup [.int n]) ∧
  ∀ H' fs', Kp [x] H H' → H' x = some (.ins CN dx fs') → Q .non H'
def spFrac (CN : Addr) : Sp := fun vs H Q _ => ∃ n : Int, vs = [.int n, .int 1] ∧ ∀ p dx fs H', Same H H' → H' p = some (.ins CN dx fs) → Q (.ref p) H'
def SHEET : List Str := "o" :: "u" :: "uu" :: "v" :: "vv" :: []
/-- a pair of Numbers -/
def PointV (CN : Addr) (H : Hp) (v : V) : Prop := ∃ t a b da fa db fb, v = .ref t ∧ H t = some (.tup [.ref a, .ref b]) ∧ H a = some (.ins CN da fa) ∧ H b = some (.ins CN db fb)
theorem PointV.same {CN : Addr} {H H' : Hp} {v : V} (h : PointV CN H v) (e : Same H H') : PointV CN H' v := by
  obtain ⟨t, a, b, da, fa, db, fb, rfl, h1, h2, h3⟩ := h
  exact ⟨t, a, b, da, fa, db, fb, rfl, e _ _ h1, e _ _ h2, e _ _ h3⟩
def spSheet (CN : Addr) : Sp := fun vs H Q _ => vs = [] ∧ ∀ d ws H', Same H H' → H d = none → ws.length = 5 → H' d = some (.dK ((SHEET.map Sum.inr).zip ws)) → (∀ v ∈ ws, PointV CN H' v) → Q (.ref d) H'
section
variable {P : Program} {w : World} {K : PySem.W.Frag} {mg : Str → Option Value} {base : Heap} {f fR fI fW fL fNd CT CN fT fN pE : Addr} {fd2 fdR fdI fdW fdL dT dN fdNd : FuncData}
theorem scRows : FnScope ["squares", "rows", "at", "parts", "vector"] ["squares"] (defScope sRowsOf) := ⟨rfl, rfl, rfl, by decide +kernel, rfl, by decide +kernel, by decide +kernel⟩
theorem ok_rows (F : FnP K "rows_of" sRowsOf f fd2) (T : Txt K mg) (O : Obj2 K mg CT CN fT fN pE dT dN) : FnOk P w K mg base CX0 1 f fd2 ["squares"] (spRows pE) := by
  obtain ⟨tm, hm⟩ := O.most
  obtain ⟨oE, eE, cE⟩ := O.eE
  refine F.ok scRows (fun vs H Q E h => ?_) (fun cdv A outer s H vs Q E hr h => ?_)
  · obtain ⟨rfl, _⟩ := h
    rfl
  · obtain ⟨rfl, k⟩ := h
    refine ⟨_, PSs.nox (pss_cons (ps_if (PW.pt (pw_or (pt_not (pt_val (pe_callB call_isi (by rfl) T.isi boot_isinstance (pa_cons (pv 0) (pa_cons (pe_bltn (v := .ty "tuple") (by rfl) T.tuple (by decide +kernel) rfl) pa_nil)))))
        (pw_or1 (pt_cmpR op_gt (pe_callB call_len_seq (by rfl) T.len PySem.boot_len (pa_cons (pv 0) pa_nil)) (pe_glob (v := .int 6) (by rfl) hm ⟨_, rfl⟩) (nomark _))))) pss_never pss_nil)
      (pss_cons (ps_set (i := 1) scRows.nd rfl (.inl rfl) (pe_tup pa_nil))
      (pss_cons (ps_for PassesOwn.never rfl (pi_enumS (by rfl) T.enum (pa_cons (pv 0) pa_nil)) (pg_tup rfl (pgs_cons (pg_name (i := 2) scRows.nd rfl (.inl rfl)) (pgs_cons (pg_name (i := 3) scRows.nd rfl (.inl rfl)) pgs_nil))) pss_never)
      (pss_one (ps_ret (pv 1)))))), ?_⟩
    refine ⟨_, rfl, .ref pE, .ty "tuple", .type "tuple", .type "tuple", true, rfl, .ty _, .kTuple eE cE, kit_ty (by decide +kernel), true, rfl, ?_⟩
    refine iteF ?_
    refine ⟨_, rfl, pE, _, rfl, .inr (O.sE H), _, _, rfl, rfl, _, rfl, ?_⟩
    refine iteF ?_
    refine ⟨(by show 0 ≤ sizeLine; decide), fun p np => ?_⟩
    have s1 := same_upd (o := .tup []) np
    refine ⟨_, rfl, pE, rfl, .inr ⟨_, O.sE _, ?_⟩⟩
    refine for_it walk_enumT (fun i σ G => σ = [some (.ref pE), some (.ref p), none, none, none] ∧ G = L2.upd H p (.tup [])) ⟨rfl, rfl⟩ (fun i σ G _ q => O.sE G) (fun i x σ G H' hi => absurd hi (Nat.not_lt_zero _)) ?_
    rintro σ G ⟨rfl, rfl⟩
    exact ⟨_, rfl, k p _ s1 np upd_same⟩
theorem scTowI : FnScope ["self", "squares", "known"] ["self", "squares", "known"] (defScope sTowI) := ⟨rfl, rfl, rfl, by decide +kernel, rfl, by decide +kernel, by decide +kernel⟩
theorem ok_towI (FR : FnP K "rows_of" sRowsOf fR fdR) (gR : mg "rows_of" = some (.ref fR)) (T : Txt K mg) (O : Obj2 K mg CT CN fT fN pE dT dN) : FnOk P w K mg base CX0 2 fT dT ["self", "squares", "known"] (spTowI CT pE) := by
  have GR : FnOk P w K mg base CX0 1 fR fdR ["squares"] (spRows pE) := ok_rows FR T O
  have bR : Binds K fdR ["squares"] [] := FR.bindsN fun _ _ _ _ _ _ us hl => match us, hl with | [_], _ => rfl
  refine O.FT.ok scTowI (fun vs H Q E h => ?_) (fun cdv A outer s H vs Q E hr h => ?_)
  · obtain ⟨x, dx, rfl, _⟩ := h
    rfl
  · obtain ⟨x, dx, rfl, hx, k⟩ := h
    refine ⟨_, PSs.nox (pss_cons (ps_fld (pv 0) (pe_ifExp (pt_cmpR op_isN (pv 2) pe_non (nomark _)) (pe_call GR hr (by rfl) gR FR.kp bR .nil pass0 (pa_cons (pv 1) pa_nil)) pe_never) rfl)
      (pss_one (ps_fld (pv 0) (pv 1) rfl))), ?_⟩
    refine ⟨_, rfl, rfl, _, rfl, ?_⟩
    refine iteT ?_
    refine ⟨_, rfl, rfl, fun p H1 s1 np hp => ?_⟩
    refine ⟨_, rfl, x, CT, dx, _, rfl, s1 _ _ hx, O.iT.cl, O.n1, by decide, ?_⟩
    refine ⟨_, rfl, _, rfl, x, CT, dx, _, rfl, upd_same, O.iT.cl, O.n2, by show (1 : Nat) < 1000; decide, ?_⟩
    refine k _ _ (((Kp.of s1).trans (Kp.upd (by simp))).trans (Kp.upd (by simp))) upd_same
theorem scNeedT : FnScope ["value"] ["value"] (defScope sNeedT) := ⟨rfl, rfl, rfl, by decide +kernel, rfl, by decide +kernel, by decide +kernel⟩
theorem ok_needt (F : FnP K "need_tower" sNeedT f fd2) (T : Txt K mg) (O : Obj2 K mg CT CN fT fN pE dT dN) : FnOk P w K mg base CX0 1 f fd2 ["value"] (spNeedT CT) := by
  refine F.ok scNeedT (fun vs H Q E h => ?_) (fun cdv A outer s H vs Q E hr h => ?_)
  · obtain ⟨x, dx, fs, rfl, _⟩ := h
    rfl
  · obtain ⟨x, dx, fs, rfl, hx, k⟩ := h
    refine ⟨_, PSs.nox (pss_one (ps_if (pt_not (pt_val (pe_callB (C8.call_isC O.iT) (by rfl) T.isi boot_isinstance (pa_cons (pv 0) (pa_cons (pe_glob (v := .ref CT) (by rfl) O.gT rfl) pa_nil))))) pss_never pss_nil)), ?_⟩
    refine ⟨_, rfl, x, dx, fs, rfl, hx, _, rfl, ?_⟩
    exact iteF k
theorem scLowest : FnScope ["vector", "wholes", "both", "whole"] ["vector"] (defScope sLowest) := ⟨rfl, rfl, rfl, by decide +kernel, rfl, by decide +kernel, by decide +kernel⟩
theorem ok_lowest (F : FnP K "vec_lowest" sLowest f fd2) : FnOk P w K mg base CX0 1 f fd2 ["vector"] spLowest := by
  refine F.ok scLowest (fun vs H Q E h => ?_) (fun cdv A outer s H vs Q E hr h => ?_)
  · obtain ⟨v, ws, n, rfl, _⟩ := h
    rfl
  · obtain ⟨v, ws, n, rfl, hv, hw, k⟩ := h
    refine ⟨_, PSs.nox (pss_cons (ps_asg (pv 0) (pg_tup rfl (pgs_cons (pg_name (i := 1) scLowest.nd rfl (.inl rfl)) (pgs_cons (pg_name (i := 2) scLowest.nd rfl (.inr rfl)) pgs_nil))))
      (pss_cons (ps_for PassesOwn.never rfl (pi_tup (pv 1)) (pg_name (i := 3) scLowest.nd rfl (Or.inl rfl)) (pss_cons (ps_if (pt_cmpR op_eq (pv 2) pe_int (nomark _)) (pss_one (ps_ret (pv 0))) pss_nil) pss_never)) pss_never)), ?_⟩
    refine ⟨_, rfl, v, _, rfl, SqT.of hv, rfl, _, _, rfl, _, _, rfl, rfl, ?_⟩
    refine ⟨_, rfl, ws, rfl, ⟨_, SqT.of hw⟩, ?_⟩
    refine for_tup (K := K) (a := ws) (xs := [V.int n]) (fun i σ G => i = 0 ∧ G = H ∧ σ = [some (.ref v), some (.ref ws), some (.int 1), none]) ⟨rfl, rfl, rfl⟩ (fun i σ G _ q => by rw [q.2.1]; exact SqT.of hw) ?_ ?_
    · rintro i y σ G hi ⟨rfl, rfl, rfl⟩
      cases hi
      refine ⟨_, rfl, rfl, _, rfl, ?_⟩
      refine iteT ?_
      exact ⟨_, rfl, k⟩
    · rintro σ G ⟨h0, _⟩
      cases h0
theorem scNumI : FnScope ["self", "tower", "parts", "known"] ["self", "tower", "parts", "known"] (defScope sNumI) := ⟨rfl, rfl, rfl, by decide +kernel, rfl, by decide +kernel, by decide +kernel⟩
theorem ok_numI (FW : FnP K "need_tower" sNeedT fW fdW) (FL : FnP K "vec_lowest" sLowest fL fdL) (gW : mg "need_tower" = some (.ref fW)) (gL : mg "vec_lowest" = some (.ref fL)) (T : Txt K mg) (O : Obj2 K mg CT CN fT fN pE dT dN) :
    FnOk P w K mg base CX0 2 fN dN ["self", "tower", "parts", "known"] (spNumI CT CN) := by
  have GW : FnOk P w K mg base CX0 1 fW fdW ["value"] (spNeedT CT) := ok_needt FW T O
  have bW : Binds K fdW ["value"] [] := FW.bindsN fun _ _ _ _ _ _ us hl => match us, hl with | [_], _ => rfl
  have GL : FnOk P w K mg base CX0 1 fL fdL ["vector"] spLowest := ok_lowest FL
  have bL : Binds K fdL ["vector"] [] := FL.bindsN fun _ _ _ _ _ _ us hl => match us, hl with | [_], _ => rfl
  refine O.FN.ok scNumI (fun vs H Q E h => ?_) (fun cdv A outer s H vs Q E hr h => ?_)
  · obtain ⟨x, dx, t, dt, fs, pp, v, ws, n, rfl, _⟩ := h
    rfl
  · obtain ⟨x, dx, t, dt, fs, pp, v, ws, n, rfl, hx, ht, hv, hw, k⟩ := h
    refine ⟨_, PSs.nox (pss_cons (ps_expr (pe_call GW hr (by rfl) gW FW.kp bW .nil pass0 (pa_cons (pv 1) pa_nil)))
      (pss_cons (ps_if (PW.pt (pw_and (pt_cmpR op_isN (pv 3) pe_non (nomark _)) (pw_and1 pt_never))) pss_never pss_nil)
      (pss_cons (ps_fld (pv 0) (pv 1) rfl)
      (pss_one (ps_fld (pv 0) (pe_ifExp (pt_cmpR op_isN (pv 3) pe_non (nomark _)) pe_never (pe_call GL hr (by rfl) gL FL.kp bL .nil pass0 (pa_cons (pv 3) pa_nil))) rfl))))), ?_⟩
    refine ⟨_, rfl, t, dt, fs, rfl, ht, ?_⟩
    refine ⟨_, rfl, rfl, _, rfl, ?_⟩
    refine iteF ?_
    refine iteF ?_
    refine ⟨_, rfl, _, rfl, x, CN, dx, _, rfl, hx, O.cN, O.n3, by decide, ?_⟩
    have nv : v ≠ x := ne_of hv hx (by intro z; cases z)
    have nw : ws ≠ x := ne_of hw hx (by intro z; cases z)
    refine ⟨_, rfl, rfl, _, rfl, ?_⟩
    refine iteF ?_
    refine ⟨_, rfl, v, ws, n, rfl, by rw [upd_ne nv]; exact hv, by rw [upd_ne nw]; exact hw, ?_⟩
    refine ⟨_, rfl, x, CN, dx, _, rfl, upd_same, O.cN, O.n4, by show (1 : Nat) < 1000; decide, ?_⟩
    exact k _ _ ((Kp.upd (by simp)).trans (Kp.upd (by simp))) upd_same
theorem scFrac : FnScope ["n", "d"] ["n", "d"] (defScope sFrac) := ⟨rfl, rfl, rfl, by decide +kernel, rfl, by decide +kernel, by decide +kernel⟩
/-- a new instance, made: all is as it was -/
theorem made_same {H H' : Hp} {x dx C : Addr} (nx : H x = none) (ndx : H dx = none) (ne : dx ≠ x) (k : Kp [x] (L2.upd (L2.upd H dx (.own x)) x (.ins C dx [])) H') : Same H H' := fun b o e => by
  have n1 : b ≠ x := ne_of_none e nx
  have n2 : b ≠ dx := ne_of_none e ndx
  refine k b o ?_ (by simp [n1])
  rw [upd_ne n1, upd_ne n2]
  exact e
theorem ok_frac (F : FunD K "fraction" "fraction" (defArgs sFrac) (defBody sFrac) (defScope sFrac) [.int 1] [] f fd2) (FI : FnP K "is_whole" sWhole fI fdI) (FR : FnP K "rows_of" sRowsOf fR fdR) (FW : FnP K "need_tower" sNeedT fW fdW) (FL : FnP K "vec_lowest" sLowest fL fdL)
    (gI : mg "is_whole" = some (.ref fI)) (gR : mg "rows_of" = some (.ref fR)) (gW : mg "need_tower" = some (.ref fW)) (gL : mg "vec_lowest" = some (.ref fL)) (T : Txt K mg) (O : Obj2 K mg CT CN fT fN pE dT dN) :
    FnOk P w K mg base CX0 4 f fd2 ["n", "d"] (spFrac CN) := by
  have GI : FnOk P w K mg base CX0 1 fI fdI ["value"] (spWhole K) := ok_whole FI T
  have bI : Binds K fdI ["value"] [] := FI.bindsN fun _ _ _ _ _ _ us hl => match us, hl with | [_], _ => rfl
  have GT : FnOk P w K mg base CX0 2 fT dT ["self", "squares", "known"] (spTowI CT pE) := ok_towI FR gR T O
  have GN : FnOk P w K mg base CX0 2 fN dN ["self", "tower", "parts", "known"] (spNumI CT CN) := ok_numI FW FL gW gL T O
  obtain ⟨dsT, vT, bT⟩ := O.FT.binds1 (ps := ["self", "squares", "known"]) 1 0 (by simp) rfl fun T kV doc pm an cdv ct us its l1 l2 => match us, its, l1, l2 with | [_], [_, _], _, _ => ⟨_, rfl, rfl⟩
  obtain ⟨dsN, vN, bN⟩ := O.FN.binds1 (ps := ["self", "tower", "parts", "known"]) 4 1 (by simp) rfl fun T kV doc pm an cdv ct us its l1 l2 => match us, its, l1, l2 with | [_, _, _, _], [_], _, _ => ⟨_, rfl, rfl⟩
  refine F.ok scFrac (fun vs H Q E h => ?_) (fun cdv A outer s H vs Q E hr h => ?_)
  · obtain ⟨n, rfl, _⟩ := h
    rfl
  · obtain ⟨n, rfl, k⟩ := h
    have hr1 := hr.mono (show 1 ≤ 3 by decide)
    refine ⟨_, PSs.nox (pss_cons (ps_if (PW.pt (pw_or (pt_not (pt_val (pe_call GI hr1 (by rfl) gI FI.kp bI .nil pass0 (pa_cons (pv 0) pa_nil)))) (pw_or (pt_not (pt_val (pe_call GI hr1 (by rfl) gI FI.kp bI .nil pass0 (pa_cons (pv 1) pa_nil))))
        (pw_or1 (pt_cmpR op_lt (pv 1) pe_int (nomark _)))))) pss_never pss_nil)
      (pss_one (ps_ret (pe_make O.kN GN hr (by rfl) O.gN bN vN pass0 (pa_cons (pe_make0 O.kT GT hr (by rfl) O.gT bT vT pass0) (pa_cons (pe_tup pa_nil) (pa_cons (pe_tup (pa_cons (pe_tup (pa_cons (pv 0) pa_nil)) (pa_cons (pv 1) pa_nil))) pa_nil))))))), ?_⟩
    refine ⟨_, rfl, .int n, true, false, rfl, Kind.int n, _, rfl, ?_⟩
    refine iteF ?_
    refine ⟨_, rfl, .int 1, true, false, rfl, Kind.int 1, _, rfl, ?_⟩
    refine iteF ?_
    refine ⟨_, rfl, _, _, rfl, rfl, _, rfl, ?_⟩
    refine iteF ?_
    intro x dx nx ndx ne
    refine ⟨x, dx, rfl, upd_same, fun H1 fs1 k1 h1 => ⟨rfl, ?_⟩⟩
    have s1 := made_same nx ndx ne k1
    refine ⟨(by show 0 ≤ sizeLine; decide), fun pp npp => ?_⟩
    have s2 := same_upd (o := .tup []) npp
    refine ⟨_, rfl, (by show 1 ≤ sizeLine; decide), fun ws nws => ⟨_, rfl, (by show 2 ≤ sizeLine; decide), fun v nv => ?_⟩⟩
    have s3 := same_upd (o := .tup [.int n]) nws
    have s4 := same_upd (o := .tup [.ref ws, .int 1]) nv
    intro y dy ny ndy ne2
    have keep : ∀ {b : Addr} {o : HO} {H0 : Hp}, H0 b = some o → H0 y = none → H0 dy = none → (L2.upd (L2.upd H0 dy (.own y)) y (.ins CN dy [])) b = some o := fun {b o H0} e n1 n2 => by
      rw [upd_ne (ne_of_none e n1), upd_ne (ne_of_none e n2)]
      exact e
    refine ⟨y, dy, x, dx, fs1, pp, v, ws, n, rfl, upd_same, keep (s4 _ _ (s3 _ _ (s2 _ _ h1))) ny ndy, keep upd_same ny ndy, keep (s4 _ _ upd_same) ny ndy, fun H2 fs2 k2 h2 => ⟨rfl, ?_⟩⟩
    exact k y dy fs2 H2 ((((s1.trans s2).trans s3).trans s4).trans (made_same ny ndy ne2 k2)) h2
theorem scSheet : FnScope ["zero", "one", "two"] [] (defScope sSheet) := ⟨rfl, rfl, rfl, by decide +kernel, rfl, by decide +kernel, by decide +kernel⟩
theorem ok_sheet (F : FnP K "sheet" sSheet f fd2) {fF : Addr} {fdF : FuncData} (FF : FunD K "fraction" "fraction" (defArgs sFrac) (defBody sFrac) (defScope sFrac) [.int 1] [] fF fdF) (FI : FnP K "is_whole" sWhole fI fdI) (FR : FnP K "rows_of" sRowsOf fR fdR) (FW : FnP K "need_tower" sNeedT fW fdW) (FL : FnP K "vec_lowest" sLowest fL fdL)
    (gF : mg "fraction" = some (.ref fF)) (gI : mg "is_whole" = some (.ref fI)) (gR : mg "rows_of" = some (.ref fR)) (gW : mg "need_tower" = some (.ref fW)) (gL : mg "vec_lowest" = some (.ref fL)) (T : Txt K mg) (O : Obj2 K mg CT CN fT fN pE dT dN) :
    FnOk P w K mg base CX0 5 f fd2 [] (spSheet CN) := by
  have GF : FnOk P w K mg base CX0 4 fF fdF ["n", "d"] (spFrac CN) := ok_frac FF FI FR FW FL gI gR gW gL T O
  obtain ⟨ds, vD, bF⟩ := FF.binds1 (ps := ["n", "d"]) 1 0 (by simp) rfl fun T kV doc pm an cdv ct us its l1 l2 => match us, its, l1, l2 with | [_], [_], _, _ => ⟨_, rfl, rfl⟩
  refine F.ok scSheet (fun vs H Q E h => ?_) (fun cdv A outer s H vs Q E hr h => ?_)
  · obtain ⟨rfl, _⟩ := h
    rfl
  · obtain ⟨rfl, k⟩ := h
    refine ⟨_, PSs.nox (pss_cons (ps_par3 (i := 0) (j := 1) (l := 2) rfl scSheet.nd rfl rfl rfl (by decide) (by decide) (by decide) rfl rfl rfl (pa_cons (pe_call GF hr (by rfl) gF FF.kp bF vD pass0 (pa_cons pe_int pa_nil)) (pa_cons (pe_call GF hr (by rfl) gF FF.kp bF vD pass0 (pa_cons pe_int pa_nil)) (pa_cons (pe_call GF hr (by rfl) gF FF.kp bF vD pass0 (pa_cons pe_int pa_nil)) pa_nil))) rfl)
      (pss_one (ps_ret (pe_disp (pps_cons pe_str (pe_tup (pa_cons (pv 0) (pa_cons (pv 0) pa_nil))) (pps_cons pe_str (pe_tup (pa_cons (pv 1) (pa_cons (pv 0) pa_nil))) (pps_cons pe_str (pe_tup (pa_cons (pv 2) (pa_cons (pv 0) pa_nil)))
        (pps_cons pe_str (pe_tup (pa_cons (pv 0) (pa_cons (pv 1) pa_nil))) (pps_cons pe_str (pe_tup (pa_cons (pv 0) (pa_cons (pv 2) pa_nil))) pps_nil))))) (by rfl) (by rfl) (fun z => by cases z) (by decide))))), ?_⟩
    refine ⟨0, rfl, fun v0 x0 f0 H1 s1 i0 => ⟨1, rfl, fun v1 x1 f1 H2 s2 i1 => ⟨2, rfl, fun v2 x2 f2 H3 s3 i2 => ⟨_, _, _, rfl, ?_⟩⟩⟩⟩
    intro d nd
    have two : (2 : Nat) ≤ sizeLine := by decide
    refine ⟨_, rfl, _, rfl, two, fun t1 n1 => ⟨_, rfl, _, rfl, two, fun t2 n2 => ⟨_, rfl, _, rfl, two, fun t3 n3 => ⟨_, rfl, _, rfl, two, fun t4 n4 => ⟨_, rfl, _, rfl, two, fun t5 n5 => ?_⟩⟩⟩⟩⟩
    have e0 := same_upd (o := .dK []) nd
    have e1 := same_upd (o := .tup [.ref v0, .ref v0]) n1
    have e2 := same_upd (o := .tup [.ref v1, .ref v0]) n2
    have e3 := same_upd (o := .tup [.ref v2, .ref v0]) n3
    have e4 := same_upd (o := .tup [.ref v0, .ref v1]) n4
    have e5 := same_upd (o := .tup [.ref v0, .ref v2]) n5
    have all := (((e1.trans e2).trans e3).trans e4).trans e5
    refine ⟨all _ _ upd_same, (SHEET.map Sum.inr).zip [.ref t1, .ref t2, .ref t3, .ref t4, .ref t5], rfl, by show 5 ≤ 15; decide, ?_⟩
    have al0 : Same H3 (L2.upd (L2.upd (L2.upd (L2.upd (L2.upd (L2.upd H3 d (.dK [])) t1 (.tup [.ref v0, .ref v0])) t2 (.tup [.ref v1, .ref v0])) t3 (.tup [.ref v2, .ref v0])) t4 (.tup [.ref v0, .ref v1])) t5 (.tup [.ref v0, .ref v2])) := e0.trans all
    have j0 := al0 _ _ (s3 _ _ (s2 _ _ i0))
    have j1 := al0 _ _ (s3 _ _ i1)
    have j2 := al0 _ _ i2
    have g1 := (((e2.trans e3).trans e4).trans e5) _ _ (upd_same (a := t1) (o := .tup [V.ref v0, .ref v0]))
    have g2 := ((e3.trans e4).trans e5) _ _ (upd_same (a := t2) (o := .tup [V.ref v1, .ref v0]))
    have g3 := (e4.trans e5) _ _ (upd_same (a := t3) (o := .tup [V.ref v2, .ref v0]))
    have g4 := e5 _ _ (upd_same (a := t4) (o := .tup [V.ref v0, .ref v1]))
    have g5 := upd_same (H := L2.upd (L2.upd (L2.upd (L2.upd (L2.upd H3 d (.dK [])) t1 (.tup [.ref v0, .ref v0])) t2 (.tup [.ref v1, .ref v0])) t3 (.tup [.ref v2, .ref v0])) t4 (.tup [.ref v0, .ref v1])) (a := t5) (o := .tup [V.ref v0, .ref v2])
    have gd := all _ _ (upd_same (H := H3) (a := d) (o := .dK []))
    have freeH := ((s1.trans s2).trans s3).free nd
    generalize L2.upd (L2.upd (L2.upd (L2.upd (L2.upd (L2.upd H3 d (.dK [])) t1 (.tup [.ref v0, .ref v0])) t2 (.tup [.ref v1, .ref v0])) t3 (.tup [.ref v2, .ref v0])) t4 (.tup [.ref v0, .ref v1])) t5 (.tup [.ref v0, .ref v2]) = G at al0 j0 j1 j2 g1 g2 g3 g4 g5 gd
    have off : ∀ {b : Addr} {o : HO} (oo : HO), G b = some o → (∀ kvs, o ≠ .dK kvs) → (L2.upd G d oo) b = some o := fun {b o} oo h n => by
      rw [upd_ne (ne_of h gd (n _))]
      exact h
    refine k d [.ref t1, .ref t2, .ref t3, .ref t4, .ref t5] _ (((s1.trans s2).trans s3).trans fun b o e => ?_) freeH rfl ?_ fun v hv => ?_
    · rw [upd_ne (ne_of_none e nd)]
      exact al0 _ _ e
    · rw [upd_same]
      kernel_rfl
    · simp only [List.mem_cons, List.not_mem_nil, or_false] at hv
      rcases hv with rfl | rfl | rfl | rfl | rfl
      · exact ⟨_, _, _, _, _, _, _, rfl, off _ g1 (fun _ z => by cases z), (off _ j0 fun _ z => by cases z), (off _ j0 fun _ z => by cases z)⟩
      · exact ⟨_, _, _, _, _, _, _, rfl, off _ g2 (fun _ z => by cases z), (off _ j1 fun _ z => by cases z), (off _ j0 fun _ z => by cases z)⟩
      · exact ⟨_, _, _, _, _, _, _, rfl, off _ g3 (fun _ z => by cases z), (off _ j2 fun _ z => by cases z), (off _ j0 fun _ z => by cases z)⟩
      · exact ⟨_, _, _, _, _, _, _, rfl, off _ g4 (fun _ z => by cases z), (off _ j0 fun _ z => by cases z), (off _ j1 fun _ z => by cases z)⟩
      · exact ⟨_, _, _, _, _, _, _, rfl, off _ g5 (fun _ z => by cases z), (off _ j0 fun _ z => by cases z), (off _ j2 fun _ z => by cases z)⟩
end
end Own
set_option Elab.async false
set_option linter.all false
set_option maxRecDepth 100000
set_option maxHeartbeats 400000
namespace Own
open PySem PySem.Spec PyProof.Rows L2 LamX
/-! ### drawings, any value -/
theorem drop_at {α : Type} {l : List α} {i : Nat} {x : α} (h : l[i]? = some x) : l.drop i = x :: l.drop (i + 1) := by
  obtain ⟨hlt, hg⟩ := List.getElem?_eq_some_iff.mp h
  rw [List.drop_eq_getElem_cons hlt, hg]
/-- the keys of a dict are these names -/
def KeysAre (kvs : List (Key × V)) (kn : List Str) : Prop := kvs.map (·.1) = kn.map Sum.inr
theorem KeysAre.look {kvs : List (Key × V)} {kn : List Str} (h : KeysAre kvs kn) (z : Str) : (valV kvs (Sum.inr z)).isSome = decide (z ∈ kn) := by
  cases e : valV kvs (Sum.inr z) with
  | none =>
    have := valV_not e
    rw [h] at this
    symm
    refine decide_eq_false fun q => this (List.mem_map.mpr ⟨z, q, rfl⟩)
  | some v =>
    have := valV_in e
    rw [h] at this
    obtain ⟨y, hy, ey⟩ := List.mem_map.mp this
    cases ey
    exact (decide_eq_true hy).symm
theorem KeysAre.put {kvs : List (Key × V)} {kn : List Str} {z : Str} {v : V} (h : KeysAre kvs kn) (n : z ∉ kn) : KeysAre (putK kvs (Sum.inr z) v) (kn ++ [z]) := by
  have e : valV kvs (Sum.inr z) = none := by
    have := h.look z
    rw [decide_eq_false n] at this
    cases q : valV kvs (Sum.inr z) with
    | none => rfl
    | some v => rw [q] at this; cases this
  rw [putK_new v e]
  unfold KeysAre
  rw [List.map_append, h, List.map_append]
  rfl
theorem KeysAre.len {kvs : List (Key × V)} {kn : List Str} (h : KeysAre kvs kn) : kvs.length = kn.length := by
  have := congrArg List.length h
  rw [List.length_map, List.length_map] at this
  exact this
def strV : V → Str
  | .str x => x
  | _ => ""
def StepRd (NOW : List Str) (e : PyData) : Prop := ∀ a b, e = .tuple [a, b] → Ready NOW b
def DrawIn (NOW : List Str) (H : Hp) (x : V) (d : PyData) : Prop := Dq [] H x d ∧ wdb d = true ∧ ∀ ds, itemsOf d = some ds → ∀ e ∈ ds, StepRd NOW e
theorem DrawIn.same {NOW : List Str} {H H' : Hp} {x : V} {d : PyData} (h : DrawIn NOW H x d) (e : Same H H') : DrawIn NOW H' x d := ⟨h.1.same e, h.2⟩
def spDrawing (NOW : List Str) : Sp := fun vs H Q _ => ∃ (x : V) (d : PyData), vs = [x] ∧ DrawIn NOW H x d ∧ ∀ H', Same H H' → Q (.bl (drawV SHEET d)) H'
theorem step_notup {kn : List Str} {e : PyData} (h : isT e = false) : stepB kn e = none := by
  cases e <;> first | rfl | cases h
theorem step_len {kn : List Str} {es : List PyData} (h : es.length ≠ 2) : stepB kn (.tuple es) = none := by
  unfold stepB
  split
  · rename_i n e heq
    injection heq with heq
    subst heq
    exact absurd rfl h
  · rfl
theorem step_noname {kn : List Str} {a b : PyData} (h : nameB a = false) : stepB kn (.tuple [a, b]) = none := by
  cases a with
  | str n =>
    refine step_no fun q => ?_
    have : nameB (.str n) = true := decide_eq_true q.1
    rw [h] at this
    cases this
  | _ => rfl
theorem once_all {kn ns : List Str} : ((once ns).map V.str).any (fun x => !decide (strV x ∈ kn)) = !decide (∀ z ∈ ns, z ∈ kn) := by
  rw [List.any_map, Bool.eq_iff_iff, List.any_eq_true, Bool.not_eq_true', ← Bool.not_eq_true, decide_eq_true_iff]
  constructor
  · rintro ⟨z, hz, e⟩ q
    have := q z ((once_mem _ _).mp hz)
    have e' : (!decide (z ∈ kn)) = true := e
    rw [decide_eq_true this] at e'
    cases e'
  · intro q
    have : ∃ z ∈ ns, z ∉ kn := by
      refine Classical.byContradiction fun r => q fun z hz => Classical.byContradiction fun r2 => r ⟨z, hz, r2⟩
    obtain ⟨z, hz, e⟩ := this
    refine ⟨z, (once_mem _ _).mpr hz, ?_⟩
    show (!decide (z ∈ kn)) = true
    rw [decide_eq_false e]
    rfl
theorem form_small {d : Deed} (h : DeedOk d) : d.names.length ≤ 5 := by
  obtain ⟨m, k, hm, nm, _⟩ := h
  have : m ≤ 5 := (form_facts _ hm).2.2.1
  omega
theorem once_small {d : Deed} (h : DeedOk d) : (once d.names).length ≤ 5 := by
  have h1 := once_len d.names []
  have h2 : ([] : List Str).length = 0 := rfl
  have h3 := form_small h
  unfold once
  omega
theorem deed_okN {d : Deed} (h : DeedOk d) : ∀ z ∈ d.names, NameOk z := by
  obtain ⟨m, k, hm, nm, okN, _⟩ := h
  exact okN
section
variable {NOW : List Str} {P : Program} {w : World} {K : PySem.W.Frag} {mg : Str → Option Value} {base : Heap}
theorem scDrawing : FnScope ["value", "known", "step", "name"] ["value"] (defScope sDrawing) := ⟨rfl, rfl, rfl, by decide +kernel, rfl, by decide +kernel, by decide +kernel⟩
theorem ok_drawing {f CN CD : Addr} {fd2 dS dN dD dM : FuncData} (F : FnP K "is_drawing" sDrawing f fd2) (KS : Fk P w K mg base CX0 5 "sheet" dS [] (spSheet CN)) (KN : Fk P w K mg base CX0 1 "is_name" dN ["value"] spName) (KD : Fk P w K mg base CX0 2 "is_deed" dD ["value"] (spDeed NOW))
    (KM : Fk P w K mg base (L2.CX P w) 4 "names_of" dM ["deed"] (spOfDeed NOW CD rNames)) (T : Txt K mg) : FnOk P w K mg base CX0 6 f fd2 ["value"] (spDrawing NOW) := by
  refine F.ok scDrawing (fun vs H Q E h => ?_) (fun cdv A outer s H vs Q E hr h => ?_)
  · obtain ⟨x, d, rfl, _⟩ := h
    rfl
  · obtain ⟨x, d, rfl, ⟨hx, wd, rdy⟩, k⟩ := h
    have hu := hu_of hr
    have hr1 := hr.mono (show 1 ≤ 5 by decide)
    have hr2 := hr.mono (show 2 ≤ 5 by decide)
    have hr4 := hr.mono (show 4 ≤ 5 by decide)
    refine ⟨_, PSs.nox (pss_cons (ps_if (pt_not (pt_val (pe_callB call_isiT (by rfl) T.isi boot_isinstance (pa_cons (pv 0) (pa_cons (pe_tup (pa_cons (pe_bltn (v := .ty "list") (by rfl) T.list (by decide +kernel) rfl) (pa_cons (pe_bltn (v := .ty "tuple") (by rfl) T.tuple (by decide +kernel) rfl) pa_nil))) pa_nil))))) (pss_one (ps_ret pe_bl)) pss_nil)
      (pss_cons (ps_set (i := 1) scDrawing.nd rfl (.inr rfl) (pe_callTy call_dictD (by rfl) T.dict (by decide +kernel) (pa_cons (pe_call0 KS.ok hr (by rfl) KS.g KS.kp KS.b .nil pass0) pa_nil)))
      (pss_cons (ps_for PassesOwn.never rfl (pi_seqW (pv 0)) (pg_name (i := 2) scDrawing.nd rfl (Or.inl rfl))
        (pss_cons (ps_if (PW.pt (pw_or (pt_not (pt_val (pe_callB call_isi (by rfl) T.isi boot_isinstance (pa_cons (pv 2) (pa_cons (pe_bltn (v := .ty "tuple") (by rfl) T.tuple (by decide +kernel) rfl) pa_nil)))))
            (pw_or (pt_cmpR op_ne (pe_callB call_len_seq (by rfl) T.len PySem.boot_len (pa_cons (pv 2) pa_nil)) pe_int (nomark _)) (pw_or (pt_not (pt_val (pe_call KN.ok hr1 (by rfl) KN.g KN.kp KN.b .nil pass0 (pa_cons (pe_ix ix_tup (pv 2) pe_int (fun _ _ => rfl)) pa_nil))))
            (pw_or1 (pt_cmp (pc_din hu (pe_ix ix_tup (pv 2) pe_int (fun _ _ => rfl)) (pv 1)))))))) (pss_one (ps_ret pe_bl)) pss_nil)
        (pss_cons (ps_if (PW.pt (pw_or (pt_not (pt_val (pe_call KD.ok hr2 (by rfl) KD.g KD.kp KD.b .nil pass0 (pa_cons (pe_ix ix_tup (pv 2) pe_int (fun _ _ => rfl)) pa_nil))))
            (pw_or1 (pt_cmpR (op_neD hr.units) (pe_lc (own := [("name", 3)]) (g := gName 3) (by rfl) scDrawing.nd (pi_tup (pe_call KM.ok hr4 (by rfl) KM.g KM.kp KM.b .nil passL (pa_cons (pe_ix ix_tup (pv 2) pe_int (fun _ _ => rfl)) pa_nil))) (blkOk_by (own := [("name", 3)]) (N := ["value", "known", "step", "name"]) (sc := defScope sDrawing) (by decide +kernel))
              (fun _ _ _ _ _ => pg_name (i := 3) scDrawing.nd rfl (Or.inl rfl)) (fun _ _ _ _ _ => pts_one (pt_cmp (pc_dnotin hu (pv 3) (pv 1)))) (fun _ _ _ _ _ => pv 3)) (pe_lst pa_nil) (nomark _))))) (pss_one (ps_ret pe_bl)) pss_nil)
        (pss_one (ps_dput hu (pv 1) (pe_ix ix_tup (pv 2) pe_int (fun _ _ => rfl)) (pv 2) rfl)))))
      (pss_one (ps_ret pe_bl))))), ?_⟩
    refine ⟨_, rfl, (by show 2 ≤ sizeLine; decide), fun tp ntp => ?_⟩
    have s0 := same_upd (o := .tup [.ty "list", .ty "tuple"]) ntp
    refine ⟨x, tp, _, .type (tyOf d), [.type "list", .type "tuple"], (isL d || isT d), rfl, upd_same, .cons (.ty _) (.cons (.ty _) .nil), (hx.same s0).ty, ?_, _, rfl, ?_⟩
    · cases eL : isL d with
      | true => exact kitAny_cons (b := true) (kit_ty (eL ▸ kit_list d)) (fun z => by cases z) (fun _ => rfl)
      | false =>
        cases eT : isT d with
        | true => exact kitAny_cons (b := false) (kit_ty (eL ▸ kit_list d)) (fun _ => kitAny_cons (b := true) (kit_ty (eT ▸ kit_tuple d)) (fun z => by cases z) (fun _ => rfl)) (fun z => by cases z)
        | false => exact kitAny_cons (b := false) (kit_ty (eL ▸ kit_list d)) (fun _ => kitAny_cons (b := false) (kit_ty (eT ▸ kit_tuple d)) (fun _ => kitAny_nil) fun z => by cases z) (fun z => by cases z)
    cases eLT : isL d || isT d with
    | false =>
      refine iteT ?_
      have q := k _ s0
      have e : drawV SHEET d = false := by
        cases d <;> first | rfl | cases eLT
      rw [e] at q
      exact q
    | true =>
    refine iteF ?_
    obtain ⟨a, xs, ds, rfl, hitems, hf2, l1000, vds, walkable⟩ : ∃ a xs ds, x = .ref a ∧ itemsOf d = some ds ∧ F2 (Dq [] H) xs ds ∧ ds.length ≤ 1000 ∧ (∀ e ∈ ds, vdb e = true) ∧ (H a = some (.lst xs) ∨ H a = some (.tup xs)) := by
      cases hx with
      | lst _ ha hds =>
        have h2 : (decide (_ ≤ 1000) && _) = true := wd
        rw [Bool.and_eq_true, decide_eq_true_iff, List.all_eq_true] at h2
        exact ⟨_, _, _, rfl, rfl, hds.f2, h2.1, h2.2, .inl ha⟩
      | tup _ ha hds =>
        have h2 : (decide (_ ≤ 1000) && _) = true := wd
        rw [Bool.and_eq_true, decide_eq_true_iff, List.all_eq_true] at h2
        exact ⟨_, _, _, rfl, rfl, hds.f2, h2.1, h2.2, .inr ha⟩
      | non => cases eLT
      | bl => cases eLT
      | int => cases eLT
      | str => cases eLT
      | dict => cases eLT
    have rdy := rdy ds hitems
    have edr : drawV SHEET d = goesB SHEET ds := by
      unfold drawV
      rw [hitems]
    rw [edr] at k
    refine ⟨rfl, fun d0 wv H1 s1 nd hw5 hd0 _ => ⟨d0, _, rfl, .inl hd0, fun dk ndk => ?_⟩⟩
    have s2 := same_upd (o := .dK ((SHEET.map Sum.inr).zip wv)) ndk
    generalize hH2 : L2.upd H1 dk (.dK ((SHEET.map Sum.inr).zip wv)) = H2 at s2
    have hdk : H2 dk = some (.dK ((SHEET.map Sum.inr).zip wv)) := by rw [← hH2, upd_same]
    have sA := (s0.trans s1).trans s2
    have hf := hf2.mono fun _ _ q => q.same sA
    have lz : H dk = none := (s0.trans s1).free ndk
    have key0 : KeysAre ((SHEET.map (Sum.inr : Str → Key)).zip wv) SHEET := by
      unfold KeysAre
      rw [List.map_fst_zip (by rw [List.length_map, hw5]; decide)]
    have nad : a ≠ dk := by
      rintro rfl
      rcases walkable with e | e <;> rw [lz] at e <;> cases e
    have hlen := hf2.len
    have fin : ∀ G', Kp [dk] H2 G' → Same H G' := fun G' kg b ob e => kg _ _ (sA _ _ e) (by
      have : b ≠ dk := fun z => by rw [z, lz] at e; cases e
      simp [this])
    have wka : SqL K H2 a xs ∨ SqT K H2 a xs := walkable.imp (fun e => SqL.of (sA _ _ e)) fun e => SqT.of (sA _ _ e)
    refine ⟨_, rfl, a, xs, rfl, wka, fun J GG wk hGG => ?_⟩
    have hG : ∀ G, Kp [dk] H2 G → GG G := fun G kG => hGG G fun o e => kG _ _ e (by simp [nad])
    refine for_it wk (fun i σ G => ∃ v2 kvs kn, σ = [some (.ref a), some (.ref dk), v2, none] ∧ Kp [dk] H2 G ∧ G dk = some (.dK kvs) ∧ KeysAre kvs kn ∧ kn.length ≤ 5 + i ∧ goesB kn (ds.drop i) = goesB SHEET ds)
      ⟨none, _, SHEET, rfl, Kp.refl _ _, hdk, key0, Nat.le_refl _, rfl⟩ (fun i σ G _ q => hG G (by obtain ⟨_, _, _, _, kG, _⟩ := q; exact kG)) ?_ ?_
    · rintro i y σ G0 G hi ⟨v2, kvs, kn, rfl, kG, gd, ky, lk, eq⟩ ⟨rfl, hy⟩
      obtain ⟨e, he, hq0⟩ := hf2.at_ hy
      have hq := hq0.same (fin _ kG)
      rw [drop_at he] at eq
      have vde := vds e (List.mem_of_getElem? he)
      have rde := rdy e (List.mem_of_getElem? he)
      have bad : goesB SHEET ds = false → Q (.bl false) G := fun z => by
        have q := k G (fin G kG)
        rw [z] at q
        exact q
      have badAt : stepB kn e = none → goesB SHEET ds = false := fun z => by rw [← eq, goes_bad z]
      refine ⟨_, rfl, y, .ty "tuple", .type (tyOf e), .type "tuple", isT e, rfl, .ty _, hq.ty, kit_ty (kit_tuple e), _, rfl, ?_⟩
      cases eT : isT e with
      | false =>
        refine iteT ?_
        exact bad (badAt (step_notup eT))
      | true =>
      refine iteF ?_
      obtain ⟨b, bs, es, rfl, rfl, hb, hbs⟩ : ∃ b bs es, y = .ref b ∧ e = .tuple es ∧ G b = some (.tup bs) ∧ DqAll [] G bs es := by
        cases hq with
        | tup _ h1 h2 => exact ⟨_, _, _, rfl, rfl, h1, h2⟩
        | non => cases eT
        | bl => cases eT
        | int => cases eT
        | str => cases eT
        | lst => cases eT
        | dict => cases eT
      have sb : SqT K G b bs := SqT.of hb
      have lbs := hbs.f2.len
      refine ⟨_, rfl, b, _, rfl, .inr sb, rfl, _, rfl, ?_⟩
      by_cases l2 : es.length = 2
      rotate_left
      · have e1 : (!decide (V.int ((bs.length : Nat) : Int) = V.int 2)) = true := by
          rw [decide_eq_false (by simp only [V.int.injEq]; omega)]
          rfl
        rw [e1]
        refine iteT ?_
        exact bad (badAt (step_len l2))
      have e1 : (!decide (V.int ((bs.length : Nat) : Int) = V.int 2)) = false := by
        rw [decide_eq_true (by simp only [V.int.injEq]; omega)]
        rfl
      rw [e1]
      refine iteF ?_
      obtain ⟨a1, a2, rfl⟩ : ∃ a1 a2, es = [a1, a2] := by
        match es, l2 with
        | [a1, a2], _ => exact ⟨a1, a2, rfl⟩
      have gde : gdb (.tuple [a1, a2]) = true := vdb_gdb vde rfl
      have g12 := (gdb_tuple gde).2
      have g1 := g12 a1 List.mem_cons_self
      have g2 := g12 a2 (List.mem_cons_of_mem _ List.mem_cons_self)
      have v1 : vdb a1 = true := by unfold vdb; rw [g1, Bool.or_true]
      have v2' : vdb a2 = true := by unfold vdb; rw [g2, Bool.or_true]
      cases hbs with
      | @cons u1 _ _ _ q1 hbs =>
      cases hbs with
      | @cons u2 _ _ _ q2 hbs =>
      cases hbs
      refine ⟨_, rfl, b, _, _, _, rfl, rfl, sb, at_nat (k := 0) rfl, u1, a1, rfl, q1, v1, fun G1 t1 => ⟨_, rfl, ?_⟩⟩
      have sb1 : SqT K G1 b [u1, u2] := seqT t1 sb
      have kG1 := kG.trans (Kp.of t1 (xs := [dk]))
      have bad1 : ∀ {G1 : Hp}, Kp [dk] H2 G1 → goesB SHEET ds = false → Q (.bl false) G1 := fun {G1} kg z => by
        have q := k G1 (fin G1 kg)
        rw [z] at q
        exact q
      cases eN : nameB a1 with
      | false =>
        refine iteT ?_
        exact bad1 kG1 (badAt (step_noname eN))
      | true =>
      refine iteF ?_
      obtain ⟨n, rfl⟩ : ∃ n, a1 = .str n := by
        cases a1 <;> first | exact ⟨_, rfl⟩ | cases eN
      have okn : NameOk n := of_decide_eq_true eN
      cases q1
      have gd1 := t1 _ _ gd
      refine ⟨_, rfl, b, _, _, _, rfl, rfl, sb1, at_nat (k := 0) rfl, _, rfl, dk, _, rfl, DGet.k (k := Sum.inr n) gd1, _, rfl, ?_⟩
      rw [ky.look]
      by_cases hn : n ∈ kn
      · rw [decide_eq_true hn]
        refine iteT ?_
        exact bad1 kG1 (badAt (step_no fun q => q.2.1 hn))
      rw [decide_eq_false hn]
      refine iteF ?_
      have rd2 := rde _ _ rfl
      have q2' := q2.same t1
      refine ⟨_, rfl, b, _, _, _, rfl, rfl, sb1, at_nat (k := 1) rfl, u2, a2, rfl, ⟨q2', v2', rd2⟩, fun G2 t2 => ⟨_, rfl, ?_⟩⟩
      have kG2 := kG1.trans (Kp.of t2 (xs := [dk]))
      cases eD : deedB a2 with
      | false =>
        refine iteT ?_
        refine bad1 kG2 (badAt (step_no fun q => ?_))
        have q3 := q.2.2.1
        rw [eD] at q3
        cases q3
      | true =>
      refine iteF ?_
      obtain ⟨dd, rfl, okd⟩ := deedB_ok eD
      refine ⟨_, rfl, b, _, _, _, rfl, rfl, seqT t2 sb1, at_nat (k := 1) rfl, u2, dd.py, rfl, ⟨q2'.same t2, v2', rd2⟩, .inl ⟨dd, rfl, okd, fun p G3 t3 _ hp => ?_⟩⟩
      have fo : ∀ z ∈ once dd.names, NameOk z := fun z hz => deed_okN okd z ((once_mem _ _).mp hz)
      have lo : ((once dd.names).map V.str).length < sizeLine := by
        rw [List.length_map]
        exact Nat.lt_of_le_of_lt (once_small okd) (by decide)
      have gd3 := t3 _ _ (t2 _ _ gd1)
      refine any_ne (p := fun x => !decide (strV x ∈ kn)) (SqT.of hp) (fok_names fo) lo (by show 3 < 4; decide) (fun x G' hx tG R kR => ?_) fun G4 t4 => ⟨_, rfl, ?_⟩
      · obtain ⟨z, hz, rfl⟩ := List.mem_map.mp hx
        refine ⟨_, rfl, _, rfl, dk, _, rfl, DGet.k (k := Sum.inr z) (tG _ _ gd3), _, rfl, ?_⟩
        rw [ky.look]
        exact kR G' (Same.refl _)
      rw [once_all]
      have t14 := ((t1.trans t2).trans t3).trans t4
      have kG4 := kG.trans (Kp.of t14 (xs := [dk]))
      by_cases ek : ∀ z ∈ dd.names, z ∈ kn
      rotate_left
      · rw [decide_eq_false ek]
        refine iteT ?_
        refine bad1 kG4 (badAt (step_no fun q => ek ?_))
        have := q.2.2.2
        rw [dnames_py okd] at this
        exact this
      rw [decide_eq_true ek]
      refine iteF ?_
      have gd4 := t14 _ _ gd
      have lkv : kvs.length < sizeLine := by
        rw [ky.len]
        have : i < ds.length := (List.getElem?_eq_some_iff.mp he).1
        exact Nat.lt_of_le_of_lt (show kn.length ≤ 2000 by omega) (by decide)
      refine ⟨_, rfl, _, rfl, _, rfl, b, _, _, _, rfl, rfl, seqT t14 sb, at_nat (k := 0) rfl, dk, _, rfl, DPut.k (k := Sum.inr n) gd4 lkv, ?_⟩
      refine ⟨_, _, kn ++ [n], rfl, kG4.trans (Kp.upd (by simp)), upd_same, ky.put hn, ?_, ?_⟩
      · rw [List.length_append, List.length_singleton]
        omega
      · rw [← eq]
        exact (goes_good ⟨okn, hn, eD, by rw [dnames_py okd]; exact ek⟩).symm
    · rintro σ G ⟨v2, kvs, kn, rfl, kG, gd, ky, lk, eq⟩
      rw [hlen, List.drop_length] at eq
      have q := k G (fin G kG)
      rw [← eq] at q
      exact q
end
end Own
set_option Elab.async false
set_option linter.all false
set_option maxRecDepth 100000
set_option maxHeartbeats 400000
namespace Own
open PySem PySem.Spec PyProof.Rows L2 LamX
/-! ### raising while a dict is walked -/
theorem takes_unlock {X : Cx} {W : WX} (tk : Takes X W) : Takes X (fun cls dd σ H => ∃ d od u, H d = some (.frz od u) ∧ (∀ o' u', X.H_0 d ≠ some (.frz o' u')) ∧ W cls dd σ (L2.upd H d u)) := by
  rintro u s' ⟨a, B, sI, pins, σ, H, cls, dd, e, I, nb, up, sky, na, os, ag, d, od, v, hd, hn, w⟩
  refine tk u s' ⟨a, B, sI, pins, σ, L2.upd H d v, cls, dd, e, I.unlock hd hn, nb, up, sky, ?_, os, ag, w⟩
  rw [upd_ne (fun z => by rw [z, hd] at na; cases na)]
  exact na
/-! ### tables of names -/
def kD : Key → PyData
  | .inl i => .int i
  | .inr z => .str z
theorem Dq.key {N : List Addr} {H : Hp} : ∀ k : Key, Dq N H (kV k) (kD k)
  | .inl i => .int i
  | .inr z => .str z
theorem Dq.flat {N : List Addr} {H : Hp} : ∀ {v : V}, fok v = true → Dq N H v (fd v)
  | .non, _ => .non
  | .bl b, _ => .bl b
  | .int i, _ => .int i
  | .str z, _ => .str z
def entB (kv : Key × V) : Bool := nameB (kD kv.1) && nameB (fd kv.2)
def entOk (kv : Key × V) : Bool := vdb (kD kv.1) && (fok kv.2 && vdb (fd kv.2))
/-- a dict of flat values -/
def TabIn (H : Hp) (x : V) (kvs : List (Key × V)) : Prop := ∃ b, x = .ref b ∧ H b = some (.dK kvs) ∧ kvs.length ≤ 1000 ∧ kvs.all entOk = true
theorem TabIn.same {H H' : Hp} {x : V} {kvs : List (Key × V)} (h : TabIn H x kvs) (e : Same H H') : TabIn H' x kvs := by
  obtain ⟨b, rfl, h1, h2⟩ := h
  exact ⟨b, rfl, e _ _ h1, h2⟩
def BadT (H : Hp) (x : V) : Prop := (∃ d, Dq [] H x d ∧ isD d = false) ∨ ∃ kvs, TabIn H x kvs ∧ kvs.all entB = false
def onV (kvs : List (Key × V)) (d : Deed) : List V := .str d.word :: ((d.names.map fun z => (valV kvs (.inr z)).getD (.str z)) ++ d.way.map V.int)
def spOnNames (NOW : List Str) (CD CT : Addr) : Sp := fun vs H Q E => ∃ (x y : V) (d : PyData), vs = [x, y] ∧ DeedIn NOW H x d ∧ ((deedB d = false ∧ ∀ H', Same H H' → E (.ref CD) none H') ∨ ∃ dd, d = dd.py ∧ DeedOk dd ∧
  (((∀ H', Same H H' → BadT H' y) ∧ ∀ H', Same H H' → E (.ref CT) none H') ∨ ∃ kvs, TabIn H y kvs ∧ kvs.all entB = true ∧ ∀ p H', Same H H' → H' p = some (.tup (onV kvs dd)) → Q (.ref p) H'))
/-- t + u -/
theorem cat_readV {K : PySem.W.Frag} {H : Hp} {Q : VK} {a b : Addr} {xs ys : List V} (ha : H a = some (.tup xs)) (hb : H b = some (.tup ys)) (hz : xs.length + ys.length ≤ sizeLine) (k : ∀ r H', Same H H' → H' r = some (.tup (xs ++ ys)) → Q (.ref r) H') : rCatA K (.ref a) (.ref b) H Q := by
  refine ⟨a, b, _, _, rfl, rfl, SqT.of ha, SqT.of hb, hz, fun e => ?_, fun _ e => ?_, fun _ _ p np => ?_⟩
  · refine k b H (Same.refl _) ?_
    rw [e, List.nil_append]
    exact hb
  · refine k a H (Same.refl _) ?_
    rw [e, List.append_nil]
    exact ha
  · exact k p _ (same_upd np) upd_same
theorem cut_to {xs : List V} {k : Nat} (h : k ≤ xs.length) : cutV xs none (some (k : Int)) = xs.take k := by
  show (xs.drop (HT.sIx xs.length 0 none)).take (HT.sIx xs.length xs.length (some (k : Int)) - HT.sIx xs.length 0 none) = _
  rw [HT.sIx_none, HT.sIx_nat, Nat.min_eq_left h]
  rfl
theorem len_onV {kvs : List (Key × V)} {d : Deed} : (onV kvs d).length = d.vs.length := by
  unfold onV Deed.vs
  simp
theorem way_small {d : Deed} (h : DeedOk d) : d.way.length ≤ 1 := by
  obtain ⟨m, k, hm, nm, _, nk, _⟩ := h
  have : k ≤ 1 := (form_facts _ hm).2.2.2
  omega
section
variable {NOW : List Str} {P : Program} {w : World} {K : PySem.W.Frag} {mg : Str → Option Value} {base : Heap} {f CD CT : Addr} {fd2 fdN fdD : FuncData}
abbrev nsOnN : List Str := ["deed", "table", "name", "fresh", "many"]
theorem scOnNames : FnScope nsOnN ["deed", "table"] (defScope sOnNames) := ⟨rfl, rfl, rfl, by decide +kernel, rfl, by decide +kernel, by decide +kernel⟩
theorem ok_onnames (F : FnP K "on_names" sOnNames f fd2) (KD : Fk P w K mg base (L2.CX P w) 3 "need_deed" fdD ["deed"] (spNeedD NOW CD)) (KN : Fk P w K mg base CX0 1 "is_name" fdN ["value"] spName) (T : Txt K mg) (W : Dct NOW K w mg) (B : ExcT K mg "BadTable" CT) :
    FnOk P w K mg base (L2.CX P w) 4 f fd2 ["deed", "table"] (spOnNames NOW CD CT) := by
  obtain ⟨pf, es, nE, hpf, DF, atF, _⟩ := W.forms
  refine F.ok scOnNames (fun vs H Q E h => ?_) (fun cdv A outer s H vs Q E hr h => ?_)
  · obtain ⟨x, y, d, rfl, _⟩ := h
    rfl
  · obtain ⟨x, y, d, rfl, hx, k⟩ := h
    have hu := hu_of hr
    have hr1 := hr.mono (show 1 ≤ 3 by decide)
    refine ⟨_, pss_cons (ps_expr (pe_call KD.ok hr (by rfl) KD.g KD.kp KD.b .nil (passes_call (takes_of rfl rfl rfl rfl) fun _ _ _ _ h => h) (pa_cons (pv 0) pa_nil)))
      (pss_cons (ps_if (pt_not (pt_val (pe_callB call_isi (by rfl) T.isi boot_isinstance (pa_cons (pv 1) (pa_cons (pe_bltn (v := .ty "dict") (by rfl) T.dict (by decide +kernel) rfl) pa_nil))))) (pss_one (ps_raise rfl (takes_of rfl rfl rfl rfl) (pmk_own PySem.F.excBase_ValueError B.x B.g B.k (raises_own B.b B.t) rfl))) pss_nil)
      (pss_cons (ps_lock (ps_for (passes_of rfl) rfl (pi_items (pv 1)) (pg_tup rfl (pgs_cons (pg_name (i := 2) scOnNames.nd rfl (.inl rfl)) (pgs_cons (pg_name (i := 3) scOnNames.nd rfl (.inl rfl)) pgs_nil)))
        (pss_one (ps_if (PW.pt (pw_or (pt_not (pt_val (pe_call KN.ok hr1 (by rfl) KN.g KN.kp KN.b .nil pass0 (pa_cons (pv 2) pa_nil)))) (pw_or1 (pt_not (pt_val (pe_call KN.ok hr1 (by rfl) KN.g KN.kp KN.b .nil pass0 (pa_cons (pv 3) pa_nil)))))))
          (pss_one (ps_raise rfl (takes_unlock (takes_of rfl rfl rfl rfl)) (pmk_own PySem.F.excBase_ValueError B.x B.g B.k (raises_own B.b B.t) rfl))) pss_nil))))
      (PSs.nox (pss_cons (ps_set (i := 4) scOnNames.nd rfl (.inl rfl) (pe_ix ix_tup (pe_ix ix_kdict (pe_glob (v := .ref pf) (by rfl) hpf rfl) (pe_ix ix_tup (pv 0) pe_int (fun _ _ => rfl)) (fun _ _ => rfl)) pe_int (fun _ _ => rfl)))
      (pss_one (ps_ret (pe_op op_catA (pe_op op_catA (pe_slice sl_tup (pv 0) po_none (po_some pe_int)) (pe_tupleOf (by rfl) T.tuple (pe_lc (own := [("name", 2)]) (g := gName 2) (tt := tYes) (by rfl) scOnNames.nd (pi_tup (pe_slice sl_tup (pv 0) (po_some pe_int) (po_some (pe_op op_add pe_int (pv 4))))) (blkOk_by (own := [("name", 2)]) (N := nsOnN) (sc := defScope sOnNames) (by decide +kernel))
          (fun _ _ _ _ _ => pg_name (i := 2) scOnNames.nd rfl (Or.inl rfl)) (fun _ _ _ _ _ => pts_nil) (fun _ _ _ _ _ => pe_dget2 hu (pv 1) (pv 2) (pv 2) ⟨rfl, rfl, rfl, rfl⟩))))
          (pe_slice sl_tup (pv 0) (po_some (pe_op op_add pe_int (pv 4))) po_none)))))))), ?_⟩
    have fin1 : ∀ {G : Hp}, deedB d = false → (∀ H', Same H H' → E (.ref CD) none H') → Same H G → E (.ref CD) none G := fun _ k s => k _ s
    rcases k with ⟨eD, k⟩ | ⟨dd, rfl, ok, k⟩
    · exact ⟨_, rfl, x, d, rfl, hx, .inr ⟨eD, k⟩⟩
    refine ⟨_, rfl, x, _, rfl, hx, .inl ⟨deedB_of ok, fun H1 s1 => ?_⟩⟩
    obtain ⟨a, rfl, _, ha⟩ := hx.1.deed
    have two : (∃ d', Dq [] H1 y d' ∧ isD d' = false ∧ E (.ref CT) none H1) ∨ ∃ kvs, TabIn H1 y kvs ∧ (kvs.all entB = false → ∀ H', Same H H' → E (.ref CT) none H') ∧ (kvs.all entB = true → ∀ p H', Same H H' → H' p = some (.tup (onV kvs dd)) → Q (.ref p) H') := by
      rcases k with ⟨bad, k⟩ | ⟨kvs, tb, e, k⟩
      · rcases bad H1 s1 with ⟨d', q, e⟩ | ⟨kvs, tb, e⟩
        · exact .inl ⟨d', q, e, k H1 s1⟩
        · exact .inr ⟨kvs, tb, (fun _ => k), (fun z => by rw [e] at z; cases z)⟩
      · exact .inr ⟨kvs, tb.same s1, (fun z => by rw [e] at z; cases z), fun _ => k⟩
    clear k
    rcases two with ⟨d', q, e, k⟩ | ⟨kvs, ⟨b, rfl, hb1, l1000, eok⟩, kR, kG⟩
    · refine ⟨_, rfl, y, .ty "dict", .type (tyOf d'), .type "dict", false, rfl, .ty _, q.ty, kit_ty (e ▸ kit_dict d'), _, rfl, ?_⟩
      exact iteT k
    refine ⟨_, rfl, .ref b, .ty "dict", .type "dict", .type "dict", true, rfl, .ty _, .base (.dK hb1), kit_ty (by decide +kernel), _, rfl, ?_⟩
    refine iteF ?_
    rw [List.all_eq_true] at eok
    have hb0 : H b = some (.dK kvs) ∨ H b = none := by
      cases e : H b with
      | none => exact .inr rfl
      | some o =>
        have := s1 _ _ e
        rw [hb1] at this
        exact .inl this.symm
    refine ⟨b, .dK kvs, hb1, trivial, fun od => ?_⟩
    have hbL := upd_same (H := H1) (a := b) (o := .frz od (.dK kvs))
    generalize hHL : L2.upd H1 b (.frz od (.dK kvs)) = HL at hbL
    -- behind the lock
    have back : ∀ {G : Hp}, Same HL G → Same H (L2.upd G b (.dK kvs)) := fun {G} sG c o e => by
      by_cases hc : c = b
      · subst hc
        rw [upd_same]
        have := s1 _ _ e
        rw [hb1] at this
        exact this
      · rw [upd_ne hc]
        refine sG _ _ ?_
        rw [← hHL, upd_ne hc]
        exact s1 _ _ e
    refine ⟨_, rfl, b, od, kvs, rfl, hbL, ?_⟩
    refine for_it walk_items (fun i σ G => ∃ v2 v3, σ = [some (.ref a), some (.ref b), v2, v3, none] ∧ Same HL G ∧ (kvs.take i).all entB = true) ⟨none, none, rfl, Same.refl _, rfl⟩ (fun i σ G _ q => by obtain ⟨_, _, _, sG, _⟩ := q; exact sG _ _ hbL) ?_ ?_
    · rintro i t σ G G' hi ⟨v2, v3, rfl, sG, al⟩ ⟨TT, u, v, rfl, nT, rfl, hu', hv'⟩
      obtain ⟨kv, hkv⟩ : ∃ kv, kvs[i]? = some kv := ⟨_, List.getElem?_eq_getElem hi⟩
      dsimp only at hu' hv'
      rw [hkv] at hu' hv'
      cases hu'
      cases hv'
      have sT := same_upd (o := .tup [kV kv.1, kv.2]) nT
      have eo := eok kv (List.mem_of_getElem? hkv)
      unfold entOk at eo
      rw [Bool.and_eq_true, Bool.and_eq_true] at eo
      obtain ⟨e1, e2, e3⟩ := eo
      refine ⟨TT, _, rfl, SqT.of upd_same, rfl, _, _, rfl, _, _, rfl, rfl, ?_⟩
      have bad : ∀ {G2 : Hp}, Same HL G2 → entB kv = false → ∃ d od u, G2 d = some (.frz od u) ∧ (∀ o' u', H d ≠ some (.frz o' u')) ∧ E (.ref CT) none (L2.upd G2 d u) := fun {G2} s2 eb => by
        refine ⟨b, od, .dK kvs, s2 _ _ hbL, fun o' u' e => ?_, kR ?_ _ (back s2)⟩
        · rcases hb0 with z | z <;> rw [z] at e <;> cases e
        · rw [← Bool.not_eq_true, List.all_eq_true]
          intro z
          rw [z kv (List.mem_of_getElem? hkv)] at eb
          cases eb
      refine ⟨_, rfl, kV kv.1, kD kv.1, rfl, Dq.key _, e1, fun G1 t1 => ⟨_, rfl, ?_⟩⟩
      have sG1 := (sG.trans sT).trans t1
      cases en : nameB (kD kv.1) with
      | false =>
        refine iteT ?_
        exact bad sG1 (by unfold entB; rw [en]; rfl)
      | true =>
      refine iteF ?_
      refine ⟨_, rfl, kv.2, fd kv.2, rfl, Dq.flat e2, e3, fun G2 t2 => ⟨_, rfl, ?_⟩⟩
      have sG2 := sG1.trans t2
      cases en2 : nameB (fd kv.2) with
      | false =>
        refine iteT ?_
        exact bad sG2 (by unfold entB; rw [en2, Bool.and_false])
      | true =>
      refine iteF ?_
      refine ⟨_, _, rfl, sG2, ?_⟩
      rw [take_snoc hkv, List.all_append, al]
      unfold entB
      simp [en, en2]
    · rintro σ G ⟨v2, v3, rfl, sG, al⟩
      rw [List.take_length] at al
      refine ⟨sG _ _ hbL, ?_⟩
      have sB := back sG
      have hb2 := upd_same (H := G) (a := b) (o := .dK kvs)
      generalize L2.upd G b (.dK kvs) = G0 at sB hb2
      have kG := kG al
      obtain ⟨m, kk, hm, nm, okN, nk, _⟩ := id ok
      obtain ⟨q, hq, sq⟩ := atF _ hm
      obtain ⟨f1, f2, f3, f4⟩ := form_facts _ hm
      have f3' : m ≤ 5 := f3
      have ha0 := sB _ _ ha
      have hs : SqT K G0 a dd.vs := SqT.of ha0
      have dl := deed_len dd
      refine ⟨_, rfl, a, _, _, _, rfl, rfl, hs, deed_head dd, pf, dd.word, .ref q, rfl, rfl, ⟨es, nE, _, DF.at_, DF.lit, hq, rfl⟩, q, _, _, _, rfl, rfl, sq _, at_nat (k := 0) rfl, ?_⟩
      have pos2 : 1 < dd.vs.length := by
        have : 0 < m := (by
          have h1 : ∀ t ∈ FORM, 0 < t.2.1 := by decide +kernel
          exact h1 _ hm)
        omega
      refine ⟨_, rfl, _, rfl, a, _, rfl, hs, ?_, fun p1 n1 => ?_⟩
      · rintro ⟨_, h⟩
        have e : HT.sIx dd.vs.length dd.vs.length (some ((1 : Nat) : Int)) = min 1 dd.vs.length := HT.sIx_nat _ _ _
        have h' : HT.sIx dd.vs.length dd.vs.length (some ((1 : Nat) : Int)) = dd.vs.length := h
        omega
      have c1 : cutV dd.vs none (some 1) = [.str dd.word] := by
        have := cut_to (xs := dd.vs) (k := 1) (by omega)
        have e1 : ((1 : Nat) : Int) = 1 := rfl
        rw [e1] at this
        rw [this]
        rfl
      rw [c1]
      have t1 := same_upd (o := .tup [V.str dd.word]) n1
      have hp1 := upd_same (H := G0) (a := p1) (o := .tup [V.str dd.word])
      generalize L2.upd G0 p1 (.tup [V.str dd.word]) = G1 at t1 hp1
      refine ⟨_, rfl, _, rfl, _, rfl, _, _, rfl, rfl, _, rfl, a, _, rfl, SqT.of (t1 _ _ ha0), deed_notwhole, fun p2 n2 => ?_⟩
      rw [deed_names nm]
      have t2 := same_upd (o := .tup (dd.names.map V.str)) n2
      have hp2 := upd_same (H := G1) (a := p2) (o := .tup (dd.names.map V.str))
      generalize L2.upd G1 p2 (.tup (dd.names.map V.str)) = G2 at t2 hp2
      refine ⟨p2, rfl, ⟨_, SqT.of hp2⟩, fun D nD => ?_⟩
      refine lc_rel (p := fun _ => true) (c := fun x => (valV kvs (.inr (strV x))).getD x) (rel := fun _ y b => y = b) walk_tup nD (by rw [List.length_map, nm]; exact Nat.lt_of_le_of_lt f3' (by decide)) (fun H' s' => SqT.of (s' _ _ hp2)) (fun _ q => q) (fun _ q _ => q) (fun v => rfl) (fun x H' _ _ R kR => kR H' (Same.refl _)) (fun x H' hx' _ sH R kR => ?_) fun G3 ys t3 eD f => ?_
      · obtain ⟨z, hz, rfl⟩ := List.mem_map.mp hx'
        have hbx := sH _ _ (t2 _ _ (t1 _ _ hb2))
        exact ⟨_, rfl, b, rfl, .inl ⟨_, .inl hbx⟩, _, rfl, _, rfl, _, DGet.k (k := Sum.inr z) hbx, kR _ H' (Same.refl _) rfl⟩
      rw [List.filter_eq_self.mpr fun _ _ => rfl] at f
      have ey : ys = dd.names.map fun z => (valV kvs (.inr z)).getD (.str z) := by
        rw [f.map_eq (f := fun x => x), List.map_id', List.map_map]
        rfl
      subst ey
      refine .inl ⟨D, _, rfl, SqL.of eD, fun r nr => ?_⟩
      have t4 := same_upd (o := .tup (dd.names.map fun z => (valV kvs (.inr z)).getD (.str z))) nr
      have hr4 := upd_same (H := G3) (a := r) (o := .tup (dd.names.map fun z => (valV kvs (.inr z)).getD (.str z)))
      generalize L2.upd G3 r (.tup (dd.names.map fun z => (valV kvs (.inr z)).getD (.str z))) = G4 at t4 hr4
      have lw := way_small ok
      have small : ∀ n : Nat, n ≤ 100 → n ≤ sizeLine := fun n h => Nat.le_trans h (by decide)
      refine cat_readV (t4 _ _ (t3 _ _ (t2 _ _ hp1))) hr4 (small _ (by rw [List.length_map, nm]; simp; omega)) fun r2 G5 t5 h5 => ?_
      refine ⟨_, rfl, _, rfl, _, _, rfl, rfl, _, rfl, a, _, rfl, SqT.of (t5 _ _ (t4 _ _ (t3 _ _ (t2 _ _ (t1 _ _ ha0))))), ?_, fun p3 n3 => ?_⟩
      · rintro ⟨h, _⟩
        have e : HT.sIx dd.vs.length 0 (some ((1 + m : Nat) : Int)) = min (1 + m) dd.vs.length := HT.sIx_nat _ _ _
        have h' : HT.sIx dd.vs.length 0 (some ((1 + m : Nat) : Int)) = 0 := by
          have e2 : ((1 + m : Nat) : Int) = 1 + (m : Int) := by omega
          rw [e2]
          exact h
        omega
      have c3 : cutV dd.vs (some (1 + (m : Int))) none = dd.way.map V.int := by
        have e2 : 1 + (m : Int) = ((1 + m : Nat) : Int) := by omega
        rw [e2, cut_drop (by omega)]
        unfold Deed.vs
        rw [show 1 + m = m + 1 by omega, List.drop_succ_cons]
        exact List.drop_left' (by rw [List.length_map, nm])
      rw [c3]
      have t6 := same_upd (o := .tup (dd.way.map V.int)) n3
      refine cat_readV (t6 _ _ h5) upd_same (small _ (by rw [List.length_append, List.length_map, List.length_map, nm]; simp; omega)) fun r3 G7 t7 h7 => ?_
      refine kG r3 G7 ((((((sB.trans t1).trans t2).trans t3).trans t4).trans t5).trans (t6.trans t7)) ?_
      rw [h7]
      unfold onV
      simp
end
end Own
set_option Elab.async false
set_option linter.all false
set_option maxRecDepth 100000
set_option maxHeartbeats 400000
namespace Own
open PySem PySem.Spec PyProof.Rows L2 LamX
/-! ### points, and what is laid (the ways that end in an error) -/
/-- a point (true), or something else -/
def PtIs (CN : Addr) (H : Hp) (v : V) : Bool → Prop
  | true => PointV CN H v
  | false => fok v = true ∨ ∃ t i j, v = .ref t ∧ H t = some (.tup [.int i, .int j])
theorem PtIs.off {CN : Addr} {H : Hp} {v : V} {p : Bool} {b : Addr} {kvs : List (Key × V)} (hb : H b = some (.dK kvs)) (h : PtIs CN H v p) (o : HO) : PtIs CN (L2.upd H b o) v p := by
  have off : ∀ {c : Addr} {u : HO}, H c = some u → (∀ kvs, u ≠ .dK kvs) → (L2.upd H b o) c = some u := fun {c u} e n => by
    rw [upd_ne (ne_of e hb (n _))]
    exact e
  cases p with
  | true =>
    obtain ⟨t, x, y, da, fa, db, fb, rfl, h1, h2, h3⟩ := h
    exact ⟨t, x, y, da, fa, db, fb, rfl, off h1 (fun _ z => by cases z), off h2 (fun _ z => by cases z), off h3 (fun _ z => by cases z)⟩
  | false =>
    rcases h with h | ⟨t, i, j, rfl, h⟩
    · exact .inl h
    · exact .inr ⟨t, i, j, rfl, off h fun _ z => by cases z⟩
theorem PtIs.same {CN : Addr} {H H' : Hp} {v : V} {p : Bool} (h : PtIs CN H v p) (e : Same H H') : PtIs CN H' v p := by
  cases p with
  | true => exact PointV.same h e
  | false =>
    rcases h with h | ⟨t, i, j, rfl, h⟩
    · exact .inl h
    · exact .inr ⟨t, i, j, rfl, e _ _ h⟩
/-- a dict whose values are points or not, as bs says -/
def PtsIn (CN : Addr) (H : Hp) (x : V) (kvs : List (Key × V)) (bs : List Bool) : Prop := ∃ b, x = .ref b ∧ H b = some (.dK kvs) ∧ kvs.length ≤ 1000 ∧ (∀ kv ∈ kvs, vdb (kD kv.1) = true) ∧ F2 (fun (kv : Key × V) p => PtIs CN H kv.2 p) kvs bs
theorem PtsIn.same {CN : Addr} {H H' : Hp} {x : V} {kvs : List (Key × V)} {bs : List Bool} (h : PtsIn CN H x kvs bs) (e : Same H H') : PtsIn CN H' x kvs bs := by
  obtain ⟨b, rfl, h1, h2, h3, h4⟩ := h
  exact ⟨b, rfl, e _ _ h1, h2, h3, h4.mono fun _ _ q => q.same e⟩
def ptsB (kvs : List (Key × V)) (bs : List Bool) : Bool := (kvs.zip bs).all fun q => nameB (kD q.1.1) && q.2
def spIsNum (CN : Addr) : Sp := fun vs H Q _ => ∃ v : V, vs = [v] ∧ ((∃ a d fs, v = .ref a ∧ H a = some (.ins CN d fs) ∧ Q (.bl true) H) ∨ ∃ i, v = .int i ∧ Q (.bl false) H)
def spIsPt (CN : Addr) : Sp := fun vs H Q _ => ∃ (v : V) (p : Bool), vs = [v] ∧ PtIs CN H v p ∧ Q (.bl p) H
def spIsPts (CN : Addr) : Sp := fun vs H Q _ => ∃ x : V, vs = [x] ∧ ((∃ d, Dq [] H x d ∧ isD d = false ∧ Q (.bl false) H) ∨ ∃ kvs bs, PtsIn CN H x kvs bs ∧ ∀ H', Same H H' → Q (.bl (ptsB kvs bs)) H')
def BadPt (CN : Addr) (H : Hp) (x : V) : Prop := (∃ d, Dq [] H x d ∧ isD d = false) ∨ ∃ kvs bs, PtsIn CN H x kvs bs ∧ ptsB kvs bs = false
abbrev tNN : SupX.Txt := ⟨"NoName", "name", "name", "see the value"⟩
def spLaid (NOW : List Str) (CN CD CP CS : Addr) : Sp := fun vs H Q E => ∃ (x y : V) (d : PyData), vs = [x, y] ∧ DeedIn NOW H x d ∧ ((deedB d = false ∧ ∀ H', Same H H' → E (.ref CD) none H') ∨ ∃ dd, d = dd.py ∧ DeedOk dd ∧
  (((∀ H', Same H H' → BadPt CN H' y) ∧ ∀ H', Same H H' → E (.ref CP) none H') ∨ ∃ kvs bs kn z, PtsIn CN H y kvs bs ∧ ptsB kvs bs = true ∧ KeysAre kvs kn ∧ (once dd.names).find? (fun z => !decide (z ∈ kn)) = some z ∧
    ∀ o H', Same H H' → H' o = some (.xd [("name", .str z)]) → E (.ref CS) (some o) H'))
theorem find_step {α : Type} {p : α → Bool} {l : List α} {i : Nat} {x y : α} (no : ∀ y ∈ l.take i, p y = false) (hx : l[i]? = some x) (hp : p x = true) (hf : l.find? p = some y) : x = y := by
  have e : l = l.take i ++ x :: l.drop (i + 1) := by
    obtain ⟨hlt, hg⟩ := List.getElem?_eq_some_iff.mp hx
    rw [← hg, List.getElem_cons_drop, List.take_append_drop]
  rw [e, List.find?_append, List.find?_eq_none.mpr (fun y hy => by rw [no y hy]; exact Bool.false_ne_true), Option.none_or, List.find?_cons_of_pos hp] at hf
  exact Option.some.inj hf
section
variable {NOW : List Str} {P : Program} {w : World} {K : PySem.W.Frag} {mg : Str → Option Value} {base : Heap} {f CD CP CS CT CN fT fN pE fI : Addr} {fd2 dT dN fdN fdP fdD fdM fdS : FuncData}
theorem scIsNum : FnScope ["value"] ["value"] (defScope sIsNum) := ⟨rfl, rfl, rfl, by decide +kernel, rfl, by decide +kernel, by decide +kernel⟩
theorem ok_isnum (F : FnP K "is_number" sIsNum f fd2) (T : Txt K mg) (O : Obj2 K mg CT CN fT fN pE dT dN) : FnOk P w K mg base CX0 1 f fd2 ["value"] (spIsNum CN) := by
  refine F.ok scIsNum (fun vs H Q E h => ?_) (fun cdv A outer s H vs Q E hr h => ?_)
  · obtain ⟨v, rfl, _⟩ := h
    rfl
  · obtain ⟨v, rfl, k⟩ := h
    refine ⟨_, PSs.nox (pss_one (ps_ret (pe_callB (CallR.either (C8.call_isC O.iN) call_isi) (by rfl) T.isi boot_isinstance (pa_cons (pv 0) (pa_cons (pe_glob (v := .ref CN) (by rfl) O.gN rfl) pa_nil))))), ?_⟩
    rcases k with ⟨a, d, fs, rfl, ha, k⟩ | ⟨i, rfl, k⟩
    · exact ⟨_, rfl, .inl ⟨a, d, fs, rfl, ha, k⟩⟩
    · exact ⟨_, rfl, .inr ⟨.int i, .ref CN, .type "int", .ref CN, false, rfl, .own CN, .base (.int i), O.intN, k⟩⟩
theorem scIsPt : FnScope ["value"] ["value"] (defScope sIsPt) := ⟨rfl, rfl, rfl, by decide +kernel, rfl, by decide +kernel, by decide +kernel⟩
theorem ok_ispt (F : FnP K "is_point" sIsPt f fd2) (KM : Fk P w K mg base CX0 1 "is_number" fdM ["value"] (spIsNum CN)) (T : Txt K mg) : FnOk P w K mg base CX0 2 f fd2 ["value"] (spIsPt CN) := by
  refine F.ok scIsPt (fun vs H Q E h => ?_) (fun cdv A outer s H vs Q E hr h => ?_)
  · obtain ⟨v, p, rfl, _⟩ := h
    rfl
  · obtain ⟨v, p, rfl, hp, k⟩ := h
    refine ⟨_, PSs.nox (pss_one (ps_ret (pe_and (pe_callB call_isi (by rfl) T.isi boot_isinstance (pa_cons (pv 0) (pa_cons (pe_bltn (v := .ty "tuple") (by rfl) T.tuple (by decide +kernel) rfl) pa_nil)))
      (pe_and (pe_cmpR op_eq (pe_callB call_len_seq (by rfl) T.len PySem.boot_len (pa_cons (pv 0) pa_nil)) pe_int (nomark _))
      (pe_and (pe_call KM.ok hr (by rfl) KM.g KM.kp KM.b .nil pass0 (pa_cons (pe_ix ix_tup (pv 0) pe_int (fun _ _ => rfl)) pa_nil))
        (pe_one (pe_call KM.ok hr (by rfl) KM.g KM.kp KM.b .nil pass0 (pa_cons (pe_ix ix_tup (pv 0) pe_int (fun _ _ => rfl)) pa_nil)))))))), ?_⟩
    have tupTop : ∀ {t : Addr} {u1 u2 : V} {R : Prop}, H t = some (.tup [u1, u2]) → True := fun _ => trivial
    cases p with
    | true =>
      obtain ⟨t, x, y, da, fa, db, fb, rfl, h1, h2, h3⟩ := hp
      have hs : SqT K H t [.ref x, .ref y] := SqT.of h1
      refine ⟨_, rfl, .ref t, .ty "tuple", .type "tuple", .type "tuple", true, rfl, .ty _, .base (.tup h1), kit_ty (by decide +kernel), true, rfl, ?_⟩
      refine iteT ?_
      refine ⟨_, rfl, t, _, rfl, .inr hs, rfl, true, rfl, ?_⟩
      refine iteT ?_
      refine ⟨_, rfl, t, _, _, _, rfl, rfl, hs, at_nat (k := 0) rfl, _, rfl, .inl ⟨x, da, fa, rfl, h2, true, rfl, ?_⟩⟩
      refine iteT ?_
      exact ⟨_, rfl, t, _, _, _, rfl, rfl, hs, at_nat (k := 1) rfl, _, rfl, .inl ⟨y, db, fb, rfl, h3, k⟩⟩
    | false =>
      rcases hp with hp | ⟨t, i, j, rfl, h1⟩
      · have q : Dq [] H v (fd v) := Dq.flat hp
        have e : isT (fd v) = false := by
          cases v <;> first | rfl | cases hp
        refine ⟨_, rfl, v, .ty "tuple", .type (tyOf (fd v)), .type "tuple", false, rfl, .ty _, q.ty, kit_ty (e ▸ kit_tuple (fd v)), false, rfl, ?_⟩
        exact iteF k
      · have hs : SqT K H t [.int i, .int j] := SqT.of h1
        refine ⟨_, rfl, .ref t, .ty "tuple", .type "tuple", .type "tuple", true, rfl, .ty _, .base (.tup h1), kit_ty (by decide +kernel), true, rfl, ?_⟩
        refine iteT ?_
        refine ⟨_, rfl, t, _, rfl, .inr hs, rfl, true, rfl, ?_⟩
        refine iteT ?_
        refine ⟨_, rfl, t, _, _, _, rfl, rfl, hs, at_nat (k := 0) rfl, _, rfl, .inr ⟨i, rfl, false, rfl, ?_⟩⟩
        exact iteF k
theorem scIsPts : FnScope ["value", "name", "point"] ["value"] (defScope sIsPts) := ⟨rfl, rfl, rfl, by decide +kernel, rfl, by decide +kernel, by decide +kernel⟩
theorem ok_ispts (F : FnP K "is_points" sIsPts f fd2) (KN : Fk P w K mg base CX0 1 "is_name" fdN ["value"] spName) (KP : Fk P w K mg base CX0 2 "is_point" fdP ["value"] (spIsPt CN)) (T : Txt K mg) : FnOk P w K mg base CX0 3 f fd2 ["value"] (spIsPts CN) := by
  refine F.ok scIsPts (fun vs H Q E h => ?_) (fun cdv A outer s H vs Q E hr h => ?_)
  · obtain ⟨x, rfl, _⟩ := h
    rfl
  · obtain ⟨x, rfl, k⟩ := h
    have hr1 := hr.mono (show 1 ≤ 2 by decide)
    refine ⟨_, PSs.nox (pss_cons (ps_if (pt_not (pt_val (pe_callB call_isi (by rfl) T.isi boot_isinstance (pa_cons (pv 0) (pa_cons (pe_bltn (v := .ty "dict") (by rfl) T.dict (by decide +kernel) rfl) pa_nil))))) (pss_one (ps_ret pe_bl)) pss_nil)
      (pss_cons (ps_lock (ps_for PassesOwn.never rfl (pi_items (pv 0)) (pg_tup rfl (pgs_cons (pg_name (i := 1) scIsPts.nd rfl (.inl rfl)) (pgs_cons (pg_name (i := 2) scIsPts.nd rfl (.inl rfl)) pgs_nil)))
        (pss_one (ps_if (PW.pt (pw_or (pt_not (pt_val (pe_call KN.ok hr1 (by rfl) KN.g KN.kp KN.b .nil pass0 (pa_cons (pv 1) pa_nil)))) (pw_or1 (pt_not (pt_val (pe_call KP.ok hr (by rfl) KP.g KP.kp KP.b .nil pass0 (pa_cons (pv 2) pa_nil)))))))
          (pss_one (ps_ret pe_bl)) pss_nil))))
      (pss_one (ps_ret pe_bl)))), ?_⟩
    rcases k with ⟨d', q, e, k⟩ | ⟨kvs, bs, ⟨b, rfl, hb, l1000, kok, f2⟩, k⟩
    · refine ⟨_, rfl, x, .ty "dict", .type (tyOf d'), .type "dict", false, rfl, .ty _, q.ty, kit_ty (e ▸ kit_dict d'), _, rfl, ?_⟩
      exact iteT k
    refine ⟨_, rfl, .ref b, .ty "dict", .type "dict", .type "dict", true, rfl, .ty _, .base (.dK hb), kit_ty (by decide +kernel), _, rfl, ?_⟩
    refine iteF ?_
    refine ⟨b, .dK kvs, hb, trivial, fun od => ?_⟩
    have hbL := upd_same (H := H) (a := b) (o := .frz od (.dK kvs))
    have f2L : F2 (fun (kv : Key × V) p => PtIs CN (L2.upd H b (.frz od (.dK kvs))) kv.2 p) kvs bs := f2.mono fun _ _ q => q.off hb _
    have back : ∀ {G : Hp}, Same (L2.upd H b (.frz od (.dK kvs))) G → Same H (L2.upd G b (.dK kvs)) := fun {G} sG c o e => by
      by_cases hc : c = b
      · subst hc
        rw [upd_same]
        rw [hb] at e
        exact e
      · rw [upd_ne hc]
        refine sG _ _ ?_
        rw [upd_ne hc]
        exact e
    generalize L2.upd H b (.frz od (.dK kvs)) = HL at hbL f2L back
    refine ⟨_, rfl, b, od, kvs, rfl, hbL, ?_⟩
    have len := f2.len
    refine for_it walk_items (fun i σ G => ∃ v2 v3, σ = [some (.ref b), v2, v3] ∧ Same HL G ∧ ptsB (kvs.take i) (bs.take i) = true) ⟨none, none, rfl, Same.refl _, rfl⟩ (fun i σ G _ q => by obtain ⟨_, _, _, sG, _⟩ := q; exact sG _ _ hbL) ?_ ?_
    · rintro i t σ G G' hi ⟨v2, v3, rfl, sG, al⟩ ⟨TT, u, v, rfl, nT, rfl, hu', hv'⟩
      obtain ⟨kv, hkv⟩ : ∃ kv, kvs[i]? = some kv := ⟨_, List.getElem?_eq_getElem hi⟩
      obtain ⟨p, hp, hq⟩ := f2L.at_ hkv
      dsimp only at hu' hv'
      rw [hkv] at hu' hv'
      cases hu'
      cases hv'
      have sT := same_upd (o := .tup [kV kv.1, kv.2]) nT
      refine ⟨TT, _, rfl, SqT.of upd_same, rfl, _, _, rfl, _, _, rfl, rfl, ?_⟩
      have zz : (kvs.zip bs)[i]? = some (kv, p) := by
        rw [List.getElem?_zip_eq_some]
        exact ⟨hkv, hp⟩
      have bad : ∀ {G2 : Hp}, Same HL G2 → (nameB (kD kv.1) && p) = false → G2 b = some (.frz od (.dK kvs)) ∧ Q (.bl false) (L2.upd G2 b (.dK kvs)) := fun {G2} s2 eb => by
        refine ⟨s2 _ _ hbL, ?_⟩
        have q := k _ (back s2)
        have e : ptsB kvs bs = false := by
          unfold ptsB
          rw [← Bool.not_eq_true, List.all_eq_true]
          intro z
          rw [z _ (List.mem_of_getElem? zz)] at eb
          cases eb
        rw [e] at q
        exact q
      refine ⟨_, rfl, kV kv.1, kD kv.1, rfl, Dq.key _, kok _ (List.mem_of_getElem? hkv), fun G1 t1 => ⟨_, rfl, ?_⟩⟩
      have sG1 := (sG.trans sT).trans t1
      cases en : nameB (kD kv.1) with
      | false =>
        refine iteT ?_
        exact bad sG1 (by rw [en]; rfl)
      | true =>
      refine iteF ?_
      refine ⟨_, rfl, kv.2, p, rfl, hq.same sG1, _, rfl, ?_⟩
      cases p with
      | false =>
        refine iteT ?_
        exact bad sG1 (by rw [Bool.and_false])
      | true =>
      refine iteF ?_
      refine ⟨_, _, rfl, sG1, ?_⟩
      unfold ptsB at al ⊢
      rw [take_snoc hkv, take_snoc hp, List.zip_append (by rw [List.length_take, List.length_take, len]), List.all_append, al]
      simp [en]
    · rintro σ G ⟨v2, v3, rfl, sG, al⟩
      refine ⟨sG _ _ hbL, ?_⟩
      rw [List.take_length, len, List.take_length] at al
      have q := k _ (back sG)
      rw [al] at q
      exact q
abbrev nsLaid : List Str := ["deed", "points", "name", "many", "layer", "spots", "last", "found"]
theorem scLaid : FnScope nsLaid ["deed", "points"] (defScope sLaid) := ⟨rfl, rfl, rfl, by decide +kernel, rfl, by decide +kernel, by decide +kernel⟩
theorem ok_laid (F : FnP K "laid" sLaid f fd2) (KD : Fk P w K mg base (L2.CX P w) 3 "need_deed" fdD ["deed"] (spNeedD NOW CD)) (KM : Fk P w K mg base (L2.CX P w) 4 "names_of" fdM ["deed"] (spOfDeed NOW CD rNames)) (KS : Fk P w K mg base CX0 3 "is_points" fdS ["value"] (spIsPts CN))
    (B : ExcT K mg "BadPoints" CP) (S : SupX.Has P K mg tNN CS fI) : FnOk P w K mg base (L2.CX P w) 5 f fd2 ["deed", "points"] (spLaid NOW CN CD CP CS) := by
  refine F.ok scLaid (fun vs H Q E h => ?_) (fun cdv A outer s H vs Q E hr h => ?_)
  · obtain ⟨x, y, d, rfl, _⟩ := h
    rfl
  · obtain ⟨x, y, d, rfl, hx, k⟩ := h
    have hu := hu_of hr
    have hr3 := hr.mono (show 3 ≤ 4 by decide)
    refine ⟨_, pss_cons (ps_expr (pe_call KD.ok hr3 (by rfl) KD.g KD.kp KD.b .nil (passes_call (takes_of rfl rfl rfl rfl) fun _ _ _ _ h => h) (pa_cons (pv 0) pa_nil)))
      (pss_cons (ps_if (pt_not (pt_val (pe_call KS.ok hr3 (by rfl) KS.g KS.kp KS.b .nil pass0 (pa_cons (pv 1) pa_nil)))) (pss_one (ps_raise rfl (takes_of rfl rfl rfl rfl) (pmk_own PySem.F.excBase_ValueError B.x B.g B.k (raises_own B.b B.t) rfl))) pss_nil)
      (pss_cons (ps_for (passes_of rfl) rfl (pi_tup (pe_call KM.ok hr (by rfl) KM.g KM.kp KM.b .nil (passes_call (takes_of rfl rfl rfl rfl) fun _ _ _ _ h => h) (pa_cons (pv 0) pa_nil))) (pg_name (i := 2) scLaid.nd rfl (Or.inl rfl))
        (pss_one (ps_if (pt_cmp (pc_dnotin hu (pv 2) (pv 1))) (pss_one (ps_raise rfl (takes_of rfl rfl rfl rfl) (pmk_sup (t := tNN) (C := CS) S hr (pa_cons (pv 2) pa_nil) (by rfl) (by decide +kernel)))) pss_nil)))
      pss_never)), ?_⟩
    rcases k with ⟨eD, k⟩ | ⟨dd, rfl, ok, k⟩
    · exact ⟨_, rfl, x, d, rfl, hx, .inr ⟨eD, k⟩⟩
    refine ⟨_, rfl, x, _, rfl, hx, .inl ⟨deedB_of ok, fun H1 s1 => ?_⟩⟩
    rcases k with ⟨bad, k⟩ | ⟨kvs, bs, kn, z, pts, eB, ky, fz, k⟩
    · rcases bad H1 s1 with ⟨d', q, e⟩ | ⟨kvs, bs, p, e⟩
      · exact ⟨_, rfl, y, rfl, .inl ⟨d', q, e, _, rfl, iteT (k H1 s1)⟩⟩
      · exact ⟨_, rfl, y, rfl, .inr ⟨kvs, bs, p, fun H2 s2 => ⟨_, rfl, by rw [e]; exact iteT (k H2 (s1.trans s2))⟩⟩⟩
    refine ⟨_, rfl, y, rfl, .inr ⟨kvs, bs, pts.same s1, fun H2 s2 => ⟨_, rfl, ?_⟩⟩⟩
    rw [eB]
    refine iteF ?_
    have s12 := s1.trans s2
    refine ⟨_, rfl, x, _, rfl, hx.same s12, .inl ⟨dd, rfl, ok, fun p H3 s3 _ hp => ⟨p, rfl, ⟨_, SqT.of hp⟩, ?_⟩⟩⟩
    have s13 := s12.trans s3
    obtain ⟨b, rfl, hb, _⟩ := pts
    have hb3 := s13 _ _ hb
    refine for_tup (K := K) (a := p) (xs := (once dd.names).map V.str) (fun i σ G => ∃ v2, σ = [some x, some (.ref b), v2, none, none, none, none, none] ∧ G = H3 ∧ ∀ y ∈ (once dd.names).take i, (!decide (y ∈ kn)) = false) ⟨none, rfl, rfl, fun y hy => by cases hy⟩ (fun i σ G _ ⟨_, _, e, _⟩ => by rw [e]; exact SqT.of hp) ?_ ?_
    · rintro i y σ G hi ⟨v2, rfl, rfl, no⟩
      rw [List.getElem?_map] at hi
      cases ez : (once dd.names)[i]? with
      | none => rw [ez] at hi; cases hi
      | some u =>
        rw [ez] at hi
        cases hi
        refine ⟨_, rfl, _, rfl, b, _, rfl, DGet.k (k := Sum.inr u) hb3, _, rfl, ?_⟩
        rw [ky.look]
        cases eu : !decide (u ∈ kn) with
        | true =>
          refine iteT ?_
          have : u = z := find_step (p := fun z => !decide (z ∈ kn)) no ez eu fz
          subst this
          refine ⟨_, rfl, _, rfl, fun o no => ?_⟩
          exact k o _ (s13.trans (Same.upd no)) upd_same
        | false =>
          refine iteF ?_
          refine ⟨_, rfl, rfl, fun y hy => ?_⟩
          rw [take_snoc ez] at hy
          rcases List.mem_append.mp hy with hy | hy
          · exact no y hy
          · rw [List.mem_singleton.mp hy]
            exact eu
    · rintro σ G ⟨v2, rfl, rfl, no⟩
      rw [List.length_map, List.take_length] at no
      have := (List.find?_eq_none (p := fun z => !decide (z ∈ kn))).mpr (fun y hy => by rw [no y hy]; exact Bool.false_ne_true)
      rw [this] at fz
      cases fz
end
end Own
set_option Elab.async false
set_option linter.all false
set_option maxRecDepth 100000
set_option maxHeartbeats 400000
namespace Own
open PySem PySem.Spec PyProof.Rows L2 LamX
/-! ### the law's forms; shuffled lists -/
def FK : List (Key × V) := FORM.map fun t => (Sum.inr t.1, V.int t.2.1)
def spForms : Sp := fun vs H Q _ => vs = [] ∧ ∀ p H', Same H H' → H p = none → H' p = some (.dK FK) → Q (.ref p) H'
def WAYS : List Str := "disc" :: "rims" :: "corner" :: "compass" :: "circles" :: []
def spHasWay : Sp := fun vs H Q _ => ∃ z : Str, vs = [.str z] ∧ ∀ H', Same H H' → Q (.bl (decide (z ∈ WAYS))) H'
theorem StA.off {H : Hp} {a lw lc : Addr} {t : Nat} (S : StA H a lw lc t) {b : Addr} {o : HO} (e : H b = some o) (n1 : ∀ kvs, o ≠ .dK kvs) (n2 : ∀ xs, o ≠ .lst xs) : b ∉ [a, lw] := by
  obtain ⟨⟨ws, cs, r, u, g1, g2, _⟩, _⟩ := S
  have q1 : b ≠ a := ne_of e g1 (n1 _)
  have q2 : b ≠ lw := ne_of e g2 (n2 _)
  simp [q1, q2]
theorem StA.new {H : Hp} {a lw lc : Addr} {t : Nat} (S : StA H a lw lc t) {b : Addr} (e : H b = none) : b ∉ [a, lw] ∧ b ≠ lc := by
  obtain ⟨⟨ws, cs, r, u, g1, g2, g3, _⟩, _⟩ := S
  have q1 : b ≠ a := (ne_of_none g1 e).symm
  have q2 : b ≠ lw := (ne_of_none g2 e).symm
  have q3 : b ≠ lc := (ne_of_none g3 e).symm
  exact ⟨by simp [q1, q2], q3⟩
theorem StA.back {H G : Hp} {a lw lc : Addr} {t : Nat} (S : StA G a lw lc t) (k : Kp [a, lw] H G) {q : Addr} (n : G q = none) : H q = none := by
  cases e : H q with
  | none => rfl
  | some o =>
    have := k q o e (S.new n).1
    rw [n] at this
    cases this
theorem StA.put {H : Hp} {a lw lc : Addr} {t : Nat} (S : StA H a lw lc t) {b : Addr} (n : b ∉ [a, lw]) (n2 : b ≠ lc) (o : HO) : StA (L2.upd H b o) a lw lc t := by
  obtain ⟨⟨ws, cs, r, u, g1, g2, g3, g⟩, ne⟩ := S
  have q1 : a ≠ b := fun z => n (by simp [z])
  have q2 : lw ≠ b := fun z => n (by simp [z])
  exact ⟨⟨ws, cs, r, u, by rw [upd_ne q1]; exact g1, by rw [upd_ne q2]; exact g2, by rw [upd_ne n2.symm]; exact g3, g⟩, ne⟩
def ctnL (H : Hp) (L : Addr) : List V := match H L with
  | some (.lst xs) => xs
  | _ => []
theorem ctnL_of {H : Hp} {L : Addr} {xs : List V} (h : H L = some (.lst xs)) : ctnL H L = xs := by
  unfold ctnL
  rw [h]
theorem StA.tupK {H H' : Hp} {a lw lc : Addr} {t : Nat} (S : StA H a lw lc t) (k : Kp [a, lw] H H') {b : Addr} {ys : List V} (e : H b = some (.tup ys)) : H' b = some (.tup ys) := k b _ e (S.off e (fun _ z => by cases z) fun _ z => by cases z)
theorem seq_nat {j n : Nat} (h : j < n) : seqIndex? (j : Int) n = some j := by
  unfold seqIndex?
  have h0 : ¬ (j : Int) < 0 := by omega
  simp only [if_neg h0]
  have h1 : (decide (0 ≤ (j : Int)) && decide ((j : Int) < (n : Int))) = true := by
    rw [decide_eq_true (by omega), decide_eq_true (by omega)]
    rfl
  rw [if_pos h1]
  rfl
theorem erase_map {α β : Type} (f : α → β) : ∀ (l : List α) (j : Nat), (l.map f).eraseIdx j = (l.eraseIdx j).map f
  | [], _ => rfl
  | _ :: _, 0 => rfl
  | x :: l, j + 1 => congrArg (f x :: ·) (erase_map f l j)
def spShuf : Sp := fun vs H Q _ => ∃ (a lw lc : Addr) (t : Nat) (l : Addr) (ns : List Str), vs = [.ref a, .ref l] ∧ StA H a lw lc t ∧ t < 2 ^ 39 ∧ H l = some (.lst (ns.map V.str)) ∧ (ns.map V.str).all fok = true ∧ ns.length ≤ 100 ∧
  ∀ (p : Addr) (ms : List Str) (H' : Hp), ms.length = ns.length → (∀ z ∈ ms, z ∈ ns) → StA H' a lw lc (t + ns.length) → Kp [a, lw] H H' → H p = none → H' p = some (.lst (ms.map V.str)) → Q (.ref p) H'
section
variable {P : Program} {w : World} {K : PySem.W.Frag} {mg : Str → Option Value} {base : Heap} {f fP fD fS fT fSh fF fHW : Addr} {fd2 fdP fdD fdS fdT fdSh fdF fdHW : FuncData}
theorem scForms : FnScope [] [] (defScope sForms) := ⟨rfl, rfl, rfl, by decide +kernel, rfl, by decide +kernel, by decide +kernel⟩
theorem ok_forms (F : FnP K "_law_forms" sForms f fd2) : FnOk P w K mg base CX0 1 f fd2 [] spForms := by
  refine F.ok scForms (fun vs H Q E h => ?_) (fun cdv A outer s H vs Q E hr h => ?_)
  · obtain ⟨rfl, _⟩ := h
    rfl
  · obtain ⟨rfl, k⟩ := h
    refine ⟨_, PSs.nox (pss_one (ps_ret (pe_disp (pps_cons pe_str pe_int (pps_cons pe_str pe_int (pps_cons pe_str pe_int (pps_cons pe_str pe_int (pps_cons pe_str pe_int (pps_cons pe_str pe_int (pps_cons pe_str pe_int (pps_cons pe_str pe_int (pps_cons pe_str pe_int (pps_cons pe_str pe_int (pps_cons pe_str pe_int pps_nil))))))))))) (by rfl) (by rfl) (fun z => by cases z) (by decide)))), ?_⟩
    intro d nd
    refine ⟨upd_same, FK, rfl, by decide, ?_⟩
    refine k d _ (fun b o e => ?_) nd ?_
    · rw [upd_ne (ne_of_none e nd), upd_ne (ne_of_none e nd)]
      exact e
    · rw [upd_same]
      kernel_rfl
theorem scHasWay : FnScope ["_law_word"] ["_law_word"] (defScope sHasWay) := ⟨rfl, rfl, rfl, by decide +kernel, rfl, by decide +kernel, by decide +kernel⟩
theorem ok_hasway (F : FnP K "_law_has_way" sHasWay f fd2) : FnOk P w K mg base CX0 1 f fd2 ["_law_word"] spHasWay := by
  refine F.ok scHasWay (fun vs H Q E h => ?_) (fun cdv A outer s H vs Q E hr h => ?_)
  · obtain ⟨z, rfl, _⟩ := h
    rfl
  · obtain ⟨z, rfl, k⟩ := h
    refine ⟨_, PSs.nox (pss_one (ps_ret (pe_cmpR op_in_seq (pv 0) (pe_lst (pa_cons pe_str (pa_cons pe_str (pa_cons pe_str (pa_cons pe_str (pa_cons pe_str pa_nil)))))) (by rfl)))), ?_⟩
    refine ⟨_, rfl, (by show 5 ≤ sizeLine; decide), fun l nl => ?_⟩
    refine ⟨l, WAYS.map V.str, rfl, .inl (SqL.of upd_same), rfl, flat_strs _, ?_⟩
    show Q (.bl (inV (.str z) (WAYS.map V.str))) _
    rw [inV_str]
    exact k _ (same_upd nl)
theorem scShuf : FnScope ["_law_state", "_law_some", "_law_left", "_law_found"] ["_law_state", "_law_some"] (defScope sShuf) := ⟨rfl, rfl, rfl, by decide +kernel, rfl, by decide +kernel, by decide +kernel⟩
theorem ok_shuf (F : FnP K "_law_shuffled" sShuf f fd2) (FD : FnP K "_law_draw" sDraw fD fdD) (FS : FnP K "_law_stirred" sStir fS fdS) (gD : mg "_law_draw" = some (.ref fD)) (gS : mg "_law_stirred" = some (.ref fS)) (T : Txt K mg) :
    FnOk P w K mg base CX0 3 f fd2 ["_law_state", "_law_some"] spShuf := by
  have GD : FnOk P w K mg base CX0 2 fD fdD ["_law_state", "_law_room"] spDraw := ok_draw FD FS gS T
  have bD : Binds K fdD ["_law_state", "_law_room"] [] := FD.bindsN fun _ _ _ _ _ _ us hl => match us, hl with | [_, _], _ => rfl
  refine F.ok scShuf (fun vs H Q E h => ?_) (fun cdv A outer s H vs Q E hr h => ?_)
  · obtain ⟨a, lw, lc, t, l, ns, rfl, _⟩ := h
    rfl
  · obtain ⟨a, lw, lc, t, l, ns, rfl, S, ht, hl, hf, h100, k⟩ := h
    refine ⟨_, PSs.nox (pss_cons (ps_par (i := 2) (j := 3) (by rfl) scShuf.nd rfl rfl (by decide) rfl rfl (pa_cons (pe_callTy call_list_of (by rfl) T.list (by decide +kernel) (pa_cons (pv 1) pa_nil)) (pa_cons (pe_lst pa_nil) pa_nil)) (by rfl))
      (pss_cons (ps_while PassesOwn.never (pt_cmpR (op_neD hr.units) (pv 2) (pe_lst pa_nil) (nomark _))
        (pss_one (ps_expr (pe_bm PySem.F.plainAttrs_list PySem.F.slot_list_append PySem.F.type_list_append mt_append (pv 3) (pa_cons (pe_bm PySem.F.plainAttrs_list PySem.F.slot_list_pop PySem.F.type_list_pop mt_popAt (pv 2)
          (pa_cons (pe_call GD hr (by rfl) gD FD.kp bD .nil pass0 (pa_cons (pv 0) (pa_cons (pe_callB call_len_seq (by rfl) T.len PySem.boot_len (pa_cons (pv 2) pa_nil)) pa_nil))) pa_nil)) pa_nil)))))
      (pss_one (ps_ret (pv 3))))), ?_⟩
    refine ⟨_, rfl, l, _, rfl, .inl (SqL.of hl), fun L nL => ⟨(by show 0 ≤ sizeLine; decide), fun F0 nF => ⟨_, _, rfl, ?_⟩⟩⟩
    have s1 := same_upd (o := .lst (ns.map V.str)) nL
    have s2 := same_upd (o := .lst []) nF
    have SA := S.same (s1.trans s2)
    obtain ⟨oL, oLc⟩ := S.new nL
    obtain ⟨oF, oFc⟩ := S.new (s1.free nF)
    have nLF : L ≠ F0 := ne_of_none upd_same nF
    have hL := s2 _ _ (upd_same (a := L) (o := .lst (ns.map V.str)))
    refine while_by (fun σ G => σ = [some (.ref a), some (.ref l), some (.ref L), some (.ref F0)] ∧ ∃ xs ys : List Str, xs.length + ys.length = ns.length ∧ (∀ z ∈ xs, z ∈ ns) ∧ (∀ z ∈ ys, z ∈ ns) ∧ G L = some (.lst (xs.map V.str)) ∧ G F0 = some (.lst (ys.map V.str)) ∧ StA G a lw lc (t + ys.length) ∧ Kp [a, lw] H G)
      (fun σ G => (ctnL G L).length) ⟨rfl, ns, [], by simp, (fun _ h => h), (fun _ h => by cases h), hL, upd_same, SA, Kp.of (s1.trans s2)⟩ ?_ ?_
    · rintro σ G ⟨rfl, xs, ys, hlen, hx, hy, gL, gF, SG, KG⟩
      have fx : (xs.map V.str).all fok = true := by
        rw [List.all_eq_true] at hf ⊢
        intro v hv
        obtain ⟨z, hz, rfl⟩ := List.mem_map.mp hv
        exact hf _ (List.mem_map.mpr ⟨z, hx z hz, rfl⟩)
      refine ⟨_, rfl, (by show 0 ≤ sizeLine; decide), fun q nq => ?_⟩
      have s3 := same_upd (o := .lst []) nq
      refine ne_nil (SqL.of (s3 _ _ gL)) (SqL.of upd_same) fx ⟨_, rfl, ?_⟩
      have S3 := SG.same s3
      generalize L2.upd G q (.lst []) = G1 at s3 S3
      have gL1 := s3 _ _ gL
      have gF1 := s3 _ _ gF
      cases xs with
      | nil =>
        refine iteF ?_
        have e : ys.length = ns.length := by simpa using hlen
        rw [e] at S3
        have K1 := KG.trans (Kp.of s3 (xs := [a, lw]))
        exact ⟨_, rfl, k F0 ys G1 e hy S3 K1 (s1.free nF) gF1⟩
      | cons x xs =>
        refine iteT ?_
        have len : 0 < (x :: xs).length := by simp
        have yl : ys.length < 100 := by rw [List.length_cons] at hlen; omega
        refine ⟨_, rfl, .inl ⟨rfl, _, .inl (.inl gF1)⟩, _, rfl, .inl ⟨rfl, _, .inl (.inl gL1)⟩, _, rfl, _, rfl, L, _, rfl, .inl (SqL.of gL1), a, lw, lc, _, _, rfl, S3, by omega, ?_, ?_, fun z G2 z0 z1 S4 K4 => ?_⟩
        · rw [List.length_map]
          omega
        · rw [List.length_map, List.length_cons]
          rw [List.length_cons] at hlen
          omega
        have gL2 := K4 _ _ gL1 oL
        have gF2 := K4 _ _ gF1 oF
        obtain ⟨j, rfl⟩ : ∃ j : Nat, z = (j : Int) := ⟨z.toNat, by omega⟩
        rw [List.length_map] at z1
        have hj : j < (x :: xs).length := by omega
        have ej : ((x :: xs).map V.str)[j]? = some (.str ((x :: xs)[j])) := by
          rw [List.getElem?_map, List.getElem?_eq_getElem hj]
          rfl
        refine ⟨L, _, _, j, _, rfl, rfl, gL2, by omega, by rw [List.length_cons] at hj; rw [List.length_cons] at hlen; omega, ?_, ej, ?_⟩
        · rw [List.length_map]
          exact seq_nat hj
        · refine ⟨F0, _, _, rfl, rfl, by rw [upd_ne nLF.symm]; exact gF2, by rw [List.length_map]; exact Nat.lt_of_lt_of_le yl (by decide), ?_⟩
          have gLn : (L2.upd (L2.upd G2 L (.lst (((x :: xs).map V.str).eraseIdx j))) F0 (.lst (ys.map V.str ++ [.str ((x :: xs)[j])]))) L = some (.lst (((x :: xs).eraseIdx j).map V.str)) := by
            rw [upd_ne nLF, upd_same, erase_map]
          refine ⟨⟨rfl, (x :: xs).eraseIdx j, ys ++ [(x :: xs)[j]], ?_, fun z hz => hx z (List.mem_of_mem_eraseIdx hz), fun z hz => ?_, gLn, ?_, ?_, ?_⟩, ?_⟩
          · rw [List.length_eraseIdx_of_lt hj, List.length_append, List.length_singleton]
            rw [List.length_cons] at hlen ⊢
            omega
          · rcases List.mem_append.mp hz with hz | hz
            · exact hy z hz
            · rw [List.mem_singleton.mp hz]
              exact hx _ (List.getElem_mem hj)
          · rw [upd_same, List.map_append]
            rfl
          · rw [List.length_append, List.length_singleton]
            exact (S4.put oL oLc _).put oF oFc _
          · exact fun b o e nb => by
              rw [upd_ne (ne_of_none e (s1.free nF)), upd_ne (ne_of_none e nL)]
              exact ((KG.trans (Kp.of s3)).trans K4) b o e nb
          · show (ctnL _ L).length < (ctnL G L).length
            rw [ctnL_of gLn, ctnL_of gL, List.length_map, List.length_map, List.length_eraseIdx_of_lt hj]
            rw [List.length_cons]
            omega
    · rintro σ G Q1 Q2 hq ⟨v, e1, hle, hh⟩
      exact ⟨v, e1, hle, fun p np => let ⟨d, e, a1, a2, a3, a4, kk, e5, q⟩ := hh p np; ⟨d, e, a1, a2, a3, a4, kk, e5, hq _ _ q⟩⟩
end
end Own
set_option Elab.async false
set_option linter.all false
set_option maxRecDepth 100000
set_option maxHeartbeats 400000
namespace Own
open PySem PySem.Spec PyProof.Rows L2 LamX
/-! ### fresh names -/
def AZ : Str := "abcdefghijklmnopqrstuvwxyz"
def LAB : List Str := "a" :: "b" :: "z" :: "meet" :: "gauge" :: "draw" :: "undo" :: "x" :: "y" :: "ok" :: "r1" :: "a1" :: "zzzzzzzz" :: "q9" :: []
def KK : List Str := (signs AZ).map fun x => strV x ++ "k" ++ strV x
def SV : List Str := (signs AZ).map fun x => strV x ++ "7"
theorem near_ok : (∀ z ∈ LAB ++ (KK ++ SV), NameOk z) ∧ KK.Nodup ∧ KK.length = 26 ∧ SV.length = 26 ∧ ∀ z ∈ KK, z ∉ SHEET := by decide +kernel
theorem signs_ok : ∀ x ∈ signs AZ, ∃ z, x = .str z ∧ z.length = 1 := fun x hx => by
  obtain ⟨c, hc, rfl⟩ := List.mem_map.mp hx
  exact ⟨_, rfl, rfl⟩
theorem nodup_le {α : Type} [DecidableEq α] : ∀ {l m : List α}, l.Nodup → (∀ x ∈ l, x ∈ m) → l.length ≤ m.length
  | [], _, _, _ => Nat.zero_le _
  | x :: l, m, h, s => by
    obtain ⟨h1, h2⟩ := List.nodup_cons.mp h
    have hx := s x List.mem_cons_self
    have := nodup_le (l := l) (m := m.erase x) h2 fun y hy => by
      have ne : y ≠ x := fun z => h1 (z ▸ hy)
      exact (List.mem_erase_of_ne ne).mpr (s y (List.mem_cons_of_mem _ hy))
    rw [List.length_erase_of_mem hx] at this
    have pos := List.length_pos_of_mem hx
    rw [List.length_cons]
    omega
def freshB (kn : List Str) (z : Str) : Bool := !decide (z ∈ kn) && !decide (z ∈ SHEET)
theorem fresh_some {kn : List Str} (h : kn.length ≤ 20) (label : Str) : ∃ z r, ([label] ++ KK ++ SV).filter (freshB kn) = z :: r := by
  cases e : ([label] ++ KK ++ SV).filter (freshB kn) with
  | cons z r => exact ⟨z, r, rfl⟩
  | nil =>
    exfalso
    have no := List.filter_eq_nil_iff.mp e
    have : KK.length ≤ kn.length := nodup_le near_ok.2.1 fun x hx => by
      have q := no x (List.mem_append_left _ (List.mem_append_right _ hx))
      have ns := near_ok.2.2.2.2 x hx
      unfold freshB at q
      rw [decide_eq_false ns] at q
      simpa using q
    rw [near_ok.2.2.1] at this
    omega
def spLName : Sp := fun vs H Q _ => ∃ (a lw lc : Addr) (t : Nat) (b : Addr) (kn : List Str), vs = [.ref a, .ref b] ∧ StA H a lw lc t ∧ t < 2 ^ 39 ∧ H b = some (.lst (kn.map V.str)) ∧ b ∉ [a, lw] ∧ kn.length ≤ 20 ∧
  ∀ z H', NameOk z → z ∈ LAB ++ (KK ++ SV) → z ∉ kn → StA H' a lw lc (t + 1) → Kp [a, lw] H H' → Q (.str z) H'
section
variable {P : Program} {w : World} {K : PySem.W.Frag} {mg : Str → Option Value} {base : Heap} {f fP fD fS fT fSh fF fHW : Addr} {fd2 fdP fdD fdS fdT fdSh fdF fdHW : FuncData}
abbrev nsLName : List Str := ["_law_state", "_law_barred", "_law_some", "_law_label", "_law_near", "_law_mark", "_law_one"]
theorem scLName : FnScope nsLName ["_law_state", "_law_barred"] (defScope sLName) := ⟨rfl, rfl, rfl, by decide +kernel, rfl, by decide +kernel, by decide +kernel⟩
theorem ok_lname (F : FnP K "_law_name" sLName f fd2) (FP : FnP K "_law_pick" sPick fP fdP) (FD : FnP K "_law_draw" sDraw fD fdD) (FS : FnP K "_law_stirred" sStir fS fdS) (gP : mg "_law_pick" = some (.ref fP)) (gD : mg "_law_draw" = some (.ref fD)) (gS : mg "_law_stirred" = some (.ref fS)) (T : Txt K mg) :
    FnOk P w K mg base CX0 4 f fd2 ["_law_state", "_law_barred"] spLName := by
  have GP : FnOk P w K mg base CX0 3 fP fdP ["_law_state", "_law_some"] (spPick K) := ok_pick FP FD FS gD gS T
  have bP : Binds K fdP ["_law_state", "_law_some"] [] := FP.bindsN fun _ _ _ _ _ _ us hl => match us, hl with | [_, _], _ => rfl
  refine F.ok scLName (fun vs H Q E h => ?_) (fun cdv A outer s H vs Q E hr h => ?_)
  · obtain ⟨a, lw, lc, t, b, kn, rfl, _⟩ := h
    rfl
  · obtain ⟨a, lw, lc, t, b, kn, rfl, S, ht, hb, nb, hl, k⟩ := h
    refine ⟨_, PSs.nox (pss_cons (ps_set (i := 2) scLName.nd rfl (.inl rfl) (pe_lst (pa_cons pe_str (pa_cons pe_str (pa_cons pe_str (pa_cons pe_str (pa_cons pe_str (pa_cons pe_str (pa_cons pe_str (pa_cons pe_str (pa_cons pe_str (pa_cons pe_str (pa_cons pe_str (pa_cons pe_str (pa_cons pe_str (pa_cons pe_str pa_nil))))))))))))))))
      (pss_cons (ps_set (i := 3) scLName.nd rfl (.inl rfl) (pe_call GP hr (by rfl) gP FP.kp bP .nil pass0 (pa_cons (pv 0) (pa_cons (pv 2) pa_nil))))
      (pss_cons (ps_set (i := 4) scLName.nd rfl (.inl rfl) (pe_op op_cat (pe_lst (pa_cons (pv 3) pa_nil)) (pe_lc (own := [("_law_mark", 5)]) (g := gName 5) (tt := tYes) (by rfl) scLName.nd (pi_str pe_str) (blkOk_by (own := [("_law_mark", 5)]) (N := nsLName) (sc := defScope sLName) (by decide +kernel))
          (fun _ _ _ _ _ => pg_name (i := 5) scLName.nd rfl (Or.inl rfl)) (fun _ _ _ _ _ => pts_nil) (fun _ _ _ _ _ => pe_op op_add_str (pe_op op_add_str (pv 5) pe_str) (pv 5)))))
      (pss_cons (ps_set (i := 4) scLName.nd rfl (.inl rfl) (pe_op op_cat (pv 4) (pe_lc (own := [("_law_mark", 5)]) (g := gName 5) (tt := tYes) (by rfl) scLName.nd (pi_str pe_str) (blkOk_by (own := [("_law_mark", 5)]) (N := nsLName) (sc := defScope sLName) (by decide +kernel))
          (fun _ _ _ _ _ => pg_name (i := 5) scLName.nd rfl (Or.inl rfl)) (fun _ _ _ _ _ => pts_nil) (fun _ _ _ _ _ => pe_op op_add_str (pv 5) pe_str))))
      (pss_one (ps_ret (pe_ix ix_list (pe_lc (own := [("_law_one", 6)]) (g := gName 6) (by rfl) scLName.nd (pi_list (pv 4)) (blkOk_by (own := [("_law_one", 6)]) (N := nsLName) (sc := defScope sLName) (by decide +kernel))
          (fun _ _ _ _ _ => pg_name (i := 6) scLName.nd rfl (Or.inl rfl)) (fun _ _ _ _ _ => pts_one (PW.pt (pw_and (pt_cmpR (op_notInK (K := K) rfl) (pv 6) (pv 1) (by rfl)) (pw_and1 (pt_cmpR (op_notInK (K := K) rfl) (pv 6) (pe_lst (pa_cons pe_str (pa_cons pe_str (pa_cons pe_str (pa_cons pe_str (pa_cons pe_str pa_nil)))))) (by rfl)))))) (fun _ _ _ _ _ => pv 6)) pe_int (fun _ _ => rfl)))))))), ?_⟩
    refine ⟨(by show 14 ≤ sizeLine; decide), fun L nL => ?_⟩
    have s1 := same_upd (o := .lst (LAB.map V.str)) nL
    have nLw : L ≠ lw := fun z => (S.new nL).1 (by simp [z])
    refine ⟨_, rfl, _, rfl, a, lw, lc, t, L, LAB.map V.str, rfl, S.same s1, by omega, upd_same, nLw, by decide, by decide, fun i x H1 hx S1 K1 => ?_⟩
    obtain ⟨label, hlab, rfl⟩ : ∃ z ∈ LAB, x = .str z := by
      obtain ⟨z, hz, e⟩ := List.mem_map.mp (List.mem_of_getElem? hx)
      exact ⟨z, hz, e.symm⟩
    have KK1 := (Kp.of s1 (xs := [a, lw])).trans K1
    have hb1 := KK1 _ _ hb nb
    have zk : ∀ {x : V}, x ∈ signs AZ → ∃ z, x = .str z ∧ z.length = 1 := fun h => signs_ok _ h
    -- the first list
    refine ⟨_, rfl, (by show 1 ≤ sizeLine; decide), fun l1 n1 => ?_⟩
    have s2 := same_upd (o := .lst [.str label]) n1
    refine ⟨AZ, rfl, fun D nD => ?_⟩
    refine lc_rel (p := fun _ => true) (c := fun x => V.str (strV x ++ "k" ++ strV x)) (rel := fun _ y b => y = b) walk_signs nD (by decide) (fun _ _ => trivial) (fun _ q => q) (fun _ q _ => q) (fun v => rfl) (fun x H' _ _ R kR => kR H' (Same.refl _)) (fun x H' hx _ _ R kR => ?_) fun H2 ys sH eD f => ?_
    · obtain ⟨z, rfl, hz⟩ := zk hx
      refine ⟨_, rfl, _, _, rfl, rfl, by rw [hz]; decide, _, rfl, _, _, rfl, rfl, ?_, kR _ H' (Same.refl _) rfl⟩
      have : (z ++ "k").length = 2 := by rw [Str.length_append, hz]; rfl
      rw [this, hz]
      decide
    rw [List.filter_eq_self.mpr fun _ _ => rfl] at f
    have ey : ys = KK.map V.str := by
      rw [f.map_eq (f := fun x => x), List.map_id']
      unfold KK
      rw [List.map_map]
      rfl
    subst ey
    refine ⟨l1, D, [.str label], _, rfl, rfl, sH _ _ upd_same, eD, (by rw [List.length_map, near_ok.2.2.1]; show 27 ≤ sizeLine; decide), fun l2 n2 => ?_⟩
    have s3 := same_upd (o := .lst ([V.str label] ++ KK.map V.str)) n2
    have up3 := (s2.trans sH).trans s3
    -- the second one
    refine ⟨_, rfl, ⟨AZ, rfl, fun D2 nD2 => ?_⟩⟩
    have h2 := upd_same (H := H2) (a := l2) (o := .lst ([V.str label] ++ KK.map V.str))
    generalize L2.upd H2 l2 (.lst ([V.str label] ++ KK.map V.str)) = H3 at s3 up3 nD2 h2
    refine lc_rel (p := fun _ => true) (c := fun x => V.str (strV x ++ "7")) (rel := fun _ y b => y = b) walk_signs nD2 (by decide) (fun _ _ => trivial) (fun _ q => q) (fun _ q _ => q) (fun v => rfl) (fun x H' _ _ R kR => kR H' (Same.refl _)) (fun x H' hx _ _ R kR => ?_) fun H4 ys s4 eD2 f2 => ?_
    · obtain ⟨z, rfl, hz⟩ := zk hx
      exact ⟨_, rfl, _, _, rfl, rfl, by rw [hz]; decide, kR _ H' (Same.refl _) rfl⟩
    rw [List.filter_eq_self.mpr fun _ _ => rfl] at f2
    have ey : ys = SV.map V.str := by
      rw [f2.map_eq (f := fun x => x), List.map_id']
      unfold SV
      rw [List.map_map]
      rfl
    subst ey
    refine ⟨l2, D2, _, _, rfl, rfl, s4 _ _ h2, eD2, (by rw [List.length_append, List.length_map, List.length_map, near_ok.2.2.1, near_ok.2.2.2.1]; show 53 ≤ sizeLine; decide), fun l3 n3 => ?_⟩
    have en : ([V.str label] ++ KK.map V.str) ++ SV.map V.str = ([label] ++ KK ++ SV).map V.str := by
      rw [List.map_append, List.map_append]
      rfl
    rw [en]
    have s5 := same_upd (o := .lst (([label] ++ KK ++ SV).map V.str)) n3
    have h3 := upd_same (H := H4) (a := l3) (o := .lst (([label] ++ KK ++ SV).map V.str))
    generalize L2.upd H4 l3 (.lst (([label] ++ KK ++ SV).map V.str)) = H5 at s5 h3
    have up5 := (up3.trans s4).trans s5
    have hb5 := up5 _ _ hb1
    refine ⟨_, rfl, l3, rfl, ⟨_, SqL.of h3⟩, fun D3 nD3 => ?_⟩
    have len53 : (([label] ++ KK ++ SV).map V.str).length = 53 := by
      rw [List.length_map, List.length_append, List.length_append, near_ok.2.2.1, near_ok.2.2.2.1]
      rfl
    refine lc_filt (p := fun x => !inV x (kn.map V.str) && !inV x (SHEET.map V.str)) walk_list nD3 (by rw [len53]; decide) (fun H' s => Same.seq s (SqL.of h3)) (by show 6 < 7; decide) (fun x H' hx s6 R kR => ?_) fun H6 s6 hD3 => ?_
    · obtain ⟨z, _, rfl⟩ := List.mem_map.mp hx
      refine ⟨_, rfl, _, rfl, b, _, rfl, .inl (SqL.of (s6 _ _ hb5)), rfl, flat_strs _, _, rfl, ?_⟩
      cases e : inV (V.str z) (kn.map V.str) with
      | true =>
        refine iteF ?_
        have q := kR H' (Same.refl _)
        rw [e] at q
        exact q
      | false =>
        refine iteT ?_
        refine ⟨_, rfl, (by show 5 ≤ sizeLine; decide), fun l nl => ⟨l, SHEET.map V.str, rfl, .inl (SqL.of upd_same), rfl, flat_strs _, _, rfl, ?_⟩⟩
        have q := kR _ (same_upd (o := .lst (SHEET.map V.str)) nl)
        rw [e] at q
        exact q
    obtain ⟨z, r, ez⟩ := fresh_some hl label
    have ef : (([label] ++ KK ++ SV).map V.str).filter (fun x => !inV x (kn.map V.str) && !inV x (SHEET.map V.str)) = (z :: r).map V.str := by
      rw [← ez, List.filter_map]
      refine congrArg (List.map V.str) (List.filter_congr fun y _ => ?_)
      show (!inV (.str y) _ && !inV (.str y) _) = freshB kn y
      rw [inV_str, inV_str]
      rfl
    rw [ef] at hD3
    have mz : z ∈ ([label] ++ KK ++ SV).filter (freshB kn) := by rw [ez]; exact List.mem_cons_self
    obtain ⟨mz1, mz2⟩ := List.mem_filter.mp mz
    have okz : NameOk z := by
      rcases List.mem_append.mp mz1 with m | m
      · rcases List.mem_append.mp m with m | m
        · rw [List.mem_singleton.mp m]
          exact near_ok.1 _ (List.mem_append_left _ hlab)
        · exact near_ok.1 _ (List.mem_append_right _ (List.mem_append_left _ m))
      · exact near_ok.1 _ (List.mem_append_right _ (List.mem_append_right _ m))
    have frz : z ∉ kn := by
      unfold freshB at mz2
      intro q
      rw [decide_eq_true q] at mz2
      cases mz2
    have up6 := up5.trans s6
    refine ⟨D3, _, _, _, rfl, rfl, SqL.of hD3, at_nat (k := 0) rfl, ?_⟩
    have memz : z ∈ LAB ++ (KK ++ SV) := by
      rcases List.mem_append.mp mz1 with m | m
      · rcases List.mem_append.mp m with m | m
        · rw [List.mem_singleton.mp m]
          exact List.mem_append_left _ hlab
        · exact List.mem_append_right _ (List.mem_append_left _ m)
      · exact List.mem_append_right _ (List.mem_append_right _ m)
    exact k z H6 okz memz frz (S1.same up6) (KK1.trans (Kp.of up6))
end
end Own
set_option Elab.async false
set_option linter.all false
set_option maxRecDepth 100000
set_option maxHeartbeats 400000
namespace Own
open PySem PySem.Spec PyProof.Rows L2 LamX
/-! ### drawn deeds -/
theorem ix_listK2 {X : Cx} {K : PySem.W.Frag} (h : X.K = K) : IxR X (rIxL K) := h ▸ ix_list
theorem fk_look : ∀ t ∈ FORM, valV FK (Sum.inr t.1) = some (.int t.2.1) := by decide +kernel
theorem fk_way : ∀ t ∈ FORM, decide (t.1 ∈ WAYS) = (t.2.2 == 1) := by decide +kernel
def spLDeed : Sp := fun vs H Q _ => ∃ (a lw lc : Addr) (t : Nat) (wd : Str) (m kk : Nat) (n : Addr) (kn : List Str), vs = [.ref a, .str wd, .ref n] ∧ StA H a lw lc t ∧ t < 2 ^ 38 ∧ (wd, m, kk) ∈ FORM ∧ H n = some (.lst (kn.map V.str)) ∧ n ∉ [a, lw] ∧ 0 < kn.length ∧ kn.length ≤ 20 ∧ (∀ z ∈ kn, NameOk z) ∧
  ∀ (p : Addr) (d : Deed) (H' : Hp), d.word = wd → DeedOk d → (∀ z ∈ d.names, z ∈ kn) → StA H' a lw lc (t + 40) → Kp [a, lw] H H' → H p = none → H' p = some (.tup d.vs) → Q (.ref p) H'
section
variable {P : Program} {w : World} {K : PySem.W.Frag} {mg : Str → Option Value} {base : Heap} {f fP fD fS fT fSh fF fHW : Addr} {fd2 fdP fdD fdS fdT fdSh fdF fdHW : FuncData}
abbrev nsLDeed : List Str := ["_law_state", "_law_word", "_law_names", "_law_left", "_law_found", "_law_spot"]
theorem scLDeed : FnScope nsLDeed ["_law_state", "_law_word", "_law_names"] (defScope sLDeed) := ⟨rfl, rfl, rfl, by decide +kernel, rfl, by decide +kernel, by decide +kernel⟩
theorem ok_ldeed (F : FnP K "_law_deed" sLDeed f fd2) (FSh : FnP K "_law_shuffled" sShuf fSh fdSh) (FF : FnP K "_law_forms" sForms fF fdF) (FH : FnP K "_law_has_way" sHasWay fHW fdHW) (FP : FnP K "_law_pick" sPick fP fdP) (FD : FnP K "_law_draw" sDraw fD fdD) (FS : FnP K "_law_stirred" sStir fS fdS)
    (gSh : mg "_law_shuffled" = some (.ref fSh)) (gF : mg "_law_forms" = some (.ref fF)) (gH : mg "_law_has_way" = some (.ref fHW)) (gP : mg "_law_pick" = some (.ref fP)) (gD : mg "_law_draw" = some (.ref fD)) (gS : mg "_law_stirred" = some (.ref fS)) (T : Txt K mg) :
    FnOk P w K mg base CX0 4 f fd2 ["_law_state", "_law_word", "_law_names"] spLDeed := by
  have GP : FnOk P w K mg base CX0 3 fP fdP ["_law_state", "_law_some"] (spPick K) := ok_pick FP FD FS gD gS T
  have bP : Binds K fdP ["_law_state", "_law_some"] [] := FP.bindsN fun _ _ _ _ _ _ us hl => match us, hl with | [_, _], _ => rfl
  have GD : FnOk P w K mg base CX0 2 fD fdD ["_law_state", "_law_room"] spDraw := ok_draw FD FS gS T
  have bD : Binds K fdD ["_law_state", "_law_room"] [] := FD.bindsN fun _ _ _ _ _ _ us hl => match us, hl with | [_, _], _ => rfl
  have GSh : FnOk P w K mg base CX0 3 fSh fdSh ["_law_state", "_law_some"] spShuf := ok_shuf FSh FD FS gD gS T
  have bSh : Binds K fdSh ["_law_state", "_law_some"] [] := FSh.bindsN fun _ _ _ _ _ _ us hl => match us, hl with | [_, _], _ => rfl
  have GF : FnOk P w K mg base CX0 1 fF fdF [] spForms := ok_forms FF
  have bF : Binds K fdF [] [] := FF.bindsN fun _ _ _ _ _ _ us hl => match us, hl with | [], _ => rfl
  have GH : FnOk P w K mg base CX0 1 fHW fdHW ["_law_word"] spHasWay := ok_hasway FH
  have bH : Binds K fdHW ["_law_word"] [] := FH.bindsN fun _ _ _ _ _ _ us hl => match us, hl with | [_], _ => rfl
  refine F.ok scLDeed (fun vs H Q E h => ?_) (fun cdv A outer s H vs Q E hr h => ?_)
  · obtain ⟨a, lw, lc, t, wd, m, kk, n, kn, rfl, _⟩ := h
    rfl
  · obtain ⟨a, lw, lc, t, wd, m, kk, n, kn, rfl, S, ht, hm, hn, nn, l0, l20, okN, k⟩ := h
    have hu := hu_of hr
    have hr1 := hr.mono (show 1 ≤ 3 by decide)
    have hr2 := hr.mono (show 2 ≤ 3 by decide)
    refine ⟨_, PSs.nox (pss_cons (ps_set (i := 3) scLDeed.nd rfl (.inr rfl) (pe_call GSh hr (by rfl) gSh FSh.kp bSh .nil pass0 (pa_cons (pv 0) (pa_cons (pv 2) pa_nil))))
      (pss_cons (ps_setLc (i := 4) (own := [("_law_spot", 5)]) (g := gName 5) (tt := tYes) (by rfl) scLDeed.nd rfl rfl (sw_true rfl rfl rfl (by decide +kernel)) (pi_range1 (by rfl) T.range (pa_cons (pe_dget hu (pe_call0 GF hr1 (by rfl) gF FF.kp bF .nil pass0) (pv 1) (fun _ _ => rfl)) pa_nil)) (blkOk_by (own := [("_law_spot", 5)]) (N := nsLDeed) (sc := defScope sLDeed) (by decide +kernel))
          (fun _ _ _ _ _ => pg_name (i := 5) scLDeed.nd rfl (Or.inl rfl)) (fun _ _ _ _ _ => pts_nil)
          (fun _ _ _ _ _ => pe_ifExp (PW.pt (pw_and (pt_cmpR op_lt (pv 5) (pe_callB (call_lenK (K := K) rfl) (by rfl) T.len PySem.boot_len (pa_cons (pv 3) pa_nil)) (nomark _)) (pw_and1 (pt_cmpR op_gt (pe_call GD hr2 (by rfl) gD FD.kp bD .nil pass0 (pa_cons (pv 0) (pa_cons pe_int pa_nil))) pe_int (nomark _)))))
            (pe_ix (ix_listK2 (K := K) rfl) (pv 3) (pv 5) (fun _ _ => rfl)) (pe_call GP hr (by rfl) gP FP.kp bP .nil pass0 (pa_cons (pv 0) (pa_cons (pv 2) pa_nil)))))
      (pss_one (ps_ret (pe_tupleOf (by rfl) T.tuple (pe_op op_cat (pe_op op_cat (pe_lst (pa_cons (pv 1) pa_nil)) (pv 4)) (pe_ifExp (pt_val (pe_call GH hr1 (by rfl) gH FH.kp bH .nil pass0 (pa_cons (pv 1) pa_nil))) (pe_lst (pa_cons (pe_op op_add pe_int (pe_call GD hr2 (by rfl) gD FD.kp bD .nil pass0 (pa_cons (pv 0) (pa_cons pe_int pa_nil)))) pa_nil)) (pe_lst pa_nil)))))))), ?_⟩
    have f5 : m ≤ 5 := (form_facts _ hm).2.2.1
    have f1 : kk ≤ 1 := (form_facts _ hm).2.2.2
    refine ⟨_, rfl, _, rfl, a, lw, lc, t, n, kn, rfl, S, by omega, hn, fok_names okN, by omega, fun L ms H1 lm hms S1 K1 nL hL => ?_⟩
    have nLA := (S.new nL).1
    refine ⟨rfl, fun fo H2 s2 nfo hfo => ?_⟩
    refine ⟨_, rfl, fo, _, rfl, dget_k (.inr wd) hfo (fk_look _ hm), m, rfl, by omega, by omega, fun D nD => ?_⟩
    have S2 := S1.same s2
    obtain ⟨nDA, nDc⟩ := S2.new nD
    have sD := same_upd (o := .lst []) nD
    have hn2 := s2 _ _ (K1 _ _ hn nn)
    have hL2 := s2 _ _ hL
    have nLD : L ≠ D := ne_of_none hL2 nD
    have nnD : n ≠ D := ne_of_none hn2 nD
    refine lc_it (walk_range (lo := 0) (n := m)) (fun i G => ∃ ns : List Str, ns.length = i ∧ (∀ z ∈ ns, z ∈ kn) ∧ G D = some (.lst (ns.map V.str)) ∧ StA G a lw lc (t + kn.length + 2 * i) ∧ Kp [a, lw] H2 G) ⟨[], rfl, (fun _ h => by cases h), upd_same, S2.same sD, Kp.of sD⟩ (fun _ _ _ _ => trivial) ?_ ?_
    · rintro i x G G' hi ⟨ns, ln, hns, gD2, SG, KG⟩ ⟨rfl, rfl⟩
      have put : ∀ (z : Str) (G2 : Hp), z ∈ kn → G2 D = some (.lst (ns.map V.str)) → StA G2 a lw lc (t + kn.length + 2 * (i + 1)) → Kp [a, lw] H2 G2 → ∃ acc, G2 D = some (.lst acc) ∧ acc.length < sizeLine ∧ ∃ ms : List Str, ms.length = i + 1 ∧ (∀ z ∈ ms, z ∈ kn) ∧ (L2.upd G2 D (.lst (acc ++ [.str z]))) D = some (.lst (ms.map V.str)) ∧ StA (L2.upd G2 D (.lst (acc ++ [.str z]))) a lw lc (t + kn.length + 2 * (i + 1)) ∧ Kp [a, lw] H2 (L2.upd G2 D (.lst (acc ++ [.str z]))) := fun z G2 hz e S3 K3 => by
        refine ⟨_, e, by rw [List.length_map, ln]; exact Nat.lt_of_lt_of_le (show i < 5 by omega) (by decide), ns ++ [z], by rw [List.length_append, ln]; rfl, fun y hy => ?_, by rw [upd_same, List.map_append]; rfl, S3.put nDA nDc _, fun b o eb nb => ?_⟩
        · rcases List.mem_append.mp hy with hy | hy
          · exact hns y hy
          · rw [List.mem_singleton.mp hy]
            exact hz
        · rw [upd_ne (ne_of_none eb nD)]
          exact K3 b o eb nb
      have e0 : (0 : Int) + ((i : Nat) : Int) = ((i : Nat) : Int) := by omega
      have gL := KG _ _ hL2 nLA
      have gn := KG _ _ hn2 nn
      have pick : ∀ G2, StA G2 a lw lc (t + kn.length + 2 * i + 1) → Kp [a, lw] H2 G2 → G2 D = some (.lst (ns.map V.str)) → spPick K [.ref a, .ref n] G2 (fun y H4 => ∃ acc, H4 D = some (.lst acc) ∧ acc.length < sizeLine ∧ ∃ ms : List Str, ms.length = i + 1 ∧ (∀ z ∈ ms, z ∈ kn) ∧ (L2.upd H4 D (.lst (acc ++ [y]))) D = some (.lst (ms.map V.str)) ∧ StA (L2.upd H4 D (.lst (acc ++ [y]))) a lw lc (t + kn.length + 2 * (i + 1)) ∧ Kp [a, lw] H2 (L2.upd H4 D (.lst (acc ++ [y])))) E0 := fun G2 S3 K3 e => by
        refine ⟨a, lw, lc, _, n, _, rfl, S3, by omega, K3 _ _ hn2 nn, fun z => nn (by simp [z]), by rw [List.length_map]; exact l0, by rw [List.length_map]; omega, fun j x G3 hx S4 K4 => ?_⟩
        obtain ⟨z, hz, rfl⟩ := List.mem_map.mp (List.mem_of_getElem? hx)
        exact put z G3 hz (K4 _ _ e nDA) (S4.more (by omega)) (K3.trans K4)
      refine ⟨rfl, yes_if ?_⟩
      refine ⟨_, rfl, _, rfl, L, _, rfl, .inl (SqL.of gL), _, _, rfl, rfl, _, rfl, ?_⟩
      rw [e0]
      refine ite2 (fun c => ?_) fun c => ?_
      · have hlt : i < ms.length := by
          have := of_decide_eq_true c
          rw [List.length_map] at this
          omega
        refine ⟨_, rfl, a, lw, lc, _, _, rfl, SG, by omega, by decide, by decide, fun z G1 z0 z1 S3 K3 => ⟨_, _, rfl, rfl, _, rfl, ?_⟩⟩
        have gD3 := K3 _ _ gD2 nDA
        refine ite2 (fun _ => ?_) fun _ => ?_
        · have ej : (ms.map V.str)[i]? = some (.str (ms[i])) := by
            rw [List.getElem?_map, List.getElem?_eq_getElem hlt]
            rfl
          refine ⟨_, rfl, _, rfl, L, _, _, _, rfl, rfl, SqL.of (K3 _ _ gL nLA), by rw [e0]; exact at_nat ej, ?_⟩
          exact put _ G1 (hms _ (List.getElem_mem hlt)) gD3 (S3.more (by omega)) (KG.trans K3)
        · exact ⟨_, rfl, _, rfl, pick G1 S3 (KG.trans K3) gD3⟩
      · exact ⟨_, rfl, _, rfl, pick G' (SG.more (by omega)) KG gD2⟩
    · rintro G ⟨ns, ln, hns, gD2, SG, KG⟩
      have okns : ∀ z ∈ ns, NameOk z := fun z hz => okN z (hns z hz)
      have KA : Kp [a, lw] H G := (K1.trans (Kp.of s2)).trans KG
      have small : ∀ j : Nat, j ≤ 100 → j ≤ sizeLine := fun j h => Nat.le_trans h (by decide)
      refine ⟨_, rfl, (by show 1 ≤ sizeLine; decide), fun l1 n1 => ⟨_, rfl, ?_⟩⟩
      have s3 := same_upd (o := .lst [.str wd]) n1
      refine ⟨l1, D, [.str wd], _, rfl, rfl, upd_same, s3 _ _ gD2, small _ (by rw [List.length_map, ln]; show 1 + m ≤ 100; omega), fun l2 n2 => ?_⟩
      have s4 := same_upd (o := .lst ([V.str wd] ++ ns.map V.str)) n2
      have h2 := upd_same (H := L2.upd G l1 (.lst [.str wd])) (a := l2) (o := .lst ([V.str wd] ++ ns.map V.str))
      have sAB := s3.trans s4
      generalize L2.upd (L2.upd G l1 (.lst [.str wd])) l2 (.lst ([V.str wd] ++ ns.map V.str)) = G2 at s4 h2 sAB
      refine ⟨_, rfl, wd, rfl, fun G3 s5 => ⟨_, rfl, ?_⟩⟩
      rw [fk_way _ hm]
      have S5 := SG.same (sAB.trans s5)
      have K5 := KA.trans (Kp.of (sAB.trans s5) (xs := [a, lw]))
      have h25 := s5 _ _ h2
      by_cases hk : kk = 1
      · subst hk
        refine iteT ?_
        refine ⟨_, rfl, a, lw, lc, _, _, rfl, S5, by omega, by decide, by decide, fun z G4 z0 z1 S6 K6 => ⟨_, _, rfl, rfl, (by show 1 ≤ sizeLine; decide), fun l3 n3 => ?_⟩⟩
        have s6 := same_upd (o := .lst [V.int (1 + z)]) n3
        have o2 : l2 ∉ [a, lw] := ((SG.same s3).new n2).1
        have h26 := s6 _ _ (K6 _ _ h25 o2)
        refine ⟨l2, l3, _, [V.int (1 + z)], rfl, rfl, h26, upd_same, small _ (by rw [List.length_append, List.length_map, ln]; show (1 + m) + 1 ≤ 100; omega), fun l4 n4 => ?_⟩
        have s7 := same_upd (o := .lst ([V.str wd] ++ ns.map V.str ++ [V.int (1 + z)])) n4
        refine .inl ⟨l4, _, rfl, SqL.of upd_same, fun p np => ?_⟩
        have s8 := same_upd (o := .tup ([V.str wd] ++ ns.map V.str ++ [V.int (1 + z)])) np
        have sF := (s6.trans s7).trans s8
        have KF := (K5.trans K6).trans (Kp.of sF (xs := [a, lw]))
        have SF := S6.same sF
        refine k p ⟨wd, ns, [1 + z]⟩ _ rfl ⟨m, 1, hm, ln, okns, rfl, fun y hy => ?_⟩ hns (SF.more (by omega)) KF ?_ ?_
        · rw [List.mem_singleton.mp hy]
          omega
        · exact S6.back ((K5.trans K6)) ((s6.trans s7).free np)
        · rw [upd_same]
          unfold Deed.vs
          simp
      · have e0 : (kk == 1) = false := by simpa using hk
        rw [e0]
        refine iteF ?_
        refine ⟨(by show 0 ≤ sizeLine; decide), fun l3 n3 => ?_⟩
        have s6 := same_upd (o := .lst []) n3
        refine ⟨l2, l3, _, [], rfl, rfl, s6 _ _ h25, upd_same, small _ (by rw [List.length_append, List.length_map, ln]; show (1 + m) + 0 ≤ 100; omega), fun l4 n4 => ?_⟩
        have s7 := same_upd (o := .lst ([V.str wd] ++ ns.map V.str ++ [])) n4
        refine .inl ⟨l4, _, rfl, SqL.of upd_same, fun p np => ?_⟩
        have s8 := same_upd (o := .tup ([V.str wd] ++ ns.map V.str ++ [])) np
        have sF := (s6.trans s7).trans s8
        have k0 : kk = 0 := by omega
        subst k0
        refine k p ⟨wd, ns, []⟩ _ rfl ⟨m, 0, hm, ln, okns, rfl, fun y hy => by cases hy⟩ hns ((S5.same sF).more (by omega)) (K5.trans (Kp.of sF)) (S5.back K5 ((s6.trans s7).free np)) ?_
        rw [upd_same]
        unfold Deed.vs
        simp
end
end Own
set_option Elab.async false
set_option linter.all false
set_option maxRecDepth 100000
set_option maxHeartbeats 400000
namespace Own
open PySem PySem.Spec PyProof.Rows L2 LamX
/-! ### the law's own judge of names; repr of any value; calls where no repr is under way -/
/-- repr of data -/
def rReprA (K : PySem.W.Frag) : List V → Hp → VK → Prop := fun vs H Q => ∃ (x : V) (d : PyData), vs = [x] ∧ Dp K H x d ∧ d.showable = true ∧ d.hasDict = false ∧ d.depth ≤ 64 ∧ d.shown.length ≤ sizeLine ∧ Q (.str d.shown) H
section
variable {X : Cx}
theorem call_reprA (hg : X.A.guards = some []) (hu : X.A.units + 100 < cLine) : CallR X (.builtin "repr") (rReprA X.K) := by
  intro pins s σ H xs us Q I r h
  obtain ⟨x, d, rfl, hd, h1, h2, h3, h4, q⟩ := h
  obtain ⟨u, rfl, ru⟩ := vals1 r
  cases hd with
  | non =>
    cases ru
    exact P.repr_of_none ⟨.str _, H, I.tok _, ⟨_, rfl⟩, q⟩
  | bl b =>
    cases ru
    exact P.repr_of_bool ⟨.str _, H, I.tok _, ⟨_, rfl⟩, q⟩
  | int i =>
    obtain ⟨t, rfl⟩ := ru
    exact P.repr_of_int (of_decide_eq_true h1) ⟨.str _, H, I.tok _, ⟨_, rfl⟩, q⟩
  | str z =>
    obtain ⟨t, rfl⟩ := ru
    exact P.repr_of_str (hsz := h4) ⟨.str _, H, I.tok _, ⟨_, rfl⟩, q⟩
  | lst a b =>
    obtain ⟨as, rd⟩ := Dp.reads I _ _ _ (Dp.lst a b) ru
    cases ru
    exact repr_of_reads' rd h1 (PyData.noDict_hsm h2) hg (by omega) (fun _ _ e => e) (fun h' u tk hk => ⟨.str _, H, I.kept (t' := tk) hk, ⟨u, rfl⟩, q⟩) h4
  | tup a b =>
    obtain ⟨as, rd⟩ := Dp.reads I _ _ _ (Dp.tup a b) ru
    cases ru
    exact repr_of_reads' rd h1 (PyData.noDict_hsm h2) hg (by omega) (fun _ _ e => e) (fun h' u tk hk => ⟨.str _, H, I.kept (t' := tk) hk, ⟨u, rfl⟩, q⟩) h4
end
section
variable {X : Cx} {CX : CXT} {k : Nat} {f : Addr} {fd : FuncData} {ps : List Str} {sp : Sp} {E : XK} {x : Str} {p pos : Pos} {e : Expr} {es : List Expr} {t : TA}
/-- such a callee runs -/
theorem fnG_run {pins : List (Addr × Obj)} {σ : L2.St} {H : Hp} {s : Shared} {Q : VK} {us : List Value} {vs : List V} (F : FnOkG X.prog X.w X.K X.mg X.base CX k f fd ps sp) (gd : X.A.guards = some []) (room : Room k X.A) (hb : Binds X.K fd ps []) (pass : Passes CX X E) (I : Inv X pins σ H s) (r : Vals vs us) (h : sp vs H Q E) :
    wpAny (model X.prog X.w) X.A (call (.ref f) us) (EP X pins σ Q) X.xe s := by
  have hb' := hb s us I.kIn (by rw [List.append_nil, ← r.length]; exact F.len _ _ _ _ h)
  rw [List.append_nil] at hb'
  refine wpAny_call (codeAny_mono (F.run X.A X.stack s H ⟨us, []⟩ us vs Q E gd room I.env0 hb' r h) ?_)
  rintro (err | fl) s' hq
  · exact pass pins σ H s err s' I hq
  · cases fl with
    | ret u => exact I.after hq
    | _ => exact False.elim hq
theorem pe_callG (F : FnOkG X.prog X.w X.K X.mg X.base CX k f fd ps sp) (gd : X.A.guards = some []) (room : Room k X.A) (hg : Gl X x) (hm : X.mg x = some (.ref f)) (hk : PySem.W.keepIn X.K (.ref f) = true) (hb : Binds X.K fd ps []) (pass : Passes CX X E)
    (ha : PA X (e :: es) t) (hdb : (x == ("__debug__" : Str)) = false := by decide) (he : starEach (e :: es) X.env = (false, eval e X.env) :: starEach es X.env := by rfl) (hpl : (backTo pos (starEach es X.env)).any (·.1) = false := by rfl) :
    PE X (.Call (.Name x p) (e :: es) [] pos) (tCall sp [] E t) := by
  constructor
  intro pins s σ H Q I h
  refine wpAny_Call_Name_kw (ld_glob I hg hm (PySem.W.callWith_K (h₀ := X.base) I.ok.mod.kin hk (thn (ha.run pos pins s σ H _ I h) fun us s1 z => ?_) he hpl) hdb)
  obtain ⟨vs, H1, I1, r, q⟩ := z
  rw [List.append_nil] at q
  exact ⟨I1.kIn, fnG_run F gd room hb pass I1 r q⟩
end
section
variable {P : Program} {w : World} {K : PySem.W.Frag} {mg : Str → Option Value} {base : Heap} {f : Addr} {fd2 : FuncData}
theorem scNameDue : FnScope ["_law_value", "_law_letters", "_law_sign"] ["_law_value"] (defScope sNameDue) := ⟨rfl, rfl, rfl, by decide +kernel, rfl, by decide +kernel, by decide +kernel⟩
theorem ok_namedue (F : FnP K "_law_is_name_due" sNameDue f fd2) (T : Txt K mg) : FnOk P w K mg base CX0 1 f fd2 ["_law_value"] spName := by
  refine F.ok scNameDue (fun vs H Q E h => ?_) (fun cdv A outer s H vs Q E hr h => ?_)
  · obtain ⟨x, d, rfl, _⟩ := h
    rfl
  · obtain ⟨x, d, rfl, hx, vd, k⟩ := h
    refine ⟨_, PSs.nox (pss_cons (ps_if (PW.pt (pw_or (pt_not (pt_val (pe_callB call_isi (by rfl) T.isi boot_isinstance (pa_cons (pv 0) (pa_cons (pe_bltn (v := .ty "str") (by rfl) T.str (by decide +kernel) rfl) pa_nil)))))
        (pw_or1 (pt_not (pt_chain op_lt op_lt pe_int (pe_callB call_len_str (by rfl) T.len PySem.boot_len (pa_cons (pv 0) pa_nil)) pe_int))))) (pss_one (ps_ret pe_bl)) pss_nil)
      (pss_cons (ps_set (i := 1) scNameDue.nd rfl (.inr rfl) pe_str)
      (pss_one (ps_ret (pe_and (pe_cmpR op_in_sign (pe_ix ix_str (pv 0) pe_int (fun _ _ => rfl)) (pv 1) (by rfl))
        (pe_one (pe_cmpR (op_eqD hr.units) (pe_lc (own := [("_law_sign", 2)]) (g := gName 2) (by rfl) scNameDue.nd (pi_str (pv 0)) (blkOk_by (own := [("_law_sign", 2)]) (N := ["_law_value", "_law_letters", "_law_sign"]) (sc := defScope sNameDue) (by decide +kernel))
          (fun _ _ _ _ _ => pg_name (i := 2) scNameDue.nd rfl (Or.inl rfl)) (fun _ _ _ _ _ => pts_one (pt_cmpR op_notIn_sign (pv 2) (pe_op op_add_str (pv 1) pe_str) (by rfl))) (fun _ _ _ _ _ => pv 2)) (pe_lst pa_nil) (nomark _)))))))), ?_⟩
    refine ⟨_, rfl, x, .ty "str", .type (tyOf d), .type "str", isS d, rfl, .ty _, hx.ty, kit_ty (kit_str d), _, rfl, ?_⟩
    cases es : isS d with
    | false =>
      refine iteT ?_
      have q := k H (Same.refl _)
      rw [name_none es] at q
      exact q
    | true =>
      refine iteF ?_
      obtain ⟨z, rfl⟩ : ∃ z, d = .str z := by
        cases d <;> first | exact ⟨_, rfl⟩ | cases es
      obtain ⟨zl, zf⟩ := gdb_str (vdb_gdb vd rfl)
      cases hx
      have zs : z.length ≤ sizeLine := Nat.le_trans zl (by decide)
      refine ⟨_, rfl, z, rfl, zs, _, _, rfl, rfl, decide ((0 : Int) < ((z.length : Nat) : Int)), rfl, ?_⟩
      by_cases z2 : z = ""
      · subst z2
        refine iteF ?_
        refine ⟨_, rfl, ?_⟩
        refine iteT ?_
        have q := k H (Same.refl _)
        have e : nameB (.str "") = false := by decide +kernel
        rw [e] at q
        exact q
      obtain ⟨c, r, ec⟩ : ∃ c r, z.cps.toList = c :: r := by
        cases e : z.cps.toList with
        | nil =>
          exfalso
          apply z2
          exact TL.ext_tl e
        | cons c r => exact ⟨c, r, rfl⟩
      have zl1 : 0 < z.length := by
        show 0 < z.cps.size
        rw [← Array.length_toList, ec]
        exact Nat.succ_pos _
      rw [decide_eq_true (by omega : (0 : Int) < ((z.length : Nat) : Int))]
      refine iteT ?_
      refine ⟨_, _, rfl, rfl, _, rfl, ?_⟩
      by_cases z8 : z.length ≤ 8
      · have e8 : decide (((z.length : Nat) : Int) < (9 : Int)) = true := decide_eq_true (by omega)
        rw [e8]
        refine iteF ?_
        have en := name_eq ec z8
        rw [en] at k
        refine ⟨_, rfl, z, _, c, rfl, rfl, zs, ?_, _, rfl, ⟨c, _, rfl, rfl, decide (c ∈ LET), rfl, ?_⟩⟩
        · rw [ec]
          exact atI_nat (j := 0) rfl
        cases hc : decide (c ∈ LET) with
        | false =>
          refine iteF ?_
          have q := k H (Same.refl _)
          rw [hc] at q
          exact q
        | true =>
          refine iteT ?_
          refine ⟨_, rfl, z, rfl, fun D nD => ?_⟩
          have sl : (signs z).length < sizeLine := by
            rw [signs_len]
            exact Nat.lt_of_le_of_lt z8 (by decide)
          refine lc_filt (p := fun x => !ledB x) walk_signs nD sl (fun _ _ => trivial) (by show 2 < 3; decide) (fun x H' hx _ R kR => ?_) fun H' sH eD => ?_
          · obtain ⟨c, hc, rfl⟩ := List.mem_map.mp hx
            refine ⟨_, rfl, _, rfl, _, _, rfl, rfl, by decide, ⟨c, _, rfl, rfl, _, rfl, ?_⟩⟩
            have e1 : ledB (V.str ⟨#[c]⟩) = decide (c ∈ ("abcdefghijklmnopqrstuvwxyz" ++ "0123456789" : Str).cps.toList) := by
              show decide (∀ x ∈ ([c] : List Nat), x ∈ LEDI) = _
              rw [Bool.eq_iff_iff, decide_eq_true_iff, decide_eq_true_iff]
              exact ⟨fun h => h c (by simp), fun h y hy => by rw [List.mem_singleton.mp hy]; exact h⟩
            have q := kR H' (Same.refl _)
            rw [e1] at q
            exact q
          · refine tail_eq eD (all_filter (List.all_eq_true.mpr (fok_signs zf))) fun H'' s2 => ?_
            have q := k H'' (sH.trans s2)
            rw [hc, Bool.true_and, ← filter_any, Bool.not_not] at q
            exact q
      · have e8 : decide (((z.length : Nat) : Int) < (9 : Int)) = false := decide_eq_false (by omega)
        rw [e8]
        refine iteT ?_
        have q := k H (Same.refl _)
        have e : nameB (.str z) = false := decide_eq_false fun h => z8 h.1
        rw [e] at q
        exact q
end
end Own
set_option Elab.async false
set_option linter.all false
set_option maxRecDepth 100000
set_option maxHeartbeats 400000
namespace Own
open PySem PySem.Spec PyProof.Rows L2 LamX
/-! ### the law's own judge of deeds -/
theorem PSsT.nox {X : Cx} {st : List Stmt} {t : TS} (h : PSsT X.nox st t) : PSsT X st t := fun pins s σ H D h0 I hw =>
  wpAny_mono (h pins s σ H D h0 (I.wish _) hw) (fun _ _ q => q.unwish) fun _ _ z => False.elim z
/-- an item whose repr is that of a way only if it is one -/
def lastB (e : PyData) : Bool := e.showable && (decide (e.shown.length ≤ 100) && ((e.shown == "1" || e.shown == "2") == wayB e))
def LastAll (d : PyData) : Prop := ∀ ds, d = .tuple ds → ∀ e ∈ ds, lastB e = true
def spDeedDue : Sp := fun vs H Q _ => ∃ (x : V) (d : PyData), vs = [x] ∧ Dq [] H x d ∧ vdb d = true ∧ LastAll d ∧ ∀ H', Same H H' → Q (.bl (deedB d)) H'
theorem vdb_of {d : PyData} (h : gdb d = true) : vdb d = true := by
  unfold vdb
  rw [h, Bool.or_true]
theorem fk_get {wd : Str} : (∃ q, FORM.lookup wd = some q ∧ valV FK (Sum.inr wd) = some (.int q.1)) ∨ (FORM.lookup wd = none ∧ valV FK (Sum.inr wd) = none) := by
  cases e : FORM.lookup wd with
  | some q => exact .inl ⟨q, rfl, fk_look _ (look_mem e)⟩
  | none =>
    refine .inr ⟨rfl, ?_⟩
    cases e2 : valV FK (Sum.inr wd) with
    | none => rfl
    | some v =>
      exfalso
      have m := valV_in e2
      obtain ⟨t, ht, et⟩ := List.mem_map.mp (show Sum.inr wd ∈ FK.map (·.1) from m)
      obtain ⟨t2, ht2, rfl⟩ := List.mem_map.mp ht
      have : t2.1 = wd := by
        have := et
        injection this
      have q := form_look _ ht2
      rw [this, e] at q
      cases q
theorem way_form {m kk : Nat} {wd : Str} (h : (wd, m, kk) ∈ FORM) : decide (wd ∈ WAYS) = (kk == 1) := fk_way _ h
section
variable {P : Program} {w : World} {K : PySem.W.Frag} {mg : Str → Option Value} {base : Heap} {f : Addr} {fd2 dN dF dH : FuncData}
abbrev nsDeedDue : List Str := ["_law_value", "_law_many", "_law_ways", "_law_name_here"]
theorem scDeedDue : FnScope nsDeedDue ["_law_value"] (defScope sDeedDue) := ⟨rfl, rfl, rfl, by decide +kernel, rfl, by decide +kernel, by decide +kernel⟩
theorem ok_deeddue (F : FnP K "_law_is_deed_due" sDeedDue f fd2) (KN : Fk P w K mg base CX0 1 "_law_is_name_due" dN ["_law_value"] spName) (KF : Fk P w K mg base CX0 1 "_law_forms" dF [] spForms) (KH : Fk P w K mg base CX0 1 "_law_has_way" dH ["_law_word"] spHasWay) (T : Txt K mg) :
    FnOkG P w K mg base CX0 2 f fd2 ["_law_value"] spDeedDue := by
  refine FunD.okG F scDeedDue rfl (fun vs H Q E h => ?_) (fun cdv A outer s H vs Q E hlk hcd hg hr h => ?_)
  · obtain ⟨x, d, rfl, _⟩ := h
    rfl
  · obtain ⟨x, d, rfl, hx, vd, la, k⟩ := h
    have hu := hu_of hr
    have hu1 : (A.deeper (envOfC "_law_is_deed_due" (defScope sDeedDue) s.heap.objs.size f cdv)).units + 100 < cLine := by have := hr.un; omega
    refine ⟨_, PSsT.nox (PSsT.of (pss_cons (ps_if (PW.pt (pw_or (pt_not (pt_val (pe_callB call_isi (by rfl) T.isi boot_isinstance (pa_cons (pv 0) (pa_cons (pe_bltn (v := .ty "tuple") (by rfl) T.tuple (by decide +kernel) rfl) pa_nil)))))
        (pw_or (pt_cmpR (op_eqD hr.units) (pv 0) (pe_tup pa_nil) (nomark _)) (pw_or (pt_not (pt_val (pe_callB call_isi (by rfl) T.isi boot_isinstance (pa_cons (pe_ix ix_tup (pv 0) pe_int (fun _ _ => rfl)) (pa_cons (pe_bltn (v := .ty "str") (by rfl) T.str (by decide +kernel) rfl) pa_nil)))))
        (pw_or1 (pt_cmp (pc_dnotin hu (pe_ix ix_tup (pv 0) pe_int (fun _ _ => rfl)) (pe_call0 KF.ok hr (by rfl) KF.g KF.kp KF.b .nil pass0)))))))) (pss_one (ps_ret pe_bl)) pss_nil)
      (pss_cons (ps_par (i := 1) (j := 2) (by rfl) scDeedDue.nd rfl rfl (by decide) rfl rfl (pa_cons (pe_dget hu (pe_call0 KF.ok hr (by rfl) KF.g KF.kp KF.b .nil pass0) (pe_ix ix_tup (pv 0) pe_int (fun _ _ => rfl)) (fun _ _ => rfl)) (pa_cons (pe_callTy call_int1 (by rfl) T.int boot_int (pa_cons (pe_call KH.ok hr (by rfl) KH.g KH.kp KH.b .nil pass0 (pa_cons (pe_ix ix_tup (pv 0) pe_int (fun _ _ => rfl)) pa_nil)) pa_nil)) pa_nil)) (by rfl))
      (pss_cons (ps_if (PW.pt (pw_or (pt_cmpR op_ne (pe_callB call_len_seq (by rfl) T.len PySem.boot_len (pa_cons (pv 0) pa_nil)) (pe_op op_add (pe_op op_add pe_int (pv 1)) (pv 2)) (nomark _))
        (pw_or1 (pt_cmpR (op_neD hr.units) (pe_lc (own := [("_law_name_here", 3)]) (g := gName 3) (by rfl) scDeedDue.nd (pi_tup (pe_slice sl_tup (pv 0) (po_some pe_int) (po_some (pe_op op_add pe_int (pv 1))))) (blkOk_by (own := [("_law_name_here", 3)]) (N := nsDeedDue) (sc := defScope sDeedDue) (by decide +kernel))
          (fun _ _ _ _ _ => pg_name (i := 3) scDeedDue.nd rfl (Or.inl rfl)) (fun _ _ _ _ _ => pts_one (pt_not (pt_val (pe_call KN.ok hr (by rfl) KN.g KN.kp KN.b .nil pass0 (pa_cons (pv 3) pa_nil))))) (fun _ _ _ _ _ => pv 3)) (pe_lst pa_nil) (nomark _))))) (pss_one (ps_ret pe_bl)) pss_nil)
      (pss_one (ps_ret (pe_or (pe_cmpR op_eq (pv 2) pe_int (nomark _)) (pe_one (pe_cmpR op_in_seq (pe_callB (call_reprA hg hu1) (by rfl) T.repr (by decide +kernel) (pa_cons (pe_ix ix_tup (pv 0) (pe_op op_sub (pe_callB call_len_seq (by rfl) T.len PySem.boot_len (pa_cons (pv 0) pa_nil)) pe_int) (fun _ _ => rfl)) pa_nil)) (pe_lst (pa_cons pe_str (pa_cons pe_str pa_nil))) (by rfl)))))))))), ?_⟩
    have k0 := k H (Same.refl _)
    refine ⟨_, rfl, x, .ty "tuple", .type (tyOf d), .type "tuple", isT d, rfl, .ty _, hx.ty, kit_ty (kit_tuple d), _, rfl, ?_⟩
    cases eT : isT d with
    | false =>
      refine iteT ?_
      rw [deed_none eT] at k0
      exact k0
    | true =>
    refine iteF ?_
    obtain ⟨a, xs, ds, rfl, rfl, ha, hds⟩ : ∃ a xs ds, x = .ref a ∧ d = .tuple ds ∧ H a = some (.tup xs) ∧ DqAll [] H xs ds := by
      cases hx with
      | tup _ h1 h2 => exact ⟨_, _, _, rfl, rfl, h1, h2⟩
      | non => cases eT
      | bl => cases eT
      | int => cases eT
      | str => cases eT
      | lst => cases eT
      | dict => cases eT
    have hs : SqT K H a xs := SqT.of ha
    have gd0 : gdb (.tuple ds) = true := vdb_gdb vd rfl
    obtain ⟨l1000, gds⟩ := gdb_tuple gd0
    have len := hds.f2.len
    refine ⟨_, rfl, (by show 0 ≤ sizeLine; decide), fun e0 ne0 => ?_⟩
    have s0 := same_upd (o := .tup []) ne0
    have shp : SeqAt.shaped (.tuple ds) = true := by
      obtain ⟨a1, a2⟩ := gdb_lay gd0
      have a3 : PyData.depthAll ds + 1 ≤ 50 := a2
      have a4 : PyData.canLayAll0 ds = true := a1
      show (PyData.canLayAll0 ds && decide (PyData.depthAll ds + 1 ≤ 64)) = true
      rw [a4, decide_eq_true (by omega)]
      rfl
    refine ⟨.tuple ds, .tuple [], Dq.dp _ _ (hx.same s0) (gdb_lay gd0).1, .tup (SqT.of upd_same) .nil, shp, rfl, _, rfl, ?_⟩
    have kG := k _ s0
    have hsG := seqT s0 hs
    have hdG := hds.same s0
    generalize L2.upd H e0 (.tup []) = G0 at s0 kG hsG hdG
    cases hds with
    | nil =>
      refine iteT ?_
      exact kG
    | @cons v0 vs0 d0 ds0 h0 h1 =>
    refine iteF ?_
    have at0 : atI (v0 :: vs0) (0 : Int) = some v0 := at_nat (k := 0) rfl
    refine ⟨_, rfl, a, _, _, _, rfl, rfl, hsG, at0, v0, .ty "str", .type (tyOf d0), .type "str", isS d0, rfl, .ty _, (h0.same s0).ty, kit_ty (kit_str d0), _, rfl, ?_⟩
    cases eS : isS d0 with
    | false =>
      refine iteT ?_
      rw [deed_head_none eS] at kG
      exact kG
    | true =>
    refine iteF ?_
    obtain ⟨wd, rfl⟩ : ∃ z, d0 = .str z := by
      cases d0 <;> first | exact ⟨_, rfl⟩ | cases eS
    cases h0
    refine ⟨_, rfl, a, _, _, _, rfl, rfl, hsG, at0, rfl, fun fo H2 s2 nfo hfo => ⟨fo, _, rfl, DGet.k (k := Sum.inr wd) hfo, _, rfl, ?_⟩⟩
    rcases fk_get (wd := wd) with ⟨⟨m, kk⟩, hq, hv⟩ | ⟨hq, hv⟩
    rotate_left
    · rw [hv]
      refine iteT ?_
      have q := k _ (s0.trans s2)
      rw [deedB_no _ _ hq] at q
      exact q
    rw [hv]
    refine iteF ?_
    have hm := look_mem hq
    obtain ⟨f1, _, f3, f4⟩ := form_facts _ hm
    have f3' : m ≤ 5 := f3
    have f4' : kk ≤ 1 := f4
    have eB := deedB_cons wd ds0 hq
    rw [eB] at k
    have hs2 := seqT s2 hsG
    refine ⟨rfl, fun fo2 H3 s3 nfo2 hfo2 => ⟨_, rfl, a, _, _, _, rfl, rfl, seqT s3 hs2, at0, fo2, _, rfl, dget_k (.inr wd) hfo2 hv, _, rfl, a, _, _, _, rfl, rfl, seqT s3 hs2, at0, wd, rfl, fun H4 s4 => .inr ⟨_, rfl, _, _, rfl, ?_⟩⟩⟩
    have ew : (if decide (wd ∈ WAYS) = true then (1 : Int) else 0) = (kk : Int) := by
      rw [way_form hm]
      have : kk = 0 ∨ kk = 1 := by omega
      rcases this with rfl | rfl <;> rfl
    rw [ew]
    have sA4 := ((s0.trans s2).trans s3).trans s4
    have hs4 := seqT sA4 hs
    have h14 := h1.same sA4
    refine ⟨_, rfl, a, _, rfl, .inr hs4, _, rfl, _, _, rfl, rfl, _, rfl, _, _, rfl, rfl, rfl, _, rfl, ?_⟩
    have l2 : vs0.length = ds0.length := by simpa using len
    by_cases hl : ds0.length = m + kk
    rotate_left
    · have e1 : (!decide (V.int (((V.str wd :: vs0).length : Nat) : Int) = V.int (1 + (m : Int) + (kk : Int)))) = true := by
        rw [decide_eq_false (by simp only [V.int.injEq, List.length_cons]; omega)]
        rfl
      rw [e1]
      refine iteT ?_
      have e2 : formB2 (m, kk) ds0 = false := by
        unfold formB2
        rw [decide_eq_false hl]
        rfl
      have q := k _ sA4
      rw [e2] at q
      exact q
    have e1 : (!decide (V.int (((V.str wd :: vs0).length : Nat) : Int) = V.int (1 + (m : Int) + (kk : Int)))) = false := by
      rw [decide_eq_true (by simp only [V.int.injEq, List.length_cons]; omega)]
      rfl
    rw [e1]
    refine iteF ?_
    refine ⟨_, rfl, _, rfl, _, rfl, _, _, rfl, rfl, _, rfl, a, _, rfl, hs4, cut_notwhole (by simp), fun p np => ?_⟩
    have lm : 1 + m ≤ (V.str wd :: vs0).length := by
      rw [List.length_cons, l2, hl]
      omega
    rw [cut_mid1 (m := m) lm, List.drop_succ_cons, List.drop_zero]
    have s5 := same_upd (o := .tup (vs0.take m)) np
    have hz : (vs0.take m).length < sizeLine := by
      rw [List.length_take]
      exact Nat.lt_of_le_of_lt (Nat.le_trans (Nat.min_le_left _ _) f3') (by decide)
    have hp := upd_same (H := H4) (a := p) (o := .tup (vs0.take m))
    generalize L2.upd H4 p (.tup (vs0.take m)) = H5 at s5 hp
    have sA5 := sA4.trans s5
    have gt : ∀ e ∈ ds0.take m, gdb e = true := fun e he => gds e (List.mem_cons_of_mem _ (List.mem_of_mem_take he))
    refine ⟨p, rfl, ⟨_, SqT.of hp⟩, fun D nD => ?_⟩
    refine lc_any (N := []) (ds := ds0.take m) (p := fun e => !nameB e) walk_tup (F2.take m (h14.same s5).f2) nD hz (fun H' s' => SqT.of (s' _ _ hp)) (by show 3 < 4; decide) (fun y e H' he hy _ R kR => ?_) fun H6 ys es1 s6 eD f5 sub em => ?_
    · exact ⟨_, rfl, y, e, rfl, hy, vdb_of (gt e he), fun H2 s3 => ⟨_, rfl, kR H2 s3⟩⟩
    refine tail_neD eD f5 (fun e he => gt e (sub e he)) fun H7 s7 => ⟨_, rfl, ?_⟩
    rw [em, Bool.not_not]
    have sA := (sA5.trans s6).trans s7
    have k2 := k H7 sA
    have e3 : formB2 (m, kk) ds0 = ((ds0.take m).all nameB && (ds0.drop m).all wayB) := by
      unfold formB2
      rw [decide_eq_true hl, Bool.true_and]
    rw [e3] at k
    have eN : (ds0.take m).any (fun e => !nameB e) = !(ds0.take m).all nameB := by
      rw [List.all_eq_not_any_not, Bool.not_not]
    rw [eN]
    cases eA : (ds0.take m).all nameB with
    | false =>
      refine iteT ?_
      have q := k _ sA
      rw [eA] at q
      exact q
    | true =>
    rw [eA] at k
    refine iteF ?_
    refine ⟨_, rfl, rfl, _, rfl, ?_⟩
    by_cases hk : kk = 0
    · subst hk
      have e5 : ds0.drop m = [] := List.drop_eq_nil_of_le (by omega)
      rw [e5] at k
      exact iteT (k _ sA)
    have e4 : decide (V.int (kk : Int) = V.int 0) = false := decide_eq_false (by simp only [V.int.injEq]; omega)
    rw [e4]
    refine iteF ?_
    have k1 : kk = 1 := by omega
    subst k1
    obtain ⟨eW, hW⟩ : ∃ e, ds0.drop m = [e] := by
      have : (ds0.drop m).length = 1 := by
        rw [List.length_drop, hl]
        omega
      match hd : ds0.drop m, this with
      | [e], _ => exact ⟨e, rfl⟩
    have hat0 : ds0[m]? = some eW := by
      have : (ds0.drop m)[0]? = some eW := by rw [hW]; rfl
      rw [List.getElem?_drop] at this
      simpa using this
    obtain ⟨vW, hvW, hqW⟩ := h1.f2.at' hat0
    have mW : eW ∈ ds0 := List.mem_of_getElem? hat0
    have hs7 := seqT sA hs
    have hat : atI (V.str wd :: vs0) ((((V.str wd :: vs0).length : Nat) : Int) - 1) = some vW := by
      have e6 : ((((V.str wd :: vs0).length : Nat) : Int) - 1) = ((m + 1 : Nat) : Int) := by
        rw [List.length_cons, l2, hl]
        omega
      rw [e6]
      exact at_nat hvW
    have lW := la _ rfl eW (List.mem_cons_of_mem _ mW)
    unfold lastB at lW
    rw [Bool.and_eq_true, Bool.and_eq_true, decide_eq_true_iff, beq_iff_eq] at lW
    obtain ⟨w1, w2, w3⟩ := lW
    have gW := gds eW (List.mem_cons_of_mem _ mW)
    obtain ⟨g1, g2⟩ := gdb_lay gW
    rw [hW] at k
    have k3 : ∀ H', Same H H' → Q (.bl (wayB eW)) H' := fun H' s' => by
      have q := k H' s'
      have e8 : (true && [eW].all wayB) = wayB eW := by simp
      rw [e8] at q
      exact q
    refine ⟨_, rfl, _, rfl, a, _, rfl, .inr hs7, _, _, rfl, rfl, a, _, _, _, rfl, rfl, hs7, hat, vW, eW, rfl, Dq.dp _ _ (hqW.same sA) g1, w1, PyData.hasDict_of_canLay _ g1, by omega, Nat.le_trans w2 (by decide), ?_⟩
    refine ⟨(by show 2 ≤ sizeLine; decide), fun l nl => ?_⟩
    refine ⟨l, [V.str "1", V.str "2"], rfl, .inl (SqL.of upd_same), rfl, by decide +kernel, ?_⟩
    have e9 : inV (V.str eW.shown) [V.str "1", V.str "2"] = wayB eW := by
      rw [← w3]
      show inV (V.str eW.shown) (("1" :: "2" :: [] : List Str).map V.str) = _
      rw [inV_str, Bool.eq_iff_iff, decide_eq_true_iff, Bool.or_eq_true, beq_iff_eq, beq_iff_eq]
      simp
    rw [e9]
    exact k3 _ (sA.trans (same_upd nl))
end
end Own
set_option Elab.async false
set_option linter.all false
set_option maxRecDepth 100000
set_option maxHeartbeats 400000
namespace Own
open PySem PySem.Spec PyProof.Rows L2 LamX
/-! ### the law's own judge of drawings -/
def StepLast (e : PyData) : Prop := ∀ a b, e = .tuple [a, b] → LastAll b
def spDrawDue : Sp := fun vs H Q _ => ∃ (x : V) (d : PyData), vs = [x] ∧ Dq [] H x d ∧ wdb d = true ∧ (∀ ds, itemsOf d = some ds → ∀ e ∈ ds, StepLast e) ∧ ∀ H', Same H H' → Q (.bl (drawV SHEET d)) H'
section
variable {P : Program} {w : World} {K : PySem.W.Frag} {mg : Str → Option Value} {base : Heap} {f : Addr} {fd2 dN dD dF : FuncData}
abbrev nsDrawDue : List Str := ["_law_value", "_law_known", "_law_step", "_law_name_here"]
theorem scDrawDue : FnScope nsDrawDue ["_law_value"] (defScope sDrawDue) := ⟨rfl, rfl, rfl, by decide +kernel, rfl, by decide +kernel, by decide +kernel⟩
theorem ok_drawdue (F : FnP K "_law_is_drawing_due" sDrawDue f fd2) (KN : Fk P w K mg base CX0 1 "_law_is_name_due" dN ["_law_value"] spName) (KF : Fk P w K mg base CX0 1 "_law_forms" dF [] spForms)
    (gd : FnOkG P w K mg base CX0 2 (He.ga K "_law_is_deed_due") dD ["_law_value"] spDeedDue) (bd : Binds K dD ["_law_value"] []) (kpd : PySem.W.keepIn K (.ref (He.ga K "_law_is_deed_due")) = true) (gld : mg "_law_is_deed_due" = some (.ref (He.ga K "_law_is_deed_due"))) (T : Txt K mg) :
    FnOkG P w K mg base CX0 3 f fd2 ["_law_value"] spDrawDue := by
  refine FunD.okG F scDrawDue rfl (fun vs H Q E h => ?_) (fun cdv A outer s H vs Q E hlk hcd hg hr h => ?_)
  · obtain ⟨x, d, rfl, _⟩ := h
    rfl
  · obtain ⟨x, d, rfl, hx, wd, la, k⟩ := h
    have hu := hu_of hr
    have hr1 := hr.mono (show 1 ≤ 2 by decide)
    refine ⟨_, PSsT.nox (PSsT.of (pss_cons (ps_if (pt_not (pt_val (pe_callB call_isiT (by rfl) T.isi boot_isinstance (pa_cons (pv 0) (pa_cons (pe_tup (pa_cons (pe_bltn (v := .ty "list") (by rfl) T.list (by decide +kernel) rfl) (pa_cons (pe_bltn (v := .ty "tuple") (by rfl) T.tuple (by decide +kernel) rfl) pa_nil))) pa_nil))))) (pss_one (ps_ret pe_bl)) pss_nil)
      (pss_cons (ps_set (i := 1) scDrawDue.nd rfl (.inr rfl) (pe_lst (pa_cons pe_str (pa_cons pe_str (pa_cons pe_str (pa_cons pe_str (pa_cons pe_str pa_nil)))))))
      (pss_cons (ps_for PassesOwn.never rfl (pi_seqW (pv 0)) (pg_name (i := 2) scDrawDue.nd rfl (Or.inl rfl))
        (pss_cons (ps_if (PW.pt (pw_or (pt_not (pt_val (pe_callB call_isi (by rfl) T.isi boot_isinstance (pa_cons (pv 2) (pa_cons (pe_bltn (v := .ty "tuple") (by rfl) T.tuple (by decide +kernel) rfl) pa_nil)))))
            (pw_or (pt_cmpR op_ne (pe_callB call_len_seq (by rfl) T.len PySem.boot_len (pa_cons (pv 2) pa_nil)) pe_int (nomark _)) (pw_or (pt_not (pt_val (pe_call KN.ok hr1 (by rfl) KN.g KN.kp KN.b .nil pass0 (pa_cons (pe_ix ix_tup (pv 2) pe_int (fun _ _ => rfl)) pa_nil))))
            (pw_or1 (pt_cmpR op_in_seq (pe_ix ix_tup (pv 2) pe_int (fun _ _ => rfl)) (pv 1) (by rfl))))))) (pss_one (ps_ret pe_bl)) pss_nil)
        (pss_cons (ps_if (pt_not (pt_val (pe_callG gd hg hr (by rfl) gld kpd bd pass0 (pa_cons (pe_ix ix_tup (pv 2) pe_int (fun _ _ => rfl)) pa_nil)))) (pss_one (ps_ret pe_bl)) pss_nil)
        (pss_cons (ps_if (pt_cmpR (op_neD hr.units) (pe_lc (own := [("_law_name_here", 3)]) (g := gName 3) (by rfl) scDrawDue.nd (pi_tup (pe_slice sl_tup (pe_ix ix_tup (pv 2) pe_int (fun _ _ => rfl)) (po_some pe_int) (po_some (pe_op op_add pe_int (pe_dget hu (pe_call0 KF.ok hr1 (by rfl) KF.g KF.kp KF.b .nil pass0) (pe_ix ix_tup (pe_ix ix_tup (pv 2) pe_int (fun _ _ => rfl)) pe_int (fun _ _ => rfl)) (fun _ _ => rfl))))))
              (blkOk_by (own := [("_law_name_here", 3)]) (N := nsDrawDue) (sc := defScope sDrawDue) (by decide +kernel))
              (fun _ _ _ _ _ => pg_name (i := 3) scDrawDue.nd rfl (Or.inl rfl)) (fun _ _ _ _ _ => pts_one (pt_cmpR (op_notInK (K := K) rfl) (pv 3) (pv 1) (by rfl))) (fun _ _ _ _ _ => pv 3)) (pe_lst pa_nil) (nomark _)) (pss_one (ps_ret pe_bl)) pss_nil)
        (pss_one (ps_expr (pe_bm PySem.F.plainAttrs_list PySem.F.slot_list_append PySem.F.type_list_append mt_append (pv 1) (pa_cons (pe_ix ix_tup (pv 2) pe_int (fun _ _ => rfl)) pa_nil))))))))
      (pss_one (ps_ret pe_bl)))))), ?_⟩
    refine ⟨_, rfl, (by show 2 ≤ sizeLine; decide), fun tp ntp => ?_⟩
    have s0 := same_upd (o := .tup [.ty "list", .ty "tuple"]) ntp
    refine ⟨x, tp, _, .type (tyOf d), [.type "list", .type "tuple"], (isL d || isT d), rfl, upd_same, .cons (.ty _) (.cons (.ty _) .nil), (hx.same s0).ty, ?_, _, rfl, ?_⟩
    · cases eL : isL d with
      | true => exact kitAny_cons (b := true) (kit_ty (eL ▸ kit_list d)) (fun z => by cases z) (fun _ => rfl)
      | false =>
        cases eT : isT d with
        | true => exact kitAny_cons (b := false) (kit_ty (eL ▸ kit_list d)) (fun _ => kitAny_cons (b := true) (kit_ty (eT ▸ kit_tuple d)) (fun z => by cases z) (fun _ => rfl)) (fun z => by cases z)
        | false => exact kitAny_cons (b := false) (kit_ty (eL ▸ kit_list d)) (fun _ => kitAny_cons (b := false) (kit_ty (eT ▸ kit_tuple d)) (fun _ => kitAny_nil) fun z => by cases z) (fun z => by cases z)
    cases eLT : isL d || isT d with
    | false =>
      refine iteT ?_
      have q := k _ s0
      have e : drawV SHEET d = false := by
        cases d <;> first | rfl | cases eLT
      rw [e] at q
      exact q
    | true =>
    refine iteF ?_
    obtain ⟨a, xs, ds, rfl, hitems, hf2, l1000, vds, walkable⟩ : ∃ a xs ds, x = .ref a ∧ itemsOf d = some ds ∧ F2 (Dq [] H) xs ds ∧ ds.length ≤ 1000 ∧ (∀ e ∈ ds, vdb e = true) ∧ (H a = some (.lst xs) ∨ H a = some (.tup xs)) := by
      cases hx with
      | lst _ ha hds =>
        have h2 : (decide (_ ≤ 1000) && _) = true := wd
        rw [Bool.and_eq_true, decide_eq_true_iff, List.all_eq_true] at h2
        exact ⟨_, _, _, rfl, rfl, hds.f2, h2.1, h2.2, .inl ha⟩
      | tup _ ha hds =>
        have h2 : (decide (_ ≤ 1000) && _) = true := wd
        rw [Bool.and_eq_true, decide_eq_true_iff, List.all_eq_true] at h2
        exact ⟨_, _, _, rfl, rfl, hds.f2, h2.1, h2.2, .inr ha⟩
      | non => cases eLT
      | bl => cases eLT
      | int => cases eLT
      | str => cases eLT
      | dict => cases eLT
    have la := la ds hitems
    have edr : drawV SHEET d = goesB SHEET ds := by
      unfold drawV
      rw [hitems]
    rw [edr] at k
    refine ⟨(by show 5 ≤ sizeLine; decide), fun lk nlk => ?_⟩
    have s2 := same_upd (o := .lst (SHEET.map V.str)) nlk
    generalize hH2 : L2.upd (L2.upd H tp (.tup [.ty "list", .ty "tuple"])) lk (.lst [.str "o", .str "u", .str "uu", .str "v", .str "vv"]) = H2 at *
    have hlk2 : H2 lk = some (.lst (SHEET.map V.str)) := by rw [← hH2, upd_same]; rfl
    have s2' : Same (L2.upd H tp (.tup [.ty "list", .ty "tuple"])) H2 := by
      rw [← hH2]
      exact s2
    have sA := s0.trans s2'
    have hf := hf2.mono fun _ _ q => q.same sA
    have lz : H lk = none := s0.free nlk
    have nad : a ≠ lk := by
      rintro rfl
      rcases walkable with e | e <;> rw [lz] at e <;> cases e
    have hlen := hf2.len
    have fin : ∀ G', Kp [lk] H2 G' → Same H G' := fun G' kg b ob e => kg _ _ (sA _ _ e) (by
      have : b ≠ lk := fun z => by rw [z, lz] at e; cases e
      simp [this])
    have wka : SqL K H2 a xs ∨ SqT K H2 a xs := walkable.imp (fun e => SqL.of (sA _ _ e)) fun e => SqT.of (sA _ _ e)
    refine ⟨_, rfl, a, xs, rfl, wka, fun J GG wk hGG => ?_⟩
    have hG : ∀ G, Kp [lk] H2 G → GG G := fun G kG => hGG G fun o e => kG _ _ e (by simp [nad])
    refine for_it wk (fun i σ G => ∃ v2 kn, σ = [some (.ref a), some (.ref lk), v2, none] ∧ Kp [lk] H2 G ∧ G lk = some (.lst (kn.map V.str)) ∧ kn.length ≤ 5 + i ∧ goesB kn (ds.drop i) = goesB SHEET ds)
      ⟨none, SHEET, rfl, Kp.refl _ _, hlk2, Nat.le_refl _, rfl⟩ (fun i σ G _ q => hG G (by obtain ⟨_, _, _, kG, _⟩ := q; exact kG)) ?_ ?_
    · rintro i y σ G0 G hi ⟨v2, kn, rfl, kG, gl, lkn, eq⟩ ⟨rfl, hy⟩
      obtain ⟨e, he, hq0⟩ := hf2.at_ hy
      have hq := hq0.same (fin _ kG)
      rw [drop_at he] at eq
      have vde := vds e (List.mem_of_getElem? he)
      have lae := la e (List.mem_of_getElem? he)
      have bad : goesB SHEET ds = false → Q (.bl false) G := fun z => by
        have q := k G (fin G kG)
        rw [z] at q
        exact q
      have badAt : stepB kn e = none → goesB SHEET ds = false := fun z => by rw [← eq, goes_bad z]
      refine ⟨_, rfl, y, .ty "tuple", .type (tyOf e), .type "tuple", isT e, rfl, .ty _, hq.ty, kit_ty (kit_tuple e), _, rfl, ?_⟩
      cases eT : isT e with
      | false =>
        refine iteT ?_
        exact bad (badAt (step_notup eT))
      | true =>
      refine iteF ?_
      obtain ⟨b, bs, es, rfl, rfl, hb, hbs⟩ : ∃ b bs es, y = .ref b ∧ e = .tuple es ∧ G b = some (.tup bs) ∧ DqAll [] G bs es := by
        cases hq with
        | tup _ h1 h2 => exact ⟨_, _, _, rfl, rfl, h1, h2⟩
        | non => cases eT
        | bl => cases eT
        | int => cases eT
        | str => cases eT
        | lst => cases eT
        | dict => cases eT
      have sb : SqT K G b bs := SqT.of hb
      have lbs := hbs.f2.len
      refine ⟨_, rfl, b, _, rfl, .inr sb, rfl, _, rfl, ?_⟩
      by_cases l2 : es.length = 2
      rotate_left
      · have e1 : (!decide (V.int ((bs.length : Nat) : Int) = V.int 2)) = true := by
          rw [decide_eq_false (by simp only [V.int.injEq]; omega)]
          rfl
        rw [e1]
        refine iteT ?_
        exact bad (badAt (step_len l2))
      have e1 : (!decide (V.int ((bs.length : Nat) : Int) = V.int 2)) = false := by
        rw [decide_eq_true (by simp only [V.int.injEq]; omega)]
        rfl
      rw [e1]
      refine iteF ?_
      obtain ⟨a1, a2, rfl⟩ : ∃ a1 a2, es = [a1, a2] := by
        match es, l2 with
        | [a1, a2], _ => exact ⟨a1, a2, rfl⟩
      have gde : gdb (.tuple [a1, a2]) = true := vdb_gdb vde rfl
      have g12 := (gdb_tuple gde).2
      have g1 := g12 a1 List.mem_cons_self
      have g2 := g12 a2 (List.mem_cons_of_mem _ List.mem_cons_self)
      have v1 := vdb_of g1
      have v2' := vdb_of g2
      cases hbs with
      | @cons u1 _ _ _ q1 hbs =>
      cases hbs with
      | @cons u2 _ _ _ q2 hbs =>
      cases hbs
      refine ⟨_, rfl, b, _, _, _, rfl, rfl, sb, at_nat (k := 0) rfl, u1, a1, rfl, q1, v1, fun G1 t1 => ⟨_, rfl, ?_⟩⟩
      have sb1 : SqT K G1 b [u1, u2] := seqT t1 sb
      have kG1 := kG.trans (Kp.of t1 (xs := [lk]))
      have bad1 : ∀ {G1 : Hp}, Kp [lk] H2 G1 → goesB SHEET ds = false → Q (.bl false) G1 := fun {G1} kg z => by
        have q := k G1 (fin G1 kg)
        rw [z] at q
        exact q
      cases eN : nameB a1 with
      | false =>
        refine iteT ?_
        exact bad1 kG1 (badAt (step_noname eN))
      | true =>
      refine iteF ?_
      obtain ⟨n, rfl⟩ : ∃ n, a1 = .str n := by
        cases a1 <;> first | exact ⟨_, rfl⟩ | cases eN
      have okn : NameOk n := of_decide_eq_true eN
      cases q1
      have gl1 := t1 _ _ gl
      refine ⟨_, rfl, b, _, _, _, rfl, rfl, sb1, at_nat (k := 0) rfl, _, rfl, lk, _, rfl, .inl (SqL.of gl1), rfl, flat_strs _, _, rfl, ?_⟩
      rw [inV_str]
      by_cases hn : n ∈ kn
      · rw [decide_eq_true hn]
        refine iteT ?_
        exact bad1 kG1 (badAt (step_no fun q => q.2.1 hn))
      rw [decide_eq_false hn]
      refine iteF ?_
      have la2 := lae _ _ rfl
      have q2' := q2.same t1
      refine ⟨_, rfl, b, _, _, _, rfl, rfl, sb1, at_nat (k := 1) rfl, u2, a2, rfl, q2', v2', la2, fun G2 t2 => ⟨_, rfl, ?_⟩⟩
      have kG2 := kG1.trans (Kp.of t2 (xs := [lk]))
      cases eD : deedB a2 with
      | false =>
        refine iteT ?_
        refine bad1 kG2 (badAt (step_no fun q => ?_))
        have q3 := q.2.2.1
        rw [eD] at q3
        cases q3
      | true =>
      refine iteF ?_
      obtain ⟨dd, rfl, okd⟩ := deedB_ok eD
      obtain ⟨a4, rfl, _, ha4⟩ := (q2'.same t2).deed
      have sb2 := seqT t2 sb1
      have s4 : SqT K G2 a4 dd.vs := SqT.of ha4
      obtain ⟨m, kk, hm, nm, okN, nk, okW⟩ := id okd
      refine ⟨_, rfl, b, _, _, _, rfl, rfl, sb2, at_nat (k := 1) rfl, _, rfl, rfl, fun fo G3 t3 nfo hfo => ⟨_, rfl, b, _, _, _, rfl, rfl, seqT t3 sb2, at_nat (k := 1) rfl, a4, _, _, _, rfl, rfl, seqT t3 s4, deed_head dd, fo, _, rfl, dget_k (.inr dd.word) hfo (fk_look _ hm), _, _, rfl, rfl, _, rfl, a4, _, rfl, seqT t3 s4, deed_notwhole, fun p np => ?_⟩⟩
      rw [deed_names nm]
      have t4 := same_upd (o := .tup (dd.names.map V.str)) np
      have hp := upd_same (H := G3) (a := p) (o := .tup (dd.names.map V.str))
      generalize L2.upd G3 p (.tup (dd.names.map V.str)) = G4 at t4 hp
      have gl4 := t4 _ _ (t3 _ _ (t2 _ _ gl1))
      have fo' : ∀ z ∈ dd.names, NameOk z := fun z hz => deed_okN okd z hz
      have lo : (dd.names.map V.str).length < sizeLine := by
        rw [List.length_map]
        exact Nat.lt_of_le_of_lt (form_small okd) (by decide)
      refine ⟨p, rfl, ⟨_, SqT.of hp⟩, fun D nD => ?_⟩
      refine lc_filt (p := fun x => !inV x (kn.map V.str)) walk_tup nD lo (fun H' s' => seqT s' (SqT.of hp)) (by show 3 < 4; decide) (fun x G' hx tG R kR => ?_) fun G5 t5 hD => ?_
      · obtain ⟨z, hz, rfl⟩ := List.mem_map.mp hx
        exact ⟨_, rfl, _, rfl, lk, _, rfl, .inl (SqL.of (tG _ _ gl4)), rfl, flat_strs _, _, rfl, kR G' (Same.refl _)⟩
      refine tail_ne hD (all_filter (fok_names fo')) fun G6 t6 => ⟨_, rfl, ?_⟩
      rw [filter_any]
      have eall : (dd.names.map V.str).any (fun x => !inV x (kn.map V.str)) = !decide (∀ z ∈ dd.names, z ∈ kn) := by
        rw [List.any_map, Bool.eq_iff_iff, List.any_eq_true, Bool.not_eq_true', decide_eq_false_iff_not]
        constructor
        · rintro ⟨z, hz, e⟩ q
          have e' : (!inV (V.str z) (kn.map V.str)) = true := e
          rw [inV_str, decide_eq_true (q z hz)] at e'
          cases e'
        · intro q
          refine Classical.byContradiction fun r => q fun z hz => Classical.byContradiction fun r2 => r ⟨z, hz, ?_⟩
          show (!inV (V.str z) (kn.map V.str)) = true
          rw [inV_str, decide_eq_false r2]
          rfl
      rw [eall]
      have t16 := ((((t1.trans t2).trans t3).trans t4).trans t5).trans t6
      have kG6 := kG.trans (Kp.of t16 (xs := [lk]))
      by_cases ek : ∀ z ∈ dd.names, z ∈ kn
      rotate_left
      · rw [decide_eq_false ek]
        refine iteT ?_
        refine bad1 kG6 (badAt (step_no fun q => ek ?_))
        have := q.2.2.2
        rw [dnames_py okd] at this
        exact this
      rw [decide_eq_true ek]
      refine iteF ?_
      have gl6 := t16 _ _ gl
      have idl : i < ds.length := (List.getElem?_eq_some_iff.mp he).1
      refine ⟨_, rfl, .inl ⟨rfl, _, .inl (.inl gl6)⟩, _, rfl, b, _, _, _, rfl, rfl, seqT t16 sb, at_nat (k := 0) rfl, lk, _, _, rfl, rfl, gl6, by rw [List.length_map]; exact Nat.lt_of_le_of_lt (show kn.length ≤ 2000 by omega) (by decide), ?_⟩
      refine ⟨_, kn ++ [n], rfl, kG6.trans (Kp.upd (by simp)), by rw [upd_same, List.map_append]; rfl, ?_, ?_⟩
      · rw [List.length_append, List.length_singleton]
        omega
      · rw [← eq]
        exact (goes_good ⟨okn, hn, eD, by rw [dnames_py okd]; exact ek⟩).symm
    · rintro σ G ⟨v2, kn, rfl, kG, gl, lkn, eq⟩
      rw [hlen, List.drop_length] at eq
      have q := k G (fin G kG)
      rw [← eq] at q
      exact q
end
end Own
set_option Elab.async false
set_option linter.all false
set_option maxRecDepth 100000
set_option maxHeartbeats 400000
namespace Own
open PySem PySem.Spec PyProof.Rows L2 LamX
/-! ### deeds with one item otherwise -/
def ODD : List PyData := .none :: .int 3 :: .int 0 :: .bool true :: .str "" :: .str "A" :: .str "a-b" :: .str "abcdefghi" :: .str "1a" :: .list [.str "a"] :: .str "abcdefgh" :: .int 1 :: .int 2 :: .str "meet" :: .str "z9" :: []
/-- all names that are drawn -/
def NMS : List Str := SHEET ++ (("a" :: "b" :: "v9" :: [] : List Str) ++ (LAB ++ (KK ++ SV)))
/-- words that may stand ahead of what is no deed -/
def NOW : List Str := ((ODD.map strD).filter fun z => !decide (z = ("meet" : Str))) ++ NMS.filter fun z => (FORM.lookup z).isNone
def headB : PyData → Bool
  | .str z => (FORM.lookup z).isSome || decide (z ∈ NOW)
  | _ => true
def itemB (e : PyData) : Bool := gdb e && (decide (e.depth ≤ 10) && (lastB e && headB e))
theorem odd_ok : ∀ e ∈ ODD, itemB e = true := by decide +kernel
theorem form_item : ∀ t ∈ FORM, itemB (.str t.1) = true := by decide +kernel
theorem nms_item : ∀ z ∈ NMS, itemB (.str z) = true ∧ NameOk z := by decide +kernel
theorem way_item : itemB (.int 1) = true ∧ itemB (.int 2) = true := by decide +kernel
theorem now_no : ∀ z ∈ NOW, FORM.lookup z = none := by decide +kernel
theorem deed_items {d : Deed} (h : DeedOk d) (hn : ∀ z ∈ d.names, z ∈ NMS) : ∀ e ∈ d.pys, itemB e = true := by
  obtain ⟨m, k, hm, nm, okN, nk, okW⟩ := h
  intro e he
  unfold Deed.pys at he
  rcases List.mem_cons.mp he with rfl | he
  · exact form_item _ hm
  rcases List.mem_append.mp he with he | he
  · obtain ⟨z, hz, rfl⟩ := List.mem_map.mp he
    exact (nms_item z (hn z hz)).1
  · obtain ⟨z, hz, rfl⟩ := List.mem_map.mp he
    have := okW z hz
    have e : z = 1 ∨ z = 2 := by omega
    rcases e with rfl | rfl
    · exact way_item.1
    · exact way_item.2
theorem itemB_iff {e : PyData} (h : itemB e = true) : gdb e = true ∧ e.depth ≤ 10 ∧ lastB e = true ∧ headB e = true := by
  unfold itemB at h
  rw [Bool.and_eq_true, Bool.and_eq_true, Bool.and_eq_true, decide_eq_true_iff] at h
  exact h
theorem smls_all : ∀ {ds : List PyData}, (∀ d ∈ ds, sml d = true) → smls ds = true
  | [], _ => rfl
  | e :: ds, h => by
    show (sml e && smls ds) = true
    rw [h e List.mem_cons_self, smls_all fun d hd => h d (List.mem_cons_of_mem _ hd)]
    rfl
theorem gdb_sml {d : PyData} (h : gdb d = true) : sml d = true := by
  unfold gdb at h
  rw [Bool.and_eq_true, Bool.and_eq_true] at h
  exact h.2.2
theorem gdb_of_items {ds : List PyData} (l : ds.length ≤ 1000) (n : Nat) (hn : n ≤ 49) (h : ∀ e ∈ ds, gdb e = true ∧ e.depth ≤ n) : gdb (.tuple ds) = true ∧ gdb (.list ds) = true ∧ (PyData.tuple ds).depth ≤ n + 1 ∧ (PyData.list ds).depth ≤ n + 1 := by
  have a := lay_all fun e he => (gdb_lay (h e he).1).1
  have b := depth_all fun e he => (h e he).2
  have c := smls_all fun e he => gdb_sml (h e he).1
  have q : (PyData.canLayAll0 ds && (decide (PyData.depthAll ds + 1 ≤ 50) && (decide (ds.length ≤ 1000) && smls ds))) = true := by
    rw [a, c, decide_eq_true l, decide_eq_true (by omega : PyData.depthAll ds + 1 ≤ 50)]
    rfl
  exact ⟨q, q, (by show PyData.depthAll ds + 1 ≤ n + 1; omega), (by show PyData.depthAll ds + 1 ≤ n + 1; omega)⟩
/-- what a bent deed is -/
structure BentD (d : PyData) : Prop where
  g : gdb d = true
  dp : d.depth ≤ 11
  r : Ready NOW d
  l : LastAll d
theorem BentD.tuple {ds : List PyData} (l : ds.length ≤ 1000) (h : ∀ e ∈ ds, itemB e = true) : BentD (.tuple ds) := by
  obtain ⟨g1, g2, g3, g4⟩ := gdb_of_items l 10 (by decide) fun e he => ⟨(itemB_iff (h e he)).1, (itemB_iff (h e he)).2.1⟩
  refine ⟨g1, g3, fun w r e => ?_, fun ds' e x hx => ?_⟩
  · injection e with e
    have hh := (itemB_iff (h (.str w) (by rw [e]; exact List.mem_cons_self))).2.2.2
    have hh' : ((FORM.lookup w).isSome || decide (w ∈ NOW)) = true := hh
    rw [Bool.or_eq_true, decide_eq_true_iff] at hh'
    rcases hh' with q | q
    · cases eq : FORM.lookup w with
      | none => rw [eq] at q; cases q
      | some v => exact .inl ⟨v, rfl⟩
    · exact .inr q
  · injection e with e
    subst e
    exact (itemB_iff (h x hx)).2.2.1
theorem BentD.list {ds : List PyData} (l : ds.length ≤ 1000) (h : ∀ e ∈ ds, itemB e = true) : BentD (.list ds) := by
  obtain ⟨g1, g2, g3, g4⟩ := gdb_of_items l 10 (by decide) fun e he => ⟨(itemB_iff (h e he)).1, (itemB_iff (h e he)).2.1⟩
  exact ⟨g2, g4, (fun w r e => by cases e), (fun ds' e => by cases e)⟩
theorem BentD.deed {d : Deed} (h : DeedOk d) (hn : ∀ z ∈ d.names, z ∈ NMS) : BentD d.py := by
  refine BentD.tuple ?_ (deed_items h hn)
  have h1 := form_small h
  have h2 := way_small h
  unfold Deed.pys
  rw [List.length_cons, List.length_append, List.length_map, List.length_map]
  omega
def spBent : Sp := fun vs H Q _ => ∃ (a lw lc : Addr) (t : Nat) (p : Addr) (d : Deed), vs = [.ref a, .ref p] ∧ StA H a lw lc t ∧ t < 2 ^ 39 ∧ H p = some (.tup d.vs) ∧ DeedOk d ∧ (∀ z ∈ d.names, z ∈ NMS) ∧
  ∀ x e H', Dq [a, lw] H' x e → BentD e → StA H' a lw lc (t + 3) → Kp [a, lw] H H' → Q x H'
/-! #### slices, put together -/
theorem tNoPart_in {σ : L2.St} {H : Hp} {Q : Option Int → Hp → Prop} (h : Q none H) : tNoPart σ H Q := h
theorem slA_read {K : PySem.W.Frag} {H : Hp} {Q : VK} {a : Addr} {xs : List V} {lo hi : Option Int} (ha : H a = some (.tup xs)) (k : ∀ r H', Same H H' → H' r = some (.tup (cutV xs lo hi)) → Q (.ref r) H') : rSlA K (.ref a) lo hi H Q := by
  refine ⟨a, xs, rfl, SqT.of ha, fun e => k a H (Same.refl _) ?_, fun _ p np => k p _ (same_upd np) upd_same⟩
  rw [ha]
  have : cutV xs lo hi = (xs.drop (HT.sIx xs.length 0 lo)).take (HT.sIx xs.length xs.length hi - HT.sIx xs.length 0 lo) := rfl
  rw [this, e.1, e.2, List.drop_zero, Nat.sub_zero, List.take_length]
theorem Dq.tup_of {N : List Addr} {H : Hp} {r : Addr} {xs : List V} {ds : List PyData} (n : r ∉ N) (h : H r = some (.tup xs)) (f : F2 (Dq N H) xs ds) : Dq N H (.ref r) (.tuple ds) := .tup n h (DqAll.of f)
theorem Deed.f2 {N : List Addr} {H : Hp} (d : Deed) : F2 (Dq N H) d.vs d.pys := DqAll.f2 (.cons (.str _) (dq_str_of _ (dq_int_of _)))
theorem deed_max {d : Deed} (h : DeedOk d) : 1 ≤ d.vs.length ∧ d.vs.length ≤ 7 := by
  rw [deed_len]
  have h1 := form_small h
  have h2 := way_small h
  omega
section
variable {P : Program} {w : World} {K : PySem.W.Frag} {mg : Str → Option Value} {base : Heap} {f : Addr} {fd2 dD dP : FuncData}
abbrev nsBent : List Str := ["_law_state", "_law_deed_here", "_law_at", "_law_odd", "_law_way"]
theorem scBent : FnScope nsBent ["_law_state", "_law_deed_here"] (defScope sBent) := ⟨rfl, rfl, rfl, by decide +kernel, rfl, by decide +kernel, by decide +kernel⟩
theorem ok_bent (F : FnP K "_law_bent" sBent f fd2) (KD : Fk P w K mg base CX0 2 "_law_draw" dD ["_law_state", "_law_room"] spDraw) (KP : Fk P w K mg base CX0 3 "_law_pick" dP ["_law_state", "_law_some"] (spPick K)) (T : Txt K mg) :
    FnOk P w K mg base CX0 4 f fd2 ["_law_state", "_law_deed_here"] spBent := by
  refine F.ok scBent (fun vs H Q E h => ?_) (fun cdv A outer s H vs Q E hr h => ?_)
  · obtain ⟨a, lw, lc, t, p, d, rfl, _⟩ := h
    rfl
  · obtain ⟨a, lw, lc, t, p, d, rfl, S, ht, hp, ok, hnm, k⟩ := h
    have hr2 := hr.mono (show 2 ≤ 3 by decide)
    refine ⟨_, PSs.nox (pss_cons (ps_set (i := 2) scBent.nd rfl (.inl rfl) (pe_call KD.ok hr2 (by rfl) KD.g KD.kp KD.b .nil pass0 (pa_cons (pv 0) (pa_cons (pe_callB call_len_seq (by rfl) T.len PySem.boot_len (pa_cons (pv 1) pa_nil)) pa_nil))))
      (pss_cons (ps_set (i := 3) scBent.nd rfl (.inl rfl) (pe_call KP.ok hr (by rfl) KP.g KP.kp KP.b .nil pass0 (pa_cons (pv 0) (pa_cons (pe_lst (pa_cons pe_non (pa_cons pe_int (pa_cons pe_int (pa_cons pe_bl (pa_cons pe_str (pa_cons pe_str (pa_cons pe_str (pa_cons pe_str (pa_cons pe_str (pa_cons (pe_lst (pa_cons pe_str pa_nil)) (pa_cons pe_str (pa_cons pe_int (pa_cons pe_int (pa_cons pe_str (pa_cons pe_str pa_nil)))))))))))))))) pa_nil))))
      (pss_cons (ps_set (i := 4) scBent.nd rfl (.inl rfl) (pe_call KD.ok hr2 (by rfl) KD.g KD.kp KD.b .nil pass0 (pa_cons (pv 0) (pa_cons pe_int pa_nil))))
      (pss_cons (ps_if (pt_cmpR op_eq (pv 4) pe_int (nomark _)) (pss_one (ps_ret (pe_op op_catA (pe_slice sl_tupA (pv 1) po_none (po_some (pv 2))) (pe_slice sl_tupA (pv 1) (po_some (pe_op op_add (pv 2) pe_int)) po_none)))) pss_nil)
      (pss_cons (ps_if (pt_cmpR op_eq (pv 4) pe_int (nomark _)) (pss_one (ps_ret (pe_op op_catA (pe_op op_catA (pe_slice sl_tupA (pv 1) po_none (po_some (pv 2))) (pe_tup (pa_cons (pv 3) pa_nil))) (pe_slice sl_tupA (pv 1) (po_some (pv 2)) po_none)))) pss_nil)
      (pss_one (ps_ret (pe_ifExp (pt_cmpR op_eq (pv 4) pe_int (nomark _)) (pe_op op_catA (pe_op op_catA (pe_slice sl_tupA (pv 1) po_none (po_some (pv 2))) (pe_tup (pa_cons (pv 3) pa_nil))) (pe_slice sl_tupA (pv 1) (po_some (pe_op op_add (pv 2) pe_int)) po_none))
        (pe_callTy call_list_of (by rfl) T.list (by decide +kernel) (pa_cons (pv 1) pa_nil)))))))))), ?_⟩
    obtain ⟨m1, m7⟩ := deed_max ok
    refine ⟨_, rfl, _, rfl, p, _, rfl, .inr (SqT.of hp), a, lw, lc, t, _, rfl, S, by omega, by omega, by omega, fun z H1 z0 z1 S1 K1 => ?_⟩
    obtain ⟨j, rfl⟩ : ∃ j : Nat, z = (j : Int) := ⟨z.toNat, by omega⟩
    have hj : j < d.vs.length := by omega
    have hp1 := S.tupK K1 hp
    refine ⟨_, rfl, (by show 1 ≤ sizeLine; decide), fun l1 n1 => ⟨(by show 15 ≤ sizeLine; decide), fun L nL => ?_⟩⟩
    have s1 := same_upd (o := .lst [.str "a"]) n1
    have s2 := same_upd (o := .lst [.non, .int 3, .int 0, .bl true, .str "", .str "A", .str "a-b", .str "abcdefghi", .str "1a", .ref l1, .str "abcdefgh", .int 1, .int 2, .str "meet", .str "z9"]) nL
    have nl1 := (S1.new n1).1
    have Sl1 := S1.same s1
    have nLw : L ≠ lw := fun z => (Sl1.new nL).1 (by simp [z])
    have hl1 := s2 _ _ (upd_same (H := H1) (a := l1) (o := .lst [.str "a"]))
    have hL := upd_same (H := L2.upd H1 l1 (.lst [.str "a"])) (a := L) (o := .lst [.non, .int 3, .int 0, .bl true, .str "", .str "A", .str "a-b", .str "abcdefghi", .str "1a", .ref l1, .str "abcdefgh", .int 1, .int 2, .str "meet", .str "z9"])
    generalize L2.upd (L2.upd H1 l1 (.lst [.str "a"])) L (.lst [.non, .int 3, .int 0, .bl true, .str "", .str "A", .str "a-b", .str "abcdefghi", .str "1a", .ref l1, .str "abcdefgh", .int 1, .int 2, .str "meet", .str "z9"]) = HL at s2 hl1 hL
    have sL := s1.trans s2
    have SL := S1.same sL
    have fO : F2 (Dq [a, lw] HL) [.non, .int 3, .int 0, .bl true, .str "", .str "A", .str "a-b", .str "abcdefghi", .str "1a", .ref l1, .str "abcdefgh", .int 1, .int 2, .str "meet", .str "z9"] ODD :=
      .cons .non (.cons (.int 3) (.cons (.int 0) (.cons (.bl true) (.cons (.str _) (.cons (.str _) (.cons (.str _) (.cons (.str _) (.cons (.str _) (.cons (.lst nl1 hl1 (.cons (.str _) .nil)) (.cons (.str _) (.cons (.int 1) (.cons (.int 2) (.cons (.str _) (.cons (.str _) .nil))))))))))))))
    refine ⟨a, lw, lc, _, L, _, rfl, SL, by omega, hL, nLw, (by show 0 < 15; decide), (by show 15 ≤ 1000; decide), fun i x H2 hx S2 K2 => ?_⟩
    obtain ⟨e, he, hxe⟩ := fO.at_ hx
    have ie : itemB e = true := odd_ok e (List.mem_of_getElem? he)
    refine ⟨_, rfl, a, lw, lc, _, _, rfl, S2, by omega, by decide, by decide, fun y H3 y0 y4 S3 K3 => ?_⟩
    have KL := K2.trans K3
    have KA : Kp [a, lw] H H3 := (K1.trans (Kp.of sL)).trans KL
    have hx3 := Dq.keep (KpE.of KL) _ _ hxe
    have hp3 := S.tupK KA hp
    have deq := Deed.f2 (N := [a, lw]) (H := H3) d
    have its := deed_items ok hnm
    have lpy : d.pys.length = d.vs.length := deq.len.symm
    -- what a tuple of items is
    have fin : ∀ (r : Addr) (G : Hp) (ys : List V) (es : List PyData), Same H3 G → G r = some (.tup ys) → F2 (Dq [a, lw] H3) ys es → es.length ≤ 1000 → (∀ e ∈ es, itemB e = true) → Q (.ref r) G := fun r G ys es sG hr f2 le ie => by
      have SG := S3.same sG
      exact k _ (.tuple es) G (Dq.tup_of (SG.off hr (fun _ z => by cases z) fun _ z => by cases z) hr (f2.mono fun _ _ q => q.same sG)) (BentD.tuple le ie) (SG.more (by omega)) (KA.trans (Kp.of sG))
    have small : ∀ n : Nat, n ≤ 1000 → n ≤ sizeLine := fun n h => Nat.le_trans h (by decide)
    have e1 : ((j : Int) + 1) = ((j + 1 : Nat) : Int) := by omega
    have c1 : cutV d.vs none (some (j : Int)) = d.vs.take j := cut_to (by omega)
    have c2 : cutV d.vs (some ((j : Int) + 1)) none = d.vs.drop (j + 1) := by
      rw [e1]
      exact cut_drop (by omega)
    have c3 : cutV d.vs (some (j : Int)) none = d.vs.drop j := cut_drop (by omega)
    refine ⟨_, rfl, rfl, _, rfl, ?_⟩
    refine ite2 (fun _ => ?_) fun _ => ?_
    · refine ⟨_, rfl, _, rfl, _, rfl, slA_read hp3 fun r1 G1 t1 h1 => ?_⟩
      refine ⟨_, rfl, _, rfl, _, _, rfl, rfl, _, rfl, tNoPart_in (slA_read (t1 _ _ hp3) fun r2 G2 t2 h2 => ?_)⟩
      rw [c1] at h1
      rw [c2] at h2
      refine cat_readV (t2 _ _ h1) h2 (small _ (by rw [List.length_take, List.length_drop]; omega)) fun r3 G3 t3 h3 => ?_
      refine fin r3 G3 _ (d.pys.take j ++ d.pys.drop (j + 1)) ((t1.trans t2).trans t3) h3 ((F2.take j deq).app (F2.drop (j + 1) deq)) ?_ fun e he => ?_
      · rw [List.length_append, List.length_take, List.length_drop]
        omega
      · rcases List.mem_append.mp he with he | he
        · exact its e (List.mem_of_mem_take he)
        · exact its e (List.mem_of_mem_drop he)
    refine ⟨_, rfl, rfl, _, rfl, ?_⟩
    refine ite2 (fun _ => ?_) fun _ => ?_
    · refine ⟨_, rfl, _, rfl, _, rfl, slA_read hp3 fun r1 G1 t1 h1 => ?_⟩
      refine ⟨_, rfl, (by show 1 ≤ sizeLine; decide), fun o1 no1 => ?_⟩
      have t2 := same_upd (o := .tup [x]) no1
      have ho1 := upd_same (H := G1) (a := o1) (o := .tup [x])
      generalize L2.upd G1 o1 (.tup [x]) = G2 at t2 ho1
      rw [c1] at h1
      refine cat_readV (t2 _ _ h1) ho1 (small _ (by rw [List.length_take]; show _ + 1 ≤ 1000; omega)) fun r2 G3 t3 h3 => ?_
      have t13 := (t1.trans t2).trans t3
      refine ⟨_, rfl, _, rfl, _, rfl, tNoPart_in (slA_read (t13 _ _ hp3) fun r4 G4 t4 h4 => ?_)⟩
      rw [c3] at h4
      refine cat_readV (t4 _ _ h3) h4 (small _ (by rw [List.length_append, List.length_take, List.length_drop]; show _ + 1 + _ ≤ 1000; omega)) fun r5 G5 t5 h5 => ?_
      refine fin r5 G5 _ ((d.pys.take j ++ [e]) ++ d.pys.drop j) ((t13.trans t4).trans t5) h5 (((F2.take j deq).app (.cons hx3 .nil)).app (F2.drop j deq)) ?_ fun e' he' => ?_
      · rw [List.length_append, List.length_append, List.length_take, List.length_drop]
        show _ + 1 + _ ≤ 1000
        omega
      · rcases List.mem_append.mp he' with he' | he'
        · rcases List.mem_append.mp he' with he' | he'
          · exact its e' (List.mem_of_mem_take he')
          · rw [List.mem_singleton.mp he']
            exact ie
        · exact its e' (List.mem_of_mem_drop he')
    refine ⟨_, rfl, rfl, _, rfl, ?_⟩
    refine ite2 (fun _ => ?_) fun _ => ?_
    · refine ⟨_, rfl, _, rfl, _, rfl, slA_read hp3 fun r1 G1 t1 h1 => ?_⟩
      refine ⟨_, rfl, (by show 1 ≤ sizeLine; decide), fun o1 no1 => ?_⟩
      have t2 := same_upd (o := .tup [x]) no1
      have ho1 := upd_same (H := G1) (a := o1) (o := .tup [x])
      generalize L2.upd G1 o1 (.tup [x]) = G2 at t2 ho1
      rw [c1] at h1
      refine cat_readV (t2 _ _ h1) ho1 (small _ (by rw [List.length_take]; show _ + 1 ≤ 1000; omega)) fun r2 G3 t3 h3 => ?_
      have t13 := (t1.trans t2).trans t3
      refine ⟨_, rfl, _, rfl, _, _, rfl, rfl, _, rfl, tNoPart_in (slA_read (t13 _ _ hp3) fun r4 G4 t4 h4 => ?_)⟩
      rw [c2] at h4
      refine cat_readV (t4 _ _ h3) h4 (small _ (by rw [List.length_append, List.length_take, List.length_drop]; show _ + 1 + _ ≤ 1000; omega)) fun r5 G5 t5 h5 => ?_
      refine fin r5 G5 _ ((d.pys.take j ++ [e]) ++ d.pys.drop (j + 1)) ((t13.trans t4).trans t5) h5 (((F2.take j deq).app (.cons hx3 .nil)).app (F2.drop (j + 1) deq)) ?_ fun e' he' => ?_
      · rw [List.length_append, List.length_append, List.length_take, List.length_drop]
        show _ + 1 + _ ≤ 1000
        omega
      · rcases List.mem_append.mp he' with he' | he'
        · rcases List.mem_append.mp he' with he' | he'
          · exact its e' (List.mem_of_mem_take he')
          · rw [List.mem_singleton.mp he']
            exact ie
        · exact its e' (List.mem_of_mem_drop he')
    · refine ⟨_, rfl, p, _, rfl, .inr (SqT.of hp3), fun l nl => ?_⟩
      have t1 := same_upd (o := .lst d.vs) nl
      exact k _ (.list d.pys) _ (.lst (S3.new nl).1 upd_same (DqAll.of (deq.mono fun _ _ q => q.same t1))) (BentD.list (by omega) its) ((S3.same t1).more (by omega)) (KA.trans (Kp.of t1))
end
end Own
set_option Elab.async false
set_option linter.all false
set_option maxRecDepth 100000
set_option maxHeartbeats 400000
namespace Own
open PySem PySem.Spec PyProof.Rows L2 LamX
/-! ### drawn steps -/
def stepPy (s : Str × Deed) : PyData := .tuple [.str s.1, s.2.py]
theorem goes_snoc : ∀ (ds : List (Str × Deed)) (kn : List Str) (n : Str) (d : Deed), goesB kn (ds.map stepPy) = true → StepOk (kn ++ ds.map (·.1)) n d.py → goesB kn ((ds ++ [(n, d)]).map stepPy) = true
  | [], kn, n, d, _, h => by
    show goesB kn [.tuple [.str n, d.py]] = true
    rw [goes_good (by simpa using h)]
    rfl
  | (m, e) :: ds, kn, n, d, g, h => by
    have g' : goesB kn (.tuple [.str m, e.py] :: ds.map stepPy) = true := g
    show goesB kn (.tuple [.str m, e.py] :: (ds ++ [(n, d)]).map stepPy) = true
    by_cases q : StepOk kn m e.py
    · rw [goes_good q] at g' ⊢
      refine goes_snoc ds (kn ++ [m]) n d g' ?_
      simpa using h
    · rw [goes_bad (step_no q)] at g'
      cases g'
/-- drawn steps -/
structure StepsOk (ds : List (Str × Deed)) : Prop where
  len : ds.length ≤ 4
  goes : goesB SHEET (ds.map stepPy) = true
  name : ∀ s ∈ ds, s.1 ∈ NMS
  deed : ∀ s ∈ ds, DeedOk s.2 ∧ ∀ z ∈ s.2.names, z ∈ NMS
/-- the list of all words, in some order -/
structure WordsL (ys : List Str) : Prop where
  pos : 0 < ys.length
  most : ys.length ≤ 20
  mem : ∀ y ∈ ys, ∃ m k, (y, m, k) ∈ FORM
def spSteps : Sp := fun vs H Q _ => ∃ (a lw lc : Addr) (t : Nat) (pw : Addr) (ys : List Str), vs = [.ref a, .ref pw] ∧ StA H a lw lc t ∧ t < 2 ^ 37 ∧ H pw = some (.lst (ys.map V.str)) ∧ pw ∉ [a, lw] ∧ WordsL ys ∧
  ∀ (l : Addr) (ws : List V) (ds : List (Str × Deed)) H', StepsOk ds → F2 (Dq [a, lw, l] H') ws (ds.map stepPy) → l ∉ [a, lw] → l ≠ lc → H l = none → H' l = some (.lst ws) → StA H' a lw lc (t + 300) → Kp [a, lw] H H' → Q (.ref l) H'
theorem sheet_nms : ∀ z ∈ SHEET, z ∈ NMS := fun _ h => List.mem_append_left _ h
theorem law_nms : ∀ z ∈ LAB ++ (KK ++ SV), z ∈ NMS := fun _ h => List.mem_append_right _ (List.mem_append_right _ h)
theorem mem3 {a b c x : Addr} (h1 : x ≠ a) (h2 : x ≠ b) (h3 : x ≠ c) : x ∉ [a, b, c] := by simp [h1, h2, h3]
section
variable {P : Program} {w : World} {K : PySem.W.Frag} {mg : Str → Option Value} {base : Heap} {f : Addr} {fd2 dD dP dN dE : FuncData}
abbrev nsSteps : List Str := ["_law_state", "_law_words", "_law_known", "_law_found", "_law_spot", "_law_deed_here", "_law_fresh"]
theorem scSteps : FnScope nsSteps ["_law_state", "_law_words"] (defScope sSteps) := ⟨rfl, rfl, rfl, by decide +kernel, rfl, by decide +kernel, by decide +kernel⟩
theorem ok_steps (F : FnP K "_law_steps" sSteps f fd2) (KD : Fk P w K mg base CX0 2 "_law_draw" dD ["_law_state", "_law_room"] spDraw) (KP : Fk P w K mg base CX0 3 "_law_pick" dP ["_law_state", "_law_some"] (spPick K))
    (KN : Fk P w K mg base CX0 4 "_law_name" dN ["_law_state", "_law_barred"] spLName) (KE : Fk P w K mg base CX0 4 "_law_deed" dE ["_law_state", "_law_word", "_law_names"] spLDeed) (T : Txt K mg) :
    FnOk P w K mg base CX0 5 f fd2 ["_law_state", "_law_words"] spSteps := by
  refine F.ok scSteps (fun vs H Q E h => ?_) (fun cdv A outer s H vs Q E hr h => ?_)
  · obtain ⟨a, lw, lc, t, pw, ys, rfl, _⟩ := h
    rfl
  · obtain ⟨a, lw, lc, t, pw, ys, rfl, S, ht, hpw, npw, W, k⟩ := h
    have hr2 := hr.mono (show 2 ≤ 4 by decide)
    have hr3 := hr.mono (show 3 ≤ 4 by decide)
    refine ⟨_, PSs.nox (pss_cons (ps_par (i := 2) (j := 3) (by rfl) scSteps.nd rfl rfl (by decide) rfl rfl (pa_cons (pe_lst (pa_cons pe_str (pa_cons pe_str (pa_cons pe_str (pa_cons pe_str (pa_cons pe_str pa_nil)))))) (pa_cons (pe_lst pa_nil) pa_nil)) (by rfl))
      (pss_cons (ps_for PassesOwn.never rfl (pi_range1 (by rfl) T.range (pa_cons (pe_call KD.ok hr2 (by rfl) KD.g KD.kp KD.b .nil pass0 (pa_cons (pv 0) (pa_cons pe_int pa_nil))) pa_nil)) (pg_name (i := 4) scSteps.nd rfl (Or.inl rfl))
        (pss_cons (ps_set (i := 5) scSteps.nd rfl (.inl rfl) (pe_call KE.ok hr (by rfl) KE.g KE.kp KE.b .nil pass0 (pa_cons (pv 0) (pa_cons (pe_call KP.ok hr3 (by rfl) KP.g KP.kp KP.b .nil pass0 (pa_cons (pv 0) (pa_cons (pv 1) pa_nil))) (pa_cons (pv 2) pa_nil)))))
        (pss_cons (ps_set (i := 6) scSteps.nd rfl (.inl rfl) (pe_call KN.ok hr (by rfl) KN.g KN.kp KN.b .nil pass0 (pa_cons (pv 0) (pa_cons (pv 2) pa_nil))))
        (pss_cons (ps_expr (pe_bm PySem.F.plainAttrs_list PySem.F.slot_list_append PySem.F.type_list_append mt_append (pv 3) (pa_cons (pe_tup (pa_cons (pv 6) (pa_cons (pv 5) pa_nil))) pa_nil)))
        (pss_one (ps_expr (pe_bm PySem.F.plainAttrs_list PySem.F.slot_list_append PySem.F.type_list_append mt_append (pv 2) (pa_cons (pv 6) pa_nil))))))))
      (pss_one (ps_ret (pv 3))))), ?_⟩
    refine ⟨(by show 5 ≤ sizeLine; decide), fun l2 n2 => ⟨(by show 0 ≤ sizeLine; decide), fun l1 n1 => ⟨_, _, rfl, ?_⟩⟩⟩
    have s2 := same_upd (o := .lst (SHEET.map V.str)) n2
    have g2 := upd_same (H := H) (a := l2) (o := .lst (SHEET.map V.str))
    have ee : L2.upd H l2 (.lst [V.str "o", .str "u", .str "uu", .str "v", .str "vv"]) = L2.upd H l2 (.lst (SHEET.map V.str)) := rfl
    rw [ee] at n1
    rw [ee]
    have s1 := same_upd (o := .lst []) n1
    have g1 := upd_same (H := L2.upd H l2 (.lst (SHEET.map V.str))) (a := l1) (o := .lst [])
    have n1H := s2.free n1
    obtain ⟨o2, o2c⟩ := S.new n2
    obtain ⟨o1, o1c⟩ := S.new n1H
    have n12 : l1 ≠ l2 := (ne_of_none g2 n1).symm
    have g2' := s1 _ _ g2
    generalize L2.upd (L2.upd H l2 (.lst (SHEET.map V.str))) l1 (.lst []) = H0 at s1 g1 g2'
    have sA := s2.trans s1
    have S0 := S.same sA
    refine ⟨_, rfl, a, lw, lc, t, _, rfl, S0, by omega, by decide, by decide, fun z H1 z0 z5 S1 K1 => ⟨z, rfl, by omega, by omega, ?_⟩⟩
    obtain ⟨j, rfl⟩ : ∃ j : Nat, z = (j : Int) := ⟨z.toNat, by omega⟩
    have j5 : j < 5 := by omega
    have K01 : Kp [a, lw] H H1 := (Kp.of sA).trans K1
    have g11 := K1 _ _ g1 o1
    have g21 := K1 _ _ g2' o2
    have npl : pw ≠ l1 := fun z => by rw [z, n1H] at hpw; cases hpw
    have npl2 : pw ≠ l2 := fun z => by rw [z, n2] at hpw; cases hpw
    refine for_range (lo := 0) (n := j) (fun i σ G => ∃ (v4 v5 v6 : Option V) (ws : List V) (ds : List (Str × Deed)), σ = [some (.ref a), some (.ref pw), some (.ref l2), some (.ref l1), v4, v5, v6] ∧ ds.length = i ∧ G l1 = some (.lst ws) ∧ G l2 = some (.lst ((SHEET ++ ds.map (·.1)).map V.str)) ∧
        F2 (Dq [a, lw, l1, l2] G) ws (ds.map stepPy) ∧ goesB SHEET (ds.map stepPy) = true ∧ (∀ s ∈ ds, s.1 ∈ NMS) ∧ (∀ s ∈ ds, DeedOk s.2 ∧ ∀ z ∈ s.2.names, z ∈ NMS) ∧ StA G a lw lc (t + 1 + 50 * i) ∧ Kp [a, lw] H G)
      ⟨none, none, none, [], [], rfl, rfl, g11, g21, .nil, rfl, (fun _ h => by cases h), (fun _ h => by cases h), S1, K01⟩ ?_ ?_
    · rintro i σ G hi ⟨v4, v5, v6, ws, ds, rfl, ld, gl1, gl2, f2, dB, okN, okD, SG, KG⟩
      have lk : (SHEET ++ ds.map (·.1)).length = 5 + i := by
        rw [List.length_append, List.length_map, ld]
        rfl
      have inN : ∀ n ∈ SHEET ++ ds.map (·.1), n ∈ NMS := fun n hn => by
        rcases List.mem_append.mp hn with hn | hn
        · exact sheet_nms n hn
        · obtain ⟨s, hs, rfl⟩ := List.mem_map.mp hn
          exact okN s hs
      have okK : ∀ n ∈ SHEET ++ ds.map (·.1), NameOk n := fun n hn => (nms_item n (inN n hn)).2
      have gpw := KG _ _ hpw npw
      have npwl : pw ≠ lw := fun z => npw (by simp [z])
      have l20 := W.most
      refine ⟨_, rfl, _, rfl, _, rfl, a, lw, lc, _, pw, _, rfl, SG, by omega, gpw, npwl, by rw [List.length_map]; exact W.pos, by rw [List.length_map]; omega, fun j2 x G1 hx S2 K2 => ?_⟩
      obtain ⟨wd, hwd, rfl⟩ := List.mem_map.mp (List.mem_of_getElem? hx)
      obtain ⟨m, kk, hm⟩ := W.mem wd hwd
      have h11 := K2 _ _ gl1 o1
      have h12 := K2 _ _ gl2 o2
      refine ⟨_, rfl, a, lw, lc, _, wd, m, kk, l2, _, rfl, S2, by omega, hm, h12, o2, by omega, by omega, okK, fun p d G2 dw okd dn S3 K3 np hp => ?_⟩
      have h21 := K3 _ _ h11 o1
      have h22 := K3 _ _ h12 o2
      refine ⟨_, rfl, _, rfl, a, lw, lc, _, l2, _, rfl, S3, by omega, h22, o2, by omega, fun n G3 okn mn frn S4 K4 => ?_⟩
      have h31 := K4 _ _ h21 o1
      have h32 := K4 _ _ h22 o2
      have hp3 := S3.tupK K4 hp
      refine ⟨_, rfl, .inl ⟨rfl, _, .inl (.inl h31)⟩, _, rfl, _, rfl, (by show 2 ≤ sizeLine; decide), fun tt ntt => ?_⟩
      have s6 := same_upd (o := .tup [.str n, .ref p]) ntt
      have h41 := s6 _ _ h31
      have h42 := s6 _ _ h32
      have lw5 : ws.length = i := by rw [f2.len, List.length_map, ld]
      have htt := upd_same (H := G3) (a := tt) (o := .tup [V.str n, .ref p])
      have hp6 := s6 _ _ hp3
      have S6 := S4.same s6
      have kk6 : Kp [a, lw] G (L2.upd G3 tt (.tup [V.str n, .ref p])) := ((K2.trans K3).trans K4).trans (Kp.of s6)
      generalize L2.upd G3 tt (.tup [V.str n, .ref p]) = G5 at h41 h42 htt hp6 S6 kk6
      refine ⟨l1, _, _, rfl, rfl, h41, by rw [lw5]; exact Nat.lt_of_lt_of_le (show i < 6 by omega) (by decide), ?_⟩
      have h52 : (L2.upd G5 l1 (.lst (ws ++ [V.ref tt]))) l2 = some (.lst ((SHEET ++ ds.map (·.1)).map V.str)) := by
        rw [upd_ne n12.symm]
        exact h42
      refine ⟨_, rfl, .inl ⟨rfl, _, .inl (.inl h52)⟩, _, rfl, l2, _, _, rfl, rfl, h52, by rw [List.length_map, lk]; exact Nat.lt_of_lt_of_le (show 5 + i < 20 by omega) (by decide), ?_⟩
      have tl1 : tt ≠ l1 := ne_of htt h41 (by intro z; cases z)
      have tl2 : tt ≠ l2 := ne_of htt h42 (by intro z; cases z)
      have pl1 : p ≠ l1 := ne_of hp6 h41 (by intro z; cases z)
      have pl2 : p ≠ l2 := ne_of hp6 h42 (by intro z; cases z)
      have offA : ∀ {b : Addr} {xs : List V}, G5 b = some (.tup xs) → b ≠ l1 → b ≠ l2 → b ∉ [a, lw, l1, l2] := fun {b xs} hb q1 q2 => by
        have q := S6.off hb (fun _ z => by cases z) fun _ z => by cases z
        simp only [List.mem_cons, List.not_mem_nil, or_false, not_or] at q ⊢
        exact ⟨q.1, q.2, q1, q2⟩
      have kE : KpE [a, lw, l1, l2] G (L2.upd (L2.upd G5 l1 (.lst (ws ++ [V.ref tt]))) l2 (.lst ((SHEET ++ ds.map (·.1)).map V.str ++ [V.str n]))) := fun b o e nb _ => by
        simp only [List.mem_cons, List.not_mem_nil, or_false, not_or] at nb
        rw [upd_ne nb.2.2.2, upd_ne nb.2.2.1]
        exact kk6 b o e (by simp [nb.1, nb.2.1])
      have ttF : (L2.upd (L2.upd G5 l1 (.lst (ws ++ [V.ref tt]))) l2 (.lst ((SHEET ++ ds.map (·.1)).map V.str ++ [V.str n]))) tt = some (.tup [V.str n, .ref p]) := by
        rw [upd_ne tl2, upd_ne tl1]
        exact htt
      have pF : (L2.upd (L2.upd G5 l1 (.lst (ws ++ [V.ref tt]))) l2 (.lst ((SHEET ++ ds.map (·.1)).map V.str ++ [V.str n]))) p = some (.tup d.vs) := by
        rw [upd_ne pl2, upd_ne pl1]
        exact hp6
      refine ⟨_, _, _, ws ++ [V.ref tt], ds ++ [(n, d)], rfl, by rw [List.length_append, ld]; rfl, ?_, ?_, ?_, ?_, ?_, ?_, ?_, ?_⟩
      · rw [upd_ne n12, upd_same]
      · rw [upd_same]
        simp
      · have em : (ds ++ [(n, d)]).map stepPy = ds.map stepPy ++ [.tuple [.str n, d.py]] := List.map_append
        rw [em]
        refine (f2.mono fun _ _ q => Dq.keep kE _ _ q).snoc ?_
        exact .tup (offA htt tl1 tl2) ttF (.cons (.str n) (.cons (Dq.of_deed (offA hp6 pl1 pl2) pF) .nil))
      · refine goes_snoc ds SHEET n d dB ⟨okn, frn, deedB_of okd, fun z hz => ?_⟩
        rw [dnames_py okd] at hz
        exact dn z hz
      · intro y hy
        rcases List.mem_append.mp hy with hy | hy
        · exact okN y hy
        · rw [List.mem_singleton.mp hy]
          exact law_nms n mn
      · intro y hy
        rcases List.mem_append.mp hy with hy | hy
        · exact okD y hy
        · rw [List.mem_singleton.mp hy]
          exact ⟨okd, fun z hz => inN z (dn z hz)⟩
      · exact ((S6.put o1 o1c _).put o2 o2c _).more (by omega)
      · exact fun b o e nb => by
          rw [upd_ne (ne_of_none e n2), upd_ne (ne_of_none e n1H)]
          exact (KG.trans kk6) b o e nb
    · rintro σ G ⟨v4, v5, v6, ws, ds, rfl, ld, gl1, gl2, f2, dB, okN, okD, SG, KG⟩
      refine ⟨_, rfl, k l1 ws ds G ⟨by omega, dB, okN, okD⟩ (f2.mono fun e d q => Dq.weak (fun b hb => ?_) _ _ q) o1 o1c n1H gl1 (SG.more (by omega)) KG⟩
      simp only [List.mem_cons, List.not_mem_nil, or_false] at hb ⊢
      rcases hb with h | h | h
      · exact .inl h
      · exact .inr (.inl h)
      · exact .inr (.inr (.inl h))
end
end Own
set_option Elab.async false
set_option linter.all false
set_option maxRecDepth 100000
set_option maxHeartbeats 400000
namespace Own
open PySem PySem.Spec PyProof.Rows L2 LamX
/-! ### drawn steps with one otherwise -/
structure StepG (e : PyData) : Prop where
  v : vdb e = true
  r : StepRd NOW e
  l : StepLast e
structure DrawD (d : PyData) : Prop where
  w : wdb d = true
  r : ∀ ds, itemsOf d = some ds → ∀ e ∈ ds, StepRd NOW e
  l : ∀ ds, itemsOf d = some ds → ∀ e ∈ ds, StepLast e
theorem StepG.pair {x b : PyData} (hx : gdb x = true) (dx : x.depth ≤ 11) (h : BentD b) : StepG (.tuple [x, b]) := by
  obtain ⟨g, _⟩ := gdb_of_items (ds := [x, b]) (by show 2 ≤ 1000; decide) 11 (by decide) fun e he => by
    simp only [List.mem_cons, List.not_mem_nil, or_false] at he
    rcases he with rfl | rfl
    · exact ⟨hx, dx⟩
    · exact ⟨h.g, h.dp⟩
  refine ⟨vdb_of g, fun a c e => ?_, fun a c e => ?_⟩
  · injection e with e
    injection e with _ e
    injection e with e
    rw [← e]
    exact h.r
  · injection e with e
    injection e with _ e
    injection e with e
    rw [← e]
    exact h.l
theorem StepG.lst2 {x b : PyData} (hx : gdb x = true) (dx : x.depth ≤ 11) (h : BentD b) : StepG (.list [x, b]) := by
  obtain ⟨_, g, _⟩ := gdb_of_items (ds := [x, b]) (by show 2 ≤ 1000; decide) 11 (by decide) fun e he => by
    simp only [List.mem_cons, List.not_mem_nil, or_false] at he
    rcases he with rfl | rfl
    · exact ⟨hx, dx⟩
    · exact ⟨h.g, h.dp⟩
  exact ⟨vdb_of g, (fun a c e => by cases e), (fun a c e => by cases e)⟩
theorem StepG.three {x b : PyData} (hx : gdb x = true) (dx : x.depth ≤ 11) (h : BentD b) : StepG (.tuple [x, b, b]) := by
  obtain ⟨g, _⟩ := gdb_of_items (ds := [x, b, b]) (by show 3 ≤ 1000; decide) 11 (by decide) fun e he => by
    simp only [List.mem_cons, List.not_mem_nil, or_false] at he
    rcases he with rfl | rfl | rfl
    · exact ⟨hx, dx⟩
    · exact ⟨h.g, h.dp⟩
    · exact ⟨h.g, h.dp⟩
  refine ⟨vdb_of g, fun a c e => ?_, fun a c e => ?_⟩
  · injection e with e
    injection e with _ e
    injection e with _ e
    cases e
  · injection e with e
    injection e with _ e
    injection e with _ e
    cases e
theorem StepG.non : StepG .none := ⟨by decide +kernel, (fun a c e => by cases e), (fun a c e => by cases e)⟩
theorem nms_g {z : Str} (h : z ∈ NMS) : gdb (.str z) = true ∧ (PyData.str z).depth ≤ 11 := ⟨(itemB_iff (nms_item z h).1).1, by show 0 ≤ 11; decide⟩
theorem StepsOk.g {ds : List (Str × Deed)} (h : StepsOk ds) : ∀ e ∈ ds.map stepPy, StepG e := fun e he => by
  obtain ⟨s, hs, rfl⟩ := List.mem_map.mp he
  obtain ⟨g1, g2⟩ := nms_g (h.name s hs)
  exact StepG.pair g1 g2 (BentD.deed (h.deed s hs).1 (h.deed s hs).2)
theorem StepsOk.gdb {ds : List (Str × Deed)} (h : StepsOk ds) : ∀ e ∈ ds.map stepPy, gdb e = true := fun e he => by
  obtain ⟨s, hs, rfl⟩ := List.mem_map.mp he
  exact vdb_gdb ((StepG.pair (nms_g (h.name s hs)).1 (nms_g (h.name s hs)).2 (BentD.deed (h.deed s hs).1 (h.deed s hs).2)).v) rfl
theorem DrawD.list {es : List PyData} (l : es.length ≤ 1000) (h : ∀ e ∈ es, StepG e) : DrawD (.list es) := by
  refine ⟨?_, fun ds e x hx => ?_, fun ds e x hx => ?_⟩
  · show (decide (es.length ≤ 1000) && es.all vdb) = true
    rw [decide_eq_true l, List.all_eq_true.mpr fun e he => (h e he).v]
    rfl
  · injection e with e
    subst e
    exact (h x hx).r
  · injection e with e
    subst e
    exact (h x hx).l
theorem DrawD.tuple {es : List PyData} (l : es.length ≤ 1000) (h : ∀ e ∈ es, StepG e) : DrawD (.tuple es) := by
  refine ⟨?_, fun ds e x hx => ?_, fun ds e x hx => ?_⟩
  · show (decide (es.length ≤ 1000) && es.all vdb) = true
    rw [decide_eq_true l, List.all_eq_true.mpr fun e he => (h e he).v]
    rfl
  · injection e with e
    subst e
    exact (h x hx).r
  · injection e with e
    subst e
    exact (h x hx).l
def ODR : List PyData := .none :: .dict [] :: .str "a" :: .list [.none] :: .list [.tuple []] :: .list [.tuple [.str "a"]] :: .tuple [] :: []
theorem odr_ok : ∀ e ∈ ODR, DrawD e := fun e he => by
  have ta : StepG (.tuple [.str "a"]) := ⟨by decide +kernel, (fun a c e => by injection e with e; injection e with _ e; cases e), (fun a c e => by injection e with e; injection e with _ e; cases e)⟩
  have t0 : StepG (.tuple []) := ⟨by decide +kernel, (fun a c e => by injection e with e; cases e), (fun a c e => by injection e with e; cases e)⟩
  simp only [ODR, List.mem_cons, List.not_mem_nil, or_false] at he
  rcases he with rfl | rfl | rfl | rfl | rfl | rfl | rfl
  · exact ⟨by decide +kernel, (fun ds e => by cases e), (fun ds e => by cases e)⟩
  · exact ⟨by decide +kernel, (fun ds e => by cases e), (fun ds e => by cases e)⟩
  · exact ⟨by decide +kernel, (fun ds e => by cases e), (fun ds e => by cases e)⟩
  · exact DrawD.list (by decide) fun e he => by rw [List.mem_singleton.mp he]; exact .non
  · exact DrawD.list (by decide) fun e he => by rw [List.mem_singleton.mp he]; exact t0
  · exact DrawD.list (by decide) fun e he => by rw [List.mem_singleton.mp he]; exact ta
  · exact DrawD.tuple (by decide) fun e he => by cases he
theorem dq_step {N : List Addr} {H : Hp} {x : V} {s : Str × Deed} (h : Dq N H x (stepPy s)) : ∃ b p, x = .ref b ∧ b ∉ N ∧ H b = some (.tup [.str s.1, .ref p]) ∧ p ∉ N ∧ H p = some (.tup s.2.vs) := by
  cases h with
  | tup n e q =>
    cases q with
    | cons q1 q =>
      cases q with
      | cons q2 q =>
        cases q
        cases q1
        obtain ⟨p, rfl, np, hp⟩ := q2.deed
        exact ⟨_, p, rfl, n, e, np, hp⟩
theorem tail_eqD {K : PySem.W.Frag} {N : List Addr} {σ : L2.St} {H : Hp} {D : Addr} {ys : List V} {es : List PyData} {Q : VK} (hD : H D = some (.lst ys)) (hf : F2 (Dq N H) ys es) (g : ∀ e ∈ es, gdb e = true) (k : ∀ H', Same H H' → Q (.bl ys.isEmpty) H') : tLst tNil σ H fun y H2 => rEqD K (.ref D) y H2 Q := by
  refine ⟨(by show 0 ≤ sizeLine; decide), fun q nq => ?_⟩
  have s := same_upd (o := .lst []) nq
  obtain ⟨a, b, c⟩ := dp_some (K := K) (hf.mono fun _ _ z => z.same s) g
  refine ⟨.list es, .list [], .lst (SqL.of (s _ _ hD)) a, .lst (SqL.of upd_same) .nil, ?_, rfl, ?_⟩
  · show (PyData.canLayAll0 es && decide (PyData.depthAll es + 1 ≤ 64)) = true
    rw [b, decide_eq_true (by omega)]
    rfl
  · rw [eqv_nilL]
    have e : es.isEmpty = ys.isEmpty := by
      have := hf.len
      cases ys <;> cases es <;> first | rfl | cases this
    rw [e]
    exact k _ s
def spBentS : Sp := fun vs H Q _ => ∃ (a lw lc : Addr) (t : Nat) (l : Addr) (ws : List V) (ds : List (Str × Deed)), vs = [.ref a, .ref l] ∧ StA H a lw lc t ∧ t < 2 ^ 38 ∧ H l = some (.lst ws) ∧ l ∉ [a, lw] ∧ F2 (Dq [a, lw] H) ws (ds.map stepPy) ∧ StepsOk ds ∧
  ∀ x e H', Dq [a, lw] H' x e → DrawD e → StA H' a lw lc (t + 10) → Kp [a, lw] H H' → Q x H'
end Own
set_option Elab.async false
set_option linter.all false
set_option maxRecDepth 100000
set_option maxHeartbeats 400000
namespace Own
open PySem PySem.Spec PyProof.Rows L2 LamX
section
variable {P : Program} {w : World} {K : PySem.W.Frag} {mg : Str → Option Value} {base : Heap} {f : Addr} {fd2 dD dP dB : FuncData}
abbrev nsBentS : List Str := ["_law_state", "_law_steps_here", "_law_at", "_law_name_here", "_law_deed_here", "_law_way", "_law_last", "_law_other", "_law_some"]
theorem scBentS : FnScope nsBentS ["_law_state", "_law_steps_here"] (defScope sBentS) := ⟨rfl, rfl, rfl, by decide +kernel, rfl, by decide +kernel, by decide +kernel⟩
theorem ok_bents (F : FnP K "_law_bent_steps" sBentS f fd2) (KD : Fk P w K mg base CX0 2 "_law_draw" dD ["_law_state", "_law_room"] spDraw) (KP : Fk P w K mg base CX0 3 "_law_pick" dP ["_law_state", "_law_some"] (spPick K)) (KB : Fk P w K mg base CX0 4 "_law_bent" dB ["_law_state", "_law_deed_here"] spBent) (T : Txt K mg) :
    FnOk P w K mg base CX0 5 f fd2 ["_law_state", "_law_steps_here"] spBentS := by
  refine F.ok scBentS (fun vs H Q E h => ?_) (fun cdv A outer s H vs Q E hr h => ?_)
  · obtain ⟨a, lw, lc, t, l, ws, ds, rfl, _⟩ := h
    rfl
  · obtain ⟨a, lw, lc, t, l, ws, ds, rfl, S, ht, hl, nl, f2, ok, k⟩ := h
    have hr2 := hr.mono (show 2 ≤ 4 by decide)
    have hr3 := hr.mono (show 3 ≤ 4 by decide)
    refine ⟨_, PSs.nox (pss_cons (ps_if (pt_cmpR (op_eqD hr.units) (pv 1) (pe_lst pa_nil) (nomark _))
        (pss_one (ps_ret (pe_call KP.ok hr3 (by rfl) KP.g KP.kp KP.b .nil pass0 (pa_cons (pv 0) (pa_cons (pe_lst (pa_cons pe_non (pa_cons pe_dnewK (pa_cons pe_str (pa_cons (pe_lst (pa_cons pe_non pa_nil)) (pa_cons (pe_lst (pa_cons (pe_tup pa_nil) pa_nil)) (pa_cons (pe_lst (pa_cons (pe_tup (pa_cons pe_str pa_nil)) pa_nil)) (pa_cons (pe_tup pa_nil) pa_nil)))))))) pa_nil))))) pss_nil)
      (pss_cons (ps_set (i := 2) scBentS.nd rfl (.inl rfl) (pe_call KD.ok hr2 (by rfl) KD.g KD.kp KD.b .nil pass0 (pa_cons (pv 0) (pa_cons (pe_callB call_len_seq (by rfl) T.len PySem.boot_len (pa_cons (pv 1) pa_nil)) pa_nil))))
      (pss_cons (ps_asg (pe_ix ix_list (pv 1) (pv 2) (fun _ _ => rfl)) (pg_tup rfl (pgs_cons (pg_name (i := 3) scBentS.nd rfl (.inl rfl)) (pgs_cons (pg_name (i := 4) scBentS.nd rfl (.inl rfl)) pgs_nil))))
      (pss_cons (ps_set (i := 5) scBentS.nd rfl (.inl rfl) (pe_call KD.ok hr2 (by rfl) KD.g KD.kp KD.b .nil pass0 (pa_cons (pv 0) (pa_cons pe_int pa_nil))))
      (pss_cons (ps_set (i := 6) scBentS.nd rfl (.inl rfl) (pe_ix ix_tup (pe_ix ix_list (pv 1) (pe_op op_sub (pe_callB call_len_seq (by rfl) T.len PySem.boot_len (pa_cons (pv 1) pa_nil)) pe_int) (fun _ _ => rfl)) pe_int (fun _ _ => rfl)))
      (pss_cons (ps_set (i := 7) scBentS.nd rfl (.inl rfl) (pe_call KP.ok hr3 (by rfl) KP.g KP.kp KP.b .nil pass0 (pa_cons (pv 0) (pa_cons (pe_lst (pa_cons pe_str (pa_cons pe_str (pa_cons pe_str (pa_cons pe_str (pa_cons pe_non (pa_cons (pe_ix ix_tup (pe_ix ix_list (pv 1) pe_int (fun _ _ => rfl)) pe_int (fun _ _ => rfl)) pa_nil))))))) pa_nil))))
      (pss_cons (ps_set (i := 8) scBentS.nd rfl (.inl rfl) (pe_lst (pa_cons (pe_tup (pa_cons (pv 7) (pa_cons (pv 4) pa_nil))) (pa_cons (pe_lst (pa_cons (pv 3) (pa_cons (pv 4) pa_nil))) (pa_cons (pe_tup (pa_cons (pv 3) (pa_cons (pe_call KB.ok hr (by rfl) KB.g KB.kp KB.b .nil pass0 (pa_cons (pv 0) (pa_cons (pv 4) pa_nil))) pa_nil))) (pa_cons (pe_tup (pa_cons (pv 3) (pa_cons (pv 4) (pa_cons (pv 4) pa_nil)))) pa_nil))))))
      (pss_cons (ps_set (i := 8) scBentS.nd rfl (.inl rfl) (pe_op op_cat (pv 8) (pe_lst (pa_cons (pe_tup (pa_cons (pv 3) (pa_cons (pe_tup (pa_cons pe_str (pa_cons pe_str (pa_cons (pv 3) pa_nil)))) pa_nil))) (pa_cons (pe_tup (pa_cons (pv 3) (pa_cons (pe_tup (pa_cons pe_str (pa_cons pe_str (pa_cons (pv 6) pa_nil)))) pa_nil))) (pa_cons pe_non pa_nil))))))
      (pss_one (ps_ret (pe_op op_cat (pe_op op_cat (pe_slice sl_list (pv 1) po_none (po_some (pv 2))) (pe_lst (pa_cons (pe_ix ix_list (pv 8) (pv 5) (fun _ _ => rfl)) pa_nil))) (pe_slice sl_list (pv 1) (po_some (pe_op op_add (pv 2) pe_int)) po_none)))))))))))), ?_⟩
    have len : ws.length = ds.length := by rw [f2.len, List.length_map]
    have l4 := ok.len
    have nlw : l ≠ lw := fun z => nl (by simp [z])
    refine ⟨_, rfl, tail_eqD hl f2 ok.gdb fun H1 s1 => ⟨_, rfl, ?_⟩⟩
    have S1 := S.same s1
    have hl1 := s1 _ _ hl
    have f21 := f2.mono fun _ _ q => q.same s1
    have le : ∀ n : Nat, n ≤ 1000 → n ≤ sizeLine := fun n h => Nat.le_trans h (by decide)
    cases ws with
    | nil =>
      refine iteT ?_
      refine ⟨_, rfl, fun d nd => ⟨le 1 (by decide), fun m1 n1 => ⟨le 0 (by decide), fun e1 ne1 => ⟨le 1 (by decide), fun m2 n2 => ⟨le 1 (by decide), fun e2 ne2 => ⟨le 1 (by decide), fun m3 n3 => ⟨le 0 (by decide), fun e3 ne3 => ⟨le 7 (by decide), fun L nL => ?_⟩⟩⟩⟩⟩⟩⟩⟩
      have q1 := same_upd (o := .dK []) nd
      have q2 := same_upd (o := .lst [V.non]) n1
      have q3 := same_upd (o := .tup []) ne1
      have q4 := same_upd (o := .lst [V.ref e1]) n2
      have q5 := same_upd (o := .tup [V.str "a"]) ne2
      have q6 := same_upd (o := .lst [V.ref e2]) n3
      have q7 := same_upd (o := .tup []) ne3
      have q8 := same_upd (o := .lst [V.non, .ref d, .str "a", .ref m1, .ref m2, .ref m3, .ref e3]) nL
      have r7 := q7.trans q8
      have r6 := q6.trans r7
      have r5 := q5.trans r6
      have r4 := q4.trans r5
      have r3 := q3.trans r4
      have r2 := q2.trans r3
      have r1 := q1.trans r2
      have T1 := S1.same q1
      have T2 := T1.same q2
      have T3 := T2.same q3
      have T4 := T3.same q4
      have T5 := T4.same q5
      have T6 := T5.same q6
      have T7 := T6.same q7
      have T8 := T7.same q8
      have nLw : L ≠ lw := fun z => (T7.new nL).1 (by simp [z])
      refine ⟨a, lw, lc, _, L, _, rfl, T8, by omega, upd_same, nLw, (by show 0 < 7; decide), (by show 7 ≤ 1000; decide), fun i x H2 hx S2 K2 => ?_⟩
      have fO : F2 (Dq [a, lw] (L2.upd (L2.upd (L2.upd (L2.upd (L2.upd (L2.upd (L2.upd (L2.upd H1 d (.dK [])) m1 (.lst [V.non])) e1 (.tup [])) m2 (.lst [V.ref e1])) e2 (.tup [V.str "a"])) m3 (.lst [V.ref e2])) e3 (.tup [])) L (.lst [V.non, .ref d, .str "a", .ref m1, .ref m2, .ref m3, .ref e3]))) [V.non, .ref d, .str "a", .ref m1, .ref m2, .ref m3, .ref e3] ODR :=
        .cons .non (.cons (.dict (S1.new nd).1 (r2 _ _ upd_same)) (.cons (.str _) (.cons (.lst (T1.new n1).1 (r3 _ _ upd_same) (.cons .non .nil)) (.cons (.lst (T3.new n2).1 (r5 _ _ upd_same) (.cons (.tup (T2.new ne1).1 (r4 _ _ upd_same) .nil) .nil)) (.cons (.lst (T5.new n3).1 (r7 _ _ upd_same) (.cons (.tup (T4.new ne2).1 (r6 _ _ upd_same) (.cons (.str _) .nil)) .nil)) (.cons (.tup (T6.new ne3).1 (q8 _ _ upd_same) .nil) .nil))))))
      obtain ⟨e, he, hxe⟩ := fO.at_ hx
      exact k x e H2 (Dq.keep (KpE.of K2) _ _ hxe) (odr_ok e (List.mem_of_getElem? he)) (S2.more (by omega)) ((Kp.of (s1.trans r1)).trans K2)
    | cons w0 ws0 =>
    refine iteF ?_
    generalize hws : w0 :: ws0 = ws at *
    have wpos : 0 < ws.length := by rw [← hws]; exact Nat.succ_pos _
    have step : ∀ {G : Hp} (i : Nat), i < ds.length → F2 (Dq [a, lw] G) ws (ds.map stepPy) → ∃ (b p : Addr) (s : Str × Deed), ds[i]? = some s ∧ s ∈ ds ∧ ws[i]? = some (.ref b) ∧ b ∉ [a, lw] ∧ G b = some (.tup [.str s.1, .ref p]) ∧ p ∉ [a, lw] ∧ G p = some (.tup s.2.vs) := fun {G} i hi g => by
      have hs : ds[i]? = some ds[i] := List.getElem?_eq_getElem hi
      have hm : (ds.map stepPy)[i]? = some (stepPy ds[i]) := by rw [List.getElem?_map, hs]; rfl
      obtain ⟨x, hx, q⟩ := g.at' hm
      obtain ⟨b, p, rfl, nb, hb, np, hp⟩ := dq_step q
      exact ⟨b, p, ds[i], hs, List.getElem_mem hi, hx, nb, hb, np, hp⟩
    refine ⟨_, rfl, _, rfl, l, _, rfl, .inl (SqL.of hl1), a, lw, lc, _, _, rfl, S1, by omega, by omega, by omega, fun z H2 z0 z1 S2 K2 => ?_⟩
    obtain ⟨j, rfl⟩ : ∃ j : Nat, z = (j : Int) := ⟨z.toNat, by omega⟩
    have hj : j < ds.length := by omega
    have hl2 := K2 _ _ hl1 nl
    have f22 := f21.mono fun _ _ q => Dq.keep (KpE.of K2) _ _ q
    obtain ⟨b, p, s, hs, ms, hbj, nb, hb, np, hp⟩ := step j hj f22
    refine ⟨_, rfl, _, rfl, l, _, _, _, rfl, rfl, SqL.of hl2, at_nat hbj, b, _, rfl, SqT.of hb, rfl, _, _, rfl, _, _, rfl, rfl, ?_⟩
    refine ⟨_, rfl, a, lw, lc, _, _, rfl, S2, by omega, by decide, by decide, fun y H3 y0 y7 S3 K3 => ?_⟩
    obtain ⟨wy, rfl⟩ : ∃ j : Nat, y = (j : Int) := ⟨y.toNat, by omega⟩
    have hl3 := K3 _ _ hl2 nl
    have f23 := f22.mono fun _ _ q => Dq.keep (KpE.of K3) _ _ q
    have hp3 := S2.tupK K3 hp
    obtain ⟨b9, p9, s9, hs9, ms9, hb9j, nb9, hb9, np9, hp9⟩ := step (ds.length - 1) (by omega) f23
    have elast : (((ws.length : Nat) : Int) - 1) = ((ds.length - 1 : Nat) : Int) := by omega
    refine ⟨_, rfl, _, rfl, l, _, rfl, .inl (SqL.of hl3), _, _, rfl, rfl, l, _, _, _, rfl, rfl, SqL.of hl3, by rw [elast]; exact at_nat hb9j, b9, _, _, _, rfl, rfl, SqT.of hb9, at_nat (k := 0) rfl, ?_⟩
    obtain ⟨b0, p0, s0, hs0, ms0, hb0j, nb0, hb0, np0, hp0⟩ := step 0 (by omega) f23
    refine ⟨_, rfl, _, rfl, l, _, _, _, rfl, rfl, SqL.of hl3, at_nat (k := 0) hb0j, b0, _, _, _, rfl, rfl, SqT.of hb0, at_nat (k := 0) rfl, le 6 (by decide), fun L nL => ?_⟩
    have q1 := same_upd (o := .lst [V.str "o", .str "vv", .str "", .str "A", .non, .str s0.1]) nL
    have nLw : L ≠ lw := fun z => (S3.new nL).1 (by simp [z])
    refine ⟨a, lw, lc, _, L, _, rfl, S3.same q1, by omega, upd_same, nLw, (by show 0 < 6; decide), (by show 6 ≤ 1000; decide), fun i xo H4 hxo S4 K4 => ?_⟩
    obtain ⟨eo, hxe, geo, deo⟩ : ∃ eo, Dq [a, lw] H4 xo eo ∧ gdb eo = true ∧ eo.depth ≤ 11 := by
      have fo : F2 (Dq [a, lw] H4) [V.str "o", .str "vv", .str "", .str "A", .non, .str s0.1] (.str "o" :: .str "vv" :: .str "" :: .str "A" :: .none :: .str s0.1 :: []) := .cons (.str _) (.cons (.str _) (.cons (.str _) (.cons (.str _) (.cons .non (.cons (.str _) .nil)))))
      obtain ⟨e, he, hq⟩ := fo.at_ hxo
      have me := List.mem_of_getElem? he
      simp only [List.mem_cons, List.not_mem_nil, or_false] at me
      refine ⟨e, hq, ?_⟩
      rcases me with rfl | rfl | rfl | rfl | rfl | rfl
      · exact ⟨by decide +kernel, by decide⟩
      · exact ⟨by decide +kernel, by decide⟩
      · exact ⟨by decide +kernel, by decide⟩
      · exact ⟨by decide +kernel, by decide⟩
      · exact ⟨by decide +kernel, by decide⟩
      · exact nms_g (ok.name s0 ms0)
    have K34 : Kp [a, lw] H3 H4 := (Kp.of q1).trans K4
    have hl4 := K34 _ _ hl3 nl
    have f24 := f23.mono fun _ _ q => Dq.keep (KpE.of K34) _ _ q
    have hp4 := S3.tupK K34 hp3
    have KA : Kp [a, lw] H H4 := (((Kp.of s1).trans K2).trans K3).trans K34
    -- the first four
    refine ⟨_, rfl, _, rfl, le 2 (by decide), fun t1 n1 => ⟨_, rfl, _, rfl, le 2 (by decide), fun t2 n2 => ⟨_, rfl, _, rfl, _, rfl, ?_⟩⟩⟩
    have u1 := same_upd (o := .tup [xo, .ref p]) n1
    have u2 := same_upd (o := .lst [V.str s.1, .ref p]) n2
    have T4 := S4.same u1
    have n1N := (S4.new n1).1
    have n2N := (T4.new n2).1
    have h1 := u2 _ _ (upd_same (H := H4) (a := t1) (o := .tup [xo, .ref p]))
    have h2 := upd_same (H := L2.upd H4 t1 (.tup [xo, .ref p])) (a := t2) (o := .lst [V.str s.1, .ref p])
    have u12 := u1.trans u2
    have S5 := S4.same u12
    generalize L2.upd (L2.upd H4 t1 (.tup [xo, .ref p])) t2 (.lst [V.str s.1, .ref p]) = H5 at u2 u12 h1 h2 S5
    have hp5 := u12 _ _ hp4
    refine ⟨a, lw, lc, _, p, s.2, rfl, S5, by omega, hp5, (ok.deed s ms).1, (ok.deed s ms).2, fun xb eb H6 hxb bb S6 K6 => ?_⟩
    have h16 := K6 _ _ h1 n1N
    have h26 := K6 _ _ h2 n2N
    have hp6 := S5.tupK K6 hp5
    refine ⟨le 2 (by decide), fun t3 n3 => ⟨_, rfl, _, rfl, _, rfl, le 3 (by decide), fun t4 n4 => ⟨le 4 (by decide), fun L1 nL1 => ?_⟩⟩⟩
    have u3 := same_upd (o := .tup [V.str s.1, xb]) n3
    have u4 := same_upd (o := .tup [V.str s.1, .ref p, .ref p]) n4
    have u5 := same_upd (o := .lst [V.ref t1, .ref t2, .ref t3, .ref t4]) nL1
    have T6 := S6.same u3
    have T7 := T6.same u4
    have n3N := (S6.new n3).1
    have n4N := (T6.new n4).1
    have nL1N := (T7.new nL1).1
    have h3 := (u4.trans u5) _ _ (upd_same (H := H6) (a := t3) (o := .tup [V.str s.1, xb]))
    have h4 := u5 _ _ (upd_same (H := L2.upd H6 t3 (.tup [V.str s.1, xb])) (a := t4) (o := .tup [V.str s.1, .ref p, .ref p]))
    have hL1 := upd_same (H := L2.upd (L2.upd H6 t3 (.tup [V.str s.1, xb])) t4 (.tup [V.str s.1, .ref p, .ref p])) (a := L1) (o := .lst [V.ref t1, .ref t2, .ref t3, .ref t4])
    have u35 := (u3.trans u4).trans u5
    have S7 := S6.same u35
    generalize L2.upd (L2.upd (L2.upd H6 t3 (.tup [V.str s.1, xb])) t4 (.tup [V.str s.1, .ref p, .ref p])) L1 (.lst [V.ref t1, .ref t2, .ref t3, .ref t4]) = H7 at u5 h3 h4 hL1 u35 S7
    -- the other three
    refine ⟨_, rfl, _, rfl, _, rfl, le 3 (by decide), fun v1 m1 => ⟨le 2 (by decide), fun v2 m2 => ⟨_, rfl, _, rfl, le 3 (by decide), fun v3 m3 => ⟨le 2 (by decide), fun v4 m4 => ⟨le 3 (by decide), fun L2' nL2 => ?_⟩⟩⟩⟩⟩
    have w1 := same_upd (o := .tup [V.str "gauge", .str "o", .str s.1]) m1
    have w2 := same_upd (o := .tup [V.str s.1, .ref v1]) m2
    have w3 := same_upd (o := .tup [V.str "gauge", .str "o", .str s9.1]) m3
    have w4 := same_upd (o := .tup [V.str s.1, .ref v3]) m4
    have w5 := same_upd (o := .lst [V.ref v2, .ref v4, .non]) nL2
    have R1 := S7.same w1
    have R2 := R1.same w2
    have R3 := R2.same w3
    have m1N := (S7.new m1).1
    have m2N := (R1.new m2).1
    have m3N := (R2.new m3).1
    have m4N := (R3.new m4).1
    have z5 := w5
    have z4 := w4.trans z5
    have z3 := w3.trans z4
    have z2 := w2.trans z3
    have z1' := w1.trans z2
    have g1 := z2 _ _ (upd_same (H := H7) (a := v1) (o := .tup [V.str "gauge", .str "o", .str s.1]))
    have g2 := z3 _ _ (upd_same (H := L2.upd H7 v1 (.tup [V.str "gauge", .str "o", .str s.1])) (a := v2) (o := .tup [V.str s.1, .ref v1]))
    have g3 := z4 _ _ (upd_same (a := v3) (o := .tup [V.str "gauge", .str "o", .str s9.1]))
    have g4 := z5 _ _ (upd_same (a := v4) (o := .tup [V.str s.1, .ref v3]))
    have hL1' := z1' _ _ hL1
    refine ⟨L1, L2', _, _, rfl, rfl, hL1', upd_same, le 7 (by decide), fun L3 nL3 => ?_⟩
    have w6 := same_upd (o := .lst ([V.ref t1, .ref t2, .ref t3, .ref t4] ++ [V.ref v2, .ref v4, .non])) nL3
    have z6 := z1'.trans w6
    have S8 := S7.same z6
    have hL3 := upd_same (H := L2.upd (L2.upd (L2.upd (L2.upd (L2.upd H7 v1 (.tup [V.str "gauge", .str "o", .str s.1])) v2 (.tup [V.str s.1, .ref v1])) v3 (.tup [V.str "gauge", .str "o", .str s9.1])) v4 (.tup [V.str s.1, .ref v3])) L2' (.lst [V.ref v2, .ref v4, .non])) (a := L3) (o := .lst ([V.ref t1, .ref t2, .ref t3, .ref t4] ++ [V.ref v2, .ref v4, .non]))
    have g1' := w6 _ _ g1
    have g2' := w6 _ _ g2
    have g3' := w6 _ _ g3
    have g4' := w6 _ _ g4
    generalize L2.upd (L2.upd (L2.upd (L2.upd (L2.upd (L2.upd H7 v1 (.tup [V.str "gauge", .str "o", .str s.1])) v2 (.tup [V.str s.1, .ref v1])) v3 (.tup [V.str "gauge", .str "o", .str s9.1])) v4 (.tup [V.str s.1, .ref v3])) L2' (.lst [V.ref v2, .ref v4, .non])) L3 (.lst ([V.ref t1, .ref t2, .ref t3, .ref t4] ++ [V.ref v2, .ref v4, .non])) = H8 at w6 z6 S8 hL3 g1' g2' g3' g4'
    have K48 : Kp [a, lw] H4 H8 := (((Kp.of u12).trans K6).trans (Kp.of u35)).trans (Kp.of z6)
    have K68 : Kp [a, lw] H6 H8 := (Kp.of u35).trans (Kp.of z6)
    have hl8 := K48 _ _ hl4 nl
    have f28 := f24.mono fun _ _ q => Dq.keep (KpE.of K48) _ _ q
    have dd8 : Dq [a, lw] H8 (.ref p) s.2.py := Dq.of_deed np (S4.tupK K48 hp4)
    have bd := BentD.deed (ok.deed s ms).1 (ok.deed s ms).2
    have ns := nms_g (ok.name s ms)
    have k68 : ∀ {c : Addr} {o : HO}, H6 c = some o → c ∉ [a, lw] → H8 c = some o := fun h n => K68 _ _ h n
    have fE : F2 (Dq [a, lw] H8) ([V.ref t1, .ref t2, .ref t3, .ref t4] ++ [V.ref v2, .ref v4, .non]) (.tuple [eo, s.2.py] :: .list [.str s.1, s.2.py] :: .tuple [.str s.1, eb] :: .tuple [.str s.1, s.2.py, s.2.py] :: .tuple [.str s.1, .tuple [.str "gauge", .str "o", .str s.1]] :: .tuple [.str s.1, .tuple [.str "gauge", .str "o", .str s9.1]] :: .none :: []) :=
      .cons (.tup n1N (k68 h16 n1N) (.cons (Dq.keep (KpE.of K48) _ _ hxe) (.cons dd8 .nil))) (.cons (.lst n2N (k68 h26 n2N) (.cons (.str _) (.cons dd8 .nil))) (.cons (.tup n3N (z6 _ _ h3) (.cons (.str _) (.cons (Dq.keep (KpE.of K68) _ _ hxb) .nil)))
        (.cons (.tup n4N (z6 _ _ h4) (.cons (.str _) (.cons dd8 (.cons dd8 .nil)))) (.cons (.tup m2N g2' (.cons (.str _) (.cons (.tup m1N g1' (.cons (.str _) (.cons (.str _) (.cons (.str _) .nil)))) .nil))) (.cons (.tup m4N g4' (.cons (.str _) (.cons (.tup m3N g3' (.cons (.str _) (.cons (.str _) (.cons (.str _) .nil)))) .nil))) (.cons .non .nil))))))
    have gau : ∀ z ∈ NMS, BentD (.tuple [.str "gauge", .str "o", .str z]) := fun z hz => BentD.tuple (by show 3 ≤ 1000; decide) fun e he => by
      simp only [List.mem_cons, List.not_mem_nil, or_false] at he
      rcases he with rfl | rfl | rfl
      · decide +kernel
      · decide +kernel
      · exact (nms_item z hz).1
    have allG : ∀ e ∈ (.tuple [eo, s.2.py] :: .list [.str s.1, s.2.py] :: .tuple [.str s.1, eb] :: .tuple [.str s.1, s.2.py, s.2.py] :: .tuple [.str s.1, .tuple [.str "gauge", .str "o", .str s.1]] :: .tuple [.str s.1, .tuple [.str "gauge", .str "o", .str s9.1]] :: .none :: [] : List PyData), StepG e := fun e he => by
      simp only [List.mem_cons, List.not_mem_nil, or_false] at he
      rcases he with rfl | rfl | rfl | rfl | rfl | rfl | rfl
      · exact StepG.pair geo deo bd
      · exact StepG.lst2 ns.1 ns.2 bd
      · exact StepG.pair ns.1 ns.2 bb
      · exact StepG.three ns.1 ns.2 bd
      · exact StepG.pair ns.1 ns.2 (gau _ (ok.name s ms))
      · exact StepG.pair ns.1 ns.2 (gau _ (ok.name s9 ms9))
      · exact .non
    have l7 : ([V.ref t1, .ref t2, .ref t3, .ref t4] ++ [V.ref v2, .ref v4, .non]).length = 7 := rfl
    generalize ([V.ref t1, .ref t2, .ref t3, .ref t4] ++ [V.ref v2, .ref v4, .non]) = some7 at hL3 fE l7
    generalize (.tuple [eo, s.2.py] :: .list [.str s.1, s.2.py] :: .tuple [.str s.1, eb] :: .tuple [.str s.1, s.2.py, s.2.py] :: .tuple [.str s.1, .tuple [.str "gauge", .str "o", .str s.1]] :: .tuple [.str s.1, .tuple [.str "gauge", .str "o", .str s9.1]] :: .none :: [] : List PyData) = es7 at fE allG
    have hw7 : wy < some7.length := by omega
    obtain ⟨e, he, hxe7⟩ := fE.at_ (List.getElem?_eq_getElem hw7)
    have eG := allG e (List.mem_of_getElem? he)
    have c1 : cutV ws none (some (j : Int)) = ws.take j := cut_to (by omega)
    have e1 : ((j : Int) + 1) = ((j + 1 : Nat) : Int) := by omega
    have c2 : cutV ws (some ((j : Int) + 1)) none = ws.drop (j + 1) := by
      rw [e1]
      exact cut_drop (by omega)
    refine ⟨_, rfl, _, rfl, _, rfl, l, _, rfl, SqL.of hl8, fun p1 np1 => ?_⟩
    rw [c1]
    have x1 := same_upd (o := .lst (ws.take j)) np1
    have hp1 := upd_same (H := H8) (a := p1) (o := .lst (ws.take j))
    generalize L2.upd H8 p1 (.lst (ws.take j)) = G1 at x1 hp1
    refine ⟨_, rfl, _, rfl, L3, _, _, _, rfl, rfl, SqL.of (x1 _ _ hL3), at_nat (List.getElem?_eq_getElem hw7), le 1 (by decide), fun p2 np2 => ?_⟩
    have x2 := same_upd (o := .lst [some7[wy]]) np2
    have hp2 := upd_same (H := G1) (a := p2) (o := .lst [some7[wy]])
    refine ⟨p1, p2, _, _, rfl, rfl, x2 _ _ hp1, hp2, le _ (by rw [List.length_take]; show _ + 1 ≤ 1000; omega), fun p3 np3 => ?_⟩
    have x3 := same_upd (o := .lst (ws.take j ++ [some7[wy]])) np3
    have hp3' := upd_same (H := L2.upd G1 p2 (.lst [some7[wy]])) (a := p3) (o := .lst (ws.take j ++ [some7[wy]]))
    have x123 := (x1.trans x2).trans x3
    generalize L2.upd (L2.upd G1 p2 (.lst [some7[wy]])) p3 (.lst (ws.take j ++ [some7[wy]])) = G3 at x3 x123 hp3'
    refine ⟨_, rfl, _, rfl, _, _, rfl, rfl, _, rfl, tNoPart_in ⟨l, _, rfl, SqL.of (x123 _ _ hl8), fun p4 np4 => ?_⟩⟩
    rw [c2]
    have x4 := same_upd (o := .lst (ws.drop (j + 1))) np4
    refine ⟨p3, p4, _, _, rfl, rfl, x4 _ _ hp3', upd_same, le _ (by rw [List.length_append, List.length_take, List.length_drop]; show _ + 1 + _ ≤ 1000; omega), fun p5 np5 => ?_⟩
    have x5 := same_upd (o := .lst (ws.take j ++ [some7[wy]] ++ ws.drop (j + 1))) np5
    have xA := (x123.trans x4).trans x5
    have np5N := (S8.new ((x123.trans x4).free np5)).1
    refine k _ (.list ((ds.map stepPy).take j ++ [e] ++ (ds.map stepPy).drop (j + 1))) _ (.lst np5N upd_same (DqAll.of ?_)) (DrawD.list ?_ fun e' he' => ?_) ((S8.same xA).more (by omega)) ((KA.trans K48).trans (Kp.of xA))
    · exact ((F2.take j (f28.mono fun _ _ q => q.same xA)).app (.cons (hxe7.same xA) .nil)).app (F2.drop (j + 1) (f28.mono fun _ _ q => q.same xA))
    · rw [List.length_append, List.length_append, List.length_take, List.length_drop, List.length_map]
      show _ + 1 + _ ≤ 1000
      omega
    · rcases List.mem_append.mp he' with he' | he'
      · rcases List.mem_append.mp he' with he' | he'
        · exact ok.g e' (List.mem_of_mem_take he')
        · rw [List.mem_singleton.mp he']
          exact eG
      · exact ok.g e' (List.mem_of_mem_drop he')
end
end Own
set_option Elab.async false
set_option linter.all false
set_option maxRecDepth 100000
set_option maxHeartbeats 400000
namespace Own
open PySem PySem.Spec PyProof.Rows L2 LamX
/-! ### lambdas handed to _law_caught -/
theorem kit_self {K : PySem.W.Frag} (t : Value) : PySem.W.kitOne K t t = some true := by
  unfold PySem.W.kitOne
  rw [if_pos (beq_self_eq_true t)]
theorem scCaught : FnScope ["_law_action", "_law_found", "_law_error"] ["_law_action"] (defScope sCaught) := ⟨rfl, rfl, rfl, by decide +kernel, rfl, by decide +kernel, by decide +kernel⟩
theorem pe_caught {X : Cx} {k : Nat} {c : Addr} {tb fC CR : Addr} {dC : FuncData} {TT : List (Addr × Str)} {params : Arguments} {body : Expr} {scope : Scope} {t : XK → TE} {p lpos pos : Pos} (FC : FnP X.K "_law_caught" sCaught fC dC) (gC : X.mg "_law_caught" = some (.ref fC)) (hg : Gl X "_law_caught") (gR : X.mg "RulerError" = some (.ref CR))
    (TB : TabB X.base X.mg c tb) (hcode : X.env.code = .ref c) (hm : (tb, X.env.qual ++ "<lambda>") ∈ TT) (hun : ∀ p ∈ TT, p.1 = tb → p.2 = X.env.qual ++ "<lambda>") (hr : Room (k + 2) X.A) {sc : Scope} (hsc : X.env.scope = sc) (L : LamS sc scope) (hdef : defaultsOf params X.env = ([], []))
    (hbind : ∀ (q : Str) (cl : List (Str × Addr)) (pm cv ctv : Value), bindArgs (PySem.W.kla_fn "<lambda>" q params body scope cl pm cv ctv) ⟨[], []⟩ = pure [])
    (hbody : ∀ (A : Around) (outer : List Env) (s : Shared) (H : Hp) (E : XK) (f c' : Addr), Room k (A.deeper (lamEnv X scope s.heap.objs.size f c')) → PE (lamCx X A outer s H E scope f c') body (t E)) :
    PE X (.Call (.Name "_law_caught" p) [.Lambda params body scope lpos] [] pos) (tLam TT (TKeep X.K CR) t) := by
  have bC : Binds X.K dC ["_law_action"] [] := FC.bindsN fun _ _ _ _ _ _ us hl => match us, hl with | [_], _ => rfl
  have kp := FC.kp
  obtain ⟨oc, od, dV, kV, doc, pm, an, cdv, ct, osl, rfl, lk, hcd, hdf, _⟩ := FC.ex
  exact pe_lamcall hg gC kp lk hcd bC scCaught rfl (Or.inl rfl) (keep_gives rfl scCaught.nd rfl rfl rfl gR (by decide) (by decide) (by decide) (by decide) (by decide)) TB hcode hm hun hr (hsc ▸ L) hdef hbind hbody
theorem code_is {K : PySem.W.Frag} {x qual : Str} {params : Arguments} {body : List Stmt} {scope : Scope} {f : Addr} {cdv : Value} {d : Str × Option Str} (hf : f = He.fAd K d)
    (h : ∃ (oc : Value) (od : Option Addr) (dV kV doc pm : Value) (an : Option Addr) (ct : Value) (osl : Array (Option Value)), K.lookup f = some ⟨oc, od, .func (PySem.W.fnOf x qual params body scope dV kV doc pm an cdv ct), osl⟩) (hc : PySem.W.codeIn K cdv qual = true) : cdv = .ref (He.codeOf K d) := by
  obtain ⟨oc, od, dV, kV, doc, pm, an, ct, osl, lk⟩ := h
  obtain ⟨c, rfl⟩ := He.codeIn_ref hc
  have e : He.codeOf K d = c := He.codeOf_eq (by rw [← hf]; exact lk) rfl
  rw [e]
theorem StA.extN {H H' : Hp} {a lw lc : Addr} {t : Nat} (S : StA H a lw lc t) (e : ExtN H H') : StA H' a lw lc t := by
  obtain ⟨⟨ws, cs, r, u, h1, h2, h3, h4⟩, ne⟩ := S
  exact ⟨⟨ws, cs, r, u, e _ _ h1 (fun _ q => by cases q), e _ _ h2 (fun _ q => by cases q), e _ _ h3 (fun _ q => by cases q), h4⟩, ne⟩
theorem Tabs.kp {TT : List (Addr × Str)} {H H' : Hp} {a lw lc : Addr} {t : Nat} (T : Tabs TT H) (S : StA H a lw lc t) (k : Kp [a, lw] H H') : Tabs TT H' := by
  obtain ⟨⟨ws, cs, r, u, g1, g2, _⟩, _⟩ := S
  intro p hp
  obtain ⟨ps, h1, h2, h3⟩ := T p hp
  have off : ∀ {b : Addr} {o : HO}, H b = some o → (∀ kvs, o ≠ .dK kvs) → (∀ xs, o ≠ .lst xs) → b ∉ [a, lw] := fun {b o} hb n1 n2 => by
    have q1 : b ≠ a := ne_of hb g1 (n1 _)
    have q2 : b ≠ lw := ne_of hb g2 (n2 _)
    simp [q1, q2]
  refine ⟨ps, k _ _ h1 (off h1 (fun _ z => by cases z) (fun _ z => by cases z)), h2, fun pos cv hc => ?_⟩
  obtain ⟨c, e1, e2⟩ := h3 pos cv hc
  exact ⟨c, e1, k _ _ e2 (off e2 (fun _ z => by cases z) (fun _ z => by cases z))⟩
def TupK (H H' : Hp) : Prop := ∀ b ys, H b = some (.tup ys) → H' b = some (.tup ys)
theorem TupK.refl (H : Hp) : TupK H H := fun _ _ h => h
theorem TupK.trans {H H1 H2 : Hp} (a : TupK H H1) (b : TupK H1 H2) : TupK H H2 := fun c ys h => b c ys (a c ys h)
theorem TupK.of {H H' : Hp} (e : Same H H') : TupK H H' := fun b ys h => e b _ h
theorem TupK.kp {H H' : Hp} {a lw lc : Addr} {t : Nat} (S : StA H a lw lc t) (k : Kp [a, lw] H H') : TupK H H' := fun _ _ h => S.tupK k h
theorem TupK.put {H : Hp} {b : Addr} {l : List V} (e : H b = some (.lst l)) (o : HO) : TupK H (L2.upd H b o) := fun c ys h => by
  rw [upd_ne (ne_of h e (by intro z; cases z))]
  exact h
theorem TupK.ext {H H' : Hp} (e : ExtN H H') : TupK H H' := fun b ys h => e b _ h fun _ z => by cases z
theorem kb_two {K : PySem.W.Frag} {x qual : Str} {params : Arguments} {body : List Stmt} {scope : Scope} {kws : List (Str × V)} {f : Addr} {fd : FuncData} {p q : Str} (F : FunD K x qual params body scope [] kws f fd)
    (h : ∀ (kV doc pm : Value) (an : Option Addr) (cdv ct u v : Value), bindArgs (PySem.W.fnOf x qual params body scope .none kV doc pm an cdv ct) ⟨[], [(p, u), (q, v)]⟩ = pure [(p, u), (q, v)]) : KBn K fd [p, q] 0 [p, q] (fun _ ws => ws) (fun _ zs => zs) := by
  obtain ⟨oc, od, dV, kV, doc, pm, an, cdv, ct, osl, rfl, lk, hcd, hD, hK⟩ := F.ex
  refine ⟨fun s us ws X l1 l2 => ?_, fun _ r => r⟩
  match us, ws, l1, l2 with
  | [], [u, v], _, _ =>
    rcases hD with ⟨_, rfl⟩ | ⟨e, _⟩
    · exact .of_eq (h kV doc pm an cdv ct u v)
    · exact absurd rfl e
theorem call_isXK {X : Cx} {K : PySem.W.Frag} (h : X.K = K) : CallR X (.builtin "isinstance") (rIsX K) := h ▸ call_isX
abbrev qTR : Str := ("_law_told_right" : Str) ++ ".<locals>." ++ "<lambda>"
abbrev qER : Str := ("_law_errors_right" : Str) ++ ".<locals>." ++ "<lambda>"
/-- the two tables -/
abbrev TTs (tt te : Addr) : List (Addr × Str) := [(tt, qTR), (te, qER)]
theorem TTs.cases {tt te : Addr} {p : Addr × Str} (h : p ∈ TTs tt te) : p = (tt, qTR) ∨ p = (te, qER) := by simpa using h
theorem TTs.t {tt te : Addr} (A : tt ≠ te) : ∀ p ∈ TTs tt te, p.1 = tt → p.2 = qTR := fun p hp e => by
  rcases TTs.cases hp with rfl | rfl
  · rfl
  · exact absurd e.symm A
theorem TTs.e {tt te : Addr} (A : tt ≠ te) : ∀ p ∈ TTs tt te, p.1 = te → p.2 = qER := fun p hp e => by
  rcases TTs.cases hp with rfl | rfl
  · exact absurd e A
  · rfl
theorem KpE.ext {xs : List Addr} {H H' : Hp} (k : ExtN H H') : KpE xs H H' := fun b o e _ n => k b o e n
/-- all but the state and the tables is as it was -/
structure Stay (a lw lc : Addr) (t : Nat) (TT : List (Addr × Str)) (H H' : Hp) : Prop where
  s : StA H' a lw lc t
  t : Tabs TT H'
  k : KpE [a, lw] H H'
theorem Stay.same {a lw lc : Addr} {t : Nat} {TT : List (Addr × Str)} {H H1 H2 : Hp} (h : Stay a lw lc t TT H H1) (e : Same H1 H2) : Stay a lw lc t TT H H2 := ⟨h.s.same e, h.t.ext e, h.k.trans (KpE.same e _)⟩
theorem Stay.ext {a lw lc : Addr} {t : Nat} {TT : List (Addr × Str)} {H H1 H2 : Hp} (h : Stay a lw lc t TT H H1) (e : ExtN H1 H2) (T : Tabs TT H2) : Stay a lw lc t TT H H2 := ⟨h.s.extN e, T, h.k.trans (KpE.ext e)⟩
theorem Stay.kp {a lw lc : Addr} {t t' : Nat} {TT : List (Addr × Str)} {H H1 H2 : Hp} (h : Stay a lw lc t TT H H1) (S : StA H2 a lw lc t') (k : Kp [a, lw] H1 H2) : Stay a lw lc t' TT H H2 := ⟨S, Tabs.kp h.t h.s k, h.k.trans (KpE.of k)⟩
theorem Stay.more {a lw lc : Addr} {t t' : Nat} {TT : List (Addr × Str)} {H H1 : Hp} (h : Stay a lw lc t TT H H1) (l : t ≤ t') : Stay a lw lc t' TT H H1 := ⟨h.s.more l, h.t, h.k⟩
theorem Stay.dq {a lw lc : Addr} {t : Nat} {TT : List (Addr × Str)} {H H1 : Hp} (h : Stay a lw lc t TT H H1) {x : V} {d : PyData} (q : Dq [a, lw] H x d) : Dq [a, lw] H1 x d := Dq.keep h.k _ _ q
theorem Stay.tup {a lw lc : Addr} {t : Nat} {TT : List (Addr × Str)} {H H1 : Hp} (h : Stay a lw lc t TT H H1) {b : Addr} {xs : List V} (n : b ∉ [a, lw]) (q : H b = some (.tup xs)) : H1 b = some (.tup xs) := h.k _ _ q n fun _ z => by cases z
theorem Stay.lst {a lw lc : Addr} {t : Nat} {TT : List (Addr × Str)} {H H1 : Hp} (h : Stay a lw lc t TT H H1) {b : Addr} {xs : List V} (n : b ∉ [a, lw]) (q : H b = some (.lst xs)) : H1 b = some (.lst xs) := h.k _ _ q n fun _ z => by cases z
end Own
set_option Elab.async false
set_option linter.all false
set_option maxRecDepth 100000
set_option maxHeartbeats 400000
namespace Own
open PySem PySem.Spec PyProof.Rows L2 LamX
/-! ### names, tool and exchanged names, told right -/
structure ErrK (K : PySem.W.Frag) (mg : Str → Option Value) (CR : Addr) (x : Str) (C : Addr) : Prop where
  e : ExcT K mg x C
  c : ExcC K C
  x : PySem.W.exmOne K (.ref C) (.ref CR) = some true
theorem FunD.okC {P : Program} {w : World} {K : PySem.W.Frag} {mg : Str → Option Value} {base : Heap} {x qual : Str} {params : Arguments} {body : List Stmt} {scope : Scope} {dvs : List V} {kws : List (Str × V)} {f : Addr} {fd : FuncData} {CX : CXT} {N ps : List Str} {k : Nat} {sp : Sp} {d : Str × Option Str}
    (F : FunD K x qual params body scope dvs kws f fd) (hf : f = He.fAd K d) (S : FnScope N ps scope) (len : ∀ vs H Q E, sp vs H Q E → vs.length = ps.length)
    (hbody : ∀ (A : Around) (outer : List Env) (s : Shared) (H : Hp) (vs : List V) (Q : VK) (E : XK), Room k (A.deeper (envOfC qual scope s.heap.objs.size f (.ref (He.codeOf K d)))) → sp vs H Q E →
      ∃ t, PSs (cxOf CX P w K mg base N qual scope f (.ref (He.codeOf K d)) A outer s H E) body t ∧ t { nx := fun _ H' => Q .non H', rt := Q } (L2.start N vs) H) : FnOk P w K mg base CX (k + 1) f fd ps sp := by
  obtain ⟨oc, od, dV, kV, doc, pm, an, cdv, ct, osl, rfl, lk, hcd, _, _⟩ := F.ex
  obtain ⟨c, rfl⟩ := He.codeIn_ref hcd
  have e : He.codeOf K d = c := He.codeOf_eq (by rw [← hf]; exact lk) rfl
  refine fn_of lk hcd S len fun A outer s H vs Q E hr hsp => ?_
  have := hbody A outer s H vs Q E (by rw [e]; exact hr) hsp
  rw [e] at this
  exact this
theorem sl_tupK {X : Cx} {K : PySem.W.Frag} (h : X.K = K) : SlR X (rSlT K) := h ▸ sl_tup
/-! #### the table -/
def EntN (kv : Key × V) : Prop := ∃ z y, kv = (Sum.inr z, .str y) ∧ NameOk z ∧ NameOk y
theorem put_entN {kvs : List (Key × V)} {k : Key} {v : V} (h : ∀ kv ∈ kvs, EntN kv) (hk : EntN (k, v)) : (∀ kv ∈ putK kvs k v, EntN kv) ∧ (putK kvs k v).length ≤ kvs.length + 1 := by
  unfold putK
  by_cases c : (kvs.any fun kv => decide (kv.1 = k)) = true
  · rw [if_pos c]
    refine ⟨fun kv hkv => ?_, by rw [List.length_map]; omega⟩
    obtain ⟨q, hq, rfl⟩ := List.mem_map.mp hkv
    by_cases e : q.1 = k
    · rw [if_pos e, e]
      exact hk
    · rw [if_neg e]
      exact h q hq
  · rw [if_neg c]
    refine ⟨fun kv hkv => ?_, by rw [List.length_append]; exact Nat.le_refl _⟩
    rcases List.mem_append.mp hkv with q | q
    · exact h kv q
    · rw [List.mem_singleton.mp q]
      exact hk
theorem merge_entN : ∀ (prs kvs : List (Key × V)), (∀ kv ∈ kvs, EntN kv) → (∀ kv ∈ prs, EntN kv) → (∀ kv ∈ mergeK kvs prs, EntN kv) ∧ (mergeK kvs prs).length ≤ kvs.length + prs.length
  | [], kvs, h, _ => ⟨h, Nat.le_refl _⟩
  | q :: prs, kvs, h, g => by
    obtain ⟨p1, p2⟩ := put_entN h (show EntN (q.1, q.2) from g q List.mem_cons_self)
    obtain ⟨r1, r2⟩ := merge_entN prs (putK kvs q.1 q.2) p1 fun kv hkv => g kv (List.mem_cons_of_mem _ hkv)
    refine ⟨r1, ?_⟩
    show (mergeK (putK kvs q.1 q.2) prs).length ≤ _
    rw [List.length_cons]
    omega
theorem name_gdb {z : Str} (h : NameOk z) : vdb (.str z) = true := by
  refine vdb_of ?_
  have f := fok_name h
  have l := h.1
  show (_ && (decide ((0 : Nat) ≤ 50) && decide (z.length ≤ 1000))) = true
  rw [decide_eq_true (by omega : z.length ≤ 1000), Bool.and_true, Bool.and_eq_true]
  exact ⟨f, rfl⟩
theorem EntN.ok {kv : Key × V} (h : EntN kv) : entOk kv = true ∧ entB kv = true := by
  obtain ⟨z, y, rfl, hz, hy⟩ := h
  constructor
  · show (vdb (.str z) && (fok (.str y) && vdb (.str y))) = true
    rw [name_gdb hz, name_gdb hy, fok_name hy]
    rfl
  · show (decide (NameOk z) && decide (NameOk y)) = true
    rw [decide_eq_true hz, decide_eq_true hy]
    rfl
theorem entN_look {kvs : List (Key × V)} (h : ∀ kv ∈ kvs, EntN kv) (z : Str) (hz : NameOk z) : ∃ y, (valV kvs (.inr z)).getD (.str z) = .str y ∧ NameOk y := by
  cases e : valV kvs (.inr z) with
  | none => exact ⟨z, rfl, hz⟩
  | some v =>
    have m : ∃ kv ∈ kvs, kv.2 = v := by
      unfold valV at e
      cases e2 : kvs.find? (fun p => decide (p.1 = Sum.inr z)) with
      | none =>
        rw [e2] at e
        cases e
      | some q =>
        rw [e2] at e
        exact ⟨q, List.mem_of_find?_eq_some e2, Option.some.inj e⟩
    obtain ⟨kv, hkv, rfl⟩ := m
    obtain ⟨x, y, rfl, _, hy⟩ := h kv hkv
    exact ⟨y, rfl, hy⟩
theorem onV_fok {kvs : List (Key × V)} {d : Deed} (h : ∀ kv ∈ kvs, EntN kv) (ok : DeedOk d) : (onV kvs d).all fok = true := by
  obtain ⟨m, k, hm, nm, okN, nk, okW⟩ := ok
  unfold onV
  rw [List.all_cons, List.all_append, fok_ints, Bool.and_true, Bool.and_eq_true, List.all_eq_true]
  refine ⟨(form_facts _ hm).2.1, fun x hx => ?_⟩
  obtain ⟨z, hz, rfl⟩ := List.mem_map.mp hx
  obtain ⟨y, e, hy⟩ := entN_look h z (okN z hz)
  rw [e]
  exact fok_name hy
theorem form_two : ∀ t ∈ FORM, 2 ≤ t.2.1 ∧ fok (.str (toolS t.1)) = true := by decide +kernel
theorem quad_ok : ∀ z ∈ ("a" :: "b" :: "q" :: "o" :: [] : List Str), NameOk z := by decide +kernel
theorem trio_ok : ∀ z ∈ ("a" :: "b" :: "zz" :: [] : List Str), NameOk z := by decide +kernel
def OTHK : List (Key × V) := OTHL.map fun t => (Sum.inr t.1, V.str t.2)
theorem oth_look : ∀ t ∈ FORM, (valV OTHK (Sum.inr t.1)).getD (.str t.1) = .str (toolS t.1) := by decide +kernel
theorem oth_new : mergeK [] OTHK = OTHK := by kernel_rfl
theorem shp3 {K : PySem.W.Frag} {H : Hp} {xs ys : List V} {z : Str} (hx : xs.all fok = true) (hy : ys.all fok = true) (hz : fok (.str z) = true) : SeqAt.shaped (.list [.tuple (xs.map fd), .str z, .tuple (ys.map fd)]) = true := by
  obtain ⟨_, a1, a2⟩ := dp_flat (K := K) (H := H) hx
  obtain ⟨_, b1, b2⟩ := dp_flat (K := K) (H := H) hy
  have hz' : (PyData.str z).canLay0 = true := hz
  show ((PyData.canLayAll0 (xs.map fd) && ((PyData.str z).canLay0 && (PyData.canLayAll0 (ys.map fd) && true))) && decide (max (PyData.depthAll (xs.map fd) + 1) (max 0 (max (PyData.depthAll (ys.map fd) + 1) 0)) + 1 ≤ 64)) = true
  rw [a1, b1, hz', a2, b2]
  rfl
theorem disp_same {H : Hp} {q : Addr} {kvs : List (Key × V)} (nq : H q = none) : Same H (L2.upd (L2.upd H q (.dK [])) q (.dK kvs)) := fun b o e => by
  rw [upd_ne (ne_of_none e nq), upd_ne (ne_of_none e nq)]
  exact e
def ODT1 : List (Key × V) := (Sum.inr "a", .non) :: []
def ODT2 : List (Key × V) := (Sum.inr "", .str "a") :: []
def ODT3 : List (Key × V) := (Sum.inr "a", .str "B") :: []
def ODT4 : List (Key × V) := (Sum.inl 1, .str "a") :: []
theorem odt_new : mergeK [] ODT1 = ODT1 ∧ mergeK [] ODT2 = ODT2 ∧ mergeK [] ODT3 = ODT3 ∧ mergeK [] ODT4 = ODT4 := ⟨by kernel_rfl, by kernel_rfl, by kernel_rfl, by kernel_rfl⟩
theorem odt_bad : ∀ l ∈ [ODT1, ODT2, ODT3, ODT4], l.length ≤ 1000 ∧ l.all entOk = true ∧ l.all entB = false := by decide +kernel
/-- what is no table of names -/
def OddT (N : List Addr) (H : Hp) (x : V) : Prop := (∃ d, Dq N H x d ∧ isD d = false) ∨ ∃ b kvs, x = .ref b ∧ b ∉ N ∧ H b = some (.dK kvs) ∧ kvs.length ≤ 1000 ∧ kvs.all entOk = true ∧ kvs.all entB = false
theorem OddT.keep {N : List Addr} {H H' : Hp} {x : V} (h : OddT N H x) (k : KpE N H H') : OddT N H' x := by
  rcases h with ⟨d, q, e⟩ | ⟨b, kvs, rfl, n, hb, r⟩
  · exact .inl ⟨d, Dq.keep k _ _ q, e⟩
  · exact .inr ⟨b, kvs, rfl, n, k _ _ hb n fun _ z => by (cases z), r⟩
theorem OddT.bad {N : List Addr} {H : Hp} {x : V} (h : OddT N H x) : BadT H x := by
  rcases h with ⟨d, q, e⟩ | ⟨b, kvs, rfl, n, hb, l, r1, r2⟩
  · exact .inl ⟨d, q.none_N, e⟩
  · exact .inr ⟨kvs, ⟨b, rfl, hb, l, r1⟩, r2⟩
def spTold (tt te : Addr) : Sp := fun vs H Q _ => ∃ (a lw lc : Addr) (t : Nat) (p : Addr) (d : Deed), vs = [.ref a, .ref p] ∧ StA H a lw lc t ∧ t < 2 ^ 38 ∧ H p = some (.tup d.vs) ∧ DeedOk d ∧ (∀ z ∈ d.names, z ∈ NMS) ∧ Tabs (TTs tt te) H ∧
  ∀ H', Stay a lw lc (t + 10) (TTs tt te) H H' → Q (.bl true) H'
end Own
set_option Elab.async false
set_option linter.all false
set_option maxRecDepth 100000
set_option maxHeartbeats 1000000
namespace Own
open PySem PySem.Spec PyProof.Rows L2 LamX
abbrev nsTold : List Str := ["_law_state", "_law_deed_here", "_law_names", "_law_once", "_law_spot", "_law_name_here", "_law_tool", "_law_table", "_law_due", "_law_odd"]
theorem scTold : FnScope nsTold ["_law_state", "_law_deed_here"] (defScope sToldR) := ⟨rfl, rfl, rfl, by decide +kernel, rfl, by decide +kernel, by decide +kernel⟩
section
variable {P : Program} {w : World} {K : PySem.W.Frag} {mg : Str → Option Value} {base : Heap} {CD CT CR fC tt te : Addr} {fd2 dP dF dM dT dO dC : FuncData}
theorem ok_told (F : FnP K "_law_told_right" sToldR (He.ga K "_law_told_right") fd2) (hf : He.ga K "_law_told_right" = He.fAd K ("_law_told_right", none)) (KP : Fk P w K mg base CX0 3 "_law_pick" dP ["_law_state", "_law_some"] (spPick K)) (KF : Fk P w K mg base CX0 1 "_law_forms" dF [] spForms)
    (FM : FnP K "names_of" sNames (He.ga K "names_of") dM) (KM : Fk P w K mg base (L2.CX P w) 4 "names_of" dM ["deed"] (spOfDeed NOW CD rNames)) (FT : FnP K "tool_of" sTool (He.ga K "tool_of") dT) (KT : Fk P w K mg base (L2.CX P w) 4 "tool_of" dT ["deed"] (spOfDeed NOW CD rTool))
    (FO : FnP K "on_names" sOnNames (He.ga K "on_names") dO) (KO : Fk P w K mg base (L2.CX P w) 4 "on_names" dO ["deed", "table"] (spOnNames NOW CD CT)) (FC : FnP K "_law_caught" sCaught fC dC) (gC : mg "_law_caught" = some (.ref fC)) (gR : mg "RulerError" = some (.ref CR)) (BT : ErrK K mg CR "BadTable" CT)
    (TB : TabB base mg (He.codeOf K ("_law_told_right", none)) tt) (A2 : tt ≠ te) (T : Txt K mg) :
    FnOk P w K mg base CX0 7 (He.ga K "_law_told_right") fd2 ["_law_state", "_law_deed_here"] (spTold tt te) := by
  have kM := kb_one FM (p := "deed") fun _ _ _ _ _ _ _ => rfl
  have kT := kb_one FT (p := "deed") fun _ _ _ _ _ _ _ => rfl
  have kO := kb_two FO (p := "deed") (q := "table") fun _ _ _ _ _ _ _ _ => rfl
  refine FunD.okC F hf scTold (fun vs H Q E h => ?_) (fun A outer s H vs Q E hr h => ?_)
  · obtain ⟨a, lw, lc, t, p, d, rfl, _⟩ := h
    rfl
  · obtain ⟨a, lw, lc, t, p, d, rfl, S, ht, hp, ok, hnm, hT, k⟩ := h
    have hu := hu_of hr
    have hr1 := hr.mono (show 1 ≤ 6 by decide)
    have hr3 := hr.mono (show 3 ≤ 6 by decide)
    have hr4 := hr.mono (show 4 ≤ 6 by decide)
    refine ⟨_, PSs.nox (pss_cons (ps_set (i := 2) scTold.nd rfl (.inr rfl) (pe_slice sl_tup (pv 1) (po_some pe_int) (po_some (pe_op op_add pe_int (pe_dget hu (pe_call0 KF.ok hr1 (by rfl) KF.g KF.kp KF.b .nil pass0) (pe_ix ix_tup (pv 1) pe_int (fun _ _ => rfl)) (fun _ _ => rfl))))))
      (pss_cons (ps_setLc (i := 3) (own := [("_law_spot", 4), ("_law_name_here", 5)]) (g := gTup K 2 (gCons (gName 4) (gCons (gName 5) gNil))) (by rfl) scTold.nd rfl rfl (sw_true rfl rfl rfl (by decide +kernel)) (pi_enumS (by rfl) T.enum (pa_cons (pv 2) pa_nil)) (blkOk_by (own := [("_law_spot", 4), ("_law_name_here", 5)]) (N := nsTold) (sc := defScope sToldR) (by decide +kernel))
          (fun _ _ _ _ _ => pg_tup rfl (pgs_cons (pg_name (i := 4) scTold.nd rfl (Or.inl rfl)) (pgs_cons (pg_name (i := 5) scTold.nd rfl (Or.inl rfl)) pgs_nil))) (fun _ _ _ _ _ => pts_one (pt_cmpR (op_notInK (K := K) rfl) (pv 5) (pe_slice (sl_tupK (K := K) rfl) (pv 2) po_none (po_some (pv 4))) (by rfl))) (fun _ _ _ _ _ => pv 5))
      (pss_cons (ps_set (i := 6) scTold.nd rfl (.inl rfl) (pe_dget2 hu (pe_disp (pps_cons pe_str pe_str (pps_cons pe_str pe_str (pps_cons pe_str pe_str pps_nil))) (by rfl) (by rfl) (fun z => by cases z) (by decide)) (pe_ix ix_tup (pv 1) pe_int (fun _ _ => rfl)) (pe_ix ix_tup (pv 1) pe_int (fun _ _ => rfl)) ⟨rfl, rfl, rfl, rfl⟩))
      (pss_cons (ps_set (i := 7) scTold.nd rfl (.inr rfl) (pe_callTy (call_dictP rfl) (by rfl) T.dict (by decide +kernel) (pa_cons (pe_lc (own := [("_law_name_here", 5)]) (g := gName 5) (tt := tYes) (by rfl) scTold.nd (pi_list (pe_lst (pa_cons pe_str (pa_cons pe_str (pa_cons pe_str (pa_cons (pe_ix ix_tup (pv 1) pe_int (fun _ _ => rfl)) pa_nil)))))) (blkOk_by (own := [("_law_name_here", 5)]) (N := nsTold) (sc := defScope sToldR) (by decide +kernel))
          (fun _ _ _ _ _ => pg_name (i := 5) scTold.nd rfl (Or.inl rfl)) (fun _ _ _ _ _ => pts_nil) (fun _ _ _ _ _ => pe_tup (pa_cons (pv 5) (pa_cons (pe_call KP.ok hr3 (by rfl) KP.g KP.kp KP.b .nil pass0 (pa_cons (pv 0) (pa_cons (pe_lst (pa_cons pe_str (pa_cons pe_str (pa_cons pe_str (pa_cons pe_str pa_nil))))) pa_nil))) pa_nil)))) pa_nil)))
      (pss_cons (ps_set (i := 8) scTold.nd rfl (.inl rfl) (pe_op op_catA (pe_op op_catA (pe_slice sl_tup (pv 1) po_none (po_some pe_int)) (pe_tupleOf (by rfl) T.tuple (pe_lc (own := [("_law_name_here", 5)]) (g := gName 5) (tt := tYes) (by rfl) scTold.nd (pi_tup (pv 2)) (blkOk_by (own := [("_law_name_here", 5)]) (N := nsTold) (sc := defScope sToldR) (by decide +kernel))
          (fun _ _ _ _ _ => pg_name (i := 5) scTold.nd rfl (Or.inl rfl)) (fun _ _ _ _ _ => pts_nil) (fun _ _ _ _ _ => pe_dget2 hu (pv 7) (pv 5) (pv 5) ⟨rfl, rfl, rfl, rfl⟩)))) (pe_slice sl_tupA (pv 1) (po_some (pe_op op_add pe_int (pe_callB call_len_seq (by rfl) T.len PySem.boot_len (pa_cons (pv 2) pa_nil)))) po_none)))
      (pss_cons (ps_if (pt_cmpR (op_neD hr.units) (pe_lst (pa_cons (pe_kw0 KM.ok hr4 (by rfl) KM.g KM.kp kM passL (pk_cons (pv 1) pk_nil)) (pa_cons (pe_kw0 KT.ok hr4 (by rfl) KT.g KT.kp kT passL (pk_cons (pv 1) pk_nil)) (pa_cons (pe_kw0 KO.ok hr4 (by rfl) KO.g KO.kp kO passL (pk_cons (pv 1) (pk_cons (pv 7) pk_nil))) pa_nil))))
          (pe_lst (pa_cons (pe_tupleOf (by rfl) T.tuple (pv 3)) (pa_cons (pv 6) (pa_cons (pv 8) pa_nil)))) (nomark _)) (pss_one (ps_ret pe_bl)) pss_nil)
      (pss_cons (ps_set (i := 9) scTold.nd rfl (.inr rfl) (pe_call KP.ok hr3 (by rfl) KP.g KP.kp KP.b .nil pass0 (pa_cons (pv 0) (pa_cons (pe_lst (pa_cons pe_non (pa_cons (pe_lst pa_nil) (pa_cons (pe_lst (pa_cons (pe_tup (pa_cons pe_str (pa_cons pe_str pa_nil))) pa_nil))
          (pa_cons (pe_disp (pps_cons pe_str pe_non pps_nil) (by rfl) (by rfl) (fun z => by cases z) (by decide)) (pa_cons (pe_disp (pps_cons pe_str pe_str pps_nil) (by rfl) (by rfl) (fun z => by cases z) (by decide)) (pa_cons (pe_disp (pps_cons pe_str pe_str pps_nil) (by rfl) (by rfl) (fun z => by cases z) (by decide)) (pa_cons (pe_disp (pps_cons pe_int pe_str pps_nil) (by rfl) (by rfl) (fun z => by cases z) (by decide)) pa_nil)))))))) pa_nil))))
      (pss_one (ps_ret (pe_callB call_isX (by rfl) T.isi boot_isinstance (pa_cons (pe_caught (k := 4) FC gC (by rfl) gR TB rfl List.mem_cons_self (TTs.t A2) hr (sc := defScope sToldR) rfl (lamS_by (by decide +kernel)) rfl (fun _ _ _ _ _ => rfl)
          (fun A' outer' s' H' E' f' c' hrr => pe_call KO.ok hrr (by rfl) KO.g KO.kp KO.b .nil (passes_call (takes_of rfl rfl rfl rfl) fun _ _ _ _ h => h) (pa_cons (pv 1) (pa_cons (pv 9) pa_nil)))) (pa_cons (pe_glob (v := .ref CT) (by rfl) BT.e.g rfl) pa_nil)))))))))))), ?_⟩
    obtain ⟨m, kk, hm, nm, okN, nk, okW⟩ := id ok
    have ns5 := form_small ok
    have le : ∀ n : Nat, n ≤ 1000 → n ≤ sizeLine := fun n h => Nat.le_trans h (by decide)
    have lt : ∀ n : Nat, n ≤ 1000 → n < sizeLine := fun n h => Nat.lt_of_le_of_lt h (by decide)
    -- the names
    refine ⟨_, rfl, _, rfl, rfl, fun fo H1 s1 nfo hfo => ⟨_, rfl, p, _, _, _, rfl, rfl, SqT.of (s1 _ _ hp), deed_head d, fo, _, rfl, dget_k (.inr d.word) hfo (fk_look _ hm), _, _, rfl, rfl, _, rfl, p, _, rfl, SqT.of (s1 _ _ hp), deed_notwhole, fun pn npn => ?_⟩⟩
    rw [deed_names nm]
    have s2 := same_upd (o := .tup (d.names.map V.str)) npn
    have hn2 := upd_same (H := H1) (a := pn) (o := .tup (d.names.map V.str))
    generalize L2.upd H1 pn (.tup (d.names.map V.str)) = H2 at s2 hn2
    have sA := s1.trans s2
    -- once each
    refine ⟨_, rfl, pn, rfl, .inr ⟨_, SqT.of hn2, fun D nD => ?_⟩⟩
    refine lc_it walk_enumT (fun i G => Same H2 G ∧ G D = some (.lst ((once (d.names.take i)).map V.str))) ⟨same_upd nD, upd_same⟩ (fun i G _ q => SqT.of (q.1 _ _ hn2)) ?_ ?_
    · rintro i x G G' hi ⟨sG, gD⟩ ⟨TT, u, v, rfl, nT, rfl, hu', hv'⟩
      obtain rfl : V.int (i : Nat) = u := Option.some.inj hu'
      obtain ⟨z, hz, rfl⟩ : ∃ z, d.names[i]? = some z ∧ v = .str z := by
        have hv' : (d.names.map V.str)[i]? = some v := hv'
        rw [List.getElem?_map] at hv'
        cases e : d.names[i]? with
        | none => rw [e] at hv'; cases hv'
        | some z => rw [e] at hv'; cases hv'; exact ⟨z, rfl, rfl⟩
      have sT := same_upd (o := .tup [V.int (i : Nat), V.str z]) nT
      have gD2 := sT _ _ gD
      refine ⟨TT, _, rfl, SqT.of upd_same, rfl, _, _, rfl, _, _, rfl, rfl, rfl, ?_⟩
      have hTT := upd_same (H := G) (a := TT) (o := .tup [V.int (i : Nat), V.str z])
      generalize L2.upd G TT (.tup [V.int (i : Nat), V.str z]) = G1 at sT gD2 hTT
      have sG1 := sG.trans sT
      have hi' : i < (d.names.map V.str).length := hi
      refine ⟨_, rfl, _, rfl, _, rfl, _, rfl, pn, _, rfl, SqT.of (sG1 _ _ hn2), ?_, fun q nq => ?_⟩
      · rintro ⟨_, h⟩
        have h' : HT.sIx (d.names.map V.str).length (d.names.map V.str).length (some ((i : Nat) : Int)) = (d.names.map V.str).length := h
        rw [HT.sIx_nat] at h'
        omega
      rw [cut_to (by omega), ← List.map_take]
      have sq := same_upd (o := .tup ((d.names.take i).map V.str)) nq
      refine ⟨q, _, rfl, .inr (SqT.of upd_same), rfl, flat_strs _, _, rfl, ?_⟩
      rw [inV_str]
      have em : decide (z ∈ d.names.take i) = decide (z ∈ once (d.names.take i)) := by
        rw [Bool.eq_iff_iff, decide_eq_true_iff, decide_eq_true_iff, once_mem]
      rw [em]
      have nDq : D ≠ q := ne_of_none gD2 nq
      by_cases hin : z ∈ once (d.names.take i)
      · rw [decide_eq_true hin]
        refine iteF ?_
        refine ⟨sG1.trans sq, ?_⟩
        rw [once_step _ _ _ hz, if_pos hin]
        exact sq _ _ gD2
      · rw [decide_eq_false hin]
        refine iteT ?_
        have ol := once_len (d.names.take i) []
        have ol2 : (once (d.names.take i)).length ≤ ([] : List Str).length + (d.names.take i).length := ol
        rw [List.length_take] at ol2
        have z0 : ([] : List Str).length = 0 := rfl
        refine ⟨_, rfl, _, sq _ _ gD2, by rw [List.length_map]; exact lt _ (by omega), ?_, ?_⟩
        · exact fun b o e => by
            rw [upd_ne (ne_of_none e nD)]
            exact (sG1.trans sq) b o e
        · rw [upd_same, once_step _ _ _ hz, if_neg hin, List.map_append]
          rfl
    rintro H3 ⟨s3, hD3⟩
    rw [List.length_map, List.take_length] at hD3
    have sB := sA.trans s3
    have hp3 := sB _ _ hp
    have hn3 := s3 _ _ hn2
    -- the tool
    intro q nq
    refine ⟨upd_same, OTHK, rfl, by decide, ?_⟩
    have s4 : Same H3 (L2.upd (L2.upd H3 q (.dK [])) q (.dK (mergeK [] OTHK))) := fun b o eb => by
      rw [upd_ne (ne_of_none eb nq), upd_ne (ne_of_none eb nq)]
      exact eb
    have hq : (L2.upd (L2.upd H3 q (.dK [])) q (.dK (mergeK [] OTHK))) q = some (.dK OTHK) := by
      rw [upd_same, oth_new]
    generalize L2.upd (L2.upd H3 q (.dK [])) q (.dK (mergeK [] OTHK)) = H4 at s4 hq
    have sC := sB.trans s4
    have hp4 := s4 _ _ hp3
    have hn4 := s4 _ _ hn3
    have hD4 := s4 _ _ hD3
    refine ⟨q, rfl, .inl ⟨_, .inl hq⟩, _, rfl, p, _, _, _, rfl, rfl, SqT.of hp4, deed_head d, _, rfl, p, _, _, _, rfl, rfl, SqT.of hp4, deed_head d, _, DGet.k (k := Sum.inr d.word) hq, ?_⟩
    rw [oth_look _ hm]
    -- the table
    obtain ⟨n0, nr, en⟩ : ∃ n0 r, d.names = n0 :: r := by
      have := (form_two _ hm).1
      have h2 : 2 ≤ m := this
      cases e : d.names with
      | nil => rw [e] at nm; simp at nm; omega
      | cons a r => exact ⟨a, r, rfl⟩
    have hat1 : atI d.vs (1 : Int) = some (.str n0) := by
      have : d.vs[1]? = some (.str n0) := by
        unfold Deed.vs
        rw [en]
        rfl
      exact at_nat (k := 1) this
    have okn0 : NameOk n0 := okN n0 (by rw [en]; exact List.mem_cons_self)
    refine ⟨_, rfl, p, _, _, _, rfl, rfl, SqT.of hp4, hat1, le 4 (by decide), fun l4 nl4 => ⟨l4, rfl, ⟨_, SqL.of upd_same⟩, fun D2 nD2 => ?_⟩⟩
    have s5 := same_upd (o := .lst [V.str "a", .str "b", .str "zz", .str n0]) nl4
    have hl4 := upd_same (H := H4) (a := l4) (o := .lst [V.str "a", .str "b", .str "zz", .str n0])
    generalize L2.upd H4 l4 (.lst [V.str "a", .str "b", .str "zz", .str n0]) = H5 at s5 hl4 nD2
    have sD := sC.trans s5
    have S5 := S.same sD
    obtain ⟨nD2A, nD2c⟩ := S5.new nD2
    have nl4A := (S.new (sC.free nl4)).1
    have nDl : D2 ≠ l4 := (ne_of_none hl4 nD2).symm
    refine lc_it walk_list (fun i G => ∃ (ps : List Addr) (kvs : List (Key × V)), ps.length = i ∧ kvs.length = i ∧ G D2 = some (.lst (ps.map V.ref)) ∧ Paired (fun p kv => SqT K G p [kV kv.1, kv.2]) ps kvs ∧ (∀ kv ∈ kvs, EntN kv) ∧ StA G a lw lc (t + i) ∧ Kp [a, lw] H5 G ∧ G l4 = some (.lst [V.str "a", .str "b", .str "zz", .str n0]))
      ⟨[], [], rfl, rfl, upd_same, .nil, (fun _ h => by cases h), S5.same (same_upd nD2), Kp.of (same_upd nD2), by rw [upd_ne nDl.symm]; exact hl4⟩ (fun i G _ ⟨_, _, _, _, _, _, _, _, _, e⟩ => SqL.of e) ?_ ?_
    · rintro i x G G' hi ⟨ps, kvs, lp, lk, gD, pr, en2, SG, KG, gl⟩ ⟨rfl, hx⟩
      have i4 : i < 4 := hi
      obtain ⟨zx, rfl, okx⟩ : ∃ z, x = .str z ∧ NameOk z := by
        have mx := List.mem_of_getElem? hx
        simp only [List.mem_cons, List.not_mem_nil, or_false] at mx
        rcases mx with rfl | rfl | rfl | rfl
        · exact ⟨_, rfl, trio_ok _ (by decide)⟩
        · exact ⟨_, rfl, trio_ok _ (by decide)⟩
        · exact ⟨_, rfl, trio_ok _ (by decide)⟩
        · exact ⟨_, rfl, okn0⟩
      refine ⟨rfl, yes_if ?_⟩
      refine ⟨_, rfl, _, rfl, le 4 (by decide), fun L nL => ?_⟩
      have u1 := same_upd (o := .lst [V.str "a", .str "b", .str "q", .str "o"]) nL
      have nLw : L ≠ lw := fun z => (SG.new nL).1 (by simp [z])
      refine ⟨a, lw, lc, _, L, _, rfl, SG.same u1, by omega, upd_same, nLw, (by show 0 < 4; decide), (by show 4 ≤ 1000; decide), fun j y G2 hy S2 K2 => ?_⟩
      obtain ⟨zy, rfl, oky⟩ : ∃ z, y = .str z ∧ NameOk z := by
        have my := List.mem_of_getElem? hy
        simp only [List.mem_cons, List.not_mem_nil, or_false] at my
        rcases my with rfl | rfl | rfl | rfl
        · exact ⟨_, rfl, quad_ok _ (by decide)⟩
        · exact ⟨_, rfl, quad_ok _ (by decide)⟩
        · exact ⟨_, rfl, quad_ok _ (by decide)⟩
        · exact ⟨_, rfl, quad_ok _ (by decide)⟩
      have KK2 : Kp [a, lw] G' G2 := (Kp.of u1).trans K2
      have gD2 := KK2 _ _ gD nD2A
      have gl2 := KK2 _ _ gl nl4A
      refine ⟨le 2 (by decide), fun pp npp => ?_⟩
      have u2 := same_upd (o := .tup [V.str zx, .str zy]) npp
      have hpp := upd_same (H := G2) (a := pp) (o := .tup [V.str zx, .str zy])
      have gD3 := u2 _ _ gD2
      have gl3 := u2 _ _ gl2
      have KK3 := KK2.trans (Kp.of u2 (xs := [a, lw]))
      have S3 := S2.same u2
      generalize L2.upd G2 pp (.tup [V.str zx, .str zy]) = G3 at u2 hpp gD3 gl3 KK3 S3
      have ppD : pp ≠ D2 := ne_of hpp gD3 (by intro z; cases z)
      have tp : ∀ {b : Addr} {xs : List V}, SqT K G' b xs → SqT K (L2.upd G3 D2 (.lst (ps.map V.ref ++ [V.ref pp]))) b xs := fun {b xs} hb => by
        rcases hb with (hb | ⟨o, hb⟩) | hb
        · have nb : b ≠ D2 := ne_of hb gD (by intro z; cases z)
          exact .inl (.inl (by rw [upd_ne nb]; exact KK3 _ _ hb (SG.off hb (fun _ z => by cases z) fun _ z => by cases z)))
        · have nb : b ≠ D2 := ne_of hb gD (by intro z; cases z)
          exact .inl (.inr ⟨o, by rw [upd_ne nb]; exact KK3 _ _ hb (SG.off hb (fun _ z => by cases z) fun _ z => by cases z)⟩)
        · exact .inr hb
      refine ⟨_, gD3, by rw [List.length_map]; exact lt _ (by omega), ps ++ [pp], kvs ++ [(Sum.inr zx, .str zy)], by rw [List.length_append, lp]; rfl, by rw [List.length_append, lk]; rfl, ?_, ?_, ?_, ?_, ?_, ?_⟩
      · rw [upd_same, List.map_append]
        rfl
      · exact (L2.Paired.mapP pr fun _ _ h => tp h).snoc (SqT.of (by rw [upd_ne ppD]; exact hpp))
      · intro kv hkv
        rcases List.mem_append.mp hkv with h | h
        · exact en2 kv h
        · rw [List.mem_singleton.mp h]
          exact ⟨_, _, rfl, okx, oky⟩
      · exact (S3.put nD2A nD2c _).more (by omega)
      · exact fun b o e nb => by
          rw [upd_ne (ne_of_none e nD2)]
          exact (KG.trans KK3) b o e nb
      · rw [upd_ne nDl.symm]
        exact gl3
    rintro H6 ⟨ps, kvs, lp, lk, gD6, pr, en6, S6, K56, _⟩
    have S6 : StA H6 a lw lc (t + 4) := S6
    have oD := ((S.same sA).new nD).1
    have hp6 := S5.tupK K56 (s5 _ _ hp4)
    have hn6 := S5.tupK K56 (s5 _ _ hn4)
    have hD6 := K56 _ _ (s5 _ _ hD4) oD
    have KA : Kp [a, lw] H H6 := (Kp.of sD).trans K56
    refine ⟨D2, ps, kvs, rfl, SqL.of gD6, pr, fun pt npt => ?_⟩
    obtain ⟨tbE, tbL⟩ := merge_entN kvs [] (fun _ h => by cases h) en6
    have s7 := same_upd (o := .dK (mergeK [] kvs)) npt
    have hpt := upd_same (H := H6) (a := pt) (o := .dK (mergeK [] kvs))
    have ptA := (S6.new npt).1
    have S7 := S6.same s7
    have tb4 : (mergeK [] kvs).length ≤ 4 := by
      have : kvs.length = 4 := lk
      have z0 : ([] : List (Key × V)).length = 0 := rfl
      omega
    generalize mergeK [] kvs = tb at tbE tbL s7 hpt S7 tb4
    generalize L2.upd H6 pt (.dK tb) = H7 at s7 hpt S7
    have K7 : Kp [a, lw] H H7 := KA.trans (Kp.of s7)
    have hp7 := s7 _ _ hp6
    have hn7 := s7 _ _ hn6
    have hD7 := s7 _ _ hD6
    obtain ⟨m1, m7⟩ := deed_max ok
    have lw1 := way_small ok
    -- what is due
    refine ⟨_, rfl, _, rfl, p, _, rfl, SqT.of hp7, ?_, fun p1 np1 => ?_⟩
    · rintro ⟨_, h⟩
      have h' : HT.sIx d.vs.length d.vs.length (some ((1 : Nat) : Int)) = d.vs.length := h
      rw [HT.sIx_nat] at h'
      have := (form_two _ hm).1
      have h2 : 2 ≤ m := this
      rw [deed_len] at h'
      omega
    have c1 : cutV d.vs none (some 1) = [.str d.word] := by
      have := cut_to (xs := d.vs) (k := 1) (by omega)
      have e1 : ((1 : Nat) : Int) = 1 := rfl
      rw [e1] at this
      rw [this]
      rfl
    rw [c1]
    have t1 := same_upd (o := .tup [V.str d.word]) np1
    have hp1 := upd_same (H := H7) (a := p1) (o := .tup [V.str d.word])
    generalize L2.upd H7 p1 (.tup [V.str d.word]) = G1 at t1 hp1
    have hn1 := t1 _ _ hn7
    refine ⟨_, rfl, pn, rfl, ⟨_, SqT.of hn1⟩, fun D3 nD3 => ?_⟩
    refine lc_rel (p := fun _ => true) (c := fun x => (valV tb (.inr (strV x))).getD x) (rel := fun _ y b => y = b) walk_tup nD3 (by rw [List.length_map]; exact lt _ (by omega)) (fun H' s' => SqT.of (s' _ _ hn1)) (fun _ q => q) (fun _ q _ => q) (fun v => rfl) (fun x H' _ _ R kR => kR H' (Same.refl _)) (fun x H' hx' _ sH R kR => ?_) fun G2 ys t2 eD f => ?_
    · obtain ⟨z, hz, rfl⟩ := List.mem_map.mp hx'
      have hbx := sH _ _ (t1 _ _ hpt)
      exact ⟨_, rfl, pt, rfl, .inl ⟨_, .inl hbx⟩, _, rfl, _, rfl, _, DGet.k (k := Sum.inr z) hbx, kR _ H' (Same.refl _) rfl⟩
    rw [List.filter_eq_self.mpr fun _ _ => rfl] at f
    have ey : ys = d.names.map fun z => (valV tb (.inr z)).getD (.str z) := by
      rw [f.map_eq (f := fun x => x), List.map_id', List.map_map]
      rfl
    subst ey
    refine .inl ⟨D3, _, rfl, SqL.of eD, fun r nr => ?_⟩
    have t3 := same_upd (o := .tup (d.names.map fun z => (valV tb (.inr z)).getD (.str z))) nr
    have hr3 := upd_same (H := G2) (a := r) (o := .tup (d.names.map fun z => (valV tb (.inr z)).getD (.str z)))
    generalize L2.upd G2 r (.tup (d.names.map fun z => (valV tb (.inr z)).getD (.str z))) = G3 at t3 hr3
    refine cat_readV (t3 _ _ (t2 _ _ hp1)) hr3 (le _ (by rw [List.length_map]; show 1 + _ ≤ 1000; omega)) fun r2 G4 t4 h4 => ?_
    have t14 := ((t1.trans t2).trans t3).trans t4
    refine ⟨_, rfl, _, rfl, pn, _, rfl, .inr (SqT.of (t14 _ _ hn7)), _, _, rfl, rfl, _, rfl, tNoPart_in (slA_read (t14 _ _ hp7) fun r3 G5 t5 h5 => ?_)⟩
    have c3 : cutV d.vs (some (1 + (((d.names.map V.str).length : Nat) : Int))) none = d.way.map V.int := by
      rw [List.length_map]
      have e2 : 1 + ((d.names.length : Nat) : Int) = ((1 + d.names.length : Nat) : Int) := by omega
      rw [e2, cut_drop (by rw [deed_len]; omega)]
      unfold Deed.vs
      rw [show 1 + d.names.length = d.names.length + 1 by omega, List.drop_succ_cons]
      exact List.drop_left' (by rw [List.length_map])
    rw [c3] at h5
    refine cat_readV (t5 _ _ h4) h5 (le _ (by rw [List.length_append, List.length_map, List.length_map]; show 1 + _ + _ ≤ 1000; omega)) fun r4 G6 t6 h6 => ?_
    have eon : [V.str d.word] ++ (d.names.map fun z => (valV tb (.inr z)).getD (.str z)) ++ d.way.map V.int = onV tb d := by
      unfold onV
      simp
    rw [eon] at h6
    have t16 := (t14.trans t5).trans t6
    have pG6 := t16 _ _ hp7
    have dG6 := t16 _ _ hD7
    have bG6 := t16 _ _ hpt
    have S8 := S7.same t16
    have K8 : Kp [a, lw] H G6 := K7.trans (Kp.of t16)
    have r4A := S8.off h6 (fun _ z => by cases z) fun _ z => by cases z
    -- the comparison
    have bd := BentD.deed ok hnm
    have dIn : ∀ {G : Hp}, G p = some (.tup d.vs) → DeedIn NOW G (.ref p) d.py := fun h => ⟨Dq.of_deed (fun z => by cases z) h, vdb_of bd.g, bd.r⟩
    have tIn : ∀ {G : Hp}, G pt = some (.dK tb) → TabIn G (.ref pt) tb := fun h => ⟨pt, rfl, h, by omega, List.all_eq_true.mpr fun kv hkv => (EntN.ok (tbE kv hkv)).1⟩
    refine ⟨_, rfl, rfl, _, _, rfl, dIn pG6, .inl ⟨d, rfl, ok, fun pm J1 j1 npm hpm => ?_⟩⟩
    refine ⟨_, rfl, rfl, _, _, rfl, dIn (j1 _ _ pG6), .inl ⟨d, rfl, ok, fun J2 j2 => ?_⟩⟩
    have pJ2 := j2 _ _ (j1 _ _ pG6)
    refine ⟨_, rfl, _, rfl, rfl, _, _, _, rfl, dIn pJ2, .inr ⟨d, rfl, ok, .inr ⟨tb, tIn (j2 _ _ (j1 _ _ bG6)), List.all_eq_true.mpr fun kv hkv => (EntN.ok (tbE kv hkv)).2, fun po J3 j3 hpo => ?_⟩⟩⟩
    refine ⟨le 3 (by decide), fun L1 nL1 => ?_⟩
    have j4 := same_upd (o := .lst [V.ref pm, .str (toolS d.word), .ref po]) nL1
    have hL1 := upd_same (H := J3) (a := L1) (o := .lst [V.ref pm, .str (toolS d.word), .ref po])
    generalize L2.upd J3 L1 (.lst [V.ref pm, .str (toolS d.word), .ref po]) = J4 at j4 hL1
    have j14 := ((j1.trans j2).trans j3).trans j4
    refine ⟨_, rfl, .inl ⟨D, _, rfl, SqL.of (j14 _ _ dG6), fun tu ntu => ?_⟩⟩
    have j5 := same_upd (o := .tup ((once d.names).map V.str)) ntu
    have htu := upd_same (H := J4) (a := tu) (o := .tup ((once d.names).map V.str))
    generalize L2.upd J4 tu (.tup ((once d.names).map V.str)) = J5 at j5 htu
    refine ⟨_, rfl, _, rfl, le 3 (by decide), fun L2' nL2 => ?_⟩
    have j6 := same_upd (o := .lst [V.ref tu, .str (toolS d.word), .ref r4]) nL2
    have hL2 := upd_same (H := J5) (a := L2') (o := .lst [V.ref tu, .str (toolS d.word), .ref r4])
    generalize L2.upd J5 L2' (.lst [V.ref tu, .str (toolS d.word), .ref r4]) = J6 at j6 hL2
    have j56 := j5.trans j6
    have j46 := j4.trans j56
    have fo1 : ((once d.names).map V.str).all fok = true := fok_names fun z hz => okN z ((once_mem _ _).mp hz)
    have fo2 := onV_fok tbE ok
    have sh := shp3 (K := K) (H := J6) (z := toolS d.word) fo1 fo2 (form_two _ hm).2
    refine ⟨_, _, .lst (SqL.of (j56 _ _ hL1)) (.cons (.tup (SqT.of (j46 _ _ (j3 _ _ (j2 _ _ hpm)))) (dp_flat fo1).1) (.cons (.str _) (.cons (.tup (SqT.of (j46 _ _ hpo)) (dp_flat fo2).1) .nil))),
      .lst (SqL.of hL2) (.cons (.tup (SqT.of (j6 _ _ htu)) (dp_flat fo1).1) (.cons (.str _) (.cons (.tup (SqT.of (j56 _ _ (j4 _ _ (((j1.trans j2).trans j3) _ _ h6)))) (dp_flat fo2).1) .nil))), sh, sh, ?_⟩
    rw [SeqAt.eqv_refl _ (SeqAt.canLay_of_shaped sh)]
    refine ⟨_, rfl, ?_⟩
    refine iteF ?_
    have j16 := j14.trans j56
    -- what is no table
    have sT := t16.trans j16
    have S9 := S7.same sT
    have K9 : Kp [a, lw] H J6 := K7.trans (Kp.of sT)
    have pJ6 := sT _ _ hp7
    have T9 : Tabs (TTs tt te) J6 := Tabs.kp hT S K9
    refine ⟨_, rfl, le 0 (by decide), fun o1 no1 => ⟨le 2 (by decide), fun o2 no2 => ⟨le 1 (by decide), fun o3 no3 => ?_⟩⟩⟩
    have x1 := same_upd (o := .lst []) no1
    have x2 := same_upd (o := .tup [V.str "a", .str "b"]) no2
    have x3 := same_upd (o := .lst [V.ref o2]) no3
    have R1 := S9.same x1
    have R2 := R1.same x2
    have g2 := x3 _ _ (upd_same (H := L2.upd J6 o1 (.lst [])) (a := o2) (o := .tup [V.str "a", .str "b"]))
    have g1 := (x2.trans x3) _ _ (upd_same (H := J6) (a := o1) (o := .lst []))
    have g3 := upd_same (H := L2.upd (L2.upd J6 o1 (.lst [])) o2 (.tup [V.str "a", .str "b"])) (a := o3) (o := .lst [V.ref o2])
    have m1A := (S9.new no1).1
    have m2A := (R1.new no2).1
    have m3A := (R2.new no3).1
    have x13 := (x1.trans x2).trans x3
    have R3 := S9.same x13
    generalize L2.upd (L2.upd (L2.upd J6 o1 (.lst [])) o2 (.tup [V.str "a", .str "b"])) o3 (.lst [V.ref o2]) = M3 at x3 x13 g1 g2 g3 R3
    intro d1 nd1
    refine ⟨upd_same, ODT1, rfl, by decide, ?_⟩
    rw [odt_new.1]
    have y1 := disp_same (kvs := ODT1) nd1
    have q1 := upd_same (H := L2.upd M3 d1 (.dK [])) (a := d1) (o := .dK ODT1)
    have d1A := (R3.new nd1).1
    have R4 := R3.same y1
    generalize L2.upd (L2.upd M3 d1 (.dK [])) d1 (.dK ODT1) = M4 at y1 q1 R4
    intro d2 nd2
    refine ⟨upd_same, ODT2, rfl, by decide, ?_⟩
    rw [odt_new.2.1]
    have y2 := disp_same (kvs := ODT2) nd2
    have q2 := upd_same (H := L2.upd M4 d2 (.dK [])) (a := d2) (o := .dK ODT2)
    have d2A := (R4.new nd2).1
    have R5 := R4.same y2
    generalize L2.upd (L2.upd M4 d2 (.dK [])) d2 (.dK ODT2) = M5 at y2 q2 R5
    intro d3 nd3
    refine ⟨upd_same, ODT3, rfl, by decide, ?_⟩
    rw [odt_new.2.2.1]
    have y3 := disp_same (kvs := ODT3) nd3
    have q3 := upd_same (H := L2.upd M5 d3 (.dK [])) (a := d3) (o := .dK ODT3)
    have d3A := (R5.new nd3).1
    have R6 := R5.same y3
    generalize L2.upd (L2.upd M5 d3 (.dK [])) d3 (.dK ODT3) = M6 at y3 q3 R6
    intro d4 nd4
    refine ⟨upd_same, ODT4, rfl, by decide, ?_⟩
    rw [odt_new.2.2.2]
    have y4 := disp_same (kvs := ODT4) nd4
    have q4 := upd_same (H := L2.upd M6 d4 (.dK [])) (a := d4) (o := .dK ODT4)
    have d4A := (R6.new nd4).1
    have R7 := R6.same y4
    generalize L2.upd (L2.upd M6 d4 (.dK [])) d4 (.dK ODT4) = M7 at y4 q4 R7
    refine ⟨le 7 (by decide), fun L nL => ?_⟩
    have y5 := same_upd (o := .lst [V.non, .ref o1, .ref o3, .ref d1, .ref d2, .ref d3, .ref d4]) nL
    have nLw : L ≠ lw := fun z => (R7.new nL).1 (by simp [z])
    have R8 := R7.same y5
    have hL := upd_same (H := M7) (a := L) (o := .lst [V.non, .ref o1, .ref o3, .ref d1, .ref d2, .ref d3, .ref d4])
    generalize L2.upd M7 L (.lst [V.non, .ref o1, .ref o3, .ref d1, .ref d2, .ref d3, .ref d4]) = M8 at y5 R8 hL
    have z4 := y4.trans y5
    have z3 := y3.trans z4
    have z2 := y2.trans z3
    have z1 := y1.trans z2
    refine ⟨a, lw, lc, _, L, _, rfl, R8, by omega, hL, nLw, (by show 0 < 7; decide), (by show 7 ≤ 1000; decide), fun i x M9 hx S10 K10 => ?_⟩
    have odd8 : OddT [a, lw] M8 x := by
      have mx := List.mem_of_getElem? hx
      simp only [List.mem_cons, List.not_mem_nil, or_false] at mx
      rcases mx with rfl | rfl | rfl | rfl | rfl | rfl | rfl
      · exact .inl ⟨_, .non, rfl⟩
      · exact .inl ⟨_, .lst m1A (z1 _ _ g1) .nil, rfl⟩
      · exact .inl ⟨_, .lst m3A (z1 _ _ g3) (.cons (.tup m2A (z1 _ _ g2) (.cons (.str _) (.cons (.str _) .nil))) .nil), rfl⟩
      · exact .inr ⟨d1, ODT1, rfl, d1A, z2 _ _ q1, odt_bad _ (by simp)⟩
      · exact .inr ⟨d2, ODT2, rfl, d2A, z3 _ _ q2, odt_bad _ (by simp)⟩
      · exact .inr ⟨d3, ODT3, rfl, d3A, z4 _ _ q3, odt_bad _ (by simp)⟩
      · exact .inr ⟨d4, ODT4, rfl, d4A, y5 _ _ q4, odt_bad _ (by simp)⟩
    have xAll := x13.trans z1
    have K11 : Kp [a, lw] H M9 := (K9.trans (Kp.of xAll)).trans K10
    have p9 := R8.tupK K10 (xAll _ _ pJ6)
    have st9 : Stay a lw lc (t + 5) (TTs tt te) H M9 := ⟨S10.more (by omega), Tabs.kp hT S K11, KpE.of K11⟩
    have odd9 := odd8.keep (KpE.of K10)
    have pA := S.off hp (fun _ z => by cases z) fun _ z => by cases z
    refine ⟨st9.t, fun N1 e1 T1 => ?_⟩
    have st10 := st9.ext e1 T1
    have odd10 := odd9.keep (KpE.ext e1)
    refine ⟨_, rfl, _, rfl, _, _, _, rfl, dIn (st10.tup pA hp), .inr ⟨d, rfl, ok, .inl ⟨fun H' s' => (odd10.keep (KpE.same s' _)).bad, fun H' s' => ⟨true, BT.x, fun _ ea na => ?_, fun z => by cases z⟩⟩⟩⟩
    have v1 := same_upd (o := Caught (.ref CT) none ea) na
    refine ⟨ea, CT, none, .ref CT, .ref CT, true, rfl, upd_same, rfl, BT.c, .own CT, kit_self _, ?_⟩
    exact k _ ((st10.same (s'.trans v1)).more (by omega))
end
end Own
set_option Elab.async false
set_option linter.all false
set_option maxRecDepth 100000
set_option maxHeartbeats 400000
namespace Own
open PySem PySem.Spec PyProof.Rows L2 LamX
/-! ### what is due of laid's errors -/
/-- all but dicts, lists and tables is as it was -/
def Kq (H H' : Hp) : Prop := ∀ c u, H c = some u → (∀ kvs, u ≠ .dK kvs) → (∀ xs, u ≠ .lst xs) → (∀ ps, u ≠ .tbl ps) → H' c = some u
theorem Kq.of {H H' : Hp} {a lw lc : Addr} {t : Nat} (S : StA H a lw lc t) (k : KpE [a, lw] H H') : Kq H H' := fun c u h n1 n2 n3 => k c u h (S.off h n1 n2) n3
theorem PtIs.kq {CN : Addr} {H H' : Hp} {v : V} {p : Bool} (k : Kq H H') (h : PtIs CN H v p) : PtIs CN H' v p := by
  have off : ∀ {c : Addr} {xs : List V}, H c = some (.tup xs) → H' c = some (.tup xs) := fun e => k _ _ e (fun _ z => by cases z) (fun _ z => by cases z) fun _ z => by cases z
  have offI : ∀ {c C d : Addr} {fs : List (Str × V)}, H c = some (.ins C d fs) → H' c = some (.ins C d fs) := fun e => k _ _ e (fun _ z => by cases z) (fun _ z => by cases z) fun _ z => by cases z
  cases p with
  | true =>
    obtain ⟨t, x, y, da, fa, db, fb, rfl, h1, h2, h3⟩ := h
    exact ⟨t, x, y, da, fa, db, fb, rfl, off h1, offI h2, offI h3⟩
  | false =>
    rcases h with h | ⟨t, i, j, rfl, h⟩
    · exact .inl h
    · exact .inr ⟨t, i, j, rfl, off h⟩
/-- what is no table of points -/
def OddP (CN : Addr) (N : List Addr) (H : Hp) (x : V) : Prop := (∃ d, Dq N H x d ∧ isD d = false) ∨ ∃ b kvs bs, x = .ref b ∧ b ∉ N ∧ H b = some (.dK kvs) ∧ kvs.length ≤ 1000 ∧ (∀ kv ∈ kvs, vdb (kD kv.1) = true) ∧ F2 (fun (kv : Key × V) p => PtIs CN H kv.2 p) kvs bs ∧ ptsB kvs bs = false
theorem OddP.keep {CN : Addr} {N : List Addr} {H H' : Hp} {x : V} (h : OddP CN N H x) (k : KpE N H H') (q : Kq H H') : OddP CN N H' x := by
  rcases h with ⟨d, z, e⟩ | ⟨b, kvs, bs, rfl, n, hb, h1, h2, h3, h4⟩
  · exact .inl ⟨d, Dq.keep k _ _ z, e⟩
  · exact .inr ⟨b, kvs, bs, rfl, n, k _ _ hb n fun _ z => by (cases z), h1, h2, h3.mono fun _ _ z => z.kq q, h4⟩
theorem OddP.bad {CN : Addr} {N : List Addr} {H : Hp} {x : V} (h : OddP CN N H x) : BadPt CN H x := by
  rcases h with ⟨d, q, e⟩ | ⟨b, kvs, bs, rfl, n, hb, h1, h2, h3, h4⟩
  · exact .inl ⟨d, q.none_N, e⟩
  · exact .inr ⟨kvs, bs, ⟨b, rfl, hb, h1, h2, h3⟩, h4⟩
/-- the sheet, laid -/
structure ShIn (CN : Addr) (H : Hp) (b : Addr) (ws : List V) : Prop where
  d : H b = some (.dK ((SHEET.map Sum.inr).zip ws))
  l : ws.length = 5
  p : ∀ v ∈ ws, PointV CN H v
theorem ShIn.kq {CN : Addr} {H H' : Hp} {b : Addr} {ws : List V} (h : ShIn CN H b ws) (k : KpE N H H') (q : Kq H H') (n : b ∉ N) : ShIn CN H' b ws := ⟨k _ _ h.d n fun _ z => by (cases z), h.l, fun v hv => PtIs.kq (p := true) q (h.p v hv)⟩
theorem ShIn.same {CN : Addr} {H H' : Hp} {b : Addr} {ws : List V} (h : ShIn CN H b ws) (e : Same H H') : ShIn CN H' b ws := ⟨e _ _ h.d, h.l, fun v hv => (h.p v hv).same e⟩
theorem ShIn.keys {CN : Addr} {H : Hp} {b : Addr} {ws : List V} (h : ShIn CN H b ws) : KeysAre ((SHEET.map (Sum.inr : Str → Key)).zip ws) SHEET := by
  unfold KeysAre
  rw [List.map_fst_zip (by rw [List.length_map, h.l]; decide)]
theorem five {ws : List V} (h : ws.length = 5) : ∃ a b c d e, ws = [a, b, c, d, e] := by
  match ws, h with
  | [a, b, c, d, e], _ => exact ⟨a, b, c, d, e, rfl⟩
theorem ShIn.pts {CN : Addr} {H : Hp} {b : Addr} {ws : List V} (h : ShIn CN H b ws) : PtsIn CN H (.ref b) ((SHEET.map Sum.inr).zip ws) [true, true, true, true, true] ∧ ptsB ((SHEET.map Sum.inr).zip ws) [true, true, true, true, true] = true := by
  obtain ⟨a1, a2, a3, a4, a5, rfl⟩ := five h.l
  refine ⟨⟨b, rfl, h.d, by show 5 ≤ 1000; decide, fun kv hkv => ?_, .cons (h.p a1 (by simp)) (.cons (h.p a2 (by simp)) (.cons (h.p a3 (by simp)) (.cons (h.p a4 (by simp)) (.cons (h.p a5 (by simp)) .nil))))⟩, ?_⟩
  · have hk : kv.1 ∈ (SHEET.map (Sum.inr : Str → Key)) := by
      have := List.mem_map_of_mem (f := Prod.fst) hkv
      rwa [List.map_fst_zip (by show 5 ≤ 5; decide)] at this
    obtain ⟨z, hz, e⟩ := List.mem_map.mp hk
    rw [← e]
    exact name_gdb (nms_item z (sheet_nms z hz)).2
  · show (nameB (.str "o") && true && (nameB (.str "u") && true && (nameB (.str "uu") && true && (nameB (.str "v") && true && (nameB (.str "vv") && true && true))))) = true
    decide +kernel
/-- odd tables of points -/
def ODP1 : List (Key × V) := (Sum.inr "a", .int 5) :: []
theorem odp1 : mergeK [] ODP1 = ODP1 ∧ vdb (.str "a") = true ∧ vdb (.str "O") = true ∧ nameB (.str "O") = false := ⟨by kernel_rfl, by decide +kernel, by decide +kernel, by decide +kernel⟩
def spErr (tt te : Addr) : Sp := fun vs H Q _ => ∃ (a lw lc : Addr) (t : Nat) (p : Addr) (d : Deed) (x : V) (e : PyData), vs = [.ref a, .ref p, x] ∧ StA H a lw lc t ∧ t < 2 ^ 38 ∧ H p = some (.tup d.vs) ∧ DeedOk d ∧ (∀ z ∈ d.names, z ∈ NMS) ∧ Dq [a, lw] H x e ∧ BentD e ∧ Tabs (TTs tt te) H ∧
  ∀ H', Stay a lw lc (t + 10) (TTs tt te) H H' → Q (.bl true) H'
theorem find_filter {α : Type} {p : α → Bool} : ∀ {l : List α}, (l.filter p).isEmpty = false → ∃ x r, l.filter p = x :: r ∧ l.find? p = some x
  | [], h => by cases h
  | y :: l, h => by
    by_cases e : p y = true
    · refine ⟨y, l.filter p, List.filter_cons_of_pos e, ?_⟩
      rw [List.find?_cons_of_pos e]
    · rw [List.filter_cons_of_neg e] at h ⊢
      obtain ⟨x, r, h1, h2⟩ := find_filter h
      exact ⟨x, r, h1, by rw [List.find?_cons_of_neg e, h2]⟩
/-- what comes behind a statement, under a name -/
theorem seq_gen {t u : TS} {D : Ends} {σ : L2.St} {H : Hp} (h : ∀ N : L2.St → Hp → Prop, N = u D → t { D with nx := N } σ H) : tSeq t u D σ H := h _ rfl
theorem tNil_in {σ : L2.St} {H : Hp} {k : List V → Hp → Prop} (h : k [] H) : tNil σ H k := h
abbrev nsErr : List Str := ["_law_state", "_law_deed_here", "_law_bent_here", "_law_points", "_law_whole", "_law_name_here", "_law_odd", "_law_first", "_law_second", "_law_errors", "_law_error"]
theorem scErr : FnScope nsErr ["_law_state", "_law_deed_here", "_law_bent_here"] (defScope sErrR) := ⟨rfl, rfl, rfl, by decide +kernel, rfl, by decide +kernel, by decide +kernel⟩
end Own
set_option Elab.async false
set_option linter.all false
set_option maxRecDepth 100000
set_option maxHeartbeats 1000000
namespace Own
open PySem PySem.Spec PyProof.Rows L2 LamX
section
variable {P : Program} {w : World} {K : PySem.W.Frag} {mg : Str → Option Value} {base : Heap} {CD CT CP CS CN CR fC fI tt te : Addr} {fd2 dP dM dT dO dC dL dS dD : FuncData}
theorem ok_err (F : FnP K "_law_errors_right" sErrR (He.ga K "_law_errors_right") fd2) (hf : He.ga K "_law_errors_right" = He.fAd K ("_law_errors_right", none)) (KP : Fk P w K mg base CX0 3 "_law_pick" dP ["_law_state", "_law_some"] (spPick K))
    (KS : Fk P w K mg base CX0 5 "sheet" dS [] (spSheet CN)) (KL : Fk P w K mg base (L2.CX P w) 5 "laid" dL ["deed", "points"] (spLaid NOW CN CD CP CS))
    (KM : Fk P w K mg base (L2.CX P w) 4 "names_of" dM ["deed"] (spOfDeed NOW CD rNames)) (KT : Fk P w K mg base (L2.CX P w) 4 "tool_of" dT ["deed"] (spOfDeed NOW CD rTool)) (KO : Fk P w K mg base (L2.CX P w) 4 "on_names" dO ["deed", "table"] (spOnNames NOW CD CT))
    (gd : FnOkG P w K mg base CX0 2 (He.ga K "_law_is_deed_due") dD ["_law_value"] spDeedDue) (bd : Binds K dD ["_law_value"] []) (kpd : PySem.W.keepIn K (.ref (He.ga K "_law_is_deed_due")) = true) (gld : mg "_law_is_deed_due" = some (.ref (He.ga K "_law_is_deed_due")))
    (FC : FnP K "_law_caught" sCaught fC dC) (gC : mg "_law_caught" = some (.ref fC)) (gR : mg "RulerError" = some (.ref CR)) (BD : ErrK K mg CR "BadDeed" CD) (BP : ErrK K mg CR "BadPoints" CP) (SN : SupX.Has P K mg tNN CS fI) (cS : ExcC K CS) (xfS : XfC K CS) (xS : PySem.W.exmOne K (.ref CS) (.ref CR) = some true)
    (TB : TabB base mg (He.codeOf K ("_law_errors_right", none)) te) (A2 : tt ≠ te) (T : Txt K mg) :
    FnOkG P w K mg base CX0 8 (He.ga K "_law_errors_right") fd2 ["_law_state", "_law_deed_here", "_law_bent_here"] (spErr tt te) := by
  refine FunD.okG F scErr rfl (fun vs H Q E h => ?_) (fun cdv A outer s H vs Q E hlk hcd hg hr h => ?_)
  · obtain ⟨a, lw, lc, t, p, d, x, e, rfl, _⟩ := h
    rfl
  · have ec := code_is hf hlk hcd
    subst ec
    obtain ⟨a, lw, lc, t, p, d, x, e, rfl, S, ht, hp, ok, hnm, hx, be, hT, k⟩ := h
    have hu := hu_of hr
    have hr2 := hr.mono (show 2 ≤ 7 by decide)
    have hr3 := hr.mono (show 3 ≤ 7 by decide)
    have hr4 := hr.mono (show 4 ≤ 7 by decide)
    have hr5 := hr.mono (show 5 ≤ 7 by decide)
    have hr6 := hr.mono (show 6 ≤ 7 by decide)
    have mte : (te, qER) ∈ TTs tt te := List.mem_cons_of_mem _ List.mem_cons_self
    refine ⟨_, PSsT.nox (PSsT.of (pss_cons (ps_asg (pe_tup (pa_cons (pe_call0 KS.ok hr5 (by rfl) KS.g KS.kp KS.b .nil pass0) (pa_cons (pe_lc (own := [("_law_name_here", 5)]) (g := gName 5) (by rfl) scErr.nd (pi_tup (pe_call KM.ok hr4 (by rfl) KM.g KM.kp KM.b .nil passL (pa_cons (pv 1) pa_nil))) (blkOk_by (own := [("_law_name_here", 5)]) (N := nsErr) (sc := defScope sErrR) (by decide +kernel))
          (fun _ _ _ _ _ => pg_name (i := 5) scErr.nd rfl (Or.inl rfl)) (fun _ _ _ _ _ => pts_one (pt_cmp (pc_dnotin hu (pv 5) (pe_call0 KS.ok hr5 (by rfl) KS.g KS.kp KS.b .nil pass0)))) (fun _ _ _ _ _ => pv 5)) pa_nil))) (pg_tup rfl (pgs_cons (pg_name (i := 3) scErr.nd rfl (.inr rfl)) (pgs_cons (pg_name (i := 4) scErr.nd rfl (.inl rfl)) pgs_nil))))
      (pss_cons (ps_set (i := 6) scErr.nd rfl (.inr rfl) (pe_call KP.ok hr3 (by rfl) KP.g KP.kp KP.b .nil pass0 (pa_cons (pv 0) (pa_cons (pe_lst (pa_cons pe_non (pa_cons (pe_lst pa_nil)
          (pa_cons (pe_disp (pps_cons pe_str pe_int pps_nil) (by rfl) (by rfl) (fun z => by cases z) (by decide)) (pa_cons (pe_disp (pps_cons pe_str (pe_tup (pa_cons pe_int (pa_cons pe_int pa_nil))) pps_nil) (by rfl) (by rfl) (fun z => by cases z) (by decide)) (pa_cons (pe_disp (pps_cons pe_str (pe_dget hu (pv 3) pe_str (fun _ _ => rfl)) pps_nil) (by rfl) (by rfl) (fun z => by cases z) (by decide)) pa_nil)))))) pa_nil))))
      (pss_cons (ps_set (i := 7) scErr.nd rfl (.inl rfl) (pe_caught (k := 5) FC gC (by rfl) gR TB rfl mte (TTs.e A2) hr (sc := defScope sErrR) rfl (lamS_by (by decide +kernel)) rfl (fun _ _ _ _ _ => rfl)
          (fun A' outer' s' H' E' f' c' hrr => pe_call KL.ok hrr (by rfl) KL.g KL.kp KL.b .nil (passes_call (takes_of rfl rfl rfl rfl) fun _ _ _ _ h => h) (pa_cons (pv 1) (pa_cons (pv 6) pa_nil)))))
      (pss_cons (ps_if (pt_not (pt_val (pe_callB call_isX (by rfl) T.isi boot_isinstance (pa_cons (pv 7) (pa_cons (pe_glob (v := .ref CP) (by rfl) BP.e.g rfl) pa_nil))))) (pss_one (ps_ret pe_bl)) pss_nil)
      (pss_cons (ps_if (pt_cmpR (op_neD hr.units) (pv 4) (pe_lst pa_nil) (nomark _))
          (pss_cons (ps_set (i := 8) scErr.nd rfl (.inl rfl) (pe_caught (k := 5) FC gC (by rfl) gR TB rfl mte (TTs.e A2) hr (sc := defScope sErrR) rfl (lamS_by (by decide +kernel)) rfl (fun _ _ _ _ _ => rfl)
              (fun A' outer' s' H' E' f' c' hrr => pe_call KL.ok hrr (by rfl) KL.g KL.kp KL.b .nil (passes_call (takes_of rfl rfl rfl rfl) fun _ _ _ _ h => h) (pa_cons (pv 1) (pa_cons (pv 3) pa_nil)))))
          (pss_one (ps_if (PW.pt (pw_or (pt_not (pt_val (pe_callB call_isD (by rfl) T.isi boot_isinstance (pa_cons (pv 8) (pa_cons (pe_glob (v := .ref CS) (by rfl) SN.gC rfl) pa_nil))))) (pw_or1 (pt_cmpR op_ne (pe_kf (pv 8)) (pe_ix ix_list (pv 4) pe_int (fun _ _ => rfl)) (nomark _))))) (pss_one (ps_ret pe_bl)) pss_nil))) pss_nil)
      (pss_cons (ps_if (pt_val (pe_callG gd hg hr2 (by rfl) gld kpd bd pass0 (pa_cons (pv 2) pa_nil))) (pss_one (ps_ret pe_bl)) pss_nil)
      (pss_cons (ps_set (i := 9) scErr.nd rfl (.inl rfl) (pe_lst (pa_cons (pe_caught (k := 5) FC gC (by rfl) gR TB rfl mte (TTs.e A2) hr (sc := defScope sErrR) rfl (lamS_by (by decide +kernel)) rfl (fun _ _ _ _ _ => rfl)
            (fun A' outer' s' H' E' f' c' hrr => pe_call KL.ok hrr (by rfl) KL.g KL.kp KL.b .nil (passes_call (takes_of rfl rfl rfl rfl) fun _ _ _ _ h => h) (pa_cons (pv 2) (pa_cons (pv 6) pa_nil))))
          (pa_cons (pe_caught (k := 4) FC gC (by rfl) gR TB rfl mte (TTs.e A2) hr6 (sc := defScope sErrR) rfl (lamS_by (by decide +kernel)) rfl (fun _ _ _ _ _ => rfl)
            (fun A' outer' s' H' E' f' c' hrr => pe_call KM.ok hrr (by rfl) KM.g KM.kp KM.b .nil (passes_call (takes_of rfl rfl rfl rfl) fun _ _ _ _ h => h) (pa_cons (pv 2) pa_nil))) pa_nil))))
      (pss_cons (ps_set (i := 9) scErr.nd rfl (.inl rfl) (pe_op op_cat (pv 9) (pe_lst (pa_cons (pe_caught (k := 4) FC gC (by rfl) gR TB rfl mte (TTs.e A2) hr6 (sc := defScope sErrR) rfl (lamS_by (by decide +kernel)) rfl (fun _ _ _ _ _ => rfl)
            (fun A' outer' s' H' E' f' c' hrr => pe_call KT.ok hrr (by rfl) KT.g KT.kp KT.b .nil (passes_call (takes_of rfl rfl rfl rfl) fun _ _ _ _ h => h) (pa_cons (pv 2) pa_nil)))
          (pa_cons (pe_caught (k := 4) FC gC (by rfl) gR TB rfl mte (TTs.e A2) hr6 (sc := defScope sErrR) rfl (lamS_by (by decide +kernel)) rfl (fun _ _ _ _ _ => rfl)
            (fun A' outer' s' H' E' f' c' hrr => pe_call KO.ok hrr (by rfl) KO.g KO.kp KO.b .nil (passes_call (takes_of rfl rfl rfl rfl) fun _ _ _ _ h => h) (pa_cons (pv 2) (pa_cons (pv 6) pa_nil)))) pa_nil)))))
      (pss_one (ps_ret (pe_cmpR (op_eqD hr.units) (pe_lc (own := [("_law_error", 10)]) (g := gName 10) (by rfl) scErr.nd (pi_list (pv 9)) (blkOk_by (own := [("_law_error", 10)]) (N := nsErr) (sc := defScope sErrR) (by decide +kernel))
          (fun _ _ _ _ _ => pg_name (i := 10) scErr.nd rfl (Or.inl rfl)) (fun _ _ _ _ _ => pts_one (pt_not (pt_val (pe_callB (call_isXK (K := K) rfl) (by rfl) T.isi boot_isinstance (pa_cons (pv 10) (pa_cons (pe_glob (v := .ref CD) (by rfl) BD.e.g rfl) pa_nil)))))) (fun _ _ _ _ _ => pe_int)) (pe_lst pa_nil) (nomark _))))))))))))), ?_⟩
    obtain ⟨m, kk, hm, nm, okN, nk, okW⟩ := id ok
    have le : ∀ n : Nat, n ≤ 1000 → n ≤ sizeLine := fun n h => Nat.le_trans h (by decide)
    have lt : ∀ n : Nat, n ≤ 1000 → n < sizeLine := fun n h => Nat.lt_of_le_of_lt h (by decide)
    have bd' := BentD.deed ok hnm
    have dIn : ∀ {G : Hp}, G p = some (.tup d.vs) → DeedIn NOW G (.ref p) d.py := fun h => ⟨Dq.of_deed (fun z => by cases z) h, vdb_of bd'.g, bd'.r⟩
    have pA := S.off hp (fun _ z => by cases z) fun _ z => by cases z
    have okO : ∀ z ∈ once d.names, NameOk z := fun z hz => okN z ((once_mem _ _).mp hz)
    -- the sheet, and the names that are not there
    refine ⟨rfl, fun dS ws H1 s1 ndS lw5 hdS hpS => ?_⟩
    have sh1 : ShIn CN H1 dS ws := ⟨hdS, lw5, hpS⟩
    refine ⟨_, rfl, _, _, rfl, dIn (s1 _ _ hp), .inl ⟨d, rfl, ok, fun pm H2 s2 npm hpm => ⟨pm, rfl, ⟨_, SqT.of hpm⟩, fun D nD => ?_⟩⟩⟩
    have ol : ((once d.names).map V.str).length < sizeLine := by
      rw [List.length_map]
      exact lt _ (Nat.le_trans (once_small ok) (by decide))
    refine lc_filt (p := fun x => !decide (strV x ∈ SHEET)) walk_tup nD ol (fun H' s' => seqT s' (SqT.of hpm)) (by show 5 < 11; decide) (fun x H' hx' _ R kR => ?_) fun H3 s3 hD => ?_
    · obtain ⟨z, hz, rfl⟩ := List.mem_map.mp hx'
      refine ⟨_, rfl, rfl, fun d9 w9 H9 s9 n9 l9 h9 p9 => ⟨d9, _, rfl, DGet.k (k := Sum.inr z) h9, _, rfl, ?_⟩⟩
      rw [(ShIn.mk (CN := CN) h9 l9 p9).keys.look]
      exact kR H9 s9
    have eW : ((once d.names).map V.str).filter (fun x => !decide (strV x ∈ SHEET)) = ((once d.names).filter fun z => !decide (z ∈ SHEET)).map V.str := by
      rw [List.filter_map]
      rfl
    rw [eW] at hD
    have fW : (((once d.names).filter fun z => !decide (z ∈ SHEET)).map V.str).all fok = true := fok_names fun z hz => okO z (List.mem_filter.mp hz).1
    have find := find_filter (p := fun z => !decide (z ∈ SHEET)) (l := once d.names)
    generalize (once d.names).filter (fun z => !decide (z ∈ SHEET)) = WW at hD fW find
    refine ⟨le 2 (by decide), fun tp ntp => ⟨tp, _, rfl, SqT.of upd_same, rfl, _, _, rfl, _, _, rfl, rfl, ?_⟩⟩
    have s4 := same_upd (o := .tup [V.ref dS, .ref D]) ntp
    generalize L2.upd H3 tp (.tup [V.ref dS, .ref D]) = H4 at s4
    have s14 := ((s1.trans s2).trans s3).trans s4
    have sh4 := sh1.same ((s2.trans s3).trans s4)
    have hD4 := s4 _ _ hD
    have S4 := S.same s14
    have dSA := (S.new ndS).1
    have DA := ((S.same (s1.trans s2)).new nD).1
    -- the odd table
    obtain ⟨w1, w2, w3, w4, w5, rfl⟩ := five lw5
    refine ⟨_, rfl, le 0 (by decide), fun o1 no1 => ?_⟩
    have x1 := same_upd (o := .lst []) no1
    have o1A := (S4.new no1).1
    have g1 := upd_same (H := H4) (a := o1) (o := .lst [])
    have R1 := S4.same x1
    generalize L2.upd H4 o1 (.lst []) = M1 at x1 g1 R1
    intro d1 nd1
    refine ⟨upd_same, ODP1, rfl, by decide, ?_⟩
    rw [odp1.1]
    have y1 := disp_same (kvs := ODP1) nd1
    have q1 := upd_same (H := L2.upd M1 d1 (.dK [])) (a := d1) (o := .dK ODP1)
    have d1A := (R1.new nd1).1
    have R2 := R1.same y1
    generalize L2.upd (L2.upd M1 d1 (.dK [])) d1 (.dK ODP1) = M2 at y1 q1 R2
    intro d2 nd2
    refine ⟨le 2 (by decide), fun t2 nt2 => ⟨?_, [(Sum.inr "a", V.ref t2)], rfl, by show 1 ≤ 15; decide, ?_⟩⟩
    · rw [upd_ne (ne_of_none upd_same nt2)]
      exact upd_same
    have em2 : mergeK [] [((Sum.inr "a" : Key), V.ref t2)] = [((Sum.inr "a" : Key), V.ref t2)] := by kernel_rfl
    rw [em2]
    have y2 : Same M2 (L2.upd (L2.upd (L2.upd M2 d2 (.dK [])) t2 (.tup [V.int 1, .int 2])) d2 (.dK [(Sum.inr "a", V.ref t2)])) := fun b o eb => by
      have nb2 : b ≠ d2 := ne_of_none eb nd2
      rw [upd_ne nb2]
      exact (same_upd (o := .tup [V.int 1, .int 2]) nt2) _ _ ((same_upd (o := .dK []) nd2) _ _ eb)
    have nt2d : t2 ≠ d2 := (ne_of_none (upd_same (H := M2) (a := d2) (o := .dK [])) nt2).symm
    have q2 := upd_same (H := L2.upd (L2.upd M2 d2 (.dK [])) t2 (.tup [V.int 1, .int 2])) (a := d2) (o := .dK [(Sum.inr "a", .ref t2)])
    have qt : (L2.upd (L2.upd (L2.upd M2 d2 (.dK [])) t2 (.tup [V.int 1, .int 2])) d2 (.dK [(Sum.inr "a", V.ref t2)])) t2 = some (.tup [V.int 1, .int 2]) := by
      rw [upd_ne nt2d, upd_same]
    have d2A := (R2.new nd2).1
    have R3 := R2.same y2
    generalize L2.upd (L2.upd (L2.upd M2 d2 (.dK [])) t2 (.tup [V.int 1, .int 2])) d2 (.dK [(Sum.inr "a", V.ref t2)]) = M3 at y2 q2 qt R3
    have sh7 := sh4.same ((x1.trans y1).trans y2)
    intro d3 nd3
    have y3' := same_upd (o := .dK []) nd3
    refine ⟨_, rfl, dS, _, rfl, dget_k (.inr "o") (y3' _ _ sh7.d) rfl, upd_same, [(Sum.inr "O", w1)], rfl, by show 1 ≤ 15; decide, ?_⟩
    have em3 : mergeK [] [((Sum.inr "O" : Key), w1)] = [((Sum.inr "O" : Key), w1)] := by kernel_rfl
    rw [em3]
    have y3 := disp_same (kvs := [(Sum.inr "O", w1)]) nd3
    have q3 := upd_same (H := L2.upd M3 d3 (.dK [])) (a := d3) (o := .dK [(Sum.inr "O", w1)])
    have d3A := (R3.new nd3).1
    have R4 := R3.same y3
    generalize L2.upd (L2.upd M3 d3 (.dK [])) d3 (.dK [(Sum.inr "O", w1)]) = M4 at y3 q3 R4
    refine ⟨le 5 (by decide), fun L nL => ?_⟩
    have y4 := same_upd (o := .lst [V.non, .ref o1, .ref d1, .ref d2, .ref d3]) nL
    have nLw : L ≠ lw := fun z => (R4.new nL).1 (by simp [z])
    have hL := upd_same (H := M4) (a := L) (o := .lst [V.non, .ref o1, .ref d1, .ref d2, .ref d3])
    have R5 := R4.same y4
    generalize L2.upd M4 L (.lst [V.non, .ref o1, .ref d1, .ref d2, .ref d3]) = M5 at y4 R5 hL
    have z3 := y3.trans y4
    have z2 := y2.trans z3
    have z1 := y1.trans z2
    have z0 := x1.trans z1
    have sh5 := sh4.same z0
    refine ⟨a, lw, lc, _, L, _, rfl, R5, by omega, hL, nLw, (by show 0 < 5; decide), (by show 5 ≤ 1000; decide), fun i od M hxi S6 K6 => ?_⟩
    have odd5 : OddP CN [a, lw] M5 od := by
      have mx := List.mem_of_getElem? hxi
      simp only [List.mem_cons, List.not_mem_nil, or_false] at mx
      have va := odp1.2.1
      have vO := odp1.2.2.1
      rcases mx with rfl | rfl | rfl | rfl | rfl
      · exact .inl ⟨_, .non, rfl⟩
      · exact .inl ⟨_, .lst o1A (z1 _ _ g1) .nil, rfl⟩
      · exact .inr ⟨d1, ODP1, [false], rfl, d1A, z2 _ _ q1, by decide, fun kv hkv => by rw [List.mem_singleton.mp hkv]; exact va, .cons (.inl rfl) .nil, by decide +kernel⟩
      · exact .inr ⟨d2, _, [false], rfl, d2A, z3 _ _ q2, by show 1 ≤ 1000; decide, fun kv hkv => by rw [List.mem_singleton.mp hkv]; exact va, .cons (.inr ⟨t2, 1, 2, rfl, z3 _ _ qt⟩) .nil, by show (nameB (.str "a") && false && true) = false; rw [Bool.and_false]; rfl⟩
      · exact .inr ⟨d3, _, [true], rfl, d3A, y4 _ _ q3, by show 1 ≤ 1000; decide, fun kv hkv => by rw [List.mem_singleton.mp hkv]; exact vO, .cons (sh5.p w1 (by simp)) .nil, by show (nameB (.str "O") && true && true) = false; rw [odp1.2.2.2]; rfl⟩
    have K56 : KpE [a, lw] M5 M := KpE.of K6
    have odd6 := odd5.keep K56 (Kq.of R5 K56)
    have sh6 : ShIn CN M dS [w1, w2, w3, w4, w5] := sh5.kq K56 (Kq.of R5 K56) dSA
    have hD6 : M D = some (.lst (WW.map V.str)) := K6 _ _ (z0 _ _ hD4) DA
    have KHM : Kp [a, lw] H M := ((Kp.of s14).trans (Kp.of z0)).trans K6
    have stM : Stay a lw lc (t + 1) (TTs tt te) H M := ⟨S6.more (by omega), Tabs.kp hT S KHM, KpE.of KHM⟩
    have hpM := stM.tup pA hp
    have hxM := stM.dq hx
    have fin : ∀ {G : Hp}, Stay a lw lc (t + 1) (TTs tt te) M G → Q (.bl true) G := fun h => k _ ⟨h.s.more (by omega), h.t, stM.k.trans h.k⟩
    have st0 : Stay a lw lc (t + 1) (TTs tt te) M M := ⟨stM.s, stM.t, KpE.refl _ _⟩
    have SM := stM.s
    -- the first error
    refine ⟨stM.t, fun N1 e1 T1 => ?_⟩
    have st1 := st0.ext e1 T1
    have odd1 := odd6.keep st1.k (Kq.of SM st1.k)
    refine ⟨_, rfl, _, rfl, _, _, _, rfl, dIn (st1.tup pA hpM), .inr ⟨d, rfl, ok, .inl ⟨fun H' s' => (odd1.keep (KpE.same s' _) (Kq.of st1.s (KpE.same s' _))).bad, fun H' s' => ⟨true, BP.x, fun _ ea na => ?_, fun z => by cases z⟩⟩⟩⟩
    have v1 := same_upd (o := Caught (.ref CP) none ea) na
    have st2 := st1.same (s'.trans v1)
    have hea := upd_same (H := H') (a := ea) (o := Caught (.ref CP) none ea)
    generalize L2.upd H' ea (Caught (.ref CP) none ea) = G2 at v1 st2 hea
    refine ⟨_, rfl, ea, CP, none, .ref CP, .ref CP, true, rfl, hea, rfl, BP.c, .own CP, kit_self _, true, rfl, ?_⟩
    refine iteF ?_
    unfold tNext
    dsimp only
    refine seq_gen fun N hN => ?_
    have rest : ∀ (v8 : Option V) (G : Hp), Stay a lw lc (t + 1) (TTs tt te) M G → N [some (.ref a), some (.ref p), some x, some (.ref dS), some (.ref D), none, some od, some (.ref ea), v8, none, none] G := by
      intro v8 G stG
      rw [hN]
      clear hN
      have hxG := (stG.dq hxM).none_N
      refine ⟨_, rfl, x, e, rfl, hxG, vdb_of be.g, be.l, fun G3 s3 => ⟨_, rfl, ?_⟩⟩
      have st3 := stG.same s3
      cases eB : deedB e with
      | true =>
        refine iteT ?_
        exact fin st3
      | false =>
      refine iteF ?_
      have xIn : ∀ {G : Hp}, Stay a lw lc (t + 1) (TTs tt te) M G → DeedIn NOW G x e := fun h => ⟨(h.dq hxM).none_N, vdb_of be.g, be.r⟩
      refine ⟨st3.t, fun N4 e4 T4 => ?_⟩
      have st4 := st3.ext e4 T4
      refine ⟨_, rfl, _, rfl, _, _, _, rfl, xIn st4, .inl ⟨eB, fun H5 s5 => ⟨true, BD.x, fun _ ca na1 => ?_, fun z => by cases z⟩⟩⟩
      have u5 := same_upd (o := Caught (.ref CD) none ca) na1
      have st5 := st4.same (s5.trans u5)
      have hca := upd_same (H := H5) (a := ca) (o := Caught (.ref CD) none ca)
      generalize L2.upd H5 ca (Caught (.ref CD) none ca) = G5 at u5 st5 hca
      refine ⟨st5.t, fun N6 e6 T6 => ?_⟩
      have st6 := st5.ext e6 T6
      refine ⟨_, rfl, _, _, rfl, xIn st6, .inr ⟨eB, fun H7 s7 => ⟨true, BD.x, fun _ cb na2 => ?_, fun z => by cases z⟩⟩⟩
      have u7 := same_upd (o := Caught (.ref CD) none cb) na2
      have st7 := st6.same (s7.trans u7)
      have hcb := upd_same (H := H7) (a := cb) (o := Caught (.ref CD) none cb)
      have hca7 := u7 _ _ (s7 _ _ (e6 _ _ hca fun _ z => by cases z))
      generalize L2.upd H7 cb (Caught (.ref CD) none cb) = G7 at u7 st7 hcb hca7
      refine ⟨le 2 (by decide), fun L1 nL1 => ?_⟩
      have u8 := same_upd (o := .lst [V.ref ca, .ref cb]) nL1
      have hL1 := upd_same (H := G7) (a := L1) (o := .lst [V.ref ca, .ref cb])
      have st8 := st7.same u8
      have hca8 := u8 _ _ hca7
      have hcb8 := u8 _ _ hcb
      generalize L2.upd G7 L1 (.lst [V.ref ca, .ref cb]) = G8 at u8 hL1 st8 hca8 hcb8
      -- the other two
      refine ⟨_, rfl, st8.t, fun N9 e9 T9 => ?_⟩
      have st9 := st8.ext e9 T9
      refine ⟨_, rfl, _, _, rfl, xIn st9, .inr ⟨eB, fun H10 s10 => ⟨true, BD.x, fun _ cc na3 => ?_, fun z => by cases z⟩⟩⟩
      have u10 := same_upd (o := Caught (.ref CD) none cc) na3
      have st10 := st9.same (s10.trans u10)
      have hcc := upd_same (H := H10) (a := cc) (o := Caught (.ref CD) none cc)
      have ex10 : ∀ {b : Addr} {o : HO}, G8 b = some o → (∀ ps, o ≠ .tbl ps) → (L2.upd H10 cc (Caught (.ref CD) none cc)) b = some o := fun h n => u10 _ _ (s10 _ _ (e9 _ _ h n))
      generalize L2.upd H10 cc (Caught (.ref CD) none cc) = G10 at u10 st10 hcc ex10
      refine ⟨st10.t, fun N11 e11 T11 => ?_⟩
      have st11 := st10.ext e11 T11
      refine ⟨_, rfl, _, rfl, _, _, _, rfl, xIn st11, .inl ⟨eB, fun H12 s12 => ⟨true, BD.x, fun _ cd na4 => ?_, fun z => by cases z⟩⟩⟩
      have u12 := same_upd (o := Caught (.ref CD) none cd) na4
      have st12 := st11.same (s12.trans u12)
      have hcd := upd_same (H := H12) (a := cd) (o := Caught (.ref CD) none cd)
      have ex12 : ∀ {b : Addr} {o : HO}, G10 b = some o → (∀ ps, o ≠ .tbl ps) → (L2.upd H12 cd (Caught (.ref CD) none cd)) b = some o := fun h n => u12 _ _ (s12 _ _ (e11 _ _ h n))
      generalize L2.upd H12 cd (Caught (.ref CD) none cd) = G12 at u12 st12 hcd ex12
      refine ⟨le 2 (by decide), fun L2' nL2 => ?_⟩
      have u13 := same_upd (o := .lst [V.ref cc, .ref cd]) nL2
      refine ⟨L1, L2', _, _, rfl, rfl, u13 _ _ (ex12 (ex10 hL1 fun _ z => by cases z) fun _ z => by cases z), upd_same, le 4 (by decide), fun L3 nL3 => ?_⟩
      have u14 := same_upd (o := .lst ([V.ref ca, .ref cb] ++ [.ref cc, .ref cd])) nL3
      have hL3 := upd_same (H := L2.upd G12 L2' (.lst [V.ref cc, .ref cd])) (a := L3) (o := .lst ([V.ref ca, .ref cb] ++ [.ref cc, .ref cd]))
      have u34 := u13.trans u14
      have st14 := st12.same u34
      have old : ∀ {b : Addr} {o : HO}, G8 b = some o → (∀ ps, o ≠ .tbl ps) → (L2.upd (L2.upd G12 L2' (.lst [V.ref cc, .ref cd])) L3 (.lst ([V.ref ca, .ref cb] ++ [.ref cc, .ref cd]))) b = some o := fun h n => u34 _ _ (ex12 (ex10 h n) n)
      have qa := old hca8 fun _ z => by cases z
      have qb := old hcb8 fun _ z => by cases z
      have qc := u34 _ _ (ex12 hcc fun _ z => by cases z)
      have qd := u34 _ _ hcd
      generalize L2.upd (L2.upd G12 L2' (.lst [V.ref cc, .ref cd])) L3 (.lst ([V.ref ca, .ref cb] ++ [.ref cc, .ref cd])) = G14 at hL3 st14 qa qb qc qd
      refine ⟨_, rfl, L3, rfl, ⟨_, SqL.of hL3⟩, fun D20 nD20 => ?_⟩
      refine lc_rel (p := fun _ => false) (c := fun x => x) (rel := fun _ y b => y = b) walk_list nD20 (by show 4 < sizeLine; decide) (fun H' s' => Same.seq s' (SqL.of hL3)) (fun _ q => q) (fun _ q _ => q) (fun v => rfl) (fun y H' hy sH R kR => ?_) (fun x H' hx e _ R kR => by cases e) fun H20 ys20 s20 hD20 f20 => ?_
      · have here : ∀ {b : Addr}, G14 b = some (Caught (.ref CD) none b) → y = .ref b → ∃ b', y = .ref b' ∧ G14 b' = some (Caught (.ref CD) none b') := fun {b} h e => ⟨b, e, h⟩
        obtain ⟨b, rfl, hbb⟩ : ∃ b', y = .ref b' ∧ G14 b' = some (Caught (.ref CD) none b') := by
          simp only [List.cons_append, List.nil_append, List.mem_cons, List.not_mem_nil, or_false] at hy
          rcases hy with h | h | h | h
          · exact here qa h
          · exact here qb h
          · exact here qc h
          · exact here qd h
        exact ⟨_, rfl, b, CD, none, .ref CD, .ref CD, true, rfl, sH _ _ hbb, rfl, BD.c, .own CD, kit_self _, true, rfl, kR H' (Same.refl _)⟩
      have ey20 : ys20 = [] := by
        have := f20.len
        rw [List.length_map, List.filter_eq_nil_iff.mpr (fun _ _ => by simp)] at this
        exact List.length_eq_zero_iff.mp this
      subst ey20
      refine tail_eq hD20 rfl fun H21 s21 => ?_
      exact fin (st14.same (s20.trans s21))
    clear hN
    -- a name that is lacking
    have hDG := st2.lst DA hD6
    refine ⟨_, rfl, tail_ne hDG fW fun G3 s3 => ⟨_, rfl, ?_⟩⟩
    have st3 := st2.same s3
    cases eWW : WW.isEmpty with
    | true =>
      have e2 : (WW.map V.str).isEmpty = true := by rw [List.isEmpty_map, eWW]
      rw [e2]
      refine iteF ?_
      exact rest none G3 st3
    | false =>
    have e2 : (WW.map V.str).isEmpty = false := by rw [List.isEmpty_map, eWW]
    rw [e2]
    refine iteT ?_
    obtain ⟨zz, rr, ez, fz⟩ := find eWW
    refine ⟨st3.t, fun N4 e4 T4 => ?_⟩
    have st4 := st3.ext e4 T4
    have sh8 := sh6.kq st4.k (Kq.of SM st4.k) dSA
    obtain ⟨pts1, pts2⟩ := sh8.pts
    refine ⟨_, rfl, _, rfl, _, _, _, rfl, dIn (st4.tup pA hpM), .inr ⟨d, rfl, ok, .inr ⟨_, _, SHEET, zz, pts1, pts2, sh8.keys, fz, fun o H5 s5 ho => ⟨true, xS, fun _ eb nb => ?_, fun z => by cases z⟩⟩⟩⟩
    have u5 := same_upd (o := Caught (.ref CS) (some o) eb) nb
    have st5 := st4.same (s5.trans u5)
    have heb := upd_same (H := H5) (a := eb) (o := Caught (.ref CS) (some o) eb)
    have ho5 := u5 _ _ ho
    generalize L2.upd H5 eb (Caught (.ref CS) (some o) eb) = G5 at u5 st5 heb ho5
    refine ⟨_, rfl, eb, CS, o, _, .ref CS, .ref CS, true, rfl, heb, ho5, cS, .own CS, kit_self _, _, rfl, ?_⟩
    refine iteF ?_
    have lk : List.lookup ("name" : Str) [(("name" : Str), V.str zz)] = some (.str zz) := by simp [List.lookup]
    have hD5 := st5.lst DA hD6
    have hat0 : atI (WW.map V.str) (0 : Int) = some (.str zz) := by
      rw [ez]
      exact at_nat (k := 0) rfl
    refine ⟨_, rfl, eb, CS, o, _, .str zz, rfl, heb, xfS, SN.noN, ho5, lk, _, rfl, D, _, _, _, rfl, rfl, SqL.of hD5, hat0, rfl, _, rfl, ?_⟩
    rw [decide_eq_true rfl]
    refine iteF ?_
    exact rest _ G5 st5
end
end Own
set_option Elab.async false
set_option linter.all false
set_option maxRecDepth 100000
set_option maxHeartbeats 400000
namespace Own
open PySem PySem.Spec PyProof.Rows L2 LamX
/-! ### what the walk asks of the module, all of it -/
def FNS : List (Str × Stmt) := ("is_whole", sWhole) :: ("is_name", sName) :: ("vec_lowest", sLowest) :: ("rows_of", sRowsOf) :: ("need_tower", sNeedT) :: ("is_number", sIsNum) :: ("is_point", sIsPt) :: ("sheet", sSheet) :: ("is_points", sIsPts) :: ("is_deed", sDeed) :: ("need_deed", sNeedD) :: ("names_of", sNames) :: ("tool_of", sTool) :: ("on_names", sOnNames) :: ("is_drawing", sDrawing) :: ("laid", sLaid) ::
  ("_law_begun", sBegun) :: ("_law_stirred", sStir) :: ("_law_draw", sDraw) :: ("_law_pick", sPick) :: ("_law_shuffled", sShuf) :: ("_law_name", sLName) :: ("_law_caught", sCaught) :: ("_law_forms", sForms) :: ("_law_has_way", sHasWay) :: ("_law_deed", sLDeed) :: ("_law_is_name_due", sNameDue) :: ("_law_is_deed_due", sDeedDue) :: ("_law_bent", sBent) :: ("_law_is_drawing_due", sDrawDue) ::
  ("_law_steps", sSteps) :: ("_law_bent_steps", sBentS) :: ("_law_told_right", sToldR) :: ("_law_errors_right", sErrR) :: ("law", sLaw) :: []
/-- the errors' classes -/
structure Cs where
  d : Addr
  p : Addr
  t : Addr
  s : Addr
  r : Addr
/-- Tower and Number -/
structure Os where
  CT : Addr
  CN : Addr
  fT : Addr
  fN : Addr
  pE : Addr
  fI : Addr
structure All (P : Program) (w : World) (K : PySem.W.Frag) (mg : Str → Option Value) (C : Cs) (O : Os) (dT dN : FuncData) : Prop where
  t : Txt K mg
  c : Cst K mg
  d : Dct NOW K w mg
  o : Obj2 K mg O.CT O.CN O.fT O.fN O.pE dT dN
  fns : ∀ x st, (x, st) ∈ FNS → ∃ fd, FnP K x st (He.ga K x) fd
  gl : ∀ x st, (x, st) ∈ FNS → mg x = some (.ref (He.ga K x))
  frac : ∃ fd, FunD K "fraction" "fraction" (defArgs sFrac) (defBody sFrac) (defScope sFrac) [.int 1] [] (He.ga K "fraction") fd
  gFr : mg "fraction" = some (.ref (He.ga K "fraction"))
  eD : ErrK K mg C.r "BadDeed" C.d
  eP : ErrK K mg C.r "BadPoints" C.p
  eT : ErrK K mg C.r "BadTable" C.t
  sn : SupX.Has P K mg tNN C.s O.fI
  cS : ExcC K C.s
  fS : XfC K C.s
  xS : PySem.W.exmOne K (.ref C.s) (.ref C.r) = some true
  gR : mg "RulerError" = some (.ref C.r)
section
variable {P : Program} {w : World} {K : PySem.W.Frag} {mg : Str → Option Value} {base : Heap} {C : Cs} {O : Os} {dT dN : FuncData}
theorem All.mem1 (Z : All P w K mg C O dT dN) (x : Str) (st : Stmt) (h : (x, st) ∈ FNS) : ∃ fd, FnP K x st (He.ga K x) fd ∧ mg x = some (.ref (He.ga K x)) := by
  obtain ⟨fd, h1⟩ := Z.fns x st h
  exact ⟨fd, h1, Z.gl x st h⟩
theorem Fk.of {CX : CXT} {k : Nat} {x : Str} {st : Stmt} {fd : FuncData} {ps : List Str} {sp : Sp} (F : FnP K x st (He.ga K x) fd) (g : mg x = some (.ref (He.ga K x))) (ok : FnOk P w K mg base CX k (He.ga K x) fd ps sp) (b : Binds K fd ps []) : Fk P w K mg base CX k x fd ps sp := ⟨ok, b, F.kp, g⟩
theorem All.kDraw (Z : All P w K mg C O dT dN) : ∃ fd, Fk P w K mg base CX0 2 "_law_draw" fd ["_law_state", "_law_room"] spDraw := by
  obtain ⟨dS, FS, gS⟩ := Z.mem1 "_law_stirred" sStir (by simp [FNS])
  obtain ⟨fd, F, g⟩ := Z.mem1 "_law_draw" sDraw (by simp [FNS])
  exact ⟨fd, .of F g (ok_draw F FS gS Z.t) (F.bindsN fun _ _ _ _ _ _ us hl => match us, hl with | [_, _], _ => rfl)⟩
theorem All.kPick (Z : All P w K mg C O dT dN) : ∃ fd, Fk P w K mg base CX0 3 "_law_pick" fd ["_law_state", "_law_some"] (spPick K) := by
  obtain ⟨dS, FS, gS⟩ := Z.mem1 "_law_stirred" sStir (by simp [FNS])
  obtain ⟨dD, FD, gD⟩ := Z.mem1 "_law_draw" sDraw (by simp [FNS])
  obtain ⟨fd, F, g⟩ := Z.mem1 "_law_pick" sPick (by simp [FNS])
  exact ⟨fd, .of F g (ok_pick F FD FS gD gS Z.t) (F.bindsN fun _ _ _ _ _ _ us hl => match us, hl with | [_, _], _ => rfl)⟩
theorem All.kBegun (Z : All P w K mg C O dT dN) : ∃ fd, Fk P w K mg base CX0 1 "_law_begun" fd ["_law_script"] (spBegun K) := by
  obtain ⟨fd, F, g⟩ := Z.mem1 "_law_begun" sBegun (by simp [FNS])
  exact ⟨fd, .of F g (ok_begun F Z.t) (F.bindsN fun _ _ _ _ _ _ us hl => match us, hl with | [_], _ => rfl)⟩
theorem All.kForms (Z : All P w K mg C O dT dN) : ∃ fd, Fk P w K mg base CX0 1 "_law_forms" fd [] spForms := by
  obtain ⟨fd, F, g⟩ := Z.mem1 "_law_forms" sForms (by simp [FNS])
  exact ⟨fd, .of F g (ok_forms F) (F.bindsN fun _ _ _ _ _ _ us hl => match us, hl with | [], _ => rfl)⟩
theorem All.kHasWay (Z : All P w K mg C O dT dN) : ∃ fd, Fk P w K mg base CX0 1 "_law_has_way" fd ["_law_word"] spHasWay := by
  obtain ⟨fd, F, g⟩ := Z.mem1 "_law_has_way" sHasWay (by simp [FNS])
  exact ⟨fd, .of F g (ok_hasway F) (F.bindsN fun _ _ _ _ _ _ us hl => match us, hl with | [_], _ => rfl)⟩
theorem All.kLName (Z : All P w K mg C O dT dN) : ∃ fd, Fk P w K mg base CX0 4 "_law_name" fd ["_law_state", "_law_barred"] spLName := by
  obtain ⟨dS, FS, gS⟩ := Z.mem1 "_law_stirred" sStir (by simp [FNS])
  obtain ⟨dD, FD, gD⟩ := Z.mem1 "_law_draw" sDraw (by simp [FNS])
  obtain ⟨dP, FP, gP⟩ := Z.mem1 "_law_pick" sPick (by simp [FNS])
  obtain ⟨fd, F, g⟩ := Z.mem1 "_law_name" sLName (by simp [FNS])
  exact ⟨fd, .of F g (ok_lname F FP FD FS gP gD gS Z.t) (F.bindsN fun _ _ _ _ _ _ us hl => match us, hl with | [_, _], _ => rfl)⟩
theorem All.kLDeed (Z : All P w K mg C O dT dN) : ∃ fd, Fk P w K mg base CX0 4 "_law_deed" fd ["_law_state", "_law_word", "_law_names"] spLDeed := by
  obtain ⟨dS, FS, gS⟩ := Z.mem1 "_law_stirred" sStir (by simp [FNS])
  obtain ⟨dD, FD, gD⟩ := Z.mem1 "_law_draw" sDraw (by simp [FNS])
  obtain ⟨dP, FP, gP⟩ := Z.mem1 "_law_pick" sPick (by simp [FNS])
  obtain ⟨dSh, FSh, gSh⟩ := Z.mem1 "_law_shuffled" sShuf (by simp [FNS])
  obtain ⟨dF, FF, gF⟩ := Z.mem1 "_law_forms" sForms (by simp [FNS])
  obtain ⟨dH, FH, gH⟩ := Z.mem1 "_law_has_way" sHasWay (by simp [FNS])
  obtain ⟨fd, F, g⟩ := Z.mem1 "_law_deed" sLDeed (by simp [FNS])
  exact ⟨fd, .of F g (ok_ldeed F FSh FF FH FP FD FS gSh gF gH gP gD gS Z.t) (F.bindsN fun _ _ _ _ _ _ us hl => match us, hl with | [_, _, _], _ => rfl)⟩
theorem All.kWhole (Z : All P w K mg C O dT dN) : ∃ fd, Fk P w K mg base CX0 1 "is_whole" fd ["value"] (spWhole K) := by
  obtain ⟨fd, F, g⟩ := Z.mem1 "is_whole" sWhole (by simp [FNS])
  exact ⟨fd, .of F g (ok_whole F Z.t) (F.bindsN fun _ _ _ _ _ _ us hl => match us, hl with | [_], _ => rfl)⟩
theorem All.kName (Z : All P w K mg C O dT dN) : ∃ fd, Fk P w K mg base CX0 1 "is_name" fd ["value"] spName := by
  obtain ⟨fd, F, g⟩ := Z.mem1 "is_name" sName (by simp [FNS])
  exact ⟨fd, .of F g (ok_name F Z.t Z.c) (F.bindsN fun _ _ _ _ _ _ us hl => match us, hl with | [_], _ => rfl)⟩
theorem All.kDeed (Z : All P w K mg C O dT dN) : ∃ fd, FnP K "is_deed" sDeed (He.ga K "is_deed") fd ∧ Fk P w K mg base CX0 2 "is_deed" fd ["value"] (spDeed NOW) := by
  obtain ⟨dN', KN⟩ := Z.kName (base := base)
  obtain ⟨dI, KI⟩ := Z.kWhole (base := base)
  obtain ⟨fd, F, g⟩ := Z.mem1 "is_deed" sDeed (by simp [FNS])
  exact ⟨fd, F, .of F g (ok_deed F KN KI Z.t Z.d now_no) (F.bindsN fun _ _ _ _ _ _ us hl => match us, hl with | [_], _ => rfl)⟩
theorem All.kNeedD (Z : All P w K mg C O dT dN) : ∃ fd, Fk P w K mg base (L2.CX P w) 3 "need_deed" fd ["deed"] (spNeedD NOW C.d) := by
  obtain ⟨dD, _, KD⟩ := Z.kDeed (base := base)
  obtain ⟨fd, F, g⟩ := Z.mem1 "need_deed" sNeedD (by simp [FNS])
  exact ⟨fd, .of F g (ok_needd F KD Z.eD.e) (F.bindsN fun _ _ _ _ _ _ us hl => match us, hl with | [_], _ => rfl)⟩
theorem All.kNames (Z : All P w K mg C O dT dN) : ∃ fd, FnP K "names_of" sNames (He.ga K "names_of") fd ∧ Fk P w K mg base (L2.CX P w) 4 "names_of" fd ["deed"] (spOfDeed NOW C.d rNames) := by
  obtain ⟨dD, KD⟩ := Z.kNeedD (base := base)
  obtain ⟨fd, F, g⟩ := Z.mem1 "names_of" sNames (by simp [FNS])
  exact ⟨fd, F, .of F g (ok_names F KD Z.t Z.d) (F.bindsN fun _ _ _ _ _ _ us hl => match us, hl with | [_], _ => rfl)⟩
theorem All.kTool (Z : All P w K mg C O dT dN) : ∃ fd, FnP K "tool_of" sTool (He.ga K "tool_of") fd ∧ Fk P w K mg base (L2.CX P w) 4 "tool_of" fd ["deed"] (spOfDeed NOW C.d rTool) := by
  obtain ⟨dD, KD⟩ := Z.kNeedD (base := base)
  obtain ⟨fd, F, g⟩ := Z.mem1 "tool_of" sTool (by simp [FNS])
  exact ⟨fd, F, .of F g (ok_tool F KD Z.d) (F.bindsN fun _ _ _ _ _ _ us hl => match us, hl with | [_], _ => rfl)⟩
theorem All.kOnN (Z : All P w K mg C O dT dN) : ∃ fd, FnP K "on_names" sOnNames (He.ga K "on_names") fd ∧ Fk P w K mg base (L2.CX P w) 4 "on_names" fd ["deed", "table"] (spOnNames NOW C.d C.t) := by
  obtain ⟨dD, KD⟩ := Z.kNeedD (base := base)
  obtain ⟨dN', KN⟩ := Z.kName (base := base)
  obtain ⟨fd, F, g⟩ := Z.mem1 "on_names" sOnNames (by simp [FNS])
  exact ⟨fd, F, .of F g (ok_onnames F KD KN Z.t Z.d Z.eT.e) (F.bindsN fun _ _ _ _ _ _ us hl => match us, hl with | [_, _], _ => rfl)⟩
theorem All.kSheet (Z : All P w K mg C O dT dN) : ∃ fd, Fk P w K mg base CX0 5 "sheet" fd [] (spSheet O.CN) := by
  obtain ⟨dFr, FFr⟩ := Z.frac
  obtain ⟨dI, FI, gI⟩ := Z.mem1 "is_whole" sWhole (by simp [FNS])
  obtain ⟨dRo, FRo, gRo⟩ := Z.mem1 "rows_of" sRowsOf (by simp [FNS])
  obtain ⟨dNt, FNt, gNt⟩ := Z.mem1 "need_tower" sNeedT (by simp [FNS])
  obtain ⟨dLo, FLo, gLo⟩ := Z.mem1 "vec_lowest" sLowest (by simp [FNS])
  obtain ⟨fd, F, g⟩ := Z.mem1 "sheet" sSheet (by simp [FNS])
  exact ⟨fd, .of F g (ok_sheet F FFr FI FRo FNt FLo Z.gFr gI gRo gNt gLo Z.t Z.o) (F.bindsN fun _ _ _ _ _ _ us hl => match us, hl with | [], _ => rfl)⟩
theorem All.kDrawing (Z : All P w K mg C O dT dN) : ∃ fd, FnP K "is_drawing" sDrawing (He.ga K "is_drawing") fd ∧ Fk P w K mg base CX0 6 "is_drawing" fd ["value"] (spDrawing NOW) := by
  obtain ⟨dS, KS⟩ := Z.kSheet (base := base)
  obtain ⟨dN', KN⟩ := Z.kName (base := base)
  obtain ⟨dD, _, KD⟩ := Z.kDeed (base := base)
  obtain ⟨dM, _, KM⟩ := Z.kNames (base := base)
  obtain ⟨fd, F, g⟩ := Z.mem1 "is_drawing" sDrawing (by simp [FNS])
  exact ⟨fd, F, .of F g (ok_drawing F KS KN KD KM Z.t) (F.bindsN fun _ _ _ _ _ _ us hl => match us, hl with | [_], _ => rfl)⟩
theorem All.kLaid (Z : All P w K mg C O dT dN) : ∃ fd, Fk P w K mg base (L2.CX P w) 5 "laid" fd ["deed", "points"] (spLaid NOW O.CN C.d C.p C.s) := by
  obtain ⟨d1, F1, g1⟩ := Z.mem1 "is_number" sIsNum (by simp [FNS])
  have K1 : Fk P w K mg base CX0 1 "is_number" d1 ["value"] (spIsNum O.CN) := .of F1 g1 (ok_isnum F1 Z.t Z.o) (F1.bindsN fun _ _ _ _ _ _ us hl => match us, hl with | [_], _ => rfl)
  obtain ⟨d2, F2, g2⟩ := Z.mem1 "is_point" sIsPt (by simp [FNS])
  have K2 : Fk P w K mg base CX0 2 "is_point" d2 ["value"] (spIsPt O.CN) := .of F2 g2 (ok_ispt F2 K1 Z.t) (F2.bindsN fun _ _ _ _ _ _ us hl => match us, hl with | [_], _ => rfl)
  obtain ⟨dN', KN⟩ := Z.kName (base := base)
  obtain ⟨d3, F3, g3⟩ := Z.mem1 "is_points" sIsPts (by simp [FNS])
  have K3 : Fk P w K mg base CX0 3 "is_points" d3 ["value"] (spIsPts O.CN) := .of F3 g3 (ok_ispts F3 KN K2 Z.t) (F3.bindsN fun _ _ _ _ _ _ us hl => match us, hl with | [_], _ => rfl)
  obtain ⟨dD, KD⟩ := Z.kNeedD (base := base)
  obtain ⟨dM, _, KM⟩ := Z.kNames (base := base)
  obtain ⟨fd, F, g⟩ := Z.mem1 "laid" sLaid (by simp [FNS])
  exact ⟨fd, .of F g (ok_laid F KD KM K3 Z.eP.e Z.sn) (F.bindsN fun _ _ _ _ _ _ us hl => match us, hl with | [_, _], _ => rfl)⟩
/-- such a def, no repr being under way -/
structure Gk (P : Program) (w : World) (K : PySem.W.Frag) (mg : Str → Option Value) (base : Heap) (CX : CXT) (k : Nat) (x : Str) (fd : FuncData) (ps : List Str) (sp : Sp) : Prop where
  ok : FnOkG P w K mg base CX k (He.ga K x) fd ps sp
  b : Binds K fd ps []
  kp : PySem.W.keepIn K (.ref (He.ga K x)) = true
  g : mg x = some (.ref (He.ga K x))
theorem All.kNameDue (Z : All P w K mg C O dT dN) : ∃ fd, Fk P w K mg base CX0 1 "_law_is_name_due" fd ["_law_value"] spName := by
  obtain ⟨fd, F, g⟩ := Z.mem1 "_law_is_name_due" sNameDue (by simp [FNS])
  exact ⟨fd, .of F g (ok_namedue F Z.t) (F.bindsN fun _ _ _ _ _ _ us hl => match us, hl with | [_], _ => rfl)⟩
theorem All.kDeedDue (Z : All P w K mg C O dT dN) : ∃ fd, Gk P w K mg base CX0 2 "_law_is_deed_due" fd ["_law_value"] spDeedDue := by
  obtain ⟨dN', KN⟩ := Z.kNameDue (base := base)
  obtain ⟨dF, KF⟩ := Z.kForms (base := base)
  obtain ⟨dH, KH⟩ := Z.kHasWay (base := base)
  obtain ⟨fd, F, g⟩ := Z.mem1 "_law_is_deed_due" sDeedDue (by simp [FNS])
  exact ⟨fd, ok_deeddue F KN KF KH Z.t, F.bindsN fun _ _ _ _ _ _ us hl => match us, hl with | [_], _ => rfl, F.kp, g⟩
theorem All.kDrawDue (Z : All P w K mg C O dT dN) : ∃ fd, Gk P w K mg base CX0 3 "_law_is_drawing_due" fd ["_law_value"] spDrawDue := by
  obtain ⟨dN', KN⟩ := Z.kNameDue (base := base)
  obtain ⟨dF, KF⟩ := Z.kForms (base := base)
  obtain ⟨dD, KD⟩ := Z.kDeedDue (base := base)
  obtain ⟨fd, F, g⟩ := Z.mem1 "_law_is_drawing_due" sDrawDue (by simp [FNS])
  exact ⟨fd, ok_drawdue F KN KF KD.ok KD.b KD.kp KD.g Z.t, F.bindsN fun _ _ _ _ _ _ us hl => match us, hl with | [_], _ => rfl, F.kp, g⟩
theorem All.kBent (Z : All P w K mg C O dT dN) : ∃ fd, Fk P w K mg base CX0 4 "_law_bent" fd ["_law_state", "_law_deed_here"] spBent := by
  obtain ⟨dD, KD⟩ := Z.kDraw (base := base)
  obtain ⟨dP, KP⟩ := Z.kPick (base := base)
  obtain ⟨fd, F, g⟩ := Z.mem1 "_law_bent" sBent (by simp [FNS])
  exact ⟨fd, .of F g (ok_bent F KD KP Z.t) (F.bindsN fun _ _ _ _ _ _ us hl => match us, hl with | [_, _], _ => rfl)⟩
theorem All.kSteps (Z : All P w K mg C O dT dN) : ∃ fd, Fk P w K mg base CX0 5 "_law_steps" fd ["_law_state", "_law_words"] spSteps := by
  obtain ⟨dD, KD⟩ := Z.kDraw (base := base)
  obtain ⟨dP, KP⟩ := Z.kPick (base := base)
  obtain ⟨dN', KN⟩ := Z.kLName (base := base)
  obtain ⟨dE, KE⟩ := Z.kLDeed (base := base)
  obtain ⟨fd, F, g⟩ := Z.mem1 "_law_steps" sSteps (by simp [FNS])
  exact ⟨fd, .of F g (ok_steps F KD KP KN KE Z.t) (F.bindsN fun _ _ _ _ _ _ us hl => match us, hl with | [_, _], _ => rfl)⟩
theorem All.kBentS (Z : All P w K mg C O dT dN) : ∃ fd, Fk P w K mg base CX0 5 "_law_bent_steps" fd ["_law_state", "_law_steps_here"] spBentS := by
  obtain ⟨dD, KD⟩ := Z.kDraw (base := base)
  obtain ⟨dP, KP⟩ := Z.kPick (base := base)
  obtain ⟨dB, KB⟩ := Z.kBent (base := base)
  obtain ⟨fd, F, g⟩ := Z.mem1 "_law_bent_steps" sBentS (by simp [FNS])
  exact ⟨fd, .of F g (ok_bents F KD KP KB Z.t) (F.bindsN fun _ _ _ _ _ _ us hl => match us, hl with | [_, _], _ => rfl)⟩
theorem All.kTold {tt te : Addr} (Z : All P w K mg C O dT dN) (hf : He.ga K "_law_told_right" = He.fAd K ("_law_told_right", none)) (TB : TabB base mg (He.codeOf K ("_law_told_right", none)) tt) (A2 : tt ≠ te) : ∃ fd, Fk P w K mg base CX0 7 "_law_told_right" fd ["_law_state", "_law_deed_here"] (spTold tt te) := by
  obtain ⟨dP, KP⟩ := Z.kPick (base := base)
  obtain ⟨dF, KF⟩ := Z.kForms (base := base)
  obtain ⟨dM, FM, KM⟩ := Z.kNames (base := base)
  obtain ⟨dT', FT, KT⟩ := Z.kTool (base := base)
  obtain ⟨dO, FO, KO⟩ := Z.kOnN (base := base)
  obtain ⟨dC, FC, gC⟩ := Z.mem1 "_law_caught" sCaught (by simp [FNS])
  obtain ⟨fd, F, g⟩ := Z.mem1 "_law_told_right" sToldR (by simp [FNS])
  exact ⟨fd, .of F g (ok_told F hf KP KF FM KM FT KT FO KO FC gC Z.gR Z.eT TB A2 Z.t) (F.bindsN fun _ _ _ _ _ _ us hl => match us, hl with | [_, _], _ => rfl)⟩
theorem All.kErr {tt te : Addr} (Z : All P w K mg C O dT dN) (hf : He.ga K "_law_errors_right" = He.fAd K ("_law_errors_right", none)) (TB : TabB base mg (He.codeOf K ("_law_errors_right", none)) te) (A2 : tt ≠ te) : ∃ fd, Gk P w K mg base CX0 8 "_law_errors_right" fd ["_law_state", "_law_deed_here", "_law_bent_here"] (spErr tt te) := by
  obtain ⟨dP, KP⟩ := Z.kPick (base := base)
  obtain ⟨dS, KS⟩ := Z.kSheet (base := base)
  obtain ⟨dL, KL⟩ := Z.kLaid (base := base)
  obtain ⟨dM, FM, KM⟩ := Z.kNames (base := base)
  obtain ⟨dT', FT, KT⟩ := Z.kTool (base := base)
  obtain ⟨dO, FO, KO⟩ := Z.kOnN (base := base)
  obtain ⟨dD, KD⟩ := Z.kDeedDue (base := base)
  obtain ⟨dC, FC, gC⟩ := Z.mem1 "_law_caught" sCaught (by simp [FNS])
  obtain ⟨fd, F, g⟩ := Z.mem1 "_law_errors_right" sErrR (by simp [FNS])
  exact ⟨fd, ok_err F hf KP KS KL KM KT KO KD.ok KD.b KD.kp KD.g FC gC Z.gR Z.eD Z.eP Z.sn Z.cS Z.fS Z.xS TB A2 Z.t, F.bindsN fun _ _ _ _ _ _ us hl => match us, hl with | [_, _, _], _ => rfl, F.kp, g⟩
end
end Own
set_option Elab.async false
set_option linter.all false
set_option maxRecDepth 100000
set_option maxHeartbeats 1000000
namespace Own
open PySem PySem.Spec PyProof.Rows L2 LamX
/-! ### the law -/
theorem fk_keys : FK.map (·.1) = (FORM.map (·.1)).map Sum.inr := by decide +kernel
/-- the law's promise, its code objects' tables being empty -/
def spLaw (K : PySem.W.Frag) (tt te : Addr) : Sp := fun vs H Q _ => ∃ (a : Addr) (ns : List Int), vs = [.ref a] ∧ SqL K H a (ns.map V.int) ∧ ns.length ≤ 63 ∧ H tt = some (.tbl #[]) ∧ H te = some (.tbl #[]) ∧ ∀ H', Q (.bl true) H'
abbrev nsLaw : List Str := ["_law_script", "_law_state", "_law_words", "_law_turn", "_law_deed_here", "_law_bent_here", "_law_steps_here", "_law_spoilt", "_law_told"]
theorem scLaw : FnScope nsLaw ["_law_script"] (defScope sLaw) := ⟨rfl, rfl, rfl, by decide +kernel, rfl, by decide +kernel, by decide +kernel⟩
/-- a list of truth values, as repr and == want it -/
theorem bls_read {K : PySem.W.Frag} {H : Hp} : ∀ (bs : List Bool), DpAll K H (bs.map V.bl) (bs.map PyData.bool)
  | [] => .nil
  | b :: bs => .cons (.bl b) (bls_read bs)
theorem bls_ok : ∀ a b c d : Bool, (PyData.list [.bool a, .bool b]).shown.length ≤ 100 ∧ (PyData.list [.bool a, .bool b, .bool c]).shown.length ≤ 100 ∧ (PyData.list [.bool a, .bool b, .bool c, .bool d]).shown.length ≤ 100 := by decide +kernel
section
variable {P : Program} {w : World} {K : PySem.W.Frag} {mg : Str → Option Value} {base : Heap} {C : Cs} {O : Os} {dT dN : FuncData} {tt te : Addr}
theorem ok_law {fd2 : FuncData} (F : FnP K "law" sLaw (He.ga K "law") fd2) (hft : He.ga K "_law_told_right" = He.fAd K ("_law_told_right", none)) (hfe : He.ga K "_law_errors_right" = He.fAd K ("_law_errors_right", none))
    (Z : All P w K mg C O dT dN) (A2 : tt ≠ te) (TBt : TabB base mg (He.codeOf K ("_law_told_right", none)) tt) (TBe : TabB base mg (He.codeOf K ("_law_errors_right", none)) te) :
    FnOkG P w K mg base CX0 9 (He.ga K "law") fd2 ["_law_script"] (spLaw K tt te) := by
  have T := Z.t
  obtain ⟨dG, KG⟩ := Z.kBegun (base := base)
  obtain ⟨dP, KP⟩ := Z.kPick (base := base)
  obtain ⟨dF, KF⟩ := Z.kForms (base := base)
  obtain ⟨dE, KE⟩ := Z.kLDeed (base := base)
  obtain ⟨dB, KB⟩ := Z.kBent (base := base)
  obtain ⟨dD, FD, KD⟩ := Z.kDeed (base := base)
  obtain ⟨dDD, KDD⟩ := Z.kDeedDue (base := base)
  obtain ⟨dTo, KTo⟩ := Z.kTold hft TBt A2
  obtain ⟨dEr, KEr⟩ := Z.kErr hfe TBe A2
  obtain ⟨dSt, KSt⟩ := Z.kSteps (base := base)
  obtain ⟨dBS, KBS⟩ := Z.kBentS (base := base)
  obtain ⟨dDr, FDr, KDr⟩ := Z.kDrawing (base := base)
  obtain ⟨dRD, KRD⟩ := Z.kDrawDue (base := base)
  have kD := kb_one FD (p := "value") fun _ _ _ _ _ _ _ => rfl
  have kDr := kb_one FDr (p := "value") fun _ _ _ _ _ _ _ => rfl
  refine FunD.okG F scLaw rfl (fun vs H Q E h => ?_) (fun cdv A outer s H vs Q E hlk hcd hg hr h => ?_)
  · obtain ⟨a, ns, rfl, _⟩ := h
    rfl
  · obtain ⟨sa, ns, rfl, hS, hl, hTt, hTe, k⟩ := h
    have hu : (A.deeper (envOfC "law" (defScope sLaw) s.heap.objs.size (He.ga K "law") cdv)).units + 100 < cLine := by have := hr.un; omega
    have hr1 := hr.mono (show 1 ≤ 8 by decide)
    have hr2 := hr.mono (show 2 ≤ 8 by decide)
    have hr3 := hr.mono (show 3 ≤ 8 by decide)
    have hr4 := hr.mono (show 4 ≤ 8 by decide)
    have hr5 := hr.mono (show 5 ≤ 8 by decide)
    have hr6 := hr.mono (show 6 ≤ 8 by decide)
    have hr7 := hr.mono (show 7 ≤ 8 by decide)
    refine ⟨_, PSsT.nox (PSsT.of (pss_cons (ps_set (i := 1) scLaw.nd rfl (.inl rfl) (pe_call KG.ok hr1 (by rfl) KG.g KG.kp KG.b .nil pass0 (pa_cons (pv 0) pa_nil)))
      (pss_cons (ps_set (i := 2) scLaw.nd rfl (.inl rfl) (pe_callB (call_sortedD rfl) (by rfl) T.sorted (by decide +kernel) (pa_cons (pe_call0 KF.ok hr1 (by rfl) KF.g KF.kp KF.b .nil pass0) pa_nil)))
      (pss_cons (ps_for PassesOwn.never rfl (pi_range1 (by rfl) T.range (pa_cons (pe_op op_add pe_int (pe_callB (call_min2 rfl) (by rfl) T.min (by decide +kernel) (pa_cons (pe_callB call_len_seq (by rfl) T.len PySem.boot_len (pa_cons (pv 0) pa_nil)) (pa_cons pe_int pa_nil)))) pa_nil)) (pg_name (i := 3) scLaw.nd rfl (Or.inl rfl))
        (pss_cons (ps_set (i := 4) scLaw.nd rfl (.inl rfl) (pe_call KE.ok hr4 (by rfl) KE.g KE.kp KE.b .nil pass0 (pa_cons (pv 1) (pa_cons (pe_call KP.ok hr3 (by rfl) KP.g KP.kp KP.b .nil pass0 (pa_cons (pv 1) (pa_cons (pv 2) pa_nil))) (pa_cons (pe_lst (pa_cons pe_str (pa_cons pe_str (pa_cons pe_str (pa_cons pe_str (pa_cons pe_str (pa_cons pe_str pa_nil))))))) pa_nil)))))
        (pss_cons (ps_set (i := 5) scLaw.nd rfl (.inl rfl) (pe_call KB.ok hr4 (by rfl) KB.g KB.kp KB.b .nil pass0 (pa_cons (pv 1) (pa_cons (pv 4) pa_nil))))
        (pss_cons (ps_if (pt_cmpR op_ne (pe_callB (call_reprD hg hu) (by rfl) T.repr (by decide +kernel) (pa_cons (pe_lst (pa_cons (pe_kw0 KD.ok hr2 (by rfl) KD.g KD.kp kD pass0 (pk_cons (pv 4) pk_nil)) (pa_cons (pe_call KD.ok hr2 (by rfl) KD.g KD.kp KD.b .nil pass0 (pa_cons (pv 5) pa_nil)) pa_nil))) pa_nil))
            (pe_callB (call_reprD hg hu) (by rfl) T.repr (by decide +kernel) (pa_cons (pe_lst (pa_cons pe_bl (pa_cons (pe_callG KDD.ok hg hr2 (by rfl) KDD.g KDD.kp KDD.b pass0 (pa_cons (pv 5) pa_nil)) pa_nil))) pa_nil)) (nomark _)) (pss_one (ps_ret pe_bl)) pss_nil)
        (pss_cons (ps_if (PW.pt (pw_or (pt_not (pt_val (pe_call KTo.ok hr7 (by rfl) KTo.g KTo.kp KTo.b .nil pass0 (pa_cons (pv 1) (pa_cons (pv 4) pa_nil))))) (pw_or1 (pt_not (pt_val (pe_callG KEr.ok hg hr (by rfl) KEr.g KEr.kp KEr.b pass0 (pa_cons (pv 1) (pa_cons (pv 4) (pa_cons (pv 5) pa_nil))))))))) (pss_one (ps_ret pe_bl)) pss_nil)
        (pss_cons (ps_set (i := 6) scLaw.nd rfl (.inl rfl) (pe_call KSt.ok hr5 (by rfl) KSt.g KSt.kp KSt.b .nil pass0 (pa_cons (pv 1) (pa_cons (pv 2) pa_nil))))
        (pss_cons (ps_set (i := 7) scLaw.nd rfl (.inl rfl) (pe_call KBS.ok hr5 (by rfl) KBS.g KBS.kp KBS.b .nil pass0 (pa_cons (pv 1) (pa_cons (pv 6) pa_nil))))
        (pss_cons (ps_set (i := 8) scLaw.nd rfl (.inl rfl) (pe_lst (pa_cons (pe_kw0 KDr.ok hr6 (by rfl) KDr.g KDr.kp kDr pass0 (pk_cons (pv 6) pk_nil)) (pa_cons (pe_call KDr.ok hr6 (by rfl) KDr.g KDr.kp KDr.b .nil pass0 (pa_cons (pe_tupleOf (by rfl) T.tuple (pv 6)) pa_nil)) (pa_cons (pe_call KDr.ok hr6 (by rfl) KDr.g KDr.kp KDr.b .nil pass0 (pa_cons (pv 7) pa_nil)) pa_nil)))))
        (pss_one (ps_if (pt_cmpR op_ne (pe_callB (call_reprD hg hu) (by rfl) T.repr (by decide +kernel) (pa_cons (pv 8) pa_nil)) (pe_callB (call_reprD hg hu) (by rfl) T.repr (by decide +kernel) (pa_cons (pe_lst (pa_cons pe_bl (pa_cons pe_bl (pa_cons (pe_callG KRD.ok hg hr3 (by rfl) KRD.g KRD.kp KRD.b pass0 (pa_cons (pv 7) pa_nil)) pa_nil)))) pa_nil)) (nomark _)) (pss_one (ps_ret pe_bl)) pss_nil))))))))))
      (pss_one (ps_ret (pe_cmpR op_eq (pe_callB (call_reprD hg hu) (by rfl) T.repr (by decide +kernel) (pa_cons (pe_lst (pa_cons (pe_call KD.ok hr2 (by rfl) KD.g KD.kp KD.b .nil pass0 (pa_cons pe_non pa_nil)) (pa_cons (pe_call KD.ok hr2 (by rfl) KD.g KD.kp KD.b .nil pass0 (pa_cons (pe_tup pa_nil) pa_nil)) (pa_cons (pe_call KDr.ok hr6 (by rfl) KDr.g KDr.kp KDr.b .nil pass0 (pa_cons (pe_lst pa_nil) pa_nil)) (pa_cons (pe_call KDr.ok hr6 (by rfl) KDr.g KDr.kp KDr.b .nil pass0 (pa_cons pe_non pa_nil)) pa_nil))))) pa_nil))
          (pe_callB (call_reprD hg hu) (by rfl) T.repr (by decide +kernel) (pa_cons (pe_lst (pa_cons pe_bl (pa_cons pe_bl (pa_cons pe_bl (pa_cons pe_bl pa_nil))))) pa_nil)) (nomark _)))))))), ?_⟩
    have le : ∀ n : Nat, n ≤ 1000 → n ≤ sizeLine := fun n h => Nat.le_trans h (by decide)
    refine ⟨_, rfl, sa, ns, rfl, hS, hl, fun a lw lc H1 na nw nc S1 e1 => ?_⟩
    refine ⟨rfl, fun fo H2 s2 nfo hfo => ⟨fo, FK, FORM.map (·.1), rfl, .inl hfo, fk_keys, by decide, fun ys pw pm _ npw => ?_⟩⟩
    have s3 := same_upd (o := .lst (ys.map V.str)) npw
    have hpw := upd_same (H := H2) (a := pw) (o := .lst (ys.map V.str))
    have S2 := S1.same s2
    have opw := (S2.new npw).1
    have S3 := S2.same s3
    have e3 := (e1.trans s2).trans s3
    generalize L2.upd H2 pw (.lst (ys.map V.str)) = H3 at s3 hpw S3 e3
    have T3 : Tabs (TTs tt te) H3 := fun p hp => by
      rcases TTs.cases hp with rfl | rfl
      · exact TabS.nil (e3 _ _ hTt)
      · exact TabS.nil (e3 _ _ hTe)
    have W : WordsL ys := by
      have yl : ys.length = 11 := pm.length_eq
      refine ⟨by omega, by omega, fun y hy => ?_⟩
      obtain ⟨⟨wd, m, kk⟩, hm, rfl⟩ := List.mem_map.mp (pm.mem_iff.mp hy)
      exact ⟨m, kk, hm⟩
    refine ⟨_, rfl, sa, _, rfl, .inl (e3.seq hS), _, _, rfl, _, _, rfl, rfl, _, rfl, ?_, ?_, ?_⟩
    · omega
    · rw [List.length_map]
      omega
    generalize hn : ((2 : Int) + (if (6 : Int) < ((ns.map V.int).length : Nat) then 6 else (((ns.map V.int).length : Nat) : Int))).toNat = n
    have hn8 : n ≤ 8 := by
      rw [← hn]
      split <;> omega
    refine for_range (lo := 0) (n := n) (fun i σ G => ∃ (v3 v4 v5 v6 v7 v8 : Option V), σ = [some (.ref sa), some (.ref a), some (.ref pw), v3, v4, v5, v6, v7, v8] ∧ StA G a lw lc (500 * i) ∧ Tabs (TTs tt te) G ∧ G pw = some (.lst (ys.map V.str)))
      ⟨none, none, none, none, none, none, rfl, S3, T3, hpw⟩ ?_ ?_
    · rintro i σ G hi ⟨v3, v4, v5, v6, v7, v8, rfl, SG, TG, gw⟩
      have ow : pw ≠ lw := fun z => opw (by simp [z])
      have yl := W.most
      refine ⟨_, rfl, _, rfl, _, rfl, a, lw, lc, _, pw, _, rfl, SG, by omega, gw, ow, by rw [List.length_map]; exact W.pos, by rw [List.length_map]; omega, fun j x G1 hx S4 K4 => ?_⟩
      obtain ⟨wd, hwd, rfl⟩ := List.mem_map.mp (List.mem_of_getElem? hx)
      obtain ⟨m, kk, hm⟩ := W.mem wd hwd
      refine ⟨le 6 (by decide), fun ln nln => ?_⟩
      have u1 := same_upd (o := .lst [V.str "o", .str "a", .str "b", .str "u", .str "v9", .str "uu"]) nln
      have hln := upd_same (H := G1) (a := ln) (o := .lst [V.str "o", .str "a", .str "b", .str "u", .str "v9", .str "uu"])
      have lnA := (S4.new nln).1
      have in6 : ∀ z ∈ ("o" :: "a" :: "b" :: "u" :: "v9" :: "uu" :: [] : List Str), z ∈ NMS := by decide +kernel
      refine ⟨a, lw, lc, _, wd, m, kk, ln, ("o" :: "a" :: "b" :: "u" :: "v9" :: "uu" :: [] : List Str), rfl, S4.same u1, by omega, hm, hln, lnA, (by show 0 < 6; decide), (by show 6 ≤ 20; decide), fun z hz => (nms_item z (in6 z hz)).2, fun p d G2 dw okd dn S5 K5 np hp => ?_⟩
      have hnm : ∀ z ∈ d.names, z ∈ NMS := fun z hz => in6 z (dn z hz)
      have K15 : Kp [a, lw] G G2 := (K4.trans (Kp.of u1)).trans K5
      have bd := BentD.deed okd hnm
      have dIn : ∀ {G : Hp}, G p = some (.tup d.vs) → DeedIn NOW G (.ref p) d.py := fun h => ⟨Dq.of_deed (fun z => by cases z) h, vdb_of bd.g, bd.r⟩
      have pA := S5.off hp (fun _ z => by cases z) fun _ z => by cases z
      -- bent
      refine ⟨_, rfl, _, rfl, a, lw, lc, _, p, d, rfl, S5, by omega, hp, okd, hnm, fun x e G3 hx be S6 K6 => ?_⟩
      have hp3 := S5.tupK K6 hp
      have T3 : Tabs (TTs tt te) G3 := Tabs.kp TG SG (K15.trans K6)
      have gw3 := (K15.trans K6) _ _ gw opw
      -- both are judged right
      refine ⟨_, rfl, rfl, _, _, rfl, dIn hp3, fun J1 j1 => ?_⟩
      rw [deedB_of okd]
      refine ⟨_, rfl, x, e, rfl, ⟨(hx.same j1).none_N, vdb_of be.g, be.r⟩, fun J2 j2 => ⟨le 2 (by decide), fun L1 nL1 => ?_⟩⟩
      have j3 := same_upd (o := .lst ([true, deedB e].map V.bl)) nL1
      have hL1 := upd_same (H := J2) (a := L1) (o := .lst ([true, deedB e].map V.bl))
      have eL1 : L2.upd J2 L1 (.lst [.bl true, .bl (deedB e)]) = L2.upd J2 L1 (.lst ([true, deedB e].map V.bl)) := rfl
      rw [eL1]
      refine ⟨L1, .list ([true, deedB e].map PyData.bool), rfl, .lst (SqL.of hL1) (bls_read _), rfl, rfl, by show 1 ≤ 64; decide, le _ (Nat.le_trans (bls_ok true (deedB e) true true).1 (by decide)), ?_⟩
      generalize L2.upd J2 L1 (.lst ([true, deedB e].map V.bl)) = J3 at j3 hL1
      have j13 := (j1.trans j2).trans j3
      refine ⟨_, rfl, x, e, rfl, (hx.same j13).none_N, vdb_of be.g, be.l, fun J4 j4 => ⟨le 2 (by decide), fun L2' nL2 => ?_⟩⟩
      have j5 := same_upd (o := .lst ([true, deedB e].map V.bl)) nL2
      have hL2 := upd_same (H := J4) (a := L2') (o := .lst ([true, deedB e].map V.bl))
      have eL2 : L2.upd J4 L2' (.lst [.bl true, .bl (deedB e)]) = L2.upd J4 L2' (.lst ([true, deedB e].map V.bl)) := rfl
      rw [eL2]
      refine ⟨L2', .list ([true, deedB e].map PyData.bool), rfl, .lst (SqL.of hL2) (bls_read _), rfl, rfl, by show 1 ≤ 64; decide, le _ (Nat.le_trans (bls_ok true (deedB e) true true).1 (by decide)), ?_⟩
      generalize L2.upd J4 L2' (.lst ([true, deedB e].map V.bl)) = J5 at j5 hL2
      have j15 := (j13.trans j4).trans j5
      refine ⟨rfl, _, rfl, ?_⟩
      rw [decide_eq_true rfl]
      refine iteF ?_
      -- told right
      have S7 := S6.same j15
      have T7 := Tabs.ext T3 j15
      refine ⟨_, rfl, _, rfl, a, lw, lc, _, p, d, rfl, S7, by omega, j15 _ _ hp3, okd, hnm, T7, fun M1 st1 => ⟨_, rfl, ?_⟩⟩
      refine iteF ?_
      have hx7 := hx.same j15
      refine ⟨_, rfl, _, rfl, _, rfl, a, lw, lc, _, p, d, x, e, rfl, st1.s, by omega, st1.tup pA (j15 _ _ hp3), okd, hnm, st1.dq hx7, be, st1.t, fun M2 st2 => ⟨_, rfl, ?_⟩⟩
      refine iteF ?_
      have gwM : M2 pw = some (.lst (ys.map V.str)) := st2.lst opw (st1.lst opw (j15 _ _ gw3))
      -- steps
      refine ⟨_, rfl, _, rfl, a, lw, lc, _, pw, ys, rfl, st2.s, by omega, gwM, opw, W, fun l ws ds M3 so f2 lA lC nl hl3 S8 K8 => ?_⟩
      have f2' : F2 (Dq [a, lw] M3) ws (ds.map stepPy) := f2.mono fun _ _ q => Dq.weak (fun b hb => by
        simp only [List.mem_cons, List.not_mem_nil, or_false] at hb ⊢
        rcases hb with h | h
        · exact .inl h
        · exact .inr (.inl h)) _ _ q
      refine ⟨_, rfl, _, rfl, a, lw, lc, _, l, ws, ds, rfl, S8, by omega, hl3, lA, f2', so, fun y e2 M4 hy dy S9 K9 => ?_⟩
      have hl4 := K9 _ _ hl3 lA
      have f24 := f2'.mono fun _ _ q => Dq.keep (KpE.of K9) _ _ q
      have DL := DrawD.list (es := ds.map stepPy) (by rw [List.length_map]; have := so.len; omega) so.g
      have DT := DrawD.tuple (es := ds.map stepPy) (by rw [List.length_map]; have := so.len; omega) so.g
      have inL : ∀ {G : Hp}, Same M4 G → DrawIn NOW G (.ref l) (.list (ds.map stepPy)) := fun h => ⟨.lst (fun z => by cases z) (h _ _ hl4) (DqAll.of (f24.mono fun _ _ q => (q.same h).none_N)), DL.w, DL.r⟩
      have goes := so.goes
      refine ⟨_, rfl, rfl, _, _, rfl, inL (Same.refl _), fun N1 n1 => ?_⟩
      have gL : drawV SHEET (.list (ds.map stepPy)) = true := goes
      have gT : drawV SHEET (.tuple (ds.map stepPy)) = true := goes
      rw [gL]
      refine ⟨_, rfl, .inl ⟨l, _, rfl, SqL.of (n1 _ _ hl4), fun tu ntu => ?_⟩⟩
      have n2 := same_upd (o := .tup ws) ntu
      have htu := upd_same (H := N1) (a := tu) (o := .tup ws)
      have n12 := n1.trans n2
      refine ⟨_, _, rfl, ⟨.tup (fun z => by cases z) htu (DqAll.of (f24.mono fun _ _ q => (q.same n12).none_N)), DT.w, DT.r⟩, fun N3 n3 => ?_⟩
      rw [gT]
      have n13 := n12.trans n3
      refine ⟨_, rfl, y, e2, rfl, ⟨(hy.same n13).none_N, dy.w, dy.r⟩, fun N4 n4 => ⟨le 3 (by decide), fun L3 nL3 => ?_⟩⟩
      have n5 := same_upd (o := .lst ([true, true, drawV SHEET e2].map V.bl)) nL3
      have hL3 := upd_same (H := N4) (a := L3) (o := .lst ([true, true, drawV SHEET e2].map V.bl))
      have n15 := (n13.trans n4).trans n5
      have eL3 : L2.upd N4 L3 (.lst [.bl true, .bl true, .bl (drawV SHEET e2)]) = L2.upd N4 L3 (.lst ([true, true, drawV SHEET e2].map V.bl)) := rfl
      rw [eL3]
      generalize L2.upd N4 L3 (.lst ([true, true, drawV SHEET e2].map V.bl)) = N5 at n5 hL3 n15
      refine ⟨_, rfl, L3, .list ([true, true, drawV SHEET e2].map PyData.bool), rfl, .lst (SqL.of hL3) (bls_read _), rfl, rfl, by show 1 ≤ 64; decide, le _ (Nat.le_trans (bls_ok true true (drawV SHEET e2) true).2.1 (by decide)), ?_⟩
      refine ⟨_, rfl, y, e2, rfl, (hy.same n15).none_N, dy.w, dy.l, fun N6 n6 => ⟨le 3 (by decide), fun L4 nL4 => ?_⟩⟩
      have n7 := same_upd (o := .lst ([true, true, drawV SHEET e2].map V.bl)) nL4
      have hL4 := upd_same (H := N6) (a := L4) (o := .lst ([true, true, drawV SHEET e2].map V.bl))
      have eL4 : L2.upd N6 L4 (.lst [.bl true, .bl true, .bl (drawV SHEET e2)]) = L2.upd N6 L4 (.lst ([true, true, drawV SHEET e2].map V.bl)) := rfl
      rw [eL4]
      refine ⟨L4, .list ([true, true, drawV SHEET e2].map PyData.bool), rfl, .lst (SqL.of hL4) (bls_read _), rfl, rfl, by show 1 ≤ 64; decide, le _ (Nat.le_trans (bls_ok true true (drawV SHEET e2) true).2.1 (by decide)), ?_⟩
      have n17 := (n15.trans n6).trans n7
      refine ⟨rfl, _, rfl, ?_⟩
      rw [decide_eq_true rfl]
      refine iteF ?_
      have T8 : Tabs (TTs tt te) M4 := Tabs.kp (Tabs.kp st2.t st2.s K8) S8 K9
      exact ⟨_, _, _, _, _, _, rfl, (S9.same n17).more (by omega), Tabs.ext T8 n17, n17 _ _ (K9 _ _ (K8 _ _ gwM opw) opw)⟩
    · rintro σ G ⟨v3, v4, v5, v6, v7, v8, rfl, SG, TG, gw⟩
      have rd : ∀ d : PyData, isT d = false → Ready NOW d := fun d h => Ready.other h
      refine ⟨.non, .none, rfl, ⟨.non, by decide +kernel, Ready.other rfl⟩, fun J1 j1 => ⟨le 0 (by decide), fun e0 ne0 => ?_⟩⟩
      have j2 := same_upd (o := .tup []) ne0
      have he0 := upd_same (H := J1) (a := e0) (o := .tup [])
      generalize L2.upd J1 e0 (.tup []) = J2 at j2 he0
      refine ⟨_, .tuple [], rfl, ⟨.tup (fun z => by cases z) he0 .nil, by decide +kernel, fun w r e => by injection e with e; cases e⟩, fun J3 j3 => ⟨le 0 (by decide), fun l0 nl0 => ?_⟩⟩
      have j4 := same_upd (o := .lst []) nl0
      have hl0 := upd_same (H := J3) (a := l0) (o := .lst [])
      generalize L2.upd J3 l0 (.lst []) = J4 at j4 hl0
      refine ⟨_, .list [], rfl, ⟨.lst (fun z => by cases z) hl0 .nil, by decide +kernel, fun ds e x hx => by injection e with e; rw [← e] at hx; cases hx⟩, fun J5 j5 => ?_⟩
      refine ⟨.non, .none, rfl, ⟨.non, by decide +kernel, fun ds e => by cases e⟩, fun J6 j6 => ⟨le 4 (by decide), fun L1 nL1 => ?_⟩⟩
      have j7 := same_upd (o := .lst ([false, false, true, false].map V.bl)) nL1
      have hL1 := upd_same (H := J6) (a := L1) (o := .lst ([false, false, true, false].map V.bl))
      refine ⟨L1, .list ([false, false, true, false].map PyData.bool), rfl, .lst (SqL.of hL1) (bls_read _), rfl, rfl, by show 1 ≤ 64; decide, le _ (Nat.le_trans (bls_ok false false true false).2.2 (by decide)), ?_⟩
      refine ⟨le 4 (by decide), fun L2' nL2 => ?_⟩
      have hL2 := upd_same (H := L2.upd J6 L1 (.lst ([false, false, true, false].map V.bl))) (a := L2') (o := .lst ([false, false, true, false].map V.bl))
      refine ⟨L2', .list ([false, false, true, false].map PyData.bool), rfl, .lst (SqL.of hL2) (bls_read _), rfl, rfl, by show 1 ≤ 64; decide, le _ (Nat.le_trans (bls_ok false false true false).2.2 (by decide)), ?_⟩
      refine ⟨rfl, ?_⟩
      rw [decide_eq_true rfl]
      exact k _
end
end Own
set_option Elab.async false
set_option linter.all false
set_option maxRecDepth 100000
set_option maxHeartbeats 400000
namespace Own
open PySem PySem.Spec PyProof.Rows L2
/-! ### a hook that looks at chosen objects, and tells of functions with closures -/
def obsW (sel : Sel) (fa : List He.Fa) (fn : List He.DefD) (ts : List He.Tab) (tf : List He.Defn) (ex : PySem.W.Frag → Bool) (ini : List (He.Defn × InitW)) (g : Addr → Option Obj) : AlY :=
  (obsZ sel fa fn ts tf ex g, ini.map fun p => initW (KZ sel g) p.1)
def valW (fn : List He.DefD) (ts : List He.Tab) (ini : List (He.Defn × InitW)) (w : World) : AlY := (He.valX fn ts w, ini.map (·.2))
structure SaysW (fa : List He.Fa) (fn : List He.DefD) (ts : List He.Tab) (tf : List He.Defn) (ex : PySem.W.Frag → Bool) (ini : List (He.Defn × InitW)) (w : World) (h : Heap) (K : PySem.W.Frag) : Prop where
  x : He.SaysX fa fn ts tf ex w h K
  i : ∀ p ∈ ini, initW K p.1 = p.2
theorem saysW_of {sel : Sel} {fa : List He.Fa} {fn : List He.DefD} {ts : List He.Tab} {tf : List He.Defn} {ex : PySem.W.Frag → Bool} {ini : List (He.Defn × InitW)} {w : World} {h : Heap} (e : obsW sel fa fn ts tf ex ini h.get? = valW fn ts ini w) : SaysW fa fn ts tf ex ini w h (KZ sel h.get?) := by
  have e1 : obsZ sel fa fn ts tf ex h.get? = He.valX fn ts w := congrArg (fun z : AlY => z.1) e
  have e2 : ini.map (fun p => initW (KZ sel h.get?) p.1) = ini.map (·.2) := congrArg (fun z : AlY => z.2) e
  exact ⟨saysZ_of e1, fun p hp => map_mem_eq e2 p hp⟩
def hookW (sel : Sel) (fa : List He.Fa) (fn : List He.DefD) (ts : List He.Tab) (tf : List He.Defn) (ex : PySem.W.Frag → Bool) (ini : List (He.Defn × InitW)) : PySem.W.Hook where
  α := AlY
  obs := fun s => obsW sel fa fn ts tf ex ini s.heap.get?
  val := fun w => valW fn ts ini w
  says := fun w h => ∃ K : PySem.W.Frag, K.In h ∧ SaysW fa fn ts tf ex ini w h K
  of := fun _ _ e => ⟨_, He.frT_in, saysW_of e⟩
  keeps := fun _ _ _ z k => by
    obtain ⟨K, inK, c⟩ := z
    exact ⟨K, PySem.W.Frag.In.keeps inK k, ⟨⟨c.x.t, c.x.more, c.x.hd, c.x.out, fun p hp => k _ _ (c.x.empty p hp)⟩, c.i⟩⟩
theorem obsW_eq {sel : Sel} {fa : List He.Fa} {fn : List He.DefD} {ts : List He.Tab} {tf : List He.Defn} {ex : PySem.W.Frag → Bool} {ini : List (He.Defn × InitW)} {g : Addr → Option Obj} {s : Shared} (h : ∀ a, g a = s.heap.get? a) : obsW sel fa fn ts tf ex ini g = (hookW sel fa fn ts tf ex ini).obs s := by
  have e : g = s.heap.get? := funext h
  subst e
  rfl
end Own
set_option Elab.async false
set_option linter.all false
set_option maxRecDepth 100000
set_option maxHeartbeats 0
namespace Own
open PySem PySem.Spec PyProof.Rows L2 LamX
/-! ### the head: what the top has left -/
def dF (q : Str × Stmt) : He.DefD := ⟨(q.1, none), q.1, q.1, defArgs q.2, defBody q.2, defScope q.2, [], []⟩
def pTow (K : PySem.W.Frag) : Addr := He.dflAt ("Tower", some "__init__") 0 K
def dTow : He.DefD := ⟨("Tower", some "__init__"), "__init__", "Tower.__init__", defArgs sTowI, defBody sTowI, defScope sTowI, [.adr pTow, .non], []⟩
def dNum : He.DefD := ⟨("Number", some "__init__"), "__init__", "Number.__init__", defArgs sNumI, defBody sNumI, defScope sNumI, [.non], []⟩
def dFra : He.DefD := ⟨("fraction", none), "fraction", "fraction", defArgs sFrac, defBody sFrac, defScope sFrac, [.int 1], []⟩
def fn : List He.DefD := FNS.map dF ++ [dTow, dNum, dFra]
abbrev cNoName : Stmt := top 16
abbrev sInit : Stmt := (clsBody cNoName).getD 0 (.Pass ⟨0, 0, 0, 0⟩)
abbrev qInit : Str := "NoName.__init__"
def ini : List (He.Defn × InitW) := [(("NoName", some "__init__"), some (("__init__" : Str), qInit, defArgs sInit, FuncBody.stmts (defBody sInit), defScope sInit, mainGlobals, [("__class__" : Str)], builtinsNs))]
def fa : List He.Fa := [.free "isinstance", .free "int", .free "bool", .free "str", .free "tuple", .free "abs", .free "len", .free "range", .free "list", .free "min", .free "max", .free "enumerate", .free "sorted", .free "dict", .free "repr", .free "super",
  .glo "BadDeed", .glo "BadPoints", .glo "BadTable", .glo "NoName", .glo "RulerError", .glo "Tower", .glo "Number", .glo "fraction", .glo "FORMS", .glo "OTHERS",
  .int "MOST" 6, .str "LETTERS" "abcdefghijklmnopqrstuvwxyz", .str "DIGITS" "0123456789",
  .exc "BadDeed", .exc "BadPoints", .exc "BadTable", .exm "BadDeed" "RulerError" true, .exm "BadPoints" "RulerError" true, .exm "BadTable" "RulerError" true, .exm "NoName" "RulerError" true,
  .cls "Tower", .cls "Number", .mkr "Tower", .mkr "Number", .noat "Tower" "rows", .noat "Tower" "squares", .noat "Number" "tower", .noat "Number" "vector"] ++ FNS.map fun q => He.Fa.glo q.1
def excCB (K : PySem.W.Frag) (D : Addr) : Bool := He.eqO (PySem.W.findIn K (.ref D) "__getattribute__") (some (some (.builtin "BaseException.__getattribute__"))) && (He.eqO (PySem.W.findIn K (.ref D) "__getattr__") (some none) && (decide (PySem.W.subIn K (.ref D) (.type "BaseException") = some true) &&
  (PySem.W.hasDictIn K D && (He.eqO (PySem.W.findIn K (.ref D) "__class__") (some (some (.builtin "object.__class__"))) && (He.eqO (PySem.W.specialIn K (.builtin "object.__class__") "__get__") (some (some (.builtin "getset_descriptor.__get__"))) &&
  (decide (PySem.W.takesIn K (.builtin "object.__class__") = some true) && decide (PySem.W.mroIn K D (.type "object") = some true)))))))
theorem excC_of {K : PySem.W.Frag} {D : Addr} (h : excCB K D = true) : ExcC K D := by
  obtain ⟨h1, h⟩ := He.ba h
  obtain ⟨h2, h⟩ := He.ba h
  obtain ⟨h3, h⟩ := He.ba h
  obtain ⟨h4, h⟩ := He.ba h
  obtain ⟨h5, h⟩ := He.ba h
  obtain ⟨h6, h⟩ := He.ba h
  obtain ⟨h7, h8⟩ := He.ba h
  exact ⟨He.eqO_ok h1, He.eqO_ok h2, of_decide_eq_true h3, h4, He.eqO_ok h5, He.eqO_ok h6, of_decide_eq_true h7, of_decide_eq_true h8⟩
/-- a tuple of these stands at a -/
def tupAt (K : PySem.W.Frag) (a : Addr) (vs : List V) : Bool := match K.lookup a with
  | some o => decide (o.cls = .type "tuple") && (match o.data with
    | .seq its _ => decide (its.size ≤ sizeLine) && He.relAll vs its.toList
    | _ => false)
  | none => false
theorem tupAt_ok {K : PySem.W.Frag} {a : Addr} {vs : List V} (h : tupAt K a vs = true) : (∃ o, K.lookup a = some o ∧ o.cls = .type "tuple") ∧ ∀ H, SqT K H a vs := by
  unfold tupAt at h
  cases q : K.lookup a with
  | none =>
    rw [q] at h
    cases h
  | some o =>
    rw [q] at h
    obtain ⟨h1, h2⟩ := He.ba h
    obtain ⟨oc, od, dt, osl⟩ := o
    cases dt with
    | seq its n =>
      obtain ⟨h3, h4⟩ := He.ba h2
      exact ⟨⟨_, rfl, of_decide_eq_true h1⟩, fun H => .inr ⟨_, its, n, q, of_decide_eq_true h1, rfl, of_decide_eq_true h3, He.relAll_ok h4⟩⟩
    | _ => cases h2
def plainB (K : PySem.W.Frag) (a : Addr) : Bool := match K.lookup a with
  | some o => decide (o.cls = .type "tuple") && o.dict.isNone
  | none => false
theorem plainB_ok {K : PySem.W.Frag} {a : Addr} (h : plainB K a = true) : ∃ o, K.lookup a = some o ∧ o.cls = .type "tuple" ∧ o.dict = none := by
  unfold plainB at h
  cases q : K.lookup a with
  | none =>
    rw [q] at h
    cases h
  | some o =>
    rw [q] at h
    obtain ⟨h1, h2⟩ := He.ba h
    exact ⟨o, rfl, of_decide_eq_true h1, by
      cases e : o.dict with
      | none => rfl
      | some d =>
        rw [e] at h2
        cases h2⟩
def formB (K : PySem.W.Frag) : Bool := FORM.all fun t => match PySem.W.nsIn K (He.ga K "FORMS") t.1 with
  | some (some (.ref q)) => tupAt K q [.int t.2.1, .int t.2.2]
  | _ => false
theorem formB_ok {K : PySem.W.Frag} (h : formB K = true) : ∀ t ∈ FORM, ∃ q, PySem.W.nsIn K (He.ga K "FORMS") t.1 = some (some (.ref q)) ∧ ∀ H, SqT K H q [.int t.2.1, .int t.2.2] := fun t ht => by
  have h1 := List.all_eq_true.mp h t ht
  split at h1
  · rename_i q e
    exact ⟨q, e, (tupAt_ok h1).2⟩
  · cases h1
def othB (K : PySem.W.Frag) : Bool := FORM.all fun t => match OTHL.lookup t.1 with
  | some z => (match PySem.W.nsIn K (He.ga K "OTHERS") t.1 with
    | some (some (.str y _)) => decide (y = z)
    | _ => false)
  | none => He.eqO (PySem.W.nsIn K (He.ga K "OTHERS") t.1) (some none)
theorem othB_ok {K : PySem.W.Frag} (h : othB K = true) : ∀ t ∈ FORM, (∃ z u, OTHL.lookup t.1 = some z ∧ PySem.W.nsIn K (He.ga K "OTHERS") t.1 = some (some (.str z u))) ∨ (OTHL.lookup t.1 = none ∧ PySem.W.nsIn K (He.ga K "OTHERS") t.1 = some none) := fun t ht => by
  have h1 := List.all_eq_true.mp h t ht
  cases e : OTHL.lookup t.1 with
  | none =>
    rw [e] at h1
    exact .inr ⟨rfl, He.eqO_ok h1⟩
  | some z =>
    rw [e] at h1
    dsimp only at h1
    split at h1
    · rename_i y u e2
      have := of_decide_eq_true h1
      subst this
      exact .inl ⟨_, u, rfl, e2⟩
    · cases h1
def insB (K : PySem.W.Frag) (C : Addr) : Bool := He.eqO (PySem.W.findIn K (.ref C) "__class__") (some (some (.builtin "object.__class__"))) && (He.eqO (PySem.W.specialIn K (.builtin "object.__class__") "__get__") (some (some (.builtin "getset_descriptor.__get__"))) &&
  (decide (PySem.W.takesIn K (.builtin "object.__class__") = some true) && decide (PySem.W.mroIn K C (.type "object") = some true)))
def nowB (K : PySem.W.Frag) : Bool := NOW.all fun z => He.eqO (PySem.W.nsIn K (He.ga K "FORMS") z) (some none)
abbrev qT : He.Defn := ("_law_told_right", none)
abbrev qE : He.Defn := ("_law_errors_right", none)
def tf : List He.Defn := [qT, qE]
def ts : List He.Tab := [((fun K => He.ga K "FORMS"), FORM.map (·.1)), ((fun K => He.ga K "OTHERS"), OTHL.map (·.1))]
abbrev PRG : Program := PySem.Challenge.pw_rulerchest_k14_deeds_and_drawings_judged
def ex (K : PySem.W.Frag) : Bool := supB K tNN PRG.main.file && (excCB K (He.ga K "BadDeed") && (excCB K (He.ga K "BadPoints") && (excCB K (He.ga K "BadTable") && (excCB K (He.ga K "NoName") && (xfB K (He.ga K "NoName") &&
  (tupAt K (pTow K) [] && (formB K && (othB K && (nowB K && (insB K (He.ga K "Tower") && (insB K (He.ga K "Number") && (decide (PySem.W.kitOne K (.type "int") (.ref (He.ga K "Number")) = some false) &&
  decide ((He.cT K qT).2 ≠ (He.cT K qE).2)))))))))))))
abbrev LW : PySem.W.OpenLaw := PySem.Challenge.rw_rulerchest_k14_deeds_and_drawings_judged
abbrev RW : PySem.W.OpenRow := PySem.W.OpenLaw.row PySem.Challenge.rw_rulerchest_k14_deeds_and_drawings_judged
def sel0 : Sel := selZ ((FNS.map (·.1)) ++ ("fraction" : Str) :: []) [(4, ["Tower", "Number"]), (4, ["NoName"]), (2, ["RulerError", "BadDeed", "BadPoints", "BadTable"]), (1, ["FORMS", "OTHERS"])]
def sel : Sel := fun g => cStatics :: sel0 g
abbrev hk : PySem.W.Hook := hookW sel fa fn ts tf ex ini
def ob (s : PySem.W.SharedT) : AlY := obsW sel fa fn ts tf ex ini (HandSHeadRun.getT s)
theorem ob_eq (s : PySem.W.SharedT) : ob s = hk.obs s.abs := obsW_eq (HandSHeadRun.getT_eq s)
def loose : List Str := (["RulerError", "NotTower", "NotNumber", "BadParts", "BadNumber", "NoQuotient", "NoRoot", "NotPoint", "EqualPoints", "BadRadius", "BadPoints", "BadDeed", "BadTable", "CannotLay", "NoName", "LETTERS", "DIGITS", "is_whole", "is_fraction", "is_name", "GREAT", "are_parts", "vec_lowest", "common", "vec_small", "vec_of", "vec_parts", "vec_whole", "vec_unit", "vec_wide"] : List Str) ++ (["vec_low", "vec_high", "vec_both", "vec_negated", "vec_halved", "vec_plus", "vec_less", "vec_same", "scale_of", "raw_times", "vec_times", "rows_below", "vec_rest", "vec_norm", "vec_sign", "vec_turned", "whole_root", "plain_root", "even_root", "vec_root", "written", "rows_joined", "used_rows", "picked", "MOST", "rows_of", "Tower", "need_tower", "spared", "same_value"] : List Str) ++ (["Number", "is_number", "need_number", "fraction", "tower_of_rows", "united", "levelled", "trimmed", "plus", "minus", "times", "over", "sign", "root_within", "root", "is_point", "need_points", "sheet", "is_same", "way_to", "crossed_ways", "dotted_ways", "stepped", "quarter", "cross", "side", "square_length", "met", "line_circle", "circle_circle"] : List Str) ++ (["is_points", "FORMS", "OTHERS", "is_deed", "need_deed", "names_of", "tool_of", "on_names", "is_drawing", "lay_meet", "lay_upright", "lay_gauge", "lay_dividers", "lay_halver", "lay_strip", "chosen", "lay_disc", "lay_rims", "lay_corner", "lay_compass", "lay_circles", "LAYERS", "laid", "_law_begun", "_law_stirred", "_law_draw", "_law_pick", "_law_shuffled", "_law_name", "_law_caught"] : List Str) ++ (["_law_forms", "_law_has_way", "_law_deed", "_law_is_name_due", "_law_is_deed_due", "_law_bent", "_law_is_drawing_due", "_law_steps", "_law_bent_steps", "_law_told_right", "_law_errors_right"] : List Str)
abbrev rowG : String := "special-get-raises"
abbrev VQ : Program := PySem.W.view RW.prog [0, 141]
/-- the top's run -/
noncomputable def whole (w : World) := HandSHeadRun.wholeF (fun p => HandSHeadRun.stepQ (HandSHeadRun.denQ HandSHeadRun.tabQ) p w) HandSHeadRun.fenceQ 12000 RW.prog
/-- what is looked at behind it, one by one -/
structure Runs (w : World) : Prop where
  a : (whole w).map (fun x => HandSHeadRun.looksF RW.prog x.1.heap x.2.abs) = some true
  b : (whole w).map (fun x => HandSHeadRun.seenQ VQ loose (PySem.importedModules RW.prog.main.body) (fun s => PySem.W.xlAt VQ [] s && PySem.W.recOk RW.toRowW.records s) x.2.abs) = some (PySem.W.openGood VQ loose)
  c : (whole w).map (fun x => ob x.2) = some (hk.val w)
theorem Runs.join {w : World} (h : Runs w) : HandSHeadRun.RunEqI RW VQ hk ob 12000 loose w := by
  obtain ⟨a, b, c⟩ := h
  show (whole w).map (fun x => (HandSHeadRun.looksF RW.prog x.1.heap x.2.abs, HandSHeadRun.seenQ VQ loose (PySem.importedModules RW.prog.main.body) (fun s => PySem.W.xlAt VQ [] s && PySem.W.recOk RW.toRowW.records s) x.2.abs, ob x.2)) = some (true, PySem.W.openGood VQ loose, hk.val w)
  cases h : whole w with
  | none =>
    rw [h] at a
    cases a
  | some x =>
    rw [h] at a b c
    exact congrArg some (Prod.ext (Option.some.inj a) (Prod.ext (Option.some.inj b) (Option.some.inj c)))
theorem runA1 (w : World) : (whole (w.withFollow rowG true)).map (fun x => HandSHeadRun.looksF RW.prog x.1.heap x.2.abs) = some true := by
  kernel_rfl
theorem runB1 (w : World) : (whole (w.withFollow rowG true)).map (fun x => HandSHeadRun.seenQ VQ loose (PySem.importedModules RW.prog.main.body) (fun s => PySem.W.xlAt VQ [] s && PySem.W.recOk RW.toRowW.records s) x.2.abs) = some (PySem.W.openGood VQ loose) := by
  kernel_rfl
theorem runC1 (w : World) : (whole (w.withFollow rowG true)).map (fun x => ob x.2) = some (hk.val (w.withFollow rowG true)) := by
  kernel_rfl
theorem runA2 (w : World) : (whole (w.withFollow rowG false)).map (fun x => HandSHeadRun.looksF RW.prog x.1.heap x.2.abs) = some true := by
  kernel_rfl
theorem runB2 (w : World) : (whole (w.withFollow rowG false)).map (fun x => HandSHeadRun.seenQ VQ loose (PySem.importedModules RW.prog.main.body) (fun s => PySem.W.xlAt VQ [] s && PySem.W.recOk RW.toRowW.records s) x.2.abs) = some (PySem.W.openGood VQ loose) := by
  kernel_rfl
theorem runC2 (w : World) : (whole (w.withFollow rowG false)).map (fun x => ob x.2) = some (hk.val (w.withFollow rowG false)) := by
  kernel_rfl
theorem run (w : World) : HandSHeadRun.RunEqI RW VQ hk ob 12000 loose w := by
  have h : HandSHeadRun.RunEqI RW VQ hk ob 12000 loose (w.withFollow rowG (w.params.followText rowG)) := by
    cases w.params.followText rowG with
    | true => exact Runs.join ⟨runA1 w, runB1 w, runC1 w⟩
    | false => exact Runs.join ⟨runA2 w, runB2 w, runC2 w⟩
  rwa [World.withFollow_self] at h
theorem facts {w : World} {K : PySem.W.Frag} {h : Heap} {mg : Str → Option Value} {f : Addr} (X : K.In h) (G : h.Ns mainGlobals mg) (hfa : mg ("law" : Str) = some (.ref f)) (cc : SaysW fa fn ts tf ex ini w h K) : LawAtG LW w K CX0 9 63 "_law_script" mg f h := by
  have c := cc.x
  have d := c.t.d
  have fr : ∀ x : Str, He.Fa.free x ∈ fa → mg x = none := fun x hx => He.free_ok X G (d.facts hx)
  have gl0 : ∀ x : Str, He.Fa.glo x ∈ fa → mg x = some (.ref (He.ga K x)) := fun x hx => He.glo_ok X G (d.facts hx)
  have gl : ∀ x st, (x, st) ∈ FNS → mg x = some (.ref (He.ga K x)) := fun x st hx => gl0 x (List.mem_append_right _ (List.mem_map.mpr ⟨_, hx, rfl⟩))
  have df : ∀ x st, (x, st) ∈ FNS → ∃ fd, FnP K x st (He.ga K x) fd := fun x st hx => d.defs (d := dF (x, st)) (List.mem_append_left _ (List.mem_map.mpr ⟨_, hx, rfl⟩))
  obtain ⟨m1, m⟩ := He.ba c.more
  obtain ⟨m2, m⟩ := He.ba m
  obtain ⟨m3, m⟩ := He.ba m
  obtain ⟨m4, m⟩ := He.ba m
  obtain ⟨m5, m⟩ := He.ba m
  obtain ⟨m6, m⟩ := He.ba m
  obtain ⟨m7, m⟩ := He.ba m
  obtain ⟨m8, m⟩ := He.ba m
  obtain ⟨m9, m⟩ := He.ba m
  obtain ⟨m10, m⟩ := He.ba m
  obtain ⟨m11, m⟩ := He.ba m
  obtain ⟨m12, m⟩ := He.ba m
  obtain ⟨m13, m14⟩ := He.ba m
  obtain ⟨i1, i⟩ := He.ba m11
  obtain ⟨i2, i⟩ := He.ba i
  obtain ⟨i3, i4⟩ := He.ba i
  obtain ⟨j1, j⟩ := He.ba m12
  obtain ⟨j2, j⟩ := He.ba j
  obtain ⟨j3, j4⟩ := He.ba j
  obtain ⟨dL, FL⟩ := df "law" sLaw (by simp [FNS])
  have e := hfa.symm.trans (gl "law" sLaw (by simp [FNS]))
  cases e
  obtain ⟨x1, x2, x3, x4⟩ := He.exc_ok (d.facts (f := .exc "BadDeed") (by simp [fa]))
  obtain ⟨y1, y2, y3, y4⟩ := He.exc_ok (d.facts (f := .exc "BadPoints") (by simp [fa]))
  obtain ⟨z1, z2, z3, z4⟩ := He.exc_ok (d.facts (f := .exc "BadTable") (by simp [fa]))
  obtain ⟨dT, FT⟩ := d.defs (d := dTow) (by simp [fn])
  obtain ⟨dN, FN⟩ := d.defs (d := dNum) (by simp [fn])
  obtain ⟨dFr, FFr⟩ := d.defs (d := dFra) (by simp [fn])
  obtain ⟨es1, n1, kd1⟩ := c.t.tab 0
  obtain ⟨es2, n2, kd2⟩ := c.t.tab 1
  have sup : SupX.Has LW.prog K mg tNN (He.ga K "NoName") (He.fAd K ("NoName", some "__init__")) :=
    has_of (qual := qInit) m1 (gl0 _ (by simp [fa])) (fr _ (by simp [fa])) (beq_self_eq_true _) (by kernel_rfl) (cc.i _ List.mem_cons_self) ⟨by decide +kernel, by decide +kernel⟩ rfl rfl rfl rfl (fun _ _ _ _ _ _ _ _ _ => rfl) (fun _ => ⟨_, rfl⟩)
  have clsT := He.cls_ok (d.facts (f := .cls "Tower") (by simp [fa]))
  have clsN := He.cls_ok (d.facts (f := .cls "Number") (by simp [fa]))
  have Z : All LW.prog w K mg ⟨He.ga K "BadDeed", He.ga K "BadPoints", He.ga K "BadTable", He.ga K "NoName", He.ga K "RulerError"⟩ ⟨He.ga K "Tower", He.ga K "Number", He.ma K (He.ga K "Tower") "__init__", He.ma K (He.ga K "Number") "__init__", pTow K, He.fAd K ("NoName", some "__init__")⟩ dT dN :=
    { t := ⟨fr _ (by simp [fa]), fr _ (by simp [fa]), fr _ (by simp [fa]), fr _ (by simp [fa]), fr _ (by simp [fa]), fr _ (by simp [fa]), fr _ (by simp [fa]), fr _ (by simp [fa]), fr _ (by simp [fa]), fr _ (by simp [fa]), fr _ (by simp [fa]), fr _ (by simp [fa]), fr _ (by simp [fa]), fr _ (by simp [fa]), fr _ (by simp [fa])⟩
      c := { letters := He.str_ok X G (d.facts (f := .str "LETTERS" "abcdefghijklmnopqrstuvwxyz") (by simp [fa])), digits := He.str_ok X G (d.facts (f := .str "DIGITS" "0123456789") (by simp [fa])) }
      d := ⟨⟨_, es1, n1, gl0 "FORMS" (by simp [fa]), kd1, formB_ok m8, fun z hz => He.eqO_ok (List.all_eq_true.mp m10 z hz)⟩, ⟨_, es2, n2, gl0 "OTHERS" (by simp [fa]), kd2, othB_ok m9⟩⟩
      o := { gT := gl0 _ (by simp [fa]), gN := gl0 _ (by simp [fa]), kT := He.mkr_ok (d.facts (f := .mkr "Tower") (by simp [fa])), kN := He.mkr_ok (d.facts (f := .mkr "Number") (by simp [fa]))
             iT := ⟨clsT, He.eqO_ok i1, He.eqO_ok i2, of_decide_eq_true i3, of_decide_eq_true i4, kit_self _⟩
             cN := clsN, iN := ⟨clsN, He.eqO_ok j1, He.eqO_ok j2, of_decide_eq_true j3, of_decide_eq_true j4, kit_self _⟩, intN := of_decide_eq_true m13
             n1 := He.noat_ok (d.facts (f := .noat "Tower" "rows") (by simp [fa])), n2 := He.noat_ok (d.facts (f := .noat "Tower" "squares") (by simp [fa]))
             n3 := He.noat_ok (d.facts (f := .noat "Number" "tower") (by simp [fa])), n4 := He.noat_ok (d.facts (f := .noat "Number" "vector") (by simp [fa]))
             eE := (tupAt_ok m7).1, sE := (tupAt_ok m7).2, most := He.int_ok X G (d.facts (f := .int "MOST" 6) (by simp [fa])), FT := FT, FN := FN }
      fns := df, gl := gl, frac := ⟨dFr, FFr⟩, gFr := gl0 _ (by simp [fa])
      eD := ⟨⟨gl0 _ (by simp [fa]), x1, x2, x3, x4⟩, excC_of m2, He.exm_ok (d.facts (f := .exm "BadDeed" "RulerError" true) (by simp [fa]))⟩
      eP := ⟨⟨gl0 _ (by simp [fa]), y1, y2, y3, y4⟩, excC_of m3, He.exm_ok (d.facts (f := .exm "BadPoints" "RulerError" true) (by simp [fa]))⟩
      eT := ⟨⟨gl0 _ (by simp [fa]), z1, z2, z3, z4⟩, excC_of m4, He.exm_ok (d.facts (f := .exm "BadTable" "RulerError" true) (by simp [fa]))⟩
      sn := sup, cS := excC_of m5, fS := xfB_ok m6, xS := He.exm_ok (d.facts (f := .exm "NoName" "RulerError" true) (by simp [fa])), gR := gl0 _ (by simp [fa]) }
  have b := FunD.bindsA (ps := ["_law_script"]) FL fun _ _ _ _ _ _ us hl => match us, hl with | [_], _ => rfl
  have all : ∀ {p : Addr × Addr}, p ∈ [He.cT K qT, He.cT K qE] → ∃ q ∈ tf, p = He.cT K q := fun {p} hp => by
    rcases List.mem_cons.mp hp with e | hp
    · exact ⟨_, List.mem_cons_self, e⟩
    · exact ⟨_, List.mem_cons_of_mem _ List.mem_cons_self, List.mem_singleton.mp hp⟩
  have l1 : He.cT K qT ∈ [He.cT K qT, He.cT K qE] := List.mem_cons_self
  have l2 : He.cT K qE ∈ [He.cT K qT, He.cT K qE] := List.mem_cons_of_mem _ List.mem_cons_self
  refine ⟨dL, [He.cT K qT, He.cT K qE], spLaw K (He.cT K qT).2 (He.cT K qE).2, fun p hp => ?_, fun p hp => ?_, fun p hp => ?_, fun s v => b s [v] rfl,
    fun H a ns hl _ hT hS => ⟨a, ns, rfl, hS, hl, hT _ l1, hT _ l2, fun _ => rfl⟩, fun base hK hG hTB => ?_⟩
  · obtain ⟨q, hq, rfl⟩ := all hp
    exact c.empty _ hq
  · obtain ⟨q, hq, rfl⟩ := all hp
    exact c.out _ hq
  · obtain ⟨q, hq, rfl⟩ := all hp
    exact PySem.W.codeHd_of_K X (c.hd _ hq)
  · exact ok_law FL rfl rfl Z (of_decide_eq_true m14) (hTB _ l1) (hTB _ l2)
end Own
open PySem PySem.W PySem.Calls PyProof.Rows
theorem PySem.Challenge.cw_rulerchest_k14_deeds_and_drawings_judged_holds : PySem.Challenge.rw_rulerchest_k14_deeds_and_drawings_judged.Holds := by
  w_on; o_law
  refine HandSHeadRun.head_imp (r := OpenLaw.row PySem.Challenge.rw_rulerchest_k14_deeds_and_drawings_judged) (q := view (OpenLaw.row PySem.Challenge.rw_rulerchest_k14_deeds_and_drawings_judged).prog [0, 141]) (H := Own.hk) (ob := Own.ob) (M := 12000) (loose := Own.loose) (d := HandSHeadRun.topDef (OpenLaw.row PySem.Challenge.rw_rulerchest_k14_deeds_and_drawings_judged).prog 141) (kwd := []) Own.ob_eq
    Own.run (by kernel_rfl) (by kernel_rfl) (by kernel_rfl) (by rfl) (by first | assumption | decide +kernel) (by decide +kernel) ⟨rfl, rfl, rfl, rfl, rfl, by decide +kernel⟩ ?hw ?hc
  case hw => w_witness2
  case hc =>
    refine Own.walk_ofG (l := PySem.Challenge.rw_rulerchest_k14_deeds_and_drawings_judged) (n := 63) (k := 9) (x := "_law_script") (CX := fun _ => L2.CX0) rfl (by decide) (by kernel_rfl) ⟨rfl, by decide, by decide⟩ ?F (fun _ _ _ _ _ z => z)
    intro w mg fa h Y G hmg0
    obtain ⟨K, KX, c⟩ := Y
    have hmg : mg ("law" : PySem.Str) = some (.ref fa) := by
      have e : (HandSHeadRun.topDef (OpenLaw.row PySem.Challenge.rw_rulerchest_k14_deeds_and_drawings_judged).prog 141).name = ("law" : PySem.Str) := by kernel_rfl
      rw [← e]
      exact hmg0
    exact ⟨K, KX, Own.facts KX G hmg c⟩
#print axioms PySem.Challenge.cw_rulerchest_k14_deeds_and_drawings_judged_holds
